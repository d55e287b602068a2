import PyProof.Rows.All
import Wide.All
import OpenK.AllK
import Wide.FinOn
import HandS.ForMost
import HandS.ForExc
import HandS.IsInst
import HandS.Flow
import HandS.Wide
import HandS.Lambda
import HandS.ExcInit
import HandS.NoneIn
import KE.KDictKeyed
import HandS.TupAny
import HandS.Style
import HandS.Defaults
import HandS.RaiseMore
import HandS.Head0
import HandS.Head1
import HandS.Head2
import HandS.HeadEnd
import HandS.HeadHook1
import HandS.HeadHook2
import KE.DataEq
import HandS.HeadHook3
import HandS.HeadHook4
import HandS.Text
import HandS.Zip
import HandS.ClsMeth
import HandS.Dict
import HandS.DictComp
import HandS.Bytes
import HandS.OwnEq
import PyProof.InstNe
import HandS.ExcField
import HandS.TryMany
import KE.GoesEnum
import HandS.ExcIs
import HandS.Conv
import HandS.ListEq
import HandS.DictEq
import HandS.BytesMake
import HandS.More
import HandS.SortKw
import KE.SortKeyHeap
import KE.SortData
import KE.KSortKey
import HandS.FStr
import HandS.Codes
import HandS.Star
import HandS.EndTab
import HandS.NestedK
import PyProof.FactsBase
import PyProof.TableTree
import PyProof.FactsTree
import PyProof.PlainAttrs
import KE.GoesMore
import Wide.BytesRules
import PyProof.EqAt
import PyProof.EqKinds
import PyProof.NeKinds
import PyProof.FactsAll.subtypes_3
import PyProof.FactsAll.subtypes_6
import KE.GoesEnumKw
import KE.GoesZip
import HandS.ExcValue
import KE.KSortAsk
import HandS.Iter
import KE.KStateDown
import Lean
import KE.KBytesCut
import KE.LtData
import PySem.Challenge.RW_forestrows_k48_labels_between_long_ones
set_option Elab.async false
set_option linter.all false
set_option maxRecDepth 100000
set_option maxHeartbeats 2000000
namespace DL
open PySem L2
inductive D where
  | non | bl (b : Bool) | int (i : Int) | str (x : Str) | byt (b : Array UInt8) | ty (n : String) | ref (a : Addr)
  | lst (xs : List D) | tup (xs : List D)
  | dK (ks : List Key) (ds : List D) | dT (ep : Nat) (ks : List (List (Option Key))) (ds : List D)
  | obj (c : Nat) (ns : List Str) (ds : List D)
  | cls (c : Nat)
  | exc (a dd : Addr) (c : Nat) (ns : List Str) (ds : List D)
  | xob (c : Nat) (ns : List Str) (ds : List D)
  | thk (f c : Addr) (q : Str) (vs : List V) (ds : List D)
  | dN (ep : Nat) (ks : List (Option Key)) (ds : List D)
structure ClW where
  f : Nat → Addr
  p : Program
  w : World
instance : CoeFun ClW (fun _ => Nat → Addr) := ⟨ClW.f⟩
instance : Coe ClW (Nat → Addr) := ⟨ClW.f⟩
abbrev Mem := Addr → Option D
abbrev Env := List (Option D)
def updM (M : Mem) (a : Addr) (d : D) : Mem := fun b => if b = a then some d else M b
def delM (M : Mem) (a : Addr) : Mem := fun b => if b = a then none else M b
theorem updM_same {M : Mem} {a : Addr} {d : D} : updM M a d a = some d := if_pos rfl
theorem updM_ne {M : Mem} {a b : Addr} {d : D} (h : b ≠ a) : updM M a d b = M b := if_neg h
theorem delM_same {M : Mem} {a : Addr} : delM M a a = none := if_pos rfl
theorem delM_ne {M : Mem} {a b : Addr} (h : b ≠ a) : delM M a b = M b := if_neg h
theorem updM_updM {M : Mem} {a : Addr} {d e : D} : updM (updM M a d) a e = updM M a e := by
  funext b; unfold updM; split <;> rfl
theorem delM_updM {M : Mem} {a : Addr} {d : D} (h : M a = none) : delM (updM M a d) a = M := by
  funext b
  by_cases e : b = a
  · subst e; rw [delM_same, h]
  · rw [delM_ne e, updM_ne e]
def SqT1 (K : PySem.W.Frag) (F : Hp) (a : Addr) (vs : List V) : Prop := F a = some (.tup vs) ∨
  ∃ (o : Obj) (its : Array Value) (n : Nat), K.lookup a = some o ∧ o.cls = .type "tuple" ∧ o.data = .seq its n ∧ its.size ≤ sizeLine ∧ Vals vs its.toList
theorem SqT1.of {K : PySem.W.Frag} {F : Hp} {a : Addr} {vs : List V} (h : F a = some (.tup vs)) : SqT1 K F a vs := .inl h
theorem SqT1.sq {K : PySem.W.Frag} {F : Hp} {a : Addr} {vs : List V} (h : SqT1 K F a vs) : SqT K F a vs := h.elim (fun h => .inl (.inl h)) .inr
theorem SqT1.mono {K : PySem.W.Frag} {F F' : Hp} {a : Addr} {vs : List V} (s : Same F F') (h : SqT1 K F a vs) : SqT1 K F' a vs := h.imp (s _ _) id
def NDict (P : Program) (w : World) (a : Addr) (ep : Nat) (kvs : List (Option Key × V)) : Heap → Prop := fun h =>
  kvs.length ≤ sizeLine ∧ (a == sysModules) = false ∧ ∃ vs, KV kvs vs ∧ Heap.DictAt (noneKind P w) h a vs ep
theorem nd_ne_code {P : Program} {w : World} {a c : Addr} {ep : Nat} {kvs : List (Option Key × V)} {q : Str} : HO.ext (NDict P w a ep kvs) ≠ LamX.CodeO c q := fun e => by
  unfold LamX.CodeO at e
  have e' := HO.ext.inj e
  let ob : Obj := { cls := .type "function", data := .fields #[.none, .str q 0] }
  let h : Heap := { objs := Array.replicate (c + 1) ob }
  have hg : ∀ b, h.get? b = if b < c + 1 then some ob else none := fun b => by
    unfold Heap.get?
    by_cases hb : b < c + 1
    · have : h.objs[b]? = some ob := by simp [h, hb]
      rw [this, if_pos hb]
    · have : h.objs[b]? = none := by simp only [h]; rw [Array.getElem?_eq_none]; rw [Array.size_replicate]; exact Nat.not_lt.mp hb
      rw [this, if_neg hb]
  have hc : NDict P w a ep kvs h := by
    rw [e']
    exact ⟨ob, _, 0, by rw [hg, if_pos (Nat.lt_succ_self c)], rfl, rfl⟩
  obtain ⟨_, _, vs, _, o, es, ho, _, hd, _⟩ := hc
  rw [hg] at ho
  split at ho
  · cases ho; cases hd
  · cases ho
abbrev ndO (P : Program) (w : World) (a : Addr) (ep : Nat) (kvs : List (Option Key × V)) : HO := .ext (NDict P w a ep kvs)
def nkV : Option Key → V
  | none => .non
  | some (.inl i) => .int i
  | some (.inr x) => .str x
def leafOf : Option Key → Leaf
  | none => .none
  | some (.inl i) => .num i
  | some (.inr x) => .text x
inductive TV : List (List (Option Key) × Addr × V) → List (List Leaf × Addr × Value) → Prop
  | nil : TV [] []
  | cons {k : List (Option Key)} {b : Addr} {v : V} {u : Value} {ts : List (List (Option Key) × Addr × V)} {xs : List (List Leaf × Addr × Value)} : RelV v u → TV ts xs → TV ((k, b, v) :: ts) ((k.map leafOf, b, u) :: xs)
def TDict (P : Program) (w : World) (a : Addr) (ep : Nat) (ts : List (List (Option Key) × Addr × V)) : Heap → Prop := fun h =>
  ts.length ≤ sizeLine ∧ (a == sysModules) = false ∧ ∃ xs, TV ts xs ∧ ∃ o es, h.get? a = some o ∧ o.ExactDict ∧ o.data = .dict es ep ∧ es.toList = xs.map (entryOfKey (tupleKind (leafKind P w))) ∧ (xs.map (·.1)).Nodup
theorem td_ne_code {P : Program} {w : World} {a c : Addr} {ep : Nat} {ts : List (List (Option Key) × Addr × V)} {q : Str} : HO.ext (TDict P w a ep ts) ≠ LamX.CodeO c q := fun e => by
  unfold LamX.CodeO at e
  have e' := HO.ext.inj e
  let ob : Obj := { cls := .type "function", data := .fields #[.none, .str q 0] }
  let h : Heap := { objs := Array.replicate (c + 1) ob }
  have hg : ∀ b, h.get? b = if b < c + 1 then some ob else none := fun b => by
    unfold Heap.get?
    by_cases hb : b < c + 1
    · have : h.objs[b]? = some ob := by simp [h, hb]
      rw [this, if_pos hb]
    · have : h.objs[b]? = none := by simp only [h]; rw [Array.getElem?_eq_none]; rw [Array.size_replicate]; exact Nat.not_lt.mp hb
      rw [this, if_neg hb]
  have hc : TDict P w a ep ts h := by
    rw [e']
    exact ⟨ob, _, 0, by rw [hg, if_pos (Nat.lt_succ_self c)], rfl, rfl⟩
  obtain ⟨_, _, vs, _, o, es, ho, _, hd, _⟩ := hc
  rw [hg] at ho
  split at ho
  · cases ho; cases hd
  · cases ho
abbrev tdO (P : Program) (w : World) (a : Addr) (ep : Nat) (ts : List (List (Option Key) × Addr × V)) : HO := .ext (TDict P w a ep ts)
section
variable (K : PySem.W.Frag) (cl : ClW)
def XoAt (F : Hp) (a C : Addr) (fs : List (Str × V)) : Prop := (∃ dd, F a = some (exo a C (some dd)) ∧ F dd = some (exd dd fs)) ∨ (fs = [] ∧ F a = some (exo a C none))
theorem XoAt.mono {F F' : Hp} {a C : Addr} {fs : List (Str × V)} (s : Same F F') (h : XoAt F a C fs) : XoAt F' a C fs := by
  rcases h with ⟨dd, h1, h2⟩ | ⟨h1, h2⟩
  · exact .inl ⟨dd, s _ _ h1, s _ _ h2⟩
  · exact .inr ⟨h1, s _ _ h2⟩
mutual
inductive Rep (K : PySem.W.Frag) (cl : ClW) (F : Hp) : V → D → Prop where
  | non : Rep K cl F .non .non
  | bl (b : Bool) : Rep K cl F (.bl b) (.bl b)
  | int (i : Int) : Rep K cl F (.int i) (.int i)
  | str (x : Str) : Rep K cl F (.str x) (.str x)
  | byt (b : Array UInt8) : Rep K cl F (.byt b) (.byt b)
  | ty (n : String) : Rep K cl F (.ty n) (.ty n)
  | ref (a : Addr) : Rep K cl F (.ref a) (.ref a)
  | cls (c : Nat) : Rep K cl F (.ref (cl c)) (.cls c)
  | lst {a : Addr} {vs : List V} {ds : List D} : SqL K F a vs → Reps K cl F vs ds → Rep K cl F (.ref a) (.lst ds)
  | tup {a : Addr} {vs : List V} {ds : List D} : SqT1 K F a vs → Reps K cl F vs ds → Rep K cl F (.ref a) (.tup ds)
  | dK {a : Addr} {ks : List Key} {vs : List V} {ds : List D} : F a = some (.dK (ks.zip vs)) → ks.length = vs.length → Reps K cl F vs ds → Rep K cl F (.ref a) (.dK ks ds)
  | dT {a : Addr} {ep : Nat} {ks : List (List (Option Key))} {ts : List (List (Option Key) × Addr × V)} {ds : List D} : F a = some (tdO cl.p cl.w a ep ts) → ks = ts.map (·.1) → (∀ t ∈ ts, SqT1 K F t.2.1 (t.1.map nkV)) → Reps K cl F (ts.map (·.2.2)) ds → Rep K cl F (.ref a) (.dT ep ks ds)
  | obj {a dx : Addr} {c : Nat} {ns : List Str} {vs : List V} {ds : List D} : F a = some (.ins (cl c) dx (ns.zip vs)) → ns.length = vs.length → Reps K cl F vs ds → Rep K cl F (.ref a) (.obj c ns ds)
  | exc {a dd : Addr} {c : Nat} {ns : List Str} {vs : List V} {ds : List D} : F dd = some (.xd (ns.zip vs)) → ns.length = vs.length → Reps K cl F vs ds → Rep K cl F (.ref a) (.exc a dd c ns ds)
  | xob {a : Addr} {c : Nat} {ns : List Str} {vs : List V} {ds : List D} : XoAt F a (cl c) (ns.zip vs) → ns.length = vs.length → Reps K cl F vs ds → Rep K cl F (.ref a) (.xob c ns ds)
  | thk {f c : Addr} {q : Str} {vs : List V} {ds : List D} : F c = some (LamX.CodeO c q) → Reps K cl F vs ds → Rep K cl F (.ref f) (.thk f c q vs ds)
  | dN {a : Addr} {ep : Nat} {ks : List (Option Key)} {vs : List V} {ds : List D} : F a = some (ndO cl.p cl.w a ep (ks.zip vs)) → ks.length = vs.length → Reps K cl F vs ds → Rep K cl F (.ref a) (.dN ep ks ds)
inductive Reps (K : PySem.W.Frag) (cl : ClW) (F : Hp) : List V → List D → Prop where
  | nil : Reps K cl F [] []
  | cons {v : V} {d : D} {vs : List V} {ds : List D} : Rep K cl F v d → Reps K cl F vs ds → Reps K cl F (v :: vs) (d :: ds)
end
end
section
variable {K : PySem.W.Frag} {cl : ClW} {F F' : Hp}
theorem same_l {H H' : Hp} {a : Addr} {xs : List V} (e : Same H H') (h : SqL K H a xs) : SqL K H' a xs := e.seq h
theorem same_t {H H' : Hp} {a : Addr} {xs : List V} (e : Same H H') (h : SqT K H a xs) : SqT K H' a xs := by
  rcases h with (h | ⟨o, h⟩) | h
  · exact .inl (.inl (e _ _ h))
  · exact .inl (.inr ⟨o, e _ _ h⟩)
  · exact .inr h
mutual
theorem Rep.mono (s : Same F F') : ∀ {v : V} {d : D}, Rep K cl F v d → Rep K cl F' v d
  | _, _, .non => .non
  | _, _, .bl b => .bl b
  | _, _, .int i => .int i
  | _, _, .str x => .str x
  | _, _, .byt b => .byt b
  | _, _, .ty n => .ty n
  | _, _, .ref a => .ref a
  | _, _, .cls c => .cls c
  | _, _, .lst h r => .lst (same_l s h) (Reps.mono s r)
  | _, _, .tup h r => .tup (h.mono s) (Reps.mono s r)
  | _, _, .dK h l r => .dK (s _ _ h) l (Reps.mono s r)
  | _, _, .dT h l q r => .dT (s _ _ h) l (fun t ht => (q t ht).mono s) (Reps.mono s r)
  | _, _, .obj h l r => .obj (s _ _ h) l (Reps.mono s r)
  | _, _, .exc h l r => .exc (s _ _ h) l (Reps.mono s r)
  | _, _, .xob h l r => .xob (h.mono s) l (Reps.mono s r)
  | _, _, .thk h r => .thk (s _ _ h) (Reps.mono s r)
  | _, _, .dN h l r => .dN (s _ _ h) l (Reps.mono s r)
theorem Reps.mono (s : Same F F') : ∀ {vs : List V} {ds : List D}, Reps K cl F vs ds → Reps K cl F' vs ds
  | _, _, .nil => .nil
  | _, _, .cons h r => .cons (Rep.mono s h) (Reps.mono s r)
end
theorem Reps.length : ∀ {vs : List V} {ds : List D}, Reps K cl F vs ds → vs.length = ds.length
  | _, _, .nil => rfl
  | _, _, .cons _ r => by simp [Reps.length r]
theorem Reps.get : ∀ {vs : List V} {ds : List D} {i : Nat} {d : D}, Reps K cl F vs ds → ds[i]? = some d → ∃ v, vs[i]? = some v ∧ Rep K cl F v d
  | _, _, _, _, .nil, e => by simp at e
  | _, _, 0, _, .cons r _, e => by simp at e; subst e; exact ⟨_, rfl, r⟩
  | _, _, i + 1, d, .cons _ t, e => by
    obtain ⟨u, h1, h2⟩ := Reps.get (i := i) (d := d) t (by simpa using e)
    exact ⟨u, by simpa using h1, h2⟩
theorem Reps.append : ∀ {vs ws : List V} {ds es : List D}, Reps K cl F vs ds → Reps K cl F ws es → Reps K cl F (vs ++ ws) (ds ++ es)
  | _, _, _, _, .nil, s => s
  | _, _, _, _, .cons r t, s => .cons r (Reps.append t s)
theorem Reps.one {v : V} {d : D} (h : Rep K cl F v d) : Reps K cl F [v] [d] := .cons h .nil
theorem Reps.set {v : V} {d : D} (r : Rep K cl F v d) : ∀ {vs : List V} {ds : List D} (i : Nat), Reps K cl F vs ds → Reps K cl F (vs.set i v) (ds.set i d)
  | _, _, _, .nil => .nil
  | _, _, 0, .cons _ t => .cons r t
  | _, _, i + 1, .cons q t => .cons q (Reps.set r i t)
theorem Reps.take : ∀ {vs : List V} {ds : List D} (n : Nat), Reps K cl F vs ds → Reps K cl F (vs.take n) (ds.take n)
  | _, _, 0, _ => .nil
  | _, _, _ + 1, .nil => .nil
  | _, _, n + 1, .cons r t => .cons r (Reps.take n t)
theorem Reps.drop : ∀ {vs : List V} {ds : List D} (n : Nat), Reps K cl F vs ds → Reps K cl F (vs.drop n) (ds.drop n)
  | _, _, 0, r => r
  | _, _, _ + 1, .nil => .nil
  | _, _, n + 1, .cons _ t => Reps.drop n t
theorem Reps.reverse : ∀ {vs : List V} {ds : List D}, Reps K cl F vs ds → Reps K cl F vs.reverse ds.reverse
  | _, _, .nil => .nil
  | _, _, .cons r t => by
    rw [List.reverse_cons, List.reverse_cons]
    exact (Reps.reverse t).append (.one r)
theorem Reps.inv {vs : List V} {d : D} {ds : List D} (h : Reps K cl F vs (d :: ds)) : ∃ v ws, vs = v :: ws ∧ Rep K cl F v d ∧ Reps K cl F ws ds := by
  cases h with
  | cons a b => exact ⟨_, _, rfl, a, b⟩
theorem Reps.inv0 {vs : List V} (h : Reps K cl F vs []) : vs = [] := by
  cases h with
  | nil => rfl
theorem Rep.toInt {v : V} {i : Int} (h : Rep K cl F v (.int i)) : v = .int i := by cases h; rfl
theorem Rep.toBl {v : V} {i : Bool} (h : Rep K cl F v (.bl i)) : v = .bl i := by cases h; rfl
theorem Rep.toStr {v : V} {i : Str} (h : Rep K cl F v (.str i)) : v = .str i := by cases h; rfl
theorem Rep.toByt {v : V} {i : Array UInt8} (h : Rep K cl F v (.byt i)) : v = .byt i := by cases h; rfl
theorem Rep.toNon {v : V} (h : Rep K cl F v .non) : v = .non := by cases h; rfl
theorem Rep.toRef {v : V} {a : Addr} (h : Rep K cl F v (.ref a)) : v = .ref a := by cases h; rfl
theorem Rep.toCls {v : V} {c : Nat} (h : Rep K cl F v (.cls c)) : v = .ref (cl c) := by cases h; rfl
theorem Rep.toTy {v : V} {n : String} (h : Rep K cl F v (.ty n)) : v = .ty n := by cases h; rfl
theorem Rep.toLst {v : V} {ds : List D} (h : Rep K cl F v (.lst ds)) : ∃ a vs, v = .ref a ∧ SqL K F a vs ∧ Reps K cl F vs ds := by
  cases h with | lst a b => exact ⟨_, _, rfl, a, b⟩
theorem Rep.toTup {v : V} {ds : List D} (h : Rep K cl F v (.tup ds)) : ∃ a vs, v = .ref a ∧ SqT K F a vs ∧ Reps K cl F vs ds := by
  cases h with | tup a b => exact ⟨_, _, rfl, a.sq, b⟩
theorem Rep.toTup1 {v : V} {ds : List D} (h : Rep K cl F v (.tup ds)) : ∃ a vs, v = .ref a ∧ SqT1 K F a vs ∧ Reps K cl F vs ds := by
  cases h with | tup a b => exact ⟨_, _, rfl, a, b⟩
theorem Rep.toObj {v : V} {c : Nat} {ns : List Str} {ds : List D} (h : Rep K cl F v (.obj c ns ds)) : ∃ a dx vs, v = .ref a ∧ F a = some (.ins (cl c) dx (ns.zip vs)) ∧ ns.length = vs.length ∧ Reps K cl F vs ds := by
  cases h with | obj a b c => exact ⟨_, _, _, rfl, a, b, c⟩
theorem Reps.ints : ∀ {vs : List V} {ns : List Int}, Reps K cl F vs (ns.map D.int) → vs = ns.map V.int
  | _, [], h => h.inv0
  | _, n :: ns, h => by
    obtain ⟨v, ws, rfl, a, b⟩ := h.inv
    rw [a.toInt, Reps.ints b]; rfl
theorem Reps.of_ints (ns : List Int) : Reps K cl F (ns.map V.int) (ns.map D.int) := by
  induction ns with
  | nil => exact .nil
  | cons n ns ih => exact .cons (.int n) ih
end
section
variable (K : PySem.W.Frag) (cl : ClW)
def RepTop (F H : Hp) (a : Addr) : D → Prop
  | .lst ds => ∃ vs, H a = some (.lst vs) ∧ Reps K cl F vs ds
  | .dK ks ds => ∃ vs, H a = some (.dK (ks.zip vs)) ∧ ks.length = vs.length ∧ Reps K cl F vs ds
  | .dT ep ks ds => ∃ ts, H a = some (tdO cl.p cl.w a ep ts) ∧ ks = ts.map (·.1) ∧ (∀ t ∈ ts, SqT1 K F t.2.1 (t.1.map nkV)) ∧ Reps K cl F (ts.map (·.2.2)) ds
  | .obj c ns ds => ∃ dx vs, H a = some (.ins (cl c) dx (ns.zip vs)) ∧ ns.length = vs.length ∧ Reps K cl F vs ds
  | .dN ep ks ds => ∃ vs, H a = some (ndO cl.p cl.w a ep (ks.zip vs)) ∧ ks.length = vs.length ∧ Reps K cl F vs ds
  | _ => False
def tabNames : List Str := ["walk_spans.<locals>.<lambda>", "SpanTable.__init__.<locals>.<lambda>", "PairTable.put_rows.<locals>.<lambda>", "KeyTable.put_rows.<locals>.<lambda>", "law.<locals>.<lambda>", "_law_right.<locals>.<lambda>", "_law_asks.<locals>.<lambda>",
  "_law_wrong.<locals>.<lambda>", "_law_refused.<locals>.<lambda>", "_law_odd.<locals>.<lambda>", "KeyTable.__init__.<locals>.<lambda>", "PairTable.__init__.<locals>.<lambda>", "_law_fit.<locals>.<lambda>", "_law_state_right.<locals>.<lambda>", "_law_steps_right.<locals>.<lambda>", "_law_sizes_right.<locals>.<lambda>"]
def tabsOf (cl : Nat → Addr) : List (Addr × Str) := tabNames.zipIdx.filterMap fun p => if cl (1000 + p.2) = 0 then none else some (cl (1000 + p.2), p.1)
structure Good (F H : Hp) (M : Mem) : Prop where
  sub : Same F H
  cell : ∀ a d, M a = some d → F a = none ∧ RepTop K cl F H a d
  tab : LamX.Tabs (tabsOf cl) H
  noT : ∀ b ps, F b ≠ some (.tbl ps)
structure Slots (F : Hp) (σ : St) (ρ : Env) : Prop where
  len : σ.length = ρ.length
  get : ∀ (i : Nat) d, ρ[i]? = some (some d) → ∃ v, σ[i]? = some (some v) ∧ Rep K cl F v d
def ExcAt (F : Hp) (dd : Option Addr) (ns : List Str) (ds : List D) : Prop :=
  (dd = none ∧ ns = [] ∧ ds = []) ∨ ∃ d vs, dd = some d ∧ F d = some (.xd (ns.zip vs)) ∧ ns.length = vs.length ∧ Reps K cl F vs ds
end
section
variable {K : PySem.W.Frag} {cl : ClW} {F F' H H' : Hp} {M : Mem}
theorem same_new {H : Hp} {p : Addr} {o : HO} (h : H p = none) : Same H (upd H p o) := fun a u e => by
  rw [upd_ne (ne_of_none e h)]; exact e
theorem RepTop.mono {a : Addr} {d : D} (s : Same F F') (h : RepTop K cl F H a d) (hH : ∀ o, H a = some o → H' a = some o) : RepTop K cl F' H' a d := by
  cases d with
  | lst ds => obtain ⟨vs, h1, h2⟩ := h; exact ⟨vs, hH _ h1, h2.mono s⟩
  | dK ks ds => obtain ⟨vs, h1, h2, h3⟩ := h; exact ⟨vs, hH _ h1, h2, h3.mono s⟩
  | dT ep ks ds => obtain ⟨ts, h1, h2, h3, h4⟩ := h; exact ⟨ts, hH _ h1, h2, fun t ht => (h3 t ht).mono s, h4.mono s⟩
  | dN ep ks ds => obtain ⟨vs, h1, h2, h3⟩ := h; exact ⟨vs, hH _ h1, h2, h3.mono s⟩
  | obj c ns ds => obtain ⟨dx, vs, h1, h2, h3⟩ := h; exact ⟨dx, vs, hH _ h1, h2, h3.mono s⟩
  | _ => exact h.elim
theorem RepTop.there {a : Addr} {d : D} (h : RepTop K cl F H a d) : ∃ o, H a = some o := by
  cases d with
  | lst ds => obtain ⟨vs, h1, _⟩ := h; exact ⟨_, h1⟩
  | dK ks ds => obtain ⟨vs, h1, _⟩ := h; exact ⟨_, h1⟩
  | dT ep ks ds => obtain ⟨ts, h1, _⟩ := h; exact ⟨_, h1⟩
  | dN ep ks ds => obtain ⟨vs, h1, _⟩ := h; exact ⟨_, h1⟩
  | obj c ns ds => obtain ⟨dx, vs, h1, _⟩ := h; exact ⟨_, h1⟩
  | _ => exact h.elim
theorem RepTop.plain {a : Addr} {d : D} (h : RepTop K cl F H a d) : ∃ o, H a = some o ∧ (∀ ps, o ≠ .tbl ps) ∧ ∀ c q, o ≠ LamX.CodeO c q := by
  cases d with
  | lst ds => obtain ⟨vs, h1, _⟩ := h; exact ⟨_, h1, (fun _ e => by cases e), fun _ _ e => by unfold LamX.CodeO at e; cases e⟩
  | dK ks ds => obtain ⟨vs, h1, _⟩ := h; exact ⟨_, h1, (fun _ e => by cases e), fun _ _ e => by unfold LamX.CodeO at e; cases e⟩
  | dT ep ks ds => obtain ⟨ts, h1, _⟩ := h; exact ⟨_, h1, (fun _ e => by cases e), fun _ _ e => td_ne_code e⟩
  | dN ep ks ds => obtain ⟨vs, h1, _⟩ := h; exact ⟨_, h1, (fun _ e => by cases e), fun _ _ e => nd_ne_code e⟩
  | obj c ns ds => obtain ⟨dx, vs, h1, _⟩ := h; exact ⟨_, h1, (fun _ e => by cases e), fun _ _ e => by unfold LamX.CodeO at e; cases e⟩
  | _ => exact h.elim
theorem tabs_put {T : List (Addr × Str)} {p : Addr} {o' : HO} (t : LamX.Tabs T H) {o : HO} (hp : H p = some o) (h1 : ∀ ps, o ≠ .tbl ps) (h2 : ∀ c q, o ≠ LamX.CodeO c q) : LamX.Tabs T (upd H p o') := fun q hq => by
  obtain ⟨ps, a1, a2, a3⟩ := t q hq
  have n1 : q.1 ≠ p := fun z => by rw [z, hp] at a1; exact h1 ps (Option.some.inj a1)
  refine ⟨ps, by rw [upd_ne n1]; exact a1, a2, fun pos cv hcv => ?_⟩
  obtain ⟨c, e1, e2⟩ := a3 pos cv hcv
  have n2 : c ≠ p := fun z => by rw [z, hp] at e2; exact h2 _ _ (Option.some.inj e2)
  exact ⟨c, e1, by rw [upd_ne n2]; exact e2⟩
theorem Good.freshF (g : Good K cl F H M) {p : Addr} (h : H p = none) : F p = none := g.sub.free h
theorem Good.freshM (g : Good K cl F H M) {p : Addr} (h : H p = none) : M p = none := by
  cases e : M p with
  | none => rfl
  | some d => obtain ⟨o, q⟩ := (g.cell p d e).2.there; rw [h] at q; cases q
theorem Good.new (g : Good K cl F H M) {p : Addr} {o : HO} (h : H p = none) (ho : ∀ ps, o ≠ .tbl ps := by intro _ z; cases z) : Good K cl (upd F p o) (upd H p o) M where
  tab := g.tab.ext (same_new h)
  noT := fun b ps e => by
    by_cases q : b = p
    · subst q; rw [upd_same] at e; exact ho ps (Option.some.inj e)
    · rw [upd_ne q] at e; exact g.noT b ps e
  sub := fun a u e => by
    by_cases q : a = p
    · subst q; rw [upd_same] at e ⊢; exact e
    · rw [upd_ne q] at e ⊢; exact g.sub a u e
  cell := fun a d e => by
    obtain ⟨h1, h2⟩ := g.cell a d e
    have ne : a ≠ p := fun z => by rw [z, g.freshM h] at e; cases e
    refine ⟨by rw [upd_ne ne]; exact h1, h2.mono (same_new (g.freshF h)) fun u q => by rw [upd_ne ne]; exact q⟩
theorem Good.newM (g : Good K cl F H M) {p : Addr} {o : HO} {d : D} (h : H p = none) (r : RepTop K cl F (upd H p o) p d) : Good K cl F (upd H p o) (updM M p d) where
  tab := g.tab.ext (same_new h)
  noT := g.noT
  sub := fun a u e => (same_new h) a u (g.sub a u e)
  cell := fun a e q => by
    by_cases z : a = p
    · subst z; rw [updM_same] at q; cases q; exact ⟨g.freshF h, r⟩
    · rw [updM_ne z] at q
      obtain ⟨h1, h2⟩ := g.cell a e q
      exact ⟨h1, h2.mono (Same.refl F) (same_new h a)⟩
theorem Good.put (g : Good K cl F H M) {p : Addr} {o : HO} {d e : D} (h : M p = some e) (r : RepTop K cl F (upd H p o) p d) : Good K cl F (upd H p o) (updM M p d) where
  tab := by
    obtain ⟨o', h1, h2, h3⟩ := (g.cell p e h).2.plain
    exact tabs_put g.tab h1 h2 h3
  noT := g.noT
  sub := fun a u q => by
    have ne : a ≠ p := fun z => by rw [z, (g.cell p e h).1] at q; cases q
    rw [upd_ne ne]; exact g.sub a u q
  cell := fun a b q => by
    by_cases z : a = p
    · subst z; rw [updM_same] at q; cases q; exact ⟨(g.cell _ _ h).1, r⟩
    · rw [updM_ne z] at q
      obtain ⟨h1, h2⟩ := g.cell a b q
      exact ⟨h1, h2.mono (Same.refl F) fun u w => by rw [upd_ne z]; exact w⟩
theorem Good.freeze (g : Good K cl F H M) {p : Addr} {d : D} (h : M p = some d) : ∃ F', Same F F' ∧ Good K cl F' H (delM M p) ∧ Rep K cl F' (.ref p) d := by
  obtain ⟨h1, h2⟩ := g.cell p d h
  obtain ⟨o, ho⟩ := h2.there
  have sm : Same F (upd F p o) := same_new h1
  have gd : Good K cl (upd F p o) H (delM M p) := {
    tab := g.tab
    noT := fun b ps e => by
      by_cases q : b = p
      · subst q
        rw [upd_same] at e
        obtain ⟨o', k1, k2, _⟩ := h2.plain
        rw [ho] at k1
        exact k2 ps (by rw [← Option.some.inj k1]; exact Option.some.inj e)
      · rw [upd_ne q] at e; exact g.noT b ps e
    sub := fun a u e => by
      by_cases q : a = p
      · subst q; rw [upd_same] at e; rw [← e]; exact ho
      · rw [upd_ne q] at e; exact g.sub a u e
    cell := fun a b q => by
      by_cases z : a = p
      · subst z; rw [delM_same] at q; cases q
      · rw [delM_ne z] at q
        obtain ⟨k1, k2⟩ := g.cell a b q
        exact ⟨by rw [upd_ne z]; exact k1, k2.mono sm fun u w => w⟩ }
  refine ⟨upd F p o, sm, gd, ?_⟩
  cases d with
  | lst ds => obtain ⟨vs, h1, h2⟩ := h2; rw [h1] at ho; cases ho; exact .lst (SqL.of upd_same) (h2.mono sm)
  | dK ks ds => obtain ⟨vs, h1, h2, h3⟩ := h2; rw [h1] at ho; cases ho; exact .dK upd_same h2 (h3.mono sm)
  | dT ep ks ds => obtain ⟨ts, h1, h2, h3, h4⟩ := h2; rw [h1] at ho; cases ho; exact .dT upd_same h2 (fun t ht => (h3 t ht).mono sm) (h4.mono sm)
  | dN ep ks ds => obtain ⟨vs, h1, h2, h3⟩ := h2; rw [h1] at ho; cases ho; exact .dN upd_same h2 (h3.mono sm)
  | obj c ns ds => obtain ⟨dx, vs, h1, h2, h3⟩ := h2; rw [h1] at ho; cases ho; exact .obj upd_same h2 (h3.mono sm)
  | _ => exact h2.elim
theorem Slots.mono {σ : St} {ρ : Env} (s : Same F F') (h : Slots K cl F σ ρ) : Slots K cl F' σ ρ := ⟨h.len, fun i d e => by
  obtain ⟨v, h1, h2⟩ := h.get i d e
  exact ⟨v, h1, h2.mono s⟩⟩
theorem Slots.set {σ : St} {ρ : Env} {v : V} {d : D} (h : Slots K cl F σ ρ) (i : Nat) (r : Rep K cl F v d) : Slots K cl F (σ.set i (some v)) (ρ.set i (some d)) := ⟨by rw [List.length_set, List.length_set]; exact h.len, fun j e q => by
  by_cases z : i = j
  · subst z
    rw [List.getElem?_set_self'] at q ⊢
    cases w : ρ[i]? with
    | none => rw [w] at q; cases q
    | some x =>
      rw [w] at q
      have hi : i < σ.length := by rw [h.len]; exact (List.getElem?_eq_some_iff.mp w).1
      have e1 : some d = some e := Option.some.inj q
      cases e1
      rw [List.getElem?_eq_getElem hi]
      exact ⟨v, rfl, r⟩
  · rw [List.getElem?_set_ne z] at q ⊢
    exact h.get j e q⟩
theorem Slots.setN {σ : St} {ρ : Env} {v : Option V} (h : Slots K cl F σ ρ) (i : Nat) : Slots K cl F (σ.set i v) (ρ.set i none) := ⟨by rw [List.length_set, List.length_set]; exact h.len, fun j e q => by
  by_cases z : i = j
  · subst z
    rw [List.getElem?_set_self'] at q
    cases w : ρ[i]? with
    | none => rw [w] at q; cases q
    | some x => rw [w] at q; cases q
  · rw [List.getElem?_set_ne z] at q ⊢
    exact h.get j e q⟩
theorem ExcAt.mono {dd : Option Addr} {ns : List Str} {ds : List D} (s : Same F F') (h : ExcAt K cl F dd ns ds) : ExcAt K cl F' dd ns ds := by
  rcases h with h | ⟨d, vs, h1, h2, h3, h4⟩
  · exact .inl h
  · exact .inr ⟨d, vs, h1, s _ _ h2, h3, h4.mono s⟩
end
abbrev DV := D → Mem → Prop
abbrev DX := Nat → List Str → List D → Env → Mem → Prop
abbrev DTE := Env → Mem → DV → DX → Prop
abbrev DTT := Env → Mem → (Bool → Mem → Prop) → DX → Prop
abbrev DTA := Env → Mem → (List D → Mem → Prop) → DX → Prop
structure DEnds where
  nx : Env → Mem → Prop
  rt : DV
  bk : Env → Mem → Prop
  ct : Env → Mem → Prop
  ex : DX
abbrev DTS := DEnds → Env → Mem → Prop
abbrev DEK := Nat → List Str → List D → Mem → Prop
abbrev SpD := List D → Mem → DV → DEK → Prop
section
variable (K : PySem.W.Frag) (cl : ClW)
def Post (F : Hp) (Q : VK) (Qd : DV) : Prop := ∀ v H' F' d M', Same F F' → Good K cl F' H' M' → Rep K cl F' v d → Qd d M' → Q v H'
def PostT (F : Hp) (Q : Bool → Hp → Prop) (Qd : Bool → Mem → Prop) : Prop := ∀ b H' F' M', Same F F' → Good K cl F' H' M' → Qd b M' → Q b H'
def PostA (F : Hp) (Q : List V → Hp → Prop) (Qd : List D → Mem → Prop) : Prop := ∀ vs H' F' ds M', Same F F' → Good K cl F' H' M' → Reps K cl F' vs ds → Qd ds M' → Q vs H'
def PostS (F : Hp) (Q : St → Hp → Prop) (Qd : Env → Mem → Prop) : Prop := ∀ σ H' F' ρ M', Same F F' → Good K cl F' H' M' → Slots K cl F' σ ρ → Qd ρ M' → Q σ H'
def WOk (W : WX) (F : Hp) (Xd : DX) : Prop := ∀ c ns ds σ H' F' ρ M' dd, Same F F' → Good K cl F' H' M' → Slots K cl F' σ ρ → ExcAt K cl F' dd ns ds → Xd c ns ds ρ M' → W (.ref (cl c)) dd σ H'
def EOk (F : Hp) (E : XK) (Ed : DEK) : Prop := ∀ c ns ds H' F' M' dd, Same F F' → Good K cl F' H' M' → ExcAt K cl F' dd ns ds → Ed c ns ds M' → E (.ref (cl c)) dd H'
structure EndsOk (W : WX) (F : Hp) (D : Ends) (Dd : DEnds) : Prop where
  nx : PostS K cl F D.nx Dd.nx
  rt : Post K cl F D.rt Dd.rt
  bk : PostS K cl F D.bk Dd.bk
  ct : PostS K cl F D.ct Dd.ct
  ex : WOk K cl W F Dd.ex
def lowE (W : WX) (τ : DTE) : TE := fun σ H Q => ∃ F ρ M Qd Xd, Good K cl F H M ∧ Slots K cl F σ ρ ∧ τ ρ M Qd Xd ∧ Post K cl F Q Qd ∧ WOk K cl W F Xd
def lowT (W : WX) (τ : DTT) : TT := fun σ H Q => ∃ F ρ M Qd Xd, Good K cl F H M ∧ Slots K cl F σ ρ ∧ τ ρ M Qd Xd ∧ PostT K cl F Q Qd ∧ WOk K cl W F Xd
def lowA (W : WX) (τ : DTA) : TA := fun σ H Q => ∃ F ρ M Qd Xd, Good K cl F H M ∧ Slots K cl F σ ρ ∧ τ ρ M Qd Xd ∧ PostA K cl F Q Qd ∧ WOk K cl W F Xd
def lowS (W : WX) (τ : DTS) : TS := fun D σ H => ∃ F ρ M Dd, Good K cl F H M ∧ Slots K cl F σ ρ ∧ τ Dd ρ M ∧ EndsOk K cl W F D Dd
def lower (spd : SpD) : Sp := fun vs H Q E => ∃ F M ds Qd Ed, Good K cl F H M ∧ Reps K cl F vs ds ∧ spd ds M Qd Ed ∧ Post K cl F Q Qd ∧ EOk K cl F E Ed
end
section
variable {K : PySem.W.Frag} {cl : ClW} {F F' : Hp}
theorem Post.mono {Q : VK} {Qd : DV} (s : Same F F') (h : Post K cl F Q Qd) : Post K cl F' Q Qd := fun v H' G d M' s' => h v H' G d M' (s.trans s')
theorem PostT.mono {Q : Bool → Hp → Prop} {Qd : Bool → Mem → Prop} (s : Same F F') (h : PostT K cl F Q Qd) : PostT K cl F' Q Qd := fun v H' G M' s' => h v H' G M' (s.trans s')
theorem PostA.mono {Q : List V → Hp → Prop} {Qd : List D → Mem → Prop} (s : Same F F') (h : PostA K cl F Q Qd) : PostA K cl F' Q Qd := fun v H' G d M' s' => h v H' G d M' (s.trans s')
theorem PostS.mono {Q : St → Hp → Prop} {Qd : Env → Mem → Prop} (s : Same F F') (h : PostS K cl F Q Qd) : PostS K cl F' Q Qd := fun v H' G d M' s' => h v H' G d M' (s.trans s')
theorem WOk.mono {W : WX} {Xd : DX} (s : Same F F') (h : WOk K cl W F Xd) : WOk K cl W F' Xd := fun c ns ds σ H' G ρ M' dd s' => h c ns ds σ H' G ρ M' dd (s.trans s')
theorem EOk.mono {E : XK} {Ed : DEK} (s : Same F F') (h : EOk K cl F E Ed) : EOk K cl F' E Ed := fun c ns ds H' G M' dd s' => h c ns ds H' G M' dd (s.trans s')
theorem EndsOk.mono {W : WX} {D : Ends} {Dd : DEnds} (s : Same F F') (h : EndsOk K cl W F D Dd) : EndsOk K cl W F' D Dd := ⟨h.nx.mono s, h.rt.mono s, h.bk.mono s, h.ct.mono s, h.ex.mono s⟩
end
structure DE (cl : ClW) (X : Cx) (W : WX) (e : Expr) (τ : DTE) : Prop where
  pe : PE X e (lowE X.K cl W τ)
structure DT (cl : ClW) (X : Cx) (W : WX) (e : Expr) (τ : DTT) : Prop where
  pt : PT X e (lowT X.K cl W τ)
structure DW (cl : ClW) (X : Cx) (W : WX) (e : Expr) (τ : DTT) : Prop where
  pw : PW X e (lowT X.K cl W τ)
structure DA (cl : ClW) (X : Cx) (W : WX) (es : List Expr) (τ : DTA) : Prop where
  pa : PA X es (lowA X.K cl W τ)
structure DS (cl : ClW) (X : Cx) (W : WX) (st : Stmt) (τ : DTS) : Prop where
  ps : PS X st (lowS X.K cl W τ)
structure DSs (cl : ClW) (X : Cx) (W : WX) (st : List Stmt) (τ : DTS) : Prop where
  pss : PSs X st (lowS X.K cl W τ)
section
variable {cl : ClW} {X : Cx} {W : WX}
theorem pe_imp {e : Expr} {t t' : TE} (h : PE X e t) (i : ∀ σ H Q, t' σ H Q → t σ H Q) : PE X e t' := ⟨fun pins s σ H Q I q => h.run pins s σ H Q I (i σ H Q q)⟩
theorem pt_imp {e : Expr} {t t' : TT} (h : PT X e t) (i : ∀ σ H Q, t' σ H Q → t σ H Q) : PT X e t' := ⟨fun pins s σ H Q I q => h.run pins s σ H Q I (i σ H Q q)⟩
theorem pw_imp {e : Expr} {t t' : TT} (h : PW X e t) (i : ∀ σ H Q, t' σ H Q → t σ H Q) : PW X e t' := ⟨fun wh pins s σ H Q I q => h.run wh pins s σ H Q I (i σ H Q q)⟩
theorem pa_imp {es : List Expr} {t t' : TA} (h : PA X es t) (i : ∀ σ H Q, t' σ H Q → t σ H Q) : PA X es t' := ⟨fun pos pins s σ H Q I q => h.run pos pins s σ H Q I (i σ H Q q)⟩
theorem ps_imp {st : Stmt} {t t' : TS} (h : PS X st t) (i : ∀ D σ H, t' D σ H → t D σ H) : PS X st t' := ⟨fun pins s σ H D I q => h.run pins s σ H D I (i D σ H q)⟩
theorem pss_imp {st : List Stmt} {t t' : TS} (h : PSs X st t) (i : ∀ D σ H, t' D σ H → t D σ H) : PSs X st t' := ⟨fun pins s σ H D I q => h.run pins s σ H D I (i D σ H q)⟩
end
end DL
set_option Elab.async false
set_option linter.all false
set_option maxRecDepth 100000
set_option maxHeartbeats 2000000
namespace DL
open PySem L2
def vw (M : Mem) : D → D
  | .ref a => (M a).getD (.ref a)
  | d => d
def Vw (K : PySem.W.Frag) (cl : ClW) (F H : Hp) (v : V) (d : D) : Prop := Rep K cl F v d ∨ ∃ a, v = .ref a ∧ RepTop K cl F H a d
section
variable {K : PySem.W.Frag} {cl : ClW} {F F' H H' : Hp} {M : Mem} {v : V} {d : D}
theorem vw_ok (g : Good K cl F H M) (r : Rep K cl F v d) : Vw K cl F H v (vw M d) := by
  cases d with
  | ref a =>
    obtain rfl := r.toRef
    show Vw K cl F H (.ref a) ((M a).getD (.ref a))
    cases e : M a with
    | none => exact .inl (.ref a)
    | some c => exact .inr ⟨a, rfl, (g.cell a c e).2⟩
  | _ => exact .inl r
theorem Vw.int {i : Int} (h : Vw K cl F H v (.int i)) : v = .int i := by
  rcases h with h | ⟨a, _, h⟩
  · exact h.toInt
  · exact h.elim
theorem Vw.bl {i : Bool} (h : Vw K cl F H v (.bl i)) : v = .bl i := by
  rcases h with h | ⟨a, _, h⟩
  · exact h.toBl
  · exact h.elim
theorem Vw.str {i : Str} (h : Vw K cl F H v (.str i)) : v = .str i := by
  rcases h with h | ⟨a, _, h⟩
  · exact h.toStr
  · exact h.elim
theorem Vw.byt {i : Array UInt8} (h : Vw K cl F H v (.byt i)) : v = .byt i := by
  rcases h with h | ⟨a, _, h⟩
  · exact h.toByt
  · exact h.elim
theorem Vw.non (h : Vw K cl F H v .non) : v = .non := by
  rcases h with h | ⟨a, _, h⟩
  · exact h.toNon
  · exact h.elim
theorem Vw.lst {ds : List D} (g : Same F H) (h : Vw K cl F H v (.lst ds)) : ∃ a vs, v = .ref a ∧ SqL K H a vs ∧ Reps K cl F vs ds := by
  rcases h with h | ⟨a, rfl, vs, h1, h2⟩
  · obtain ⟨a, vs, rfl, h1, h2⟩ := h.toLst
    exact ⟨a, vs, rfl, same_l g h1, h2⟩
  · exact ⟨a, vs, rfl, SqL.of h1, h2⟩
theorem Vw.tup {ds : List D} (g : Same F H) (h : Vw K cl F H v (.tup ds)) : ∃ a vs, v = .ref a ∧ SqT K H a vs ∧ Reps K cl F vs ds := by
  rcases h with h | ⟨a, rfl, h1⟩
  · obtain ⟨a, vs, rfl, h1, h2⟩ := h.toTup
    exact ⟨a, vs, rfl, same_t g h1, h2⟩
  · exact h1.elim
theorem Vw.obj {c : Nat} {ns : List Str} {ds : List D} (g : Same F H) (h : Vw K cl F H v (.obj c ns ds)) : ∃ a dx vs, v = .ref a ∧ H a = some (.ins (cl c) dx (ns.zip vs)) ∧ ns.length = vs.length ∧ Reps K cl F vs ds := by
  rcases h with h | ⟨a, rfl, dx, vs, h1, h2, h3⟩
  · obtain ⟨a, dx, vs, rfl, h1, h2, h3⟩ := h.toObj
    exact ⟨a, dx, vs, rfl, g _ _ h1, h2, h3⟩
  · exact ⟨a, dx, vs, rfl, h1, h2, h3⟩
theorem Post.val {Q : VK} {Qd : DV} (p : Post K cl F Q Qd) (g : Good K cl F H M) (r : Rep K cl F v d) (q : Qd d M) : Q v H := p v H F d M (Same.refl F) g r q
theorem Post.newL {Q : VK} {Qd : DV} {vs : List V} {ds : List D} (p : Post K cl F Q Qd) (g : Good K cl F H M) (r : Reps K cl F vs ds) (q : Qd (.lst ds) M) {a : Addr} (h : H a = none) : Q (.ref a) (upd H a (.lst vs)) :=
  p _ _ (upd F a (.lst vs)) (.lst ds) M (same_new (g.freshF h)) (g.new h) (.lst (SqL.of upd_same) (r.mono (same_new (g.freshF h)))) q
theorem Post.newT {Q : VK} {Qd : DV} {vs : List V} {ds : List D} (p : Post K cl F Q Qd) (g : Good K cl F H M) (r : Reps K cl F vs ds) (q : Qd (.tup ds) M) {a : Addr} (h : H a = none) : Q (.ref a) (upd H a (.tup vs)) :=
  p _ _ (upd F a (.tup vs)) (.tup ds) M (same_new (g.freshF h)) (g.new h) (.tup (SqT1.of upd_same) (r.mono (same_new (g.freshF h)))) q
end
def LOp (K : PySem.W.Frag) (cl : ClW) (r : R2) (f : D → D → Option D) : Prop :=
  ∀ F H M x y d e z Q Qd, Good K cl F H M → Vw K cl F H x d → Vw K cl F H y e → f d e = some z → Post K cl F Q Qd → Qd z M → r x y H Q
def LUn (K : PySem.W.Frag) (cl : ClW) (r : V → Hp → VK → Prop) (f : D → Option D) : Prop :=
  ∀ F H M x d z Q Qd, Good K cl F H M → Vw K cl F H x d → f d = some z → Post K cl F Q Qd → Qd z M → r x H Q
def LCall (K : PySem.W.Frag) (cl : ClW) (r : List V → Hp → VK → Prop) (f : List D → Option D) : Prop :=
  ∀ F H M xs ds z Q Qd, Good K cl F H M → Reps K cl F xs ds → f (ds.map (vw M)) = some z → Post K cl F Q Qd → Qd z M → r xs H Q
@[simp] def dVar (i : Nat) : DTE := fun ρ M Q _ => ∃ d, ρ[i]? = some (some d) ∧ Q d M
@[simp] def dC (d : D) : DTE := fun _ M Q _ => Q d M
@[simp] def dOp (f : D → D → Option D) (τa τb : DTE) : DTE := fun ρ M Q X => τa ρ M (fun d M1 => τb ρ M1 (fun e M2 => ∃ z, f (vw M2 d) (vw M2 e) = some z ∧ Q z M2) X) X
@[simp] def dUn (f : D → Option D) (τa : DTE) : DTE := fun ρ M Q X => τa ρ M (fun d M1 => ∃ z, f (vw M1 d) = some z ∧ Q z M1) X
@[simp] def dTest (τ : DTE) : DTT := fun ρ M Q X => τ ρ M (fun d M1 => ∃ b, d = .bl b ∧ Q b M1) X
@[simp] def dAnd (τ υ : DTT) : DTT := fun ρ M Q X => τ ρ M (fun c M1 => if c = true then υ ρ M1 Q X else Q false M1) X
@[simp] def dOr (τ υ : DTT) : DTT := fun ρ M Q X => τ ρ M (fun c M1 => if c = true then Q true M1 else υ ρ M1 Q X) X
@[simp] def dNot (τ : DTT) : DTT := fun ρ M Q X => τ ρ M (fun c M1 => Q (!c) M1) X
@[simp] def dIfE (τ : DTT) (τa τb : DTE) : DTE := fun ρ M Q X => τ ρ M (fun c M1 => if c = true then τa ρ M1 Q X else τb ρ M1 Q X) X
@[simp] def dNil : DTA := fun _ M Q _ => Q [] M
@[simp] def dCons (τ : DTE) (τr : DTA) : DTA := fun ρ M Q X => τ ρ M (fun d M1 => τr ρ M1 (fun ds M2 => Q (d :: ds) M2) X) X
@[simp] def dTup (τ : DTA) : DTE := fun ρ M Q X => τ ρ M (fun ds M1 => ds.length ≤ sizeLine ∧ Q (.tup ds) M1) X
@[simp] def dLst (τ : DTA) : DTE := fun ρ M Q X => τ ρ M (fun ds M1 => ds.length ≤ sizeLine ∧ Q (.lst ds) M1) X
def dLstM (τ : DTA) : DTE := fun ρ M Q X => τ ρ M (fun ds M1 => ds.length ≤ sizeLine ∧ ∀ a, M1 a = none → Q (.ref a) (updM M1 a (.lst ds))) X
@[simp] def frz (d : D) (M : Mem) (Q : DV) : Prop := match d with
  | .ref a => (match M a with
    | some c => Q c (delM M a)
    | none => Q d M)
  | d => Q d M
@[simp] def dFrz (τ : DTE) : DTE := fun ρ M Q X => τ ρ M (fun d M1 => frz d M1 Q) X
@[simp] def dCB (f : List D → Option D) (τ : DTA) : DTE := fun ρ M Q X => τ ρ M (fun ds M1 => ∃ z, f (ds.map (vw M1)) = some z ∧ Q z M1) X
@[simp] def dSl (f : D → Option Int → Option Int → Option D) (τ : DTE) (lo hi : Env → Mem → (Option Int → Mem → Prop) → DX → Prop) : DTE := fun ρ M Q X => τ ρ M (fun d M1 => lo ρ M1 (fun l M2 => hi ρ M2 (fun h M3 => ∃ z, f (vw M3 d) l h = some z ∧ Q z M3) X) X) X
abbrev DTO := Env → Mem → (Option Int → Mem → Prop) → DX → Prop
@[simp] def dNoPart : DTO := fun _ M Q _ => Q none M
@[simp] def dPart (τ : DTE) : DTO := fun ρ M Q X => τ ρ M (fun d M1 => ∃ i, d = .int i ∧ Q (some i) M1) X
section
variable {cl : ClW} {X : Cx} {W : WX} {a b e c : Expr} {es rest : List Expr} {pos : Pos} {τ τa τb τc : DTE} {υ υ' : DTT} {α : DTA}
theorem d_var {x : Str} (i : Nat) (hN : X.N[i]? = some x := by rfl) (hv : Vis X.env.scope x := by first | exact Or.inl rfl | exact Or.inr (Or.inl rfl) | exact Or.inr (Or.inr rfl)) (hd : (x == ("__debug__" : Str)) = false := by decide)
    (hcd : (x == ("__classdict__" : Str)) = false := by decide) : DE cl X W (.Name x pos) (dVar i) :=
  ⟨pe_imp (pe_var hN hv hd hcd) fun σ H Q ⟨F, ρ, M, Qd, Xd, g, s, ⟨d, h1, h2⟩, p, w⟩ => by
    obtain ⟨v, e1, r⟩ := s.get i d h1
    exact ⟨v, e1, p.val g r h2⟩⟩
theorem d_c {v : V} {d : D} (h : PE X e (tC v)) (r : ∀ F, Rep X.K cl F v d) : DE cl X W e (dC d) :=
  ⟨pe_imp h fun σ H Q ⟨F, ρ, M, Qd, Xd, g, s, h2, p, w⟩ => p.val g (r F) h2⟩
theorem d_int {i j} : DE cl X W (.Constant (.int i) j pos) (dC (.int i)) := d_c pe_int fun _ => .int i
theorem d_bl {i j} : DE cl X W (.Constant (.bool i) j pos) (dC (.bl i)) := d_c pe_bl fun _ => .bl i
theorem d_str {i j} : DE cl X W (.Constant (.str i) j pos) (dC (.str i)) := d_c pe_str fun _ => .str i
theorem d_non {j} : DE cl X W (.Constant .none j pos) (dC .non) := d_c pe_non fun _ => .non
theorem d_byt {x j} : DE cl X W (.Constant (.bytes x) j pos) (dC (.byt x.toArray)) := d_c (v := .byt x.toArray) pe_byt fun _ => .byt _
theorem d_op {op : Operator} {r : R2} {f : D → D → Option D} (ho : OpR X (binaryOp op) r) (hf : LOp X.K cl r f) (ha : DE cl X W a τa) (hb : DE cl X W b τb) : DE cl X W (.BinOp a op b pos) (dOp f τa τb) :=
  ⟨pe_imp (pe_op ho ha.pe hb.pe) fun σ H Q ⟨F, ρ, M, Qd, Xd, g, s, t, p, w⟩ =>
    ⟨F, ρ, M, _, Xd, g, s, t, fun v H' F' d M' sm g' r' q => ⟨F', ρ, M', _, Xd, g', s.mono sm, q, fun u H2 F2 e M2 sm2 g2 r2 q2 => by
      obtain ⟨z, e1, e2⟩ := q2
      exact hf F2 H2 M2 v u _ _ z Q Qd g2 (vw_ok g2 (r'.mono sm2)) (vw_ok g2 r2) e1 (p.mono (sm.trans sm2)) e2, w.mono sm⟩, w⟩⟩
theorem d_cmp {op : CmpOp} {r : R2} {f : D → D → Option D} (ho : OpR X (compareOp op) r) (hf : LOp X.K cl r f) (ha : DE cl X W a τa) (hb : DE cl X W b τb) (hm : behindInMarks op b = false) : DE cl X W (.Compare a [op] [b] pos) (dOp f τa τb) :=
  ⟨pe_imp (pe_cmpR ho ha.pe hb.pe hm) fun σ H Q ⟨F, ρ, M, Qd, Xd, g, s, t, p, w⟩ =>
    ⟨F, ρ, M, _, Xd, g, s, t, fun v H' F' d M' sm g' r' q => ⟨F', ρ, M', _, Xd, g', s.mono sm, q, fun u H2 F2 e M2 sm2 g2 r2 q2 => by
      obtain ⟨z, e1, e2⟩ := q2
      exact hf F2 H2 M2 v u _ _ z Q Qd g2 (vw_ok g2 (r'.mono sm2)) (vw_ok g2 r2) e1 (p.mono (sm.trans sm2)) e2, w.mono sm⟩, w⟩⟩
theorem PostT.test {K : PySem.W.Frag} {F : Hp} {Q : Bool → Hp → Prop} {Qd : Bool → Mem → Prop} (p : PostT K cl F Q Qd) : Post K cl F (fun x H' => ∃ k, x = .bl k ∧ Q k H') (fun d M1 => ∃ b, d = .bl b ∧ Qd b M1) := fun v H' F' d M' sm g r ⟨b, e1, q⟩ => by
  subst e1
  exact ⟨b, r.toBl, p b H' F' M' sm g q⟩
theorem d_tcmp {op : CmpOp} {r : R2} {f : D → D → Option D} (ho : OpR X (compareOp op) r) (hf : LOp X.K cl r f) (ha : DE cl X W a τa) (hb : DE cl X W b τb) (hm : behindInMarks op b = false) : DT cl X W (.Compare a [op] [b] pos) (dTest (dOp f τa τb)) :=
  ⟨pt_imp (pt_cmpR ho ha.pe hb.pe hm) fun σ H Q ⟨F, ρ, M, Qd, Xd, g, s, t, p, w⟩ =>
    ⟨F, ρ, M, _, Xd, g, s, t, fun v H' F' d M' sm g' r' q => ⟨F', ρ, M', _, Xd, g', s.mono sm, q, fun u H2 F2 e M2 sm2 g2 r2 q2 => by
      obtain ⟨z, e1, e2⟩ := q2
      exact hf F2 H2 M2 v u _ _ z _ _ g2 (vw_ok g2 (r'.mono sm2)) (vw_ok g2 r2) e1 (PostT.test (p.mono (sm.trans sm2))) e2, w.mono sm⟩, w⟩⟩
@[simp] def dChain (f f' : D → D → Option D) (τa τb τc : DTE) : DTE := fun ρ M Q X => τa ρ M (fun d M1 => τb ρ M1 (fun e M2 => ∃ k, f (vw M2 d) (vw M2 e) = some (.bl k) ∧ if k = true then τc ρ M2 (fun h M3 => ∃ z, f' (vw M3 e) (vw M3 h) = some z ∧ Q z M3) X else Q (.bl false) M2) X) X
theorem d_tchain {op op' : CmpOp} {r r' : R2} {f f' : D → D → Option D} (ho : OpR X (compareOp op) r) (ho' : OpR X (compareOp op') r') (hf : LOp X.K cl r f) (hf' : LOp X.K cl r' f') (ha : DE cl X W a τa) (hb : DE cl X W b τb) (hc : DE cl X W c τc)
    (hm : lastMarks [op, op'] [b, c] = false := by with_unfolding_all rfl) : DT cl X W (.Compare a [op, op'] [b, c] pos) (dTest (dChain f f' τa τb τc)) :=
  ⟨pt_imp (pt_chain ho ho' ha.pe hb.pe hc.pe hm) fun σ H Q ⟨F, ρ, M, Qd, Xd, g, s, t, p, w⟩ =>
    ⟨F, ρ, M, _, Xd, g, s, t, fun v H' F' d M' sm g' r' q => ⟨F', ρ, M', _, Xd, g', s.mono sm, q, fun u H2 F2 e M2 sm2 g2 r2 q2 => by
      obtain ⟨k, e1, e2⟩ := q2
      refine hf F2 H2 M2 v u _ _ (.bl k) _ (fun z M3 => z = .bl k ∧ M3 = M2) g2 (vw_ok g2 (r'.mono sm2)) (vw_ok g2 r2) e1 ?_ ⟨rfl, rfl⟩
      intro z H3 F3 dz M3 sm3 g3 r3 ⟨h3, h4⟩
      subst h3 h4
      refine ⟨k, r3.toBl, ?_⟩
      cases k with
      | true =>
        rw [if_pos rfl] at e2 ⊢
        refine ⟨F3, ρ, M3, _, Xd, g3, s.mono ((sm.trans sm2).trans sm3), e2, fun y H4 F4 h M4 sm4 g4 r4 ⟨z4, h5, h6⟩ => ?_, w.mono ((sm.trans sm2).trans sm3)⟩
        exact hf' F4 H4 M4 u y _ _ z4 _ _ g4 (vw_ok g4 (r2.mono (sm3.trans sm4))) (vw_ok g4 r4) h5 (PostT.test (p.mono (((sm.trans sm2).trans sm3).trans sm4))) h6
      | false =>
        rw [if_neg Bool.false_ne_true] at e2 ⊢
        exact PostT.test p _ _ _ _ _ ((sm.trans sm2).trans sm3) g3 (.bl false) e2, w.mono sm⟩, w⟩⟩
theorem d_un {op : UnaryOp} {r : V → Hp → VK → Prop} {f : D → Option D} (ho : UnR X (unaryOp op) r) (hf : LUn X.K cl r f) (ha : DE cl X W a τa) : DE cl X W (.UnaryOp op a pos) (dUn f τa) :=
  ⟨pe_imp (pe_un ho ha.pe) fun σ H Q ⟨F, ρ, M, Qd, Xd, g, s, t, p, w⟩ =>
    ⟨F, ρ, M, _, Xd, g, s, t, fun v H' F' d M' sm g' r' ⟨z, e1, e2⟩ => hf F' H' M' v _ z Q Qd g' (vw_ok g' r') e1 (p.mono sm) e2, w⟩⟩
theorem d_val (h : DE cl X W e τ) (he : ∀ whole, isTrue e X.env whole = (do let v ← whole; standAt e.pos; holding [v] (truthy v)) := by intro _; rfl) : DT cl X W e (dTest τ) :=
  ⟨pt_imp (pt_val h.pe he) fun σ H Q ⟨F, ρ, M, Qd, Xd, g, s, t, p, w⟩ => ⟨F, ρ, M, _, Xd, g, s, t, p.test, w⟩⟩
theorem dw_and1 (h : DT cl X W a υ) : DW cl X W (.BoolOp .And [a] pos) υ := ⟨pw_and1 h.pt⟩
theorem dw_or1 (h : DT cl X W a υ) : DW cl X W (.BoolOp .Or [a] pos) υ := ⟨pw_or1 h.pt⟩
theorem dw_and (h : DT cl X W a υ) (h' : DW cl X W (.BoolOp .And (b :: rest) pos) υ') : DW cl X W (.BoolOp .And (a :: b :: rest) pos) (dAnd υ υ') :=
  ⟨pw_imp (pw_and h.pt h'.pw) fun σ H Q ⟨F, ρ, M, Qd, Xd, g, s, t, p, w⟩ => ⟨F, ρ, M, _, Xd, g, s, t, fun k H' F' M' sm g' q => by
    cases k with
    | true => rw [if_pos rfl] at q ⊢; exact ⟨F', ρ, M', Qd, Xd, g', s.mono sm, q, p.mono sm, w.mono sm⟩
    | false => rw [if_neg Bool.false_ne_true] at q ⊢; exact p _ _ _ _ sm g' q, w⟩⟩
theorem dw_or (h : DT cl X W a υ) (h' : DW cl X W (.BoolOp .Or (b :: rest) pos) υ') : DW cl X W (.BoolOp .Or (a :: b :: rest) pos) (dOr υ υ') :=
  ⟨pw_imp (pw_or h.pt h'.pw) fun σ H Q ⟨F, ρ, M, Qd, Xd, g, s, t, p, w⟩ => ⟨F, ρ, M, _, Xd, g, s, t, fun k H' F' M' sm g' q => by
    cases k with
    | true => rw [if_pos rfl] at q ⊢; exact p _ _ _ _ sm g' q
    | false => rw [if_neg Bool.false_ne_true] at q ⊢; exact ⟨F', ρ, M', Qd, Xd, g', s.mono sm, q, p.mono sm, w.mono sm⟩, w⟩⟩
theorem DW.dt (h : DW cl X W e υ) : DT cl X W e υ := ⟨h.pw.pt⟩
theorem d_tnot (h : DT cl X W a υ) : DT cl X W (.UnaryOp .Not a pos) (dNot υ) :=
  ⟨pt_imp (pt_not h.pt) fun σ H Q ⟨F, ρ, M, Qd, Xd, g, s, t, p, w⟩ => ⟨F, ρ, M, _, Xd, g, s, t, fun k H' F' M' sm g' q => p _ _ _ _ sm g' q, w⟩⟩
theorem d_ifE (h : DT cl X W c υ) (ha : DE cl X W a τa) (hb : DE cl X W b τb) : DE cl X W (.IfExp c a b pos) (dIfE υ τa τb) :=
  ⟨pe_imp (pe_ifExp h.pt ha.pe hb.pe) fun σ H Q ⟨F, ρ, M, Qd, Xd, g, s, t, p, w⟩ => ⟨F, ρ, M, _, Xd, g, s, t, fun k H' F' M' sm g' q => by
    cases k with
    | true => rw [if_pos rfl] at q ⊢; exact ⟨F', ρ, M', Qd, Xd, g', s.mono sm, q, p.mono sm, w.mono sm⟩
    | false => rw [if_neg Bool.false_ne_true] at q ⊢; exact ⟨F', ρ, M', Qd, Xd, g', s.mono sm, q, p.mono sm, w.mono sm⟩, w⟩⟩
@[simp] def dAndV (τa τb : DTE) : DTE := fun ρ M Q X => τa ρ M (fun d M1 => ∃ c, d = .bl c ∧ if c = true then τb ρ M1 Q X else Q (.bl false) M1) X
@[simp] def dOrV (τa τb : DTE) : DTE := fun ρ M Q X => τa ρ M (fun d M1 => ∃ c, d = .bl c ∧ if c = true then Q (.bl true) M1 else τb ρ M1 Q X) X
@[simp] def dNotV (τa : DTE) : DTE := fun ρ M Q X => τa ρ M (fun d M1 => ∃ c, d = .bl c ∧ Q (.bl (!c)) M1) X
theorem d_one {op} (h : DE cl X W a τ) : DE cl X W (.BoolOp op [a] pos) τ := ⟨pe_one h.pe⟩
theorem d_andV (ha : DE cl X W a τa) (hb : DE cl X W (.BoolOp .And (b :: rest) pos) τb) : DE cl X W (.BoolOp .And (a :: b :: rest) pos) (dAndV τa τb) :=
  ⟨pe_imp (pe_and ha.pe hb.pe) fun σ H Q ⟨F, ρ, M, Qd, Xd, g, s, t, p, w⟩ => ⟨F, ρ, M, _, Xd, g, s, t, fun v H' F' d M' sm g' r ⟨k, e1, q⟩ => by
    subst e1
    refine ⟨k, r.toBl, ?_⟩
    cases k with
    | true => rw [if_pos rfl] at q ⊢; exact ⟨F', ρ, M', Qd, Xd, g', s.mono sm, q, p.mono sm, w.mono sm⟩
    | false => rw [if_neg Bool.false_ne_true] at q ⊢; exact p _ _ _ _ _ sm g' (.bl false) q, w⟩⟩
theorem d_notV (ha : DE cl X W a τa) : DE cl X W (.UnaryOp .Not a pos) (dNotV τa) :=
  ⟨pe_imp (pe_not ha.pe) fun σ H Q ⟨F, ρ, M, Qd, Xd, g, s, t, p, w⟩ => ⟨F, ρ, M, _, Xd, g, s, t, fun v H' F' d M' sm g' r ⟨k, e1, q⟩ => by
    subst e1
    exact ⟨k, r.toBl, p _ _ _ _ _ sm g' (.bl _) q⟩, w⟩⟩
theorem da_nil : DA cl X W [] dNil := ⟨pa_imp pa_nil fun σ H Q ⟨F, ρ, M, Qd, Xd, g, s, t, p, w⟩ => p [] H F [] M (Same.refl F) g .nil t⟩
theorem da_cons (ha : DE cl X W e τ) (hr : DA cl X W es α) (hs : starEach (e :: es) X.env = (false, eval e X.env) :: starEach es X.env := by rfl) : DA cl X W (e :: es) (dCons τ α) :=
  ⟨pa_imp (pa_cons ha.pe hr.pa hs) fun σ H Q ⟨F, ρ, M, Qd, Xd, g, s, t, p, w⟩ => ⟨F, ρ, M, _, Xd, g, s, t, fun v H' F' d M' sm g' r q => ⟨F', ρ, M', _, Xd, g', s.mono sm, q, fun vs H2 F2 ds M2 sm2 g2 r2 q2 => p _ _ _ _ _ (sm.trans sm2) g2 (.cons (r.mono sm2) r2) q2, w.mono sm⟩, w⟩⟩
theorem d_tup {x1} (h : DA cl X W es α) : DE cl X W (.Tuple es x1 pos) (dTup α) :=
  ⟨pe_imp (pe_tup h.pa) fun σ H Q ⟨F, ρ, M, Qd, Xd, g, s, t, p, w⟩ => ⟨F, ρ, M, _, Xd, g, s, t, fun vs H' F' ds M' sm g' r ⟨hl, q⟩ => ⟨by rw [r.length]; exact hl, fun a ha => (p.mono sm).newT g' r q ha⟩, w⟩⟩
theorem d_lst (h : DA cl X W es α) : DE cl X W (.List es pos) (dLst α) :=
  ⟨pe_imp (pe_lst h.pa) fun σ H Q ⟨F, ρ, M, Qd, Xd, g, s, t, p, w⟩ => ⟨F, ρ, M, _, Xd, g, s, t, fun vs H' F' ds M' sm g' r ⟨hl, q⟩ => ⟨by rw [r.length]; exact hl, fun a ha => (p.mono sm).newL g' r q ha⟩, w⟩⟩
theorem d_lstM (h : DA cl X W es α) : DE cl X W (.List es pos) (dLstM α) :=
  ⟨pe_imp (pe_lst h.pa) fun σ H Q ⟨F, ρ, M, Qd, Xd, g, s, t, p, w⟩ => ⟨F, ρ, M, _, Xd, g, s, t, fun vs H' F' ds M' sm g' r ⟨hl, q⟩ => ⟨by rw [r.length]; exact hl, fun a ha =>
    p _ _ F' _ _ sm (g'.newM (d := .lst ds) ha ⟨vs, upd_same, r⟩) (.ref a) (q a (g'.freshM ha))⟩, w⟩⟩
theorem d_frz (h : DE cl X W e τ) : DE cl X W e (dFrz τ) :=
  ⟨pe_imp h.pe fun σ H Q ⟨F, ρ, M, Qd, Xd, g, s, t, p, w⟩ => ⟨F, ρ, M, _, Xd, g, s, t, fun v H' F' d M' sm g' r q => by
    cases d with
    | ref a =>
      obtain rfl := r.toRef
      cases e : M' a with
      | none =>
        have q' : Qd (.ref a) M' := by
          simp only [frz] at q
          rw [e] at q
          exact q
        exact p _ _ _ _ _ sm g' r q'
      | some c =>
        have q' : Qd c (delM M' a) := by
          simp only [frz] at q
          rw [e] at q
          exact q
        obtain ⟨F2, s2, g2, r2⟩ := g'.freeze e
        exact p _ _ _ _ _ (sm.trans s2) g2 r2 q'
    | _ => exact p _ _ _ _ _ sm g' r q, w⟩⟩
theorem d_callB {x : Str} {id : String} {p : Pos} {r : List V → Hp → VK → Prop} {f : List D → Option D} (hc : CallR X (.builtin id) r) (hf : LCall X.K cl r f) (hg : Gl X x) (hm : X.mg x = none) (hv : bootBuiltins x = some (.builtin id)) (ha : DA cl X W (e :: es) α) (hn : x ≠ "__name__" := by decide) (hdb : (x == ("__debug__" : Str)) = false := by decide)
    (he : starEach (e :: es) X.env = (false, eval e X.env) :: starEach es X.env := by rfl) (hpl : (backTo pos (starEach es X.env)).any (·.1) = false := by rfl) : DE cl X W (.Call (.Name x p) (e :: es) [] pos) (dCB f α) :=
  ⟨pe_imp (pe_callB hc hg hm hv ha.pa hn hdb he hpl) fun σ H Q ⟨F, ρ, M, Qd, Xd, g, s, t, p, w⟩ => ⟨F, ρ, M, _, Xd, g, s, t, fun vs H' F' ds M' sm g' r ⟨z, e1, e2⟩ => hf F' H' M' vs ds z Q Qd g' r e1 (p.mono sm) e2, w⟩⟩
theorem d_callTy {x : Str} {T : String} {p : Pos} {r : List V → Hp → VK → Prop} {f : List D → Option D} (hc : CallR X (.type T) r) (hf : LCall X.K cl r f) (hg : Gl X x) (hm : X.mg x = none) (hv : bootBuiltins x = some (.type T)) (ha : DA cl X W (e :: es) α) (hn : x ≠ "__name__" := by decide) (hdb : (x == ("__debug__" : Str)) = false := by decide)
    (he : starEach (e :: es) X.env = (false, eval e X.env) :: starEach es X.env := by rfl) (hpl : (backTo pos (starEach es X.env)).any (·.1) = false := by rfl) : DE cl X W (.Call (.Name x p) (e :: es) [] pos) (dCB f α) :=
  ⟨pe_imp (pe_callTy hc hg hm hv ha.pa hn hdb he hpl) fun σ H Q ⟨F, ρ, M, Qd, Xd, g, s, t, p, w⟩ => ⟨F, ρ, M, _, Xd, g, s, t, fun vs H' F' ds M' sm g' r ⟨z, e1, e2⟩ => hf F' H' M' vs ds z Q Qd g' r e1 (p.mono sm) e2, w⟩⟩
end
end DL
set_option Elab.async false
set_option linter.all false
set_option maxRecDepth 100000
set_option maxHeartbeats 2000000
namespace DL
open PySem L2
def addD : D → D → Option D
  | .int i, .int j => some (.int (i + j))
  | .str x, .str y => if x.length + y.length ≤ sizeLine then some (.str (x ++ y)) else none
  | .lst xs, .lst ys => if xs.length + ys.length ≤ sizeLine then some (.lst (xs ++ ys)) else none
  | .tup xs, .tup ys => if xs.length + ys.length ≤ sizeLine then some (.tup (xs ++ ys)) else none
  | .byt x, .byt y => if x.size + y.size ≤ 16777216 then some (.byt (x ++ y)) else none
  | _, _ => none
@[simp] def subD : D → D → Option D
  | .int i, .int j => some (.int (i - j))
  | _, _ => none
def mulD : D → D → Option D
  | .int i, .int j => if (-(2 ^ 64) < i ∧ i < 2 ^ 64) ∨ (-(2 ^ 64) < j ∧ j < 2 ^ 64) then some (.int (i * j)) else none
  | _, _ => none
def fdivD : D → D → Option D
  | .int i, .int j => if 0 < j ∧ j < 2 ^ 200 then some (.int (i / j)) else none
  | _, _ => none
def modD : D → D → Option D
  | .int i, .int j => if 0 < j then some (.int (i % j)) else none
  | _, _ => none
def powD : D → D → Option D
  | .int i, .int j => if 0 ≤ j ∧ j ≤ 1000000 ∧ i.natAbs < 2 ^ 64 then some (.int (i ^ j.toNat)) else none
  | _, _ => none
@[simp] def cmpD (p : Int → Int → Bool) : D → D → Option D
  | .int i, .int j => some (.bl (p i j))
  | _, _ => none
@[simp] def negD : D → Option D
  | .int i => some (.int (-i))
  | _ => none
@[simp] def isNonD : D → D → Option D
  | .non, .non => some (.bl true)
  | _, .non => some (.bl false)
  | _, _ => none
@[simp] def notNonD : D → D → Option D
  | .non, .non => some (.bl false)
  | _, .non => some (.bl true)
  | _, _ => none
section
variable {K : PySem.W.Frag} {cl : ClW} {X : Cx}
def rCatS (K : PySem.W.Frag) : R2 := fun x y H Q => ∃ l b xs zs, x = .ref l ∧ y = .ref b ∧ SqL K H l xs ∧ SqL K H b zs ∧ xs.length + zs.length ≤ sizeLine ∧ ∀ p, H p = none → Q (.ref p) (upd H p (.lst (xs ++ zs)))
theorem op_catS : OpR X (binaryOp .Add) (rCatS X.K) := by
  intro pins s σ H x y v u Q I rx ry h
  obtain ⟨l, b, xs, zs, rfl, rfl, hH, hB, hz, q⟩ := h
  cases rx
  cases ry
  obtain ⟨its, r, ⟨o, n, ho, hc, hd, hs⟩, z⟩ := I.list hH
  obtain ⟨its2, r2, ⟨o2, n2, ho2, hc2, hd2, hs2⟩, z2⟩ := I.list hB
  obtain ⟨c1, d1, t1, sl1⟩ := o
  obtain ⟨c2, d2, t2, sl2⟩ := o2
  simp only at hc hd hs hc2 hd2 hs2
  subst hc hd hs hc2 hd2 hs2
  have l1 := r.length
  have l2 := r2.length
  have ea : its.toArray ++ its2.toArray = (its ++ its2).toArray := by simp
  refine concat_meets ⟨_, ho, rfl⟩ ⟨_, ho2, rfl⟩ noFill_list_add seq_list_add PySem.F.slot_list_add PySem.F.entry_list_add (PySem.F.args_list_add_2 _ _) (PyProof.Rows.list_addW l b its.toArray its2.toArray n n2 none none sl1 sl2 (by simp; omega)) ⟨ho, ho2, ?_⟩
  rw [ea]
  exact ⟨.ref _, _, I.lnew (t' := s.toks) (r.append r2) (by rw [List.length_append]; omega), rfl, q _ I.fresh⟩
def rAddAll (K : PySem.W.Frag) : R2 := fun x y H Q => rI0 (fun i j => .int (i + j)) x y H Q ∨ (fun x y H Q => ∃ i j, x = .str i ∧ y = .str j ∧ i.length + j.length ≤ sizeLine ∧ Q (.str (i ++ j)) H) x y H Q ∨ rCatS K x y H Q ∨ rCatA K x y H Q ∨ (fun x y H Q => ∃ i j, x = .byt i ∧ y = .byt j ∧ i.size + j.size ≤ 16777216 ∧ Q (.byt (i ++ j)) H) x y H Q
theorem op_addAll : OpR X (binaryOp .Add) (rAddAll X.K) := op_add.or (op_add_str.or (op_catS.or (op_catA.or op_add_byt)))
theorem lop_add : LOp K cl (rAddAll K) addD := by
  intro F H M x y d e z Q Qd g hx hy h p q
  cases d with
  | int i =>
    cases e with
    | int j =>
      cases h
      obtain rfl := hx.int; obtain rfl := hy.int
      exact .inl ⟨i, j, rfl, rfl, p.val g (.int _) q⟩
    | _ => cases h
  | str i =>
    cases e with
    | str j =>
      simp only [addD] at h
      split at h
      · cases h
        obtain rfl := hx.str; obtain rfl := hy.str
        exact .inr (.inl ⟨i, j, rfl, rfl, by assumption, p.val g (.str _) q⟩)
      · cases h
    | _ => cases h
  | lst ds =>
    cases e with
    | lst es =>
      simp only [addD] at h
      split at h
      · cases h
        obtain ⟨a, vs, rfl, h1, h2⟩ := hx.lst g.sub
        obtain ⟨b, us, rfl, h3, h4⟩ := hy.lst g.sub
        exact .inr (.inr (.inl ⟨a, b, vs, us, rfl, rfl, h1, h3, by rw [h2.length, h4.length]; assumption, fun c hc => p.newL g (h2.append h4) q hc⟩))
      · cases h
    | _ => cases h
  | tup ds =>
    cases e with
    | tup es =>
      simp only [addD] at h
      split at h
      · cases h
        rcases hx with hx | ⟨_, _, hx⟩
        · rcases hy with hy | ⟨_, _, hy⟩
          · obtain ⟨a, vs, rfl, h1, h2⟩ := hx.toTup
            obtain ⟨b, us, rfl, h3, h4⟩ := hy.toTup
            refine .inr (.inr (.inr (.inl ⟨a, b, vs, us, rfl, rfl, same_t g.sub h1, same_t g.sub h3, by rw [h2.length, h4.length]; assumption, fun e => ?_, fun _ e => ?_, fun _ _ c hc => p.newT g (h2.append h4) q hc⟩)))
            · subst e
              cases h2
              exact p.val g hy q
            · subst e
              cases h4
              rw [List.append_nil] at q
              exact p.val g hx q
          · exact hy.elim
        · exact hx.elim
      · cases h
    | _ => cases h
  | byt i =>
    cases e with
    | byt j =>
      simp only [addD] at h
      split at h
      · cases h
        obtain rfl := hx.byt; obtain rfl := hy.byt
        exact .inr (.inr (.inr (.inr ⟨i, j, rfl, rfl, by assumption, p.val g (.byt _) q⟩)))
      · cases h
    | _ => cases h
  | _ => cases h
theorem lop_sub : LOp K cl (rI0 fun i j => .int (i - j)) subD := by
  intro F H M x y d e z Q Qd g hx hy h p q
  cases d <;> cases e <;> first | (cases h; obtain rfl := hx.int; obtain rfl := hy.int; exact ⟨_, _, rfl, rfl, p.val g (.int _) q⟩) | cases h
theorem lop_mul : LOp K cl (rI CMul fun i j => .int (i * j)) mulD := by
  intro F H M x y d e z Q Qd g hx hy h p q
  cases d <;> cases e <;> first | (simp only [mulD] at h; split at h <;> first | (cases h; obtain rfl := hx.int; obtain rfl := hy.int; exact ⟨_, _, rfl, rfl, (by assumption), p.val g (.int _) q⟩) | cases h) | cases h
theorem cdivW_of {i j : Int} (h : 0 < j ∧ j < 2 ^ 200) : CDivW i j := by
  refine wide_div (b := 200) h.1 ?_ (by decide) (by decide)
  have h2 : ((j.natAbs : Nat) : Int) < ((2 ^ 200 : Nat) : Int) := by
    rw [Int.natAbs_of_nonneg (Int.le_of_lt h.1)]
    exact_mod_cast h.2
  exact Int.ofNat_lt.mp h2
theorem lop_fdiv : LOp K cl (rI CDivW fun i j => .int (i / j)) fdivD := by
  intro F H M x y d e z Q Qd g hx hy h p q
  cases d with
  | int i =>
    cases e with
    | int j =>
      simp only [fdivD] at h
      split at h
      · cases h
        obtain rfl := hx.int; obtain rfl := hy.int
        exact ⟨i, j, rfl, rfl, cdivW_of (by assumption), p.val g (.int _) q⟩
      · cases h
    | _ => cases h
  | _ => cases h
theorem lop_mod : LOp K cl (rI (fun _ j => 0 < j) fun i j => .int (i % j)) modD := by
  intro F H M x y d e z Q Qd g hx hy h p q
  cases d with
  | int i =>
    cases e with
    | int j =>
      simp only [modD] at h
      split at h
      · cases h
        obtain rfl := hx.int; obtain rfl := hy.int
        exact ⟨i, j, rfl, rfl, by assumption, p.val g (.int _) q⟩
      · cases h
    | _ => cases h
  | _ => cases h
theorem lop_pow : LOp K cl (rI CPow fun i j => .int (i ^ j.toNat)) powD := by
  intro F H M x y d e z Q Qd g hx hy h p q
  cases d with
  | int i =>
    cases e with
    | int j =>
      simp only [powD] at h
      split at h
      · cases h
        obtain rfl := hx.int; obtain rfl := hy.int
        exact ⟨i, j, rfl, rfl, by assumption, p.val g (.int _) q⟩
      · cases h
    | _ => cases h
  | _ => cases h
theorem lop_cmp (k : Int → Int → Bool) : LOp K cl (rI0 fun i j => .bl (k i j)) (cmpD k) := by
  intro F H M x y d e z Q Qd g hx hy h p q
  cases d with
  | int i =>
    cases e with
    | int j =>
      cases h
      obtain rfl := hx.int; obtain rfl := hy.int
      exact ⟨i, j, rfl, rfl, p.val g (.bl _) q⟩
    | _ => cases h
  | _ => cases h
abbrev ltD := cmpD fun i j => decide (i < j)
abbrev leD := cmpD fun i j => decide (i ≤ j)
abbrev gtD := cmpD fun i j => decide (j < i)
abbrev geD := cmpD fun i j => decide (j ≤ i)
theorem lun_neg : LUn K cl (rU fun i => .int (-i)) negD := by
  intro F H M x d z Q Qd g hx h p q
  cases d with
  | int i =>
    cases h
    obtain rfl := hx.int
    exact ⟨i, rfl, p.val g (.int _) q⟩
  | _ => cases h
theorem Vw.ne_non {F H : Hp} {v : V} {d : D} (h : Vw K cl F H v d) (hd : d ≠ .non) : v ≠ .non := by
  intro e
  subst e
  rcases h with h | ⟨a, e, _⟩
  · cases h; exact hd rfl
  · cases e
theorem lop_isN : LOp K cl (fun x y H Q => y = .non ∧ Q (.bl (decide (x = .non))) H) isNonD := by
  intro F H M x y d e z Q Qd g hx hy h p q
  cases e with
  | non =>
    refine ⟨hy.non, ?_⟩
    by_cases hd : d = .non
    · subst hd
      cases h
      obtain rfl := hx.non
      rw [decide_eq_true rfl]
      exact p.val g (.bl _) q
    · have hz : z = .bl false := by cases d <;> first | exact absurd rfl hd | (cases h; rfl)
      subst hz
      rw [decide_eq_false (hx.ne_non hd)]
      exact p.val g (.bl _) q
  | _ => cases d <;> cases h
theorem lop_notN : LOp K cl (fun x y H Q => y = .non ∧ Q (.bl (!decide (x = .non))) H) notNonD := by
  intro F H M x y d e z Q Qd g hx hy h p q
  cases e with
  | non =>
    refine ⟨hy.non, ?_⟩
    by_cases hd : d = .non
    · subst hd
      cases h
      obtain rfl := hx.non
      rw [decide_eq_true rfl]
      exact p.val g (.bl _) q
    · have hz : z = .bl true := by cases d <;> first | exact absurd rfl hd | (cases h; rfl)
      subst hz
      rw [decide_eq_false (hx.ne_non hd)]
      exact p.val g (.bl _) q
  | _ => cases d <;> cases h
def ixD : D → D → Option D
  | .lst xs, .int i => atI xs i
  | .tup xs, .int i => atI xs i
  | .str z, .int i => if z.length ≤ sizeLine then (atI z.cps.toList i).map fun c => .str ⟨#[c]⟩ else none
  | _, _ => none
theorem reps_atI {F : Hp} {vs : List V} {ds : List D} {i : Int} {d : D} (r : Reps K cl F vs ds) (h : atI ds i = some d) : ∃ v, atI vs i = some v ∧ Rep K cl F v d := by
  unfold atI at h ⊢
  rw [r.length]
  cases e : ixN ds.length i with
  | none => rw [e] at h; cases h
  | some j =>
    rw [e] at h
    exact r.get h
theorem lix : LOp K cl (rIx K) ixD := by
  intro F H M x y d e z Q Qd g hx hy h p q
  cases d with
  | lst ds =>
    cases e with
    | int i =>
      obtain rfl := hy.int
      obtain ⟨a, vs, rfl, h1, h2⟩ := hx.lst g.sub
      obtain ⟨v, h3, h4⟩ := reps_atI h2 h
      exact .inl ⟨a, vs, i, v, rfl, rfl, h1, h3, p.val g h4 q⟩
    | _ => cases h
  | tup ds =>
    cases e with
    | int i =>
      obtain rfl := hy.int
      obtain ⟨a, vs, rfl, h1, h2⟩ := hx.tup g.sub
      obtain ⟨v, h3, h4⟩ := reps_atI h2 h
      exact .inr (.inl ⟨a, vs, i, v, rfl, rfl, h1, h3, p.val g h4 q⟩)
    | _ => cases h
  | str w =>
    cases e with
    | int i =>
      obtain rfl := hy.int
      obtain rfl := hx.str
      simp only [ixD] at h
      split at h
      · rename_i hl
        cases e1 : atI w.cps.toList i with
        | none => rw [e1] at h; cases h
        | some c =>
          rw [e1] at h
          cases h
          exact .inr (.inr ⟨w, i, c, rfl, rfl, hl, e1, p.val g (.str _) q⟩)
      · cases h
    | _ => cases h
  | _ => cases h
variable {W : WX} {a b e : Expr} {pos : Pos} {τ τa τb : DTE}
structure DO (cl : ClW) (X : Cx) (W : WX) (e : Option Expr) (τ : DTO) : Prop where
  po : PO X e (fun σ H Q => ∃ F ρ M Qd Xd, Good X.K cl F H M ∧ Slots X.K cl F σ ρ ∧ τ ρ M Qd Xd ∧ (∀ o H' F' M', Same F F' → Good X.K cl F' H' M' → Qd o M' → Q o H') ∧ WOk X.K cl W F Xd)
theorem do_none : DO cl X W none dNoPart := ⟨⟨fun pins s σ H Q I ⟨F, ρ, M, Qd, Xd, g, sl, t, p, w⟩ => po_none.run pins s σ H Q I (p none H F M (Same.refl F) g t)⟩⟩
theorem do_some (h : DE cl X W e τ) : DO cl X W (some e) (dPart τ) := ⟨⟨fun pins s σ H Q I ⟨F, ρ, M, Qd, Xd, g, sl, t, p, w⟩ => (po_some h.pe).run pins s σ H Q I
  ⟨F, ρ, M, _, Xd, g, sl, t, fun v H' F' d M' sm g' r ⟨i, e1, q⟩ => by subst e1; exact ⟨i, r.toInt, p _ _ _ _ sm g' q⟩, w⟩⟩⟩
def cutD (xs : List D) (lo hi : Option Int) : List D := (xs.drop (HT.sIx xs.length 0 lo)).take (HT.sIx xs.length xs.length hi - HT.sIx xs.length 0 lo)
def slD : D → Option Int → Option Int → Option D
  | .lst xs, lo, hi => some (.lst (cutD xs lo hi))
  | .tup xs, lo, hi => some (.tup (cutD xs lo hi))
  | .str z, lo, hi => if z.length ≤ sizeLine then some (.str (cutS z lo hi)) else none
  | _, _, _ => none
theorem reps_cut {F : Hp} {vs : List V} {ds : List D} (r : Reps K cl F vs ds) (lo hi : Option Int) : Reps K cl F (cutV vs lo hi) (cutD ds lo hi) := by
  unfold cutV cutD
  rw [r.length]
  exact (r.drop _).take _
theorem cutD_whole {xs : List D} {lo hi : Option Int} (h : HT.sIx xs.length 0 lo = 0 ∧ HT.sIx xs.length xs.length hi = xs.length) : cutD xs lo hi = xs := by
  unfold cutD
  rw [h.1, h.2]
  simp
theorem d_slice {lo hi : Option Expr} {τl τh : DTO} {p2 : Pos} (he : DE cl X W e τ) (hl : DO cl X W lo τl) (hu : DO cl X W hi τh) : DE cl X W (.Subscript e (.Slice lo hi none p2) pos) (dSl slD τ τl τh) :=
  ⟨pe_imp (pe_slice (sl_list.or (sl_tupA.or sl_str)) he.pe hl.po hu.po) fun σ H Q ⟨F, ρ, M, Qd, Xd, g, s, t, p, w⟩ =>
    ⟨F, ρ, M, _, Xd, g, s, t, fun v H1 F1 d M1 sm1 g1 r1 q1 => ⟨F1, ρ, M1, _, Xd, g1, s.mono sm1, q1, fun l H2 F2 M2 sm2 g2 q2 => ⟨F2, ρ, M2, _, Xd, g2, s.mono (sm1.trans sm2), q2, fun h H3 F3 M3 sm3 g3 q3 => (by
      obtain ⟨z, e1, e2⟩ := q3
      have hv := vw_ok g3 (r1.mono (sm2.trans sm3))
      have p' := p.mono ((sm1.trans sm2).trans sm3)
      cases hd : vw M3 d with
      | lst ds =>
        rw [hd] at hv e1
        cases e1
        obtain ⟨a, vs, rfl, h1, h2⟩ := hv.lst g3.sub
        exact .inl ⟨a, vs, rfl, h1, fun c hc => p'.newL g3 (reps_cut h2 l h) e2 hc⟩
      | tup ds =>
        rw [hd] at hv e1
        cases e1
        rcases hv with hv | ⟨_, _, hv⟩
        · obtain ⟨a, vs, rfl, h1, h2⟩ := hv.toTup
          refine .inr (.inl ⟨a, vs, rfl, same_t g3.sub h1, fun hw => ?_, fun _ c hc => p'.newT g3 (reps_cut h2 l h) e2 hc⟩)
          rw [h2.length] at hw
          rw [cutD_whole hw] at e2
          exact p'.val g3 hv e2
        · exact hv.elim
      | str w =>
        rw [hd] at hv e1
        simp only [slD] at e1
        split at e1
        · cases e1
          exact .inr (.inr ⟨w, hv.str, by assumption, p'.val g3 (.str _) e2⟩)
        · cases e1
      | _ =>
        rw [hd] at e1
        cases e1), w.mono (sm1.trans sm2)⟩, w.mono sm1⟩, w⟩⟩
end
end DL
set_option Elab.async false
set_option linter.all false
set_option maxRecDepth 100000
set_option maxHeartbeats 2000000
namespace DL
open PySem L2
@[simp] def dNext : DTS := fun E ρ M => E.nx ρ M
@[simp] def dSeq (t u : DTS) : DTS := fun E ρ M => t { E with nx := u E } ρ M
@[simp] def dIf (υ : DTT) (t u : DTS) : DTS := fun E ρ M => υ ρ M (fun b M1 => if b = true then t E ρ M1 else u E ρ M1) E.ex
@[simp] def dRet (τ : DTE) : DTS := fun E ρ M => τ ρ M E.rt E.ex
@[simp] def dRetN : DTS := fun E _ M => E.rt .non M
@[simp] def dDrop (τ : DTE) : DTS := fun E ρ M => τ ρ M (fun _ M1 => E.nx ρ M1) E.ex
@[simp] def dBrk : DTS := fun E ρ M => E.bk ρ M
@[simp] def dCnt : DTS := fun E ρ M => E.ct ρ M
@[simp] def dNever : DTS := fun _ _ _ => False
abbrev DTG := D → Env → Mem → (Env → Mem → Prop) → DX → Prop
abbrev DTGs := List D → Env → Mem → (Env → Mem → Prop) → DX → Prop
@[simp] def gN (i : Nat) : DTG := fun d ρ M Q _ => Q (ρ.set i (some d)) M
@[simp] def gsNil : DTGs := fun ds ρ M Q _ => ds = [] ∧ Q ρ M
@[simp] def gsCons (γ : DTG) (γs : DTGs) : DTGs := fun ds ρ M Q X => ∃ d r, ds = d :: r ∧ γ d ρ M (fun ρ1 M1 => γs r ρ1 M1 Q X) X
@[simp] def gT (n : Nat) (γs : DTGs) : DTG := fun d ρ M Q X => ∃ ds, (vw M d = .tup ds ∨ vw M d = .lst ds) ∧ ds.length = n ∧ γs ds ρ M Q X
@[simp] def gSubL (τo τi : DTE) : DTG := fun d ρ M Q X => τo ρ M (fun o M1 => τi ρ M1 (fun i M2 => ∃ a xs k j, o = .ref a ∧ M2 a = some (.lst xs) ∧ i = .int k ∧ ixN xs.length k = some j ∧ Q ρ (updM M2 a (.lst (xs.set j d)))) X) X
@[simp] def dAsg (τ : DTE) (γ : DTG) : DTS := fun E ρ M => τ ρ M (fun d M1 => γ d ρ M1 E.nx E.ex) E.ex
@[simp] def dPar (i j : Nat) (α : DTA) : DTS := fun E ρ M => α ρ M (fun ds M1 => ∃ d e, ds = [d, e] ∧ E.nx ((ρ.set i (some d)).set j (some e)) M1) E.ex
@[simp] def dPar3 (i j l : Nat) (α : DTA) : DTS := fun E ρ M => α ρ M (fun ds M1 => ∃ d e f, ds = [d, e, f] ∧ E.nx (((ρ.set i (some d)).set j (some e)).set l (some f)) M1) E.ex
@[simp] def dAug (i : Nat) (f : D → D → Option D) (τ : DTE) : DTS := fun E ρ M => ∃ d, ρ[i]? = some (some d) ∧ τ ρ M (fun e M1 => ∃ z, f d (vw M1 e) = some z ∧ E.nx (ρ.set i (some z)) M1) E.ex
@[simp] def augI : D → D → Option D
  | .int i, .int j => some (.int (i + j))
  | _, _ => none
def dWhile (υ : DTT) (t : DTS) : DTS := fun E ρ M => ∃ Wd : Nat → Env → Mem → Prop, (∃ m, Wd m ρ M) ∧ ∀ m ρ M, Wd m ρ M →
  υ ρ M (fun b M1 => if b = true then ∃ N : Env → Mem → Prop, (∀ ρ' M', N ρ' M' → ∃ m', m' < m ∧ Wd m' ρ' M') ∧ t { E with nx := N, ct := N, bk := E.nx } ρ M1 else E.nx ρ M1) E.ex
def forD (γ : DTG) (t : DTS) : List D → DTS
  | [] => fun E ρ M => E.nx ρ M
  | x :: xs => fun E ρ M => γ x ρ M (fun ρ2 M2 => t { E with nx := forD γ t xs E, ct := forD γ t xs E, bk := E.nx } ρ2 M2) E.ex
abbrev DTI := Env → Mem → (List D → Mem → Prop) → DX → Prop
def dFor (ι : DTI) (γ : DTG) (t : DTS) : DTS := fun E ρ M => ι ρ M (fun xs M1 => forD γ t xs E ρ M1) E.ex
def noX : DX := fun _ _ _ _ _ => False
@[simp] def wipeD (ρ : Env) : List Nat → Env
  | [] => ρ
  | v :: vs => (wipeD ρ vs).set v none
def lcD (γ : DTG) (υ : DTT) (τ : DTE) (vs : List Nat) (a : Addr) : List D → Env → Mem → DV → Prop
  | [] => fun _ M Q => ∃ ds, M a = some (.lst ds) ∧ Q (.lst ds) (delM M a)
  | x :: xs => fun ρ M Q => γ x (wipeD ρ vs) M (fun ρ2 M2 => υ ρ2 M2 (fun b M3 => if b = true then τ ρ2 M3 (fun d M4 => ∃ acc, M4 a = some (.lst acc) ∧ acc.length < sizeLine ∧ lcD γ υ τ vs a xs ρ (updM M4 a (.lst (acc ++ [d]))) Q) noX else lcD γ υ τ vs a xs ρ M3 Q) noX) noX
def dLc (ι : DTI) (γ : DTG) (υ : DTT) (τ : DTE) (vs : List Nat) : DTE := fun ρ M Q X => ι ρ M (fun xs M1 => ∀ a, M1 a = none → lcD γ υ τ vs a xs ρ (updM M1 a (.lst [])) Q) X
@[simp] def dYes : DTT := fun _ M Q _ => Q true M
section
variable {cl : ClW} {X : Cx} {W : WX} {a b e c : Expr} {es : List Expr} {st : Stmt} {sts sts' : List Stmt} {pos : Pos} {τ τa τb τc : DTE} {υ : DTT} {α : DTA} {t u : DTS}
theorem dss_nil : DSs cl X W [] dNext := ⟨pss_imp pss_nil fun D σ H ⟨F, ρ, M, E, g, s, q, ok⟩ => ok.nx σ H F ρ M (Same.refl F) g s q⟩
theorem dss_cons (h1 : DS cl X W st t) (h2 : DSs cl X W sts u) : DSs cl X W (st :: sts) (dSeq t u) := ⟨pss_imp (pss_cons h1.ps h2.pss) fun D σ H ⟨F, ρ, M, E, g, s, q, ok⟩ =>
  ⟨F, ρ, M, { E with nx := u E }, g, s, q, ⟨fun σ' H' F' ρ' M' sm g' s' q' => ⟨F', ρ', M', E, g', s', q', ok.mono sm⟩, ok.rt, ok.bk, ok.ct, ok.ex⟩⟩⟩
theorem dss_one (h1 : DS cl X W st t) : DSs cl X W [st] t := ⟨pss_one h1.ps⟩
theorem ds_break : DS cl X W (.Break pos) dBrk := ⟨ps_imp ps_break fun D σ H ⟨F, ρ, M, E, g, s, q, ok⟩ => ok.bk σ H F ρ M (Same.refl F) g s q⟩
theorem ds_if (h : DT cl X W c υ) (h1 : DSs cl X W sts t) (h2 : DSs cl X W sts' u) : DS cl X W (.If c sts sts' pos) (dIf υ t u) := ⟨ps_imp (ps_if h.pt h1.pss h2.pss) fun D σ H ⟨F, ρ, M, E, g, s, q, ok⟩ =>
  ⟨F, ρ, M, _, E.ex, g, s, q, fun k H' F' M' sm g' q' => by
    cases k with
    | true => rw [if_pos rfl] at q' ⊢; exact ⟨F', ρ, M', E, g', s.mono sm, q', ok.mono sm⟩
    | false => rw [if_neg Bool.false_ne_true] at q' ⊢; exact ⟨F', ρ, M', E, g', s.mono sm, q', ok.mono sm⟩, ok.ex⟩⟩
theorem ds_ret (h : DE cl X W e τ) : DS cl X W (.Return (some e) pos) (dRet τ) := ⟨ps_imp (ps_ret h.pe) fun D σ H ⟨F, ρ, M, E, g, s, q, ok⟩ => ⟨F, ρ, M, _, E.ex, g, s, q, ok.rt, ok.ex⟩⟩
theorem ds_expr (h : DE cl X W e τ) (hs : swapsWith e none pos.line X.env = pure false := by rfl) : DS cl X W (.Expr e pos) (dDrop τ) := ⟨ps_imp (ps_expr h.pe hs) fun D σ H ⟨F, ρ, M, E, g, s, q, ok⟩ =>
  ⟨F, ρ, M, _, E.ex, g, s, q, fun v H' F' d M' sm g' r q' => ok.nx _ _ _ _ _ sm g' (s.mono sm) q', ok.ex⟩⟩
structure DG (cl : ClW) (X : Cx) (W : WX) (tg : Expr) (is : List Nat) (γ : DTG) : Prop where
  pg : PG X tg (fun v σ H Q => ∃ F ρ M d Qd Xd, Good X.K cl F H M ∧ Slots X.K cl F σ ρ ∧ Rep X.K cl F v d ∧ γ d ρ M Qd Xd ∧ (∀ σ' H' F' ρ' M', Same F F' → Good X.K cl F' H' M' → Slots X.K cl F' σ' ρ' → (∀ vs : List Nat, (∀ i ∈ is, i ∈ vs) → wipe σ' vs = wipe σ vs) → Qd ρ' M' → Q σ' H') ∧ WOk X.K cl W F Xd)
structure DGs (cl : ClW) (X : Cx) (W : WX) (tgs : List Expr) (is : List Nat) (γs : DTGs) : Prop where
  pgs : PGs X tgs (fun vs σ H Q => ∃ F ρ M ds Qd Xd, Good X.K cl F H M ∧ Slots X.K cl F σ ρ ∧ Reps X.K cl F vs ds ∧ γs ds ρ M Qd Xd ∧ (∀ σ' H' F' ρ' M', Same F F' → Good X.K cl F' H' M' → Slots X.K cl F' σ' ρ' → (∀ vs : List Nat, (∀ i ∈ is, i ∈ vs) → wipe σ' vs = wipe σ vs) → Qd ρ' M' → Q σ' H') ∧ WOk X.K cl W F Xd)
theorem pg_imp {tg : Expr} {t t' : TG} (h : PG X tg t) (i : ∀ v σ H Q, t' v σ H Q → t v σ H Q) : PG X tg t' := ⟨fun pins s σ H v u Q I r q => h.run pins s σ H v u Q I r (i v σ H Q q)⟩
theorem pgs_imp {tg : List Expr} {t t' : TGs} (h : PGs X tg t) (i : ∀ v σ H Q, t' v σ H Q → t v σ H Q) : PGs X tg t' := ⟨fun pins s σ H v u Q I r q => h.run pins s σ H v u Q I r (i v σ H Q q)⟩
theorem wipe_set {σ : St} {i : Nat} {x : Option V} : ∀ {vs : List Nat}, i ∈ vs → wipe (σ.set i x) vs = wipe σ vs
  | v :: vs, h => by
    unfold wipe
    by_cases e : i ∈ vs
    · rw [wipe_set e]
    · have e2 : i = v := by
        rcases List.mem_cons.mp h with h | h
        · exact h
        · exact absurd h e
      subst e2
      have : ∀ (vs : List Nat), i ∉ vs → wipe (σ.set i x) vs = (wipe σ vs).set i x := by
        intro vs
        induction vs with
        | nil => intro _; rfl
        | cons w ws ih =>
          intro hn
          have h1 : i ≠ w := fun z => hn (z ▸ List.mem_cons_self)
          have h2 : i ∉ ws := fun z => hn (List.mem_cons_of_mem _ z)
          show (wipe (σ.set i x) ws).set w none = ((wipe σ ws).set w none).set i x
          rw [ih h2, List.set_comm _ _ h1]
      rw [this vs e, List.set_set]
theorem dg_name {x : Str} (i : Nat) (hN : X.N.Nodup) (hi : X.N[i]? = some x := by rfl) (hx : Loc X.env.scope x := by first | exact Or.inl rfl | exact Or.inr rfl) (hf : X.fn x = true ∨ X.env.scope.names.lookup x = some .local := by first | exact .inl rfl | exact .inr rfl) : DG cl X W (.Name x pos) [i] (gN i) :=
  ⟨pg_imp (pg_name hN hi hx hf) fun v σ H Q ⟨F, ρ, M, d, Qd, Xd, g, s, r, q, p, w⟩ => p _ _ F _ M (Same.refl F) g (s.set i r) (fun vs h => wipe_set (h i (List.mem_singleton.mpr rfl))) q⟩
theorem dgs_nil : DGs cl X W [] [] gsNil := ⟨pgs_imp pgs_nil fun v σ H Q ⟨F, ρ, M, d, Qd, Xd, g, s, r, ⟨e1, q⟩, p, w⟩ => by
  subst e1
  exact ⟨r.inv0, p _ _ F _ M (Same.refl F) g s (fun _ _ => rfl) q⟩⟩
theorem dgs_cons {tgs : List Expr} {is js : List Nat} {γ : DTG} {γs : DTGs} (h1 : DG cl X W e is γ) (h2 : DGs cl X W tgs js γs) (hs : (assignEach (e :: tgs) X.env).map (·.2) = assign e X.env :: (assignEach tgs X.env).map (·.2) := by rfl) : DGs cl X W (e :: tgs) (is ++ js) (gsCons γ γs) :=
  ⟨pgs_imp (pgs_cons h1.pg h2.pgs hs) fun vs σ H Q ⟨F, ρ, M, ds, Qd, Xd, g, s, r, ⟨d, rest, e1, q⟩, p, w⟩ => by
    subst e1
    obtain ⟨v, ws, rfl, r1, r2⟩ := r.inv
    refine ⟨v, ws, rfl, F, ρ, M, d, _, Xd, g, s, r1, q, fun σ1 H1 F1 ρ1 M1 sm1 g1 s1 w1 q1 => ?_, w⟩
    refine ⟨F1, ρ1, M1, rest, Qd, Xd, g1, s1, r2.mono sm1, q1, fun σ2 H2 F2 ρ2 M2 sm2 g2 s2 w2 q2 => ?_, w.mono sm1⟩
    exact p _ _ _ _ _ (sm1.trans sm2) g2 s2 (fun vs hv => (w2 vs fun i hi => hv i (List.mem_append_right _ hi)).trans (w1 vs fun i hi => hv i (List.mem_append_left _ hi))) q2⟩
def gTL (K : PySem.W.Frag) (n : Nat) (t : TGs) : TG := fun v σ H Q => gTup K n t v σ H Q ∨ gLst K n t v σ H Q
theorem pg_tl {k : Nat} {t : TGs} {n : Nat} (hc : X.calm = true) (h : PGs X es t) (hn : (assignEach es X.env).length = n := by rfl) (hst : (assignEach es X.env).findIdx? (·.1) = none := by rfl) : PG X (.Tuple es k pos) (gTL X.K n t) :=
  ⟨fun pins s σ H v u Q I r q => q.elim (fun q => (pg_tup hc h hn hst).run pins s σ H v u Q I r q) fun q => (pg_lst hc h hn hst).run pins s σ H v u Q I r q⟩
theorem dg_tup {k n : Nat} {is : List Nat} {γs : DTGs} (hc : X.calm = true) (h : DGs cl X W es is γs) (hn : (assignEach es X.env).length = n := by rfl) (hst : (assignEach es X.env).findIdx? (·.1) = none := by rfl) : DG cl X W (.Tuple es k pos) is (gT n γs) :=
  ⟨pg_imp (pg_tl hc h.pgs hn hst) fun v σ H Q ⟨F, ρ, M, d, Qd, Xd, g, s, r, ⟨ds, e1, e2, q⟩, p, w⟩ => by
    have hv := vw_ok g r
    rcases e1 with e1 | e1
    · rw [e1] at hv
      obtain ⟨a, vs, rfl, h1, h2⟩ := hv.tup g.sub
      exact .inl ⟨a, vs, rfl, h1, by rw [h2.length]; exact e2, F, ρ, M, ds, Qd, Xd, g, s, h2, q, p, w⟩
    · rw [e1] at hv
      obtain ⟨a, vs, rfl, h1, h2⟩ := hv.lst g.sub
      exact .inr ⟨a, vs, rfl, h1, by rw [h2.length]; exact e2, F, ρ, M, ds, Qd, Xd, g, s, h2, q, p, w⟩⟩
theorem dg_subL {o i : Expr} {τo τi : DTE} (ho : DE cl X W o τo) (hi : DE cl X W i τi) (ha : ∀ v, assign (.Subscript o i pos) X.env v = (do
      let ov ← holding [v] (eval o X.env)
      let iv ← holding [v, ov] (eval i X.env)
      standAt pos
      holding [v, ov, iv] (setItem ov iv v)
      release [v, ov, iv] []) := by intro _; rfl) : DG cl X W (.Subscript o i pos) [] (gSubL τo τi) :=
  ⟨pg_imp (pg_sub ho.pe hi.pe set_list ha) fun v σ H Q ⟨F, ρ, M, d, Qd, Xd, g, s, r, q, p, w⟩ =>
    ⟨F, ρ, M, _, Xd, g, s, q, fun x H1 F1 od M1 sm1 g1 r1 q1 => ⟨F1, ρ, M1, _, Xd, g1, s.mono sm1, q1, fun y H2 F2 jd M2 sm2 g2 r2 q2 => (by
      obtain ⟨a, xs, k, j, e1, e2, e3, e4, e5⟩ := q2
      subst e1 e3
      obtain rfl := r1.toRef
      obtain rfl := r2.toInt
      obtain ⟨hF, vs, h1, h2⟩ := g2.cell a _ e2
      refine ⟨a, vs, k, j, rfl, rfl, h1, by rw [h2.length]; exact e4, ?_⟩
      exact p _ _ F2 ρ _ (sm1.trans sm2) (g2.put (d := .lst (xs.set j d)) e2 ⟨vs.set j v, upd_same, h2.set (r.mono (sm1.trans sm2)) j⟩) (s.mono (sm1.trans sm2)) (fun _ _ => rfl) e5), w.mono sm1⟩, w⟩⟩
theorem ds_asg {tg : Expr} {is : List Nat} {γ : DTG} (he : DE cl X W e τ) (hg : DG cl X W tg is γ) (hs : swapsWithSole [tg] e pos.line X.env = pure false := by rfl) (hw : swappedStores [tg] e X.env = pure none := by rfl)
    (h1 : (assignEach [tg] X.env).map (·.2) = [assign tg X.env] := by rfl) : DS cl X W (.Assign [tg] e pos) (dAsg τ γ) := ⟨ps_imp (ps_asg he.pe hg.pg hs hw h1) fun D σ H ⟨F, ρ, M, E, g, s, q, ok⟩ =>
  ⟨F, ρ, M, _, E.ex, g, s, q, fun v H' F' d M' sm g' r q' => ⟨F', ρ, M', d, E.nx, E.ex, g', s.mono sm, r, q', fun σ2 H2 F2 ρ2 M2 sm2 g2 s2 _ q2 => ok.nx _ _ _ _ _ (sm.trans sm2) g2 s2 q2, ok.ex.mono sm⟩, ok.ex⟩⟩
theorem ds_set {x : Str} {pos' : Pos} (i : Nat) (hN : X.N.Nodup) (he : DE cl X W e τ) (hi : X.N[i]? = some x := by rfl) (hx : Loc X.env.scope x := by first | exact Or.inl rfl | exact Or.inr rfl) (hs : swapsWith e (some (.Name x pos')) pos.line X.env = pure false := by rfl) (hf : X.fn x = true ∨ X.env.scope.names.lookup x = some .local := by first | exact .inl rfl | exact .inr rfl) :
    DS cl X W (.Assign [.Name x pos'] e pos) (dAsg τ (gN i)) := ⟨ps_imp (ps_set hN hi hx he.pe hs hf) fun D σ H ⟨F, ρ, M, E, g, s, q, ok⟩ =>
  ⟨F, ρ, M, _, E.ex, g, s, q, fun v H' F' d M' sm g' r q' => ok.nx _ _ _ _ _ sm g' ((s.mono sm).set i r) q', ok.ex⟩⟩
theorem ds_par {i j : Nat} {x y : Str} {px py pt : Pos} {kt k2 pt2} (hc : X.calm = true) (hN : X.N.Nodup) (ha : DA cl X W [a, b] α) (hi : X.N[i]? = some x := by rfl) (hj : X.N[j]? = some y := by rfl) (hij : i ≠ j := by decide)
    (hx : X.env.scope.names.lookup x = some .local := by rfl) (hy : X.env.scope.names.lookup y = some .local := by rfl)
    (hw : swappedStores [.Tuple [.Name x px, .Name y py] kt pt] (.Tuple [a, b] k2 pt2) X.env = pure (some [x, y]) := by rfl)
    (hs : swapsWithSole [.Tuple [.Name x px, .Name y py] kt pt] (.Tuple [a, b] k2 pt2) pos.line X.env = pure false := by rfl) :
    DS cl X W (.Assign [.Tuple [.Name x px, .Name y py] kt pt] (.Tuple [a, b] k2 pt2) pos) (dPar i j α) := ⟨ps_imp (ps_par hc hN hi hj hij hx hy ha.pa hw hs) fun D σ H ⟨F, ρ, M, E, g, s, q, ok⟩ =>
  ⟨F, ρ, M, _, E.ex, g, s, q, fun vs H' F' ds M' sm g' r q' => by
    obtain ⟨d, e, e1, q'⟩ := q'
    subst e1
    obtain ⟨v, ws, rfl, r1, r2⟩ := r.inv
    obtain ⟨v2, ws, rfl, r3, r4⟩ := r2.inv
    obtain rfl := r4.inv0
    exact ⟨v, v2, rfl, ok.nx _ _ _ _ _ sm g' (((s.mono sm).set i r1).set j r3) q'⟩, ok.ex⟩⟩
theorem ds_while (hp : PassesOwn (model X.prog X.w) X.A X.env X.xe) (hc : DT cl X W c υ) (hb : DSs cl X W sts t) : DS cl X W (.While c sts [] pos) (dWhile υ t) := ⟨ps_imp (ps_while hp hc.pt hb.pss) fun D σ H ⟨F, ρ, M, E, g, s, ⟨Wd, ⟨m0, w0⟩, turn⟩, ok⟩ => by
  refine ⟨fun m σ H => ∃ F' ρ M, Same F F' ∧ Good X.K cl F' H M ∧ Slots X.K cl F' σ ρ ∧ Wd m ρ M, ⟨m0, F, ρ, M, Same.refl F, g, s, w0⟩, ?_⟩
  rintro m σ1 H1 ⟨F1, ρ1, M1, sm1, g1, s1, w1⟩
  refine ⟨F1, ρ1, M1, _, E.ex, g1, s1, turn m ρ1 M1 w1, fun k H2 F2 M2 sm2 g2 q2 => ?_, ok.ex.mono sm1⟩
  cases k with
  | true =>
    rw [if_pos rfl] at q2 ⊢
    obtain ⟨N, hN, q2⟩ := q2
    refine ⟨fun σ' H' => ∃ F' ρ' M', Same F F' ∧ Good X.K cl F' H' M' ∧ Slots X.K cl F' σ' ρ' ∧ N ρ' M', fun σ' H' ⟨F', ρ', M', sm', g', s', n'⟩ => ?_, ?_⟩
    · obtain ⟨m', hm, w'⟩ := hN ρ' M' n'
      exact ⟨m', hm, F', ρ', M', sm', g', s', w'⟩
    · refine ⟨F2, ρ1, M2, _, g2, s1.mono sm2, q2, ⟨fun σ' H' F' ρ' M' sm' g' s' q' => ⟨F', ρ', M', (sm1.trans sm2).trans sm', g', s', q'⟩, ok.rt.mono (sm1.trans sm2), ok.nx.mono (sm1.trans sm2), fun σ' H' F' ρ' M' sm' g' s' q' => ⟨F', ρ', M', (sm1.trans sm2).trans sm', g', s', q'⟩, ok.ex.mono (sm1.trans sm2)⟩⟩
  | false =>
    rw [if_neg Bool.false_ne_true] at q2 ⊢
    exact ok.nx _ _ _ _ _ (sm1.trans sm2) g2 (s1.mono sm2) q2⟩
def Walks (K : PySem.W.Frag) (cl : ClW) (J : It) (F : Hp) (xs : List D) : Prop := ∀ i F' H' M', Same F F' → Good K cl F' H' M' →
  (∀ d, xs[i]? = some d → J.go i H' ∧ ∀ x H3, J.yld i H' x H3 → ∃ F3, Same F' F3 ∧ Good K cl F3 H3 M' ∧ Rep K cl F3 x d) ∧ (xs.length ≤ i → J.stop i H')
structure DI (cl : ClW) (X : Cx) (W : WX) (tg iter : Expr) (ι : DTI) : Prop where
  pi : PI X tg iter (fun σ H R => ∃ F ρ M Rd Xd, Good X.K cl F H M ∧ Slots X.K cl F σ ρ ∧ ι ρ M Rd Xd ∧ (∀ J H' F' xs M', Same F F' → Good X.K cl F' H' M' → Walks X.K cl J F' xs → Rd xs M' → R J H') ∧ WOk X.K cl W F Xd)
theorem pi_imp {tg it : Expr} {t t' : TI} (h : PI X tg it t) (i : ∀ σ H R, t' σ H R → t σ H R) : PI X tg it t' := ⟨fun pins s σ H R I q => h.run pins s σ H R I (i σ H R q)⟩
@[simp] def iL (τ : DTE) : DTI := fun ρ M R X => τ ρ M (fun d M1 => ∃ xs, d = .lst xs ∧ R xs M1) X
@[simp] def iT (τ : DTE) : DTI := fun ρ M R X => τ ρ M (fun d M1 => ∃ xs, d = .tup xs ∧ R xs M1) X
@[simp] def iR1 (τ : DTE) : DTI := fun ρ M R X => τ ρ M (fun d M1 => ∃ n, d = .int n ∧ -(2 ^ 62) ≤ n ∧ n < 2 ^ 62 ∧ R ((List.range n.toNat).map fun (i : Nat) => D.int (i : Int)) M1) X
@[simp] def iR2 (τ τ' : DTE) : DTI := fun ρ M R X => τ ρ M (fun d M1 => τ' ρ M1 (fun e M2 => ∃ l n, d = .int l ∧ e = .int n ∧ (-(2 ^ 62) ≤ l ∧ l < 2 ^ 62 ∧ -(2 ^ 62) ≤ n ∧ n < 2 ^ 62) ∧ R ((List.range (n - l).toNat).map fun (i : Nat) => D.int (l + (i : Int))) M2) X) X
theorem walks_range {K : PySem.W.Frag} {F : Hp} (l : Int) (n : Nat) : Walks K cl (Itr l n) F ((List.range n).map fun (i : Nat) => D.int (l + (i : Int))) := fun i F2 H2 M2 sm2 g2 => by
  refine ⟨fun d hd => ?_, fun hl => (show n ≤ i by simpa using hl)⟩
  rw [List.getElem?_map] at hd
  cases e : (List.range n)[i]? with
  | none => rw [e] at hd; cases hd
  | some j =>
    obtain ⟨hj, ej⟩ := List.getElem?_eq_some_iff.mp e
    rw [List.getElem_range] at ej
    subst ej
    rw [e] at hd
    cases hd
    refine ⟨(show i < n by simpa using hj), fun x H3 ⟨e1, e2⟩ => ?_⟩
    subst e1 e2
    exact ⟨F2, Same.refl F2, g2, .int _⟩
theorem di_range1 {tg : Expr} {p : Pos} (hg : Gl X "range") (hm : X.mg "range" = none) (ha : DE cl X W a τa) (hs : starEach [a] X.env = [(false, eval a X.env)] := by rfl) : DI cl X W tg (.Call (.Name "range" p) [a] [] pos) (iR1 τa) :=
  ⟨pi_imp (pi_range1 hg hm (da_cons (W := W) (cl := cl) ha da_nil hs).pa hs) fun σ H R ⟨F, ρ, M, Rd, Xd, g, s, q, p, w⟩ =>
    ⟨F, ρ, M, fun ds M1 => ∃ n : Int, ds = [.int n] ∧ -(2 ^ 62) ≤ n ∧ n < 2 ^ 62 ∧ Rd ((List.range n.toNat).map fun (i : Nat) => D.int (i : Int)) M1, Xd, g, s, (by
      unfold iR1 at q
      unfold dCons dNil
      have mono : (fun d M1 => ∃ n, d = D.int n ∧ -(2 ^ 62) ≤ n ∧ n < 2 ^ 62 ∧ Rd ((List.range n.toNat).map fun (i : Nat) => D.int (i : Int)) M1) = (fun d M1 => ∃ n : Int, [d] = [.int n] ∧ -(2 ^ 62) ≤ n ∧ n < 2 ^ 62 ∧ Rd ((List.range n.toNat).map fun (i : Nat) => D.int (i : Int)) M1) := by
        funext d M1
        simp
      rw [mono] at q
      exact q), fun vs H' F' ds M' sm g' r ⟨n, e1, b1, b2, q'⟩ => by
      subst e1
      obtain ⟨v, ws, rfl, r1, r2⟩ := r.inv
      obtain rfl := r2.inv0
      obtain rfl := r1.toInt
      refine ⟨n, rfl, b1, b2, p _ _ F' _ M' sm g' (walks_range 0 n.toNat) ?_⟩
      simpa using q', w⟩⟩
theorem ds_for {tg iter : Expr} {is : List Nat} {ι : DTI} {γ : DTG} (hp : PassesOwn (model X.prog X.w) X.A X.env X.xe) (hc : X.calm = true) (hi : DI cl X W tg iter ι) (hg : DG cl X W tg is γ) (hb : DSs cl X W sts t) (hs : ∀ x, foldedSetIterable iter X.env x = pure x := by intro _; rfl) :
    DS cl X W (.For tg iter sts [] pos) (dFor ι γ t) := ⟨ps_imp (ps_for hp hc hi.pi hg.pg hb.pss hs) fun D σ H ⟨F, ρ, M, E, g, s, q, ok⟩ => by
  refine ⟨F, ρ, M, _, E.ex, g, s, q, fun J H1 F1 xs M1 sm1 g1 wk q1 => ?_, ok.ex⟩
  refine ⟨fun i m σ H => m = xs.length - i ∧ i ≤ xs.length ∧ ∃ F' ρ M, Same F1 F' ∧ Good X.K cl F' H M ∧ Slots X.K cl F' σ ρ ∧ forD γ t (xs.drop i) E ρ M, ⟨xs.length, by simp, Nat.zero_le _, F1, ρ, M1, Same.refl F1, g1, s.mono sm1, by simpa using q1⟩, ?_⟩
  rintro i m σ2 H2 ⟨rfl, hi, F2, ρ2, M2, sm2, g2, s2, q2⟩
  have ok2 := ok.mono (sm1.trans sm2)
  by_cases hlt : i < xs.length
  · obtain ⟨go, yl⟩ := (wk i F2 H2 M2 sm2 g2).1 xs[i] (by simp [hlt])
    rw [List.drop_eq_getElem_cons hlt] at q2
    refine .inr ⟨go, fun σ' H' => ∃ F' ρ' M', Same F1 F' ∧ Good X.K cl F' H' M' ∧ Slots X.K cl F' σ' ρ' ∧ forD γ t (xs.drop (i + 1)) E ρ' M', fun σ' H' n => ⟨xs.length - (i + 1), by omega, rfl, hlt, n⟩, fun x H3 y => ?_⟩
    obtain ⟨F3, sm3, g3, r3⟩ := yl x H3 y
    refine ⟨F3, ρ2, M2, xs[i], _, E.ex, g3, s2.mono sm3, r3, q2, fun σ4 H4 F4 ρ4 M4 sm4 g4 s4 _ q4 => ?_, ok2.ex.mono sm3⟩
    have ok4 := ok2.mono (sm3.trans sm4)
    exact ⟨F4, ρ4, M4, _, g4, s4, q4, ⟨fun σ' H' F' ρ' M' sm' g' s' q' => ⟨F', ρ', M', ((sm2.trans sm3).trans sm4).trans sm', g', s', q'⟩, ok4.rt, ok4.nx, fun σ' H' F' ρ' M' sm' g' s' q' => ⟨F', ρ', M', ((sm2.trans sm3).trans sm4).trans sm', g', s', q'⟩, ok4.ex⟩⟩
  · have e : i = xs.length := by omega
    subst e
    rw [List.drop_length] at q2
    exact .inl ⟨(wk _ F2 H2 M2 sm2 g2).2 (Nat.le_refl _), ok2.nx _ _ F2 ρ2 M2 (Same.refl F2) g2 s2 q2⟩⟩
end
end DL
set_option Elab.async false
set_option linter.all false
set_option maxRecDepth 100000
set_option maxHeartbeats 2000000
namespace DL
open PySem L2
abbrev W0 : WX := fun _ _ _ _ => False
theorem wok0 {K : PySem.W.Frag} {cl : ClW} {F : Hp} : WOk K cl W0 F noX := fun _ _ _ _ _ _ _ _ _ _ _ _ _ h => h
theorem wipe_idem (σ : St) : ∀ vs : List Nat, ∀ ws : List Nat, (∀ v ∈ vs, v ∈ ws) → wipe (wipe σ vs) ws = wipe σ ws
  | [], ws, _ => rfl
  | v :: vs, ws, h => by
    show wipe ((wipe σ vs).set v none) ws = wipe σ ws
    rw [wipe_set (h v List.mem_cons_self), wipe_idem σ vs ws fun x hx => h x (List.mem_cons_of_mem _ hx)]
theorem Slots.wipe {K : PySem.W.Frag} {cl : ClW} {F : Hp} {σ : St} {ρ : Env} (h : Slots K cl F σ ρ) : ∀ vs : List Nat, Slots K cl F (wipe σ vs) (wipeD ρ vs)
  | [] => h
  | v :: vs => (Slots.wipe h vs).setN v
structure DTs (cl : ClW) (X : Cx) (W : WX) (ifs : List Expr) (υ : DTT) : Prop where
  pts : PTs X ifs (lowT X.K cl W υ)
section
variable {cl : ClW} {X : Cx} {W : WX} {c : Expr} {υ : DTT}
theorem dts_nil : DTs cl X W [] dYes := ⟨⟨fun pins s σ H Q I ⟨F, ρ, M, Qd, Xd, g, sl, t, p, w⟩ => pts_nil.run pins s σ H Q I (p true H F M (Same.refl F) g t)⟩⟩
theorem dts_one (h : DT cl X W c υ) : DTs cl X W [c] υ := ⟨pts_one h.pt⟩
end
section
variable {cl : ClW} {X : Cx} {W : WX} {elt tg iter : Expr} {ifs : List Expr} {scope : Scope} {own : List (Str × Nat)} {pos : Pos} {ι : DTI} {is : List Nat} {γ : DTG} {υ : DTT} {τ : DTE}
theorem lc_lift {K : PySem.W.Frag} (his : ∀ i ∈ is, i ∈ own.map (·.2)) {σ : St} {H : Hp} {Q : VK} {F : Hp} {ρ : Env} {M : Mem} {Qd : DV} {Xd : DX} (g : Good K cl F H M) (s : Slots K cl F σ ρ) (q : dLc ι γ υ τ (own.map (·.2)) ρ M Qd Xd) (p : Post K cl F Q Qd) (w : WOk K cl W F Xd) :
    tLc (fun σ H R => ∃ F ρ M Rd Xd, Good K cl F H M ∧ Slots K cl F σ ρ ∧ ι ρ M Rd Xd ∧ (∀ J H' F' xs M', Same F F' → Good K cl F' H' M' → Walks K cl J F' xs → Rd xs M' → R J H') ∧ WOk K cl W F Xd)
      (fun v σ H Q => ∃ F ρ M d Qd Xd, Good K cl F H M ∧ Slots K cl F σ ρ ∧ Rep K cl F v d ∧ γ d ρ M Qd Xd ∧ (∀ σ' H' F' ρ' M', Same F F' → Good K cl F' H' M' → Slots K cl F' σ' ρ' → (∀ vs : List Nat, (∀ i ∈ is, i ∈ vs) → wipe σ' vs = wipe σ vs) → Qd ρ' M' → Q σ' H') ∧ WOk K cl W0 F Xd)
      (lowT K cl W0 υ) (lowE K cl W0 τ) (own.map (·.2)) σ H Q := by
  refine ⟨F, ρ, M, _, Xd, g, s, q, fun J H1 F1 xs M1 sm1 g1 wk q1 a hD => ?_, w⟩
  refine ⟨fun i m H => m = xs.length - i ∧ i ≤ xs.length ∧ ∃ F' M, Same F1 F' ∧ Good K cl F' H M ∧ lcD γ υ τ (own.map (·.2)) a (xs.drop i) ρ M Qd,
    ⟨xs.length, by simp, Nat.zero_le _, F1, updM M1 a (.lst []), Same.refl F1, g1.newM (d := .lst []) hD ⟨[], upd_same, .nil⟩, by simpa using q1 a (g1.freshM hD)⟩, ?_⟩
  rintro i m H2 ⟨rfl, hi, F2, M2, sm2, g2, q2⟩
  by_cases hlt : i < xs.length
  · obtain ⟨go, yl⟩ := (wk i F2 H2 M2 sm2 g2).1 xs[i] (by simp [hlt])
    rw [List.drop_eq_getElem_cons hlt] at q2
    unfold lcD at q2
    refine .inr ⟨go, fun H' => ∃ F' M', Same F1 F' ∧ Good K cl F' H' M' ∧ lcD γ υ τ (own.map (·.2)) a (xs.drop (i + 1)) ρ M' Qd, fun H' n => ⟨xs.length - (i + 1), by omega, rfl, hlt, n⟩, fun x H3 y => ?_⟩
    obtain ⟨F3, sm3, g3, r3⟩ := yl x H3 y
    refine ⟨F3, wipeD ρ (own.map (·.2)), M2, xs[i], _, noX, g3, (s.mono ((sm1.trans sm2).trans sm3)).wipe _, r3, q2, fun σ4 H4 F4 ρ4 M4 sm4 g4 s4 w4 q4 => ⟨?_, ?_⟩, wok0⟩
    · rw [w4 _ his]
      exact wipe_idem _ _ _ fun _ h => h
    · refine ⟨F4, ρ4, M4, _, noX, g4, s4, q4, fun k H5 F5 M5 sm5 g5 q5 => ?_, wok0⟩
      cases k with
      | true =>
        rw [if_pos rfl] at q5 ⊢
        refine ⟨F5, ρ4, M5, _, noX, g5, s4.mono sm5, q5, fun y2 H6 F6 d M6 sm6 g6 r6 q6 => ?_, wok0⟩
        obtain ⟨acc, e1, e2, q6⟩ := q6
        obtain ⟨hF, vs, h1, h2⟩ := g6.cell a _ e1
        refine ⟨vs, h1, by rw [h2.length]; exact e2, F6, _, (((sm2.trans sm3).trans sm4).trans sm5).trans sm6, g6.put (d := .lst (acc ++ [d])) e1 ⟨vs ++ [y2], upd_same, h2.append (.one r6)⟩, q6⟩
      | false =>
        rw [if_neg Bool.false_ne_true] at q5 ⊢
        exact ⟨F5, M5, ((sm2.trans sm3).trans sm4).trans sm5, g5, q5⟩
  · have e : i = xs.length := by omega
    subst e
    rw [List.drop_length] at q2
    obtain ⟨ds, e1, q2⟩ := q2
    obtain ⟨F3, sm3, g3, r3⟩ := g2.freeze e1
    exact .inl ⟨(wk _ F2 H2 M2 sm2 g2).2 (Nat.le_refl _), p _ _ _ _ _ ((sm1.trans sm2).trans sm3) g3 r3 q2⟩
theorem d_lc (hc : X.calm = true) (hN : X.N.Nodup) (hi : DI cl X W tg iter ι) (ok : BlkOk X.N X.env.scope scope own)
    (hg : ∀ (s : Shared) (H : Hp) (C : Addr) (cs : List (Str × Addr)) (fp : List Addr), DG cl (X.blk s H scope (compEnvC scope cs C X.env) fp) W0 tg is γ) (ht : ∀ (s : Shared) (H : Hp) (C : Addr) (cs : List (Str × Addr)) (fp : List Addr), DTs cl (X.blk s H scope (compEnvC scope cs C X.env) fp) W0 ifs υ)
    (he : ∀ (s : Shared) (H : Hp) (C : Addr) (cs : List (Str × Addr)) (fp : List Addr), DE cl (X.blk s H scope (compEnvC scope cs C X.env) fp) W0 elt τ) (his : ∀ i ∈ is, i ∈ own.map (·.2) := by decide) (hs : ∀ x, foldedSetIterable iter X.env x = pure x := by intro _; rfl) :
    DE cl X W (.ListComp elt [⟨tg, iter, ifs, 0⟩] scope pos) (dLc ι γ υ τ (own.map (·.2))) :=
  ⟨pe_imp (pe_lc hc hN hi.pi ok (fun s H C cs fp => (hg s H C cs fp).pg) (fun s H C cs fp => (ht s H C cs fp).pts) (fun s H C cs fp => (he s H C cs fp).pe) hs) fun σ H Q ⟨F, ρ, M, Qd, Xd, g, s, q, p, w⟩ => lc_lift his g s q p w⟩
theorem ds_setLc {y : Str} {py spos : Pos} (i : Nat) (hc : X.calm = true) (hN : X.N.Nodup) (hi : DI cl X W tg iter ι) (ok : BlkOk X.N X.env.scope scope own)
    (hg : ∀ (s : Shared) (H : Hp) (C : Addr) (cs : List (Str × Addr)) (fp : List Addr), DG cl (X.blk s H scope (compEnvC scope cs C X.env) fp) W0 tg is γ) (ht : ∀ (s : Shared) (H : Hp) (C : Addr) (cs : List (Str × Addr)) (fp : List Addr), DTs cl (X.blk s H scope (compEnvC scope cs C X.env) fp) W0 ifs υ)
    (he : ∀ (s : Shared) (H : Hp) (C : Addr) (cs : List (Str × Addr)) (fp : List Addr), DE cl (X.blk s H scope (compEnvC scope cs C X.env) fp) W0 elt τ) (hy : X.N[i]? = some y := by rfl) (hyl : X.env.scope.names.lookup y = some .local := by rfl)
    (hsw : swapsWith (.ListComp elt [⟨tg, iter, ifs, 0⟩] scope pos) (some (.Name y py)) spos.line X.env = pure true := by exact sw_true rfl rfl rfl (by decide +kernel)) (his : ∀ i ∈ is, i ∈ own.map (·.2) := by decide) (hs : ∀ x, foldedSetIterable iter X.env x = pure x := by intro _; rfl) :
    DS cl X W (.Assign [.Name y py] (.ListComp elt [⟨tg, iter, ifs, 0⟩] scope pos) spos) (dAsg (dLc ι γ υ τ (own.map (·.2))) (gN i)) :=
  ⟨ps_imp (ps_setLc hc hN hy hyl hsw hi.pi ok (fun s H C cs fp => (hg s H C cs fp).pg) (fun s H C cs fp => (ht s H C cs fp).pts) (fun s H C cs fp => (he s H C cs fp).pe) hs) fun D σ H ⟨F, ρ, M, E, g, s, q, ok⟩ =>
    lc_lift his g s q (fun v H' F' d M' sm g' r q' => ok.nx _ _ _ _ _ sm g' ((s.mono sm).set i r) q') ok.ex⟩
end
structure RoomG (k : Nat) (A : Around) : Prop where
  room : Room k A
  gd : A.guards = some []
theorem RoomG.mono {j k : Nat} {A : Around} (r : RoomG k A) (h : j ≤ k) : RoomG j A := ⟨r.room.mono h, r.gd⟩
theorem RoomG.deeper {k : Nat} {A : Around} (r : RoomG (k + 1) A) (env : PySem.Env) : RoomG k (A.deeper env) := ⟨r.room.deeper env, r.gd⟩
theorem RoomG.in1 {k : Nat} {A : Around} (r : RoomG (k + 1) A) : RoomG k A.in1 := ⟨r.room.in1, r.gd⟩
structure FnG (cl : ClW) (P : Program) (w : World) (K : PySem.W.Frag) (mg : Str → Option Value) (base : Heap) (k : Nat) (f : Addr) (fd : FuncData) (ps : List Str) (spd : SpD) : Prop where
  len : ∀ ds M Q E, spd ds M Q E → ds.length = ps.length
  run : ∀ (A : Around) (outer : List PySem.Env) (s : Shared) (H : Hp) (args : Args) (us : List Value) (vs : List V) (Q : VK) (E : XK), RoomG k A → Env0 P w K mg base A outer s H → BindsTo s fd args (ps.zip us) → Vals vs us → lower K cl spd vs H Q E →
    codeAny (model P w) A (.call (.ref f) args) (CR (L2.CX P w) outer P w H s Q E) s
theorem FnG.mono {cl : ClW} {P : Program} {w : World} {K : PySem.W.Frag} {mg : Str → Option Value} {base : Heap} {j k : Nat} {f : Addr} {fd : FuncData} {ps : List Str} {spd : SpD} (F : FnG cl P w K mg base j f fd ps spd) (h : j ≤ k) : FnG cl P w K mg base k f fd ps spd :=
  ⟨F.len, fun A outer s H args us vs Q E hr => F.run A outer s H args us vs Q E (hr.mono h)⟩
theorem FnG.lenV {cl : ClW} {P : Program} {w : World} {K : PySem.W.Frag} {mg : Str → Option Value} {base : Heap} {k : Nat} {f : Addr} {fd : FuncData} {ps : List Str} {spd : SpD} (F : FnG cl P w K mg base k f fd ps spd) {vs : List V} {H : Hp} {Q : VK} {E : XK} (h : lower K cl spd vs H Q E) : vs.length = ps.length := by
  obtain ⟨_, M, ds, Qd, Ed, _, r, q, _⟩ := h
  rw [r.length]
  exact F.len ds M Qd Ed q
structure Cap (X : Cx) (W : WX) (k : Nat) : Prop where
  tk : Takes X W
  hr : RoomG k X.A
  po : PassesOwn (model X.prog X.w) X.A X.env X.xe
  calm : X.calm = true
theorem Cap.blk {X : Cx} {W : WX} {k : Nat} (c : Cap X W k) {s : Shared} {H : Hp} {scope : Scope} {cenv : PySem.Env} {fp : List Addr} : Cap (X.blk s H scope cenv fp) W0 k := ⟨takes0, c.hr, PassesOwn.never, c.calm⟩
@[simp] def startD (N : List Str) (ds : List D) : Env := ds.map some ++ List.replicate (N.length - ds.length) none
theorem slots_start {K : PySem.W.Frag} {cl : ClW} {F : Hp} {vs : List V} {ds : List D} (N : List Str) (r : Reps K cl F vs ds) : Slots K cl F (L2.start N vs) (startD N ds) := by
  have hl := r.length
  refine ⟨by simp [L2.start, startD, hl], fun i d h => ?_⟩
  unfold startD at h
  unfold L2.start
  by_cases hi : i < ds.length
  · rw [List.getElem?_append_left (by simpa using hi)] at h
    rw [List.getElem?_append_left (by simp [hl]; exact hi)]
    rw [List.getElem?_map] at h
    cases e : ds[i]? with
    | none => rw [e] at h; cases h
    | some x =>
      rw [e] at h
      cases h
      obtain ⟨v, hv, rv⟩ := r.get e
      exact ⟨v, by rw [List.getElem?_map, hv]; rfl, rv⟩
  · rw [List.getElem?_append_right (by simpa using Nat.le_of_not_lt hi)] at h
    rw [List.getElem?_replicate] at h
    split at h <;> cases h
@[simp] def dEnds (Q : DV) (E : DEK) : DEnds := { nx := fun _ M => Q .non M, rt := Q, bk := fun _ _ => False, ct := fun _ _ => False, ex := fun c ns ds _ M => E c ns ds M }
theorem fn_d {cl : ClW} {P : Program} {w : World} {K : PySem.W.Frag} {mg : Str → Option Value} {base : Heap} {k : Nat} {f : Addr} {x qual : Str} {params : Arguments} {body : List Stmt} {scope : Scope} {dvs : List V} {kws : List (Str × V)} {fd : FuncData} {N ps : List Str} {spd : SpD}
    (F : FunD K x qual params body scope dvs kws f fd) (S : FnScope N ps scope) (t : DTS)
    (hbody : ∀ (cdv : Value) (A : Around) (outer : List PySem.Env) (s : Shared) (H : Hp) (E : XK), Cap (cxOf (L2.CX P w) P w K mg base N qual scope f cdv A outer s H E) (fun cls d _ H => E cls d H) k →
      DSs cl (cxOf (L2.CX P w) P w K mg base N qual scope f cdv A outer s H E) (fun cls d _ H => E cls d H) body t)
    (hsp : ∀ ds M Q E, spd ds M Q E → ds.length = ps.length ∧ t (dEnds Q E) (startD N ds) M) : FnG cl P w K mg base (k + 1) f fd ps spd := by
  refine ⟨fun ds M Q E h => (hsp ds M Q E h).1, fun A outer s H args us vs Q E hr e0 hb r hl => ?_⟩
  obtain ⟨oc, od, dV, kV, doc, pm, an, cdv, ct, osl, rfl, lk, hcd, _, _⟩ := F.ex
  have lenV : ∀ vs H Q E, lower K cl spd vs H Q E → vs.length = ps.length := fun vs H Q E ⟨_, M, ds, Qd, Ed, _, r, q, _⟩ => by
    rw [r.length]
    exact (hsp ds M Qd Ed q).1
  have hr' := hr.deeper (PyProof.Rows.envOfC qual scope s.heap.objs.size f cdv)
  have KX : K.In s.heap := e0.mod.kin.keeps fun b o e => (e0.bs b o e).1
  have lim : s.heap.NoLimit := e0.mod.nolimit.keeps fun b o e => (e0.bs b o e).1
  have hkind : ∀ y ∈ ps.zip us, scope.names.lookup y.1 = some .local ∨ (scope.names.lookup y.1 = some .cell ∧ ((cellsFrom (s.heap.objs.size + 1) scope.names []).lookup y.1).isSome = true) := fun ⟨n, v⟩ hy => by
    rcases S.par n (List.of_mem_zip hy).1 with q | q
    · exact .inl q
    · exact .inr ⟨q, PySem.W.cellsFrom_some _ _ _ (.inl q)⟩
  refine codeAny_call_function hr.room.depth (KX _ _ lk) rfl S.co S.gen rfl (PySem.W.codeRec_of KX hcd) (hb _ _ _ _ ?_)
  refine wpAny_newFunctionEnv_cells S.kind hkind fun env he s1 x => ?_
  subst he
  refine ⟨lim.keeps x.toInCall.keep, codeAny_func ?_⟩
  have ht := hbody cdv A outer s H E ⟨takes_of rfl rfl rfl rfl, hr', passes_of rfl, rfl⟩
  have I : Inv (cxOf (L2.CX P w) P w K mg base N qual scope f cdv A outer s H E) [] (L2.start N vs) H s1 := inv_start S hr.room.hd e0 (lenV _ _ _ _ hl) r x
  obtain ⟨F0, M0, ds0, Qd, Ed, g0, r0, q0, p0, ep0⟩ := hl
  have hq : lowS K cl (fun cls d _ H => E cls d H) t { nx := fun _ H' => Q .non H', rt := Q } (L2.start N vs) H :=
    ⟨F0, startD N ds0, M0, dEnds Qd Ed, g0, slots_start N r0, (hsp ds0 M0 Qd Ed q0).2,
      ⟨fun σ' H' F' ρ' M' sm g' s' q' => p0 _ _ _ _ _ sm g' .non q', p0, fun _ _ _ _ _ _ _ _ q' => q', fun _ _ _ _ _ _ _ _ q' => q', fun c ns ds σ' H' F' ρ' M' dd sm g' s' ea q' => ep0 _ _ _ _ _ _ _ sm g' ea q'⟩⟩
  refine wpAny_mono (ht.pss.run [] s1 (L2.start N vs) H _ I hq) (fun fl s' hs => ?_) fun e s' hs => hs
  have fin : ∀ {σ' : St} {H' : Hp} {v : V} {u : Value}, Inv (cxOf (L2.CX P w) P w K mg base N qual scope f cdv A outer s H E) [] σ' H' s' → RelV v u → Q v H' → CE outer P w H s Q u s' :=
    fun {σ' H' v u} J rv q => ⟨v, H', J.os, J.bare, J.base, J.hok, rv, q⟩
  cases fl with
  | ret u =>
    obtain ⟨v, σ', H', J, rv, q⟩ := hs
    exact fin J rv q
  | next =>
    obtain ⟨σ', H', J, q⟩ := hs
    exact fin (v := V.non) (u := Value.none) J rfl q
  | brk =>
    obtain ⟨_, _, _, q⟩ := hs
    exact False.elim q
  | cont =>
    obtain ⟨_, _, _, q⟩ := hs
    exact False.elim q
@[simp] def dCall (spd : SpD) (dds : List D) (α : DTA) : DTE := fun ρ M Q X => α ρ M (fun ds M1 => spd (ds ++ dds) M1 Q (fun c ns es M2 => X c ns es ρ M2)) X
section
variable {cl : ClW} {X : Cx} {W : WX} {k : Nat} {f C : Addr} {fd : FuncData} {ps : List Str} {spd : SpD} {dvs : List V} {ds : List Value} {dds : List D} {x m : Str} {p pos apos : Pos} {e o : Expr} {es : List Expr} {τ : DTE} {α : DTA}
theorem run_g {pins : List (Addr × Obj)} {σ : St} {H : Hp} {s : Shared} {Q : VK} {us : List Value} {vs : List V} (c : Cap X W k) (F : FnG cl X.prog X.w X.K X.mg X.base k f fd ps spd) (hb : Binds X.K fd ps ds) (hd : Vals dvs ds)
    (I : Inv X pins σ H s) (r : Vals vs us) (h : lower X.K cl spd (vs ++ dvs) H Q (WE W σ)) : wpAny (model X.prog X.w) X.A (call (.ref f) us) (EP X pins σ Q) X.xe s := by
  have r2 : Vals (vs ++ dvs) (us ++ ds) := r.append hd
  have hl : (us ++ ds).length = ps.length := by rw [← r2.length]; exact F.lenV h
  refine wpAny_call (codeAny_mono (F.run X.A X.stack s H ⟨us, []⟩ (us ++ ds) (vs ++ dvs) Q _ c.hr I.env0 (hb s us I.kIn hl) r2 h) fun r s' hq => ?_)
  cases r with
  | error e => exact passAt c.tk σ pins H s e s' I hq
  | ok fl =>
    cases fl with
    | ret u => exact I.after hq
    | next => exact False.elim hq
    | brk => exact False.elim hq
    | cont => exact False.elim hq
theorem low_call {σ : St} {F : Hp} {ρ : Env} {M : Mem} {Qd : DV} {Xd : DX} {vs : List V} {es : List D} {H : Hp} {Q : VK} {K : PySem.W.Frag} (g : Good K cl F H M) (s : Slots K cl F σ ρ) (r : Reps K cl F vs es) (q : spd es M Qd (fun c ns es M2 => Xd c ns es ρ M2)) (p : Post K cl F Q Qd) (w : WOk K cl W F Xd) : lower K cl spd vs H Q (WE W σ) :=
  ⟨F, M, es, Qd, _, g, r, q, p, fun c ns ds H' F' M' dd sm g' ea q' => w c ns ds σ H' F' ρ M' dd sm g' (s.mono sm) ea q'⟩
theorem d_call (c : Cap X W k) (G : FnG cl X.prog X.w X.K X.mg X.base k f fd ps spd) (hg : Gl X x) (hm : X.mg x = some (.ref f)) (hk : PySem.W.keepIn X.K (.ref f) = true) (hb : Binds X.K fd ps ds) (hd : Vals dvs ds) (hdd : ∀ F, Reps X.K cl F dvs dds)
    (ha : DA cl X W (e :: es) α) (hdb : (x == ("__debug__" : Str)) = false := by decide) (he : starEach (e :: es) X.env = (false, eval e X.env) :: starEach es X.env := by rfl) (hpl : (backTo pos (starEach es X.env)).any (·.1) = false := by rfl) :
    DE cl X W (.Call (.Name x p) (e :: es) [] pos) (dCall spd dds α) := ⟨⟨fun pins s σ H Q I h => by
  obtain ⟨F, ρ, M, Qd, Xd, g, sl, q, p, w⟩ := h
  refine wpAny_Call_Name_kw (ld_glob I hg hm ?_ hdb)
  refine PySem.W.callWith_K (h₀ := X.base) I.ok.mod.kin hk (thn (ha.pa.run pos pins s σ H (fun vs H1 => lower X.K cl spd (vs ++ dvs) H1 Q (WE W σ)) I ⟨F, ρ, M, _, Xd, g, sl, q, fun vs H' F' ds M' sm g' r q' => ?_, w⟩) fun us s1 ⟨vs, H1, I1, r, q⟩ => ⟨I1.kIn, ?_⟩) he hpl
  · exact low_call g' (sl.mono sm) (r.append (hdd F')) q' (p.mono sm) (w.mono sm)
  · exact run_g c G hb hd I1 r q⟩⟩
end
end DL
set_option Elab.async false
set_option linter.all false
set_option maxRecDepth 100000
set_option maxHeartbeats 2000000
namespace DL
open PySem L2
mutual
def toPy : D → Option PyData
  | .non => some .none
  | .bl b => some (.bool b)
  | .int i => some (.int i)
  | .str x => some (.str x)
  | .lst xs => (toPys xs).map .list
  | .tup xs => (toPys xs).map .tuple
  | _ => none
def toPys : List D → Option (List PyData)
  | [] => some []
  | x :: xs => match toPy x, toPys xs with
    | some p, some ps => some (p :: ps)
    | _, _ => none
end
section
variable {K : PySem.W.Frag} {cl : ClW} {F H : Hp}
mutual
theorem dp_of (s : Same F H) : ∀ (d : D) (v : V) (p : PyData), Rep K cl F v d → toPy d = some p → Dp K H v p
  | .non, v, p, r, e => by simp only [toPy] at e; cases e; rw [r.toNon]; exact .non
  | .bl b, v, p, r, e => by simp only [toPy] at e; cases e; rw [r.toBl]; exact .bl b
  | .int i, v, p, r, e => by simp only [toPy] at e; cases e; rw [r.toInt]; exact .int i
  | .str x, v, p, r, e => by simp only [toPy] at e; cases e; rw [r.toStr]; exact .str x
  | .lst xs, v, p, r, e => by
    simp only [toPy] at e
    obtain ⟨a, vs, rfl, h1, h2⟩ := r.toLst
    cases q : toPys xs with
    | none => rw [q] at e; cases e
    | some ps => rw [q] at e; cases e; exact .lst (same_l s h1) (dps_of s xs vs ps h2 q)
  | .tup xs, v, p, r, e => by
    simp only [toPy] at e
    obtain ⟨a, vs, rfl, h1, h2⟩ := r.toTup
    cases q : toPys xs with
    | none => rw [q] at e; cases e
    | some ps => rw [q] at e; cases e; exact .tup (same_t s h1) (dps_of s xs vs ps h2 q)
  | .byt _, v, p, r, e => by simp only [toPy] at e; cases e
  | .ty _, v, p, r, e => by simp only [toPy] at e; cases e
  | .ref _, v, p, r, e => by simp only [toPy] at e; cases e
  | .dK _ _, v, p, r, e => by simp only [toPy] at e; cases e
  | .dT _ _ _, v, p, r, e => by simp only [toPy] at e; cases e
  | .obj _ _ _, v, p, r, e => by simp only [toPy] at e; cases e
  | .cls _, v, p, r, e => by simp only [toPy] at e; cases e
theorem dps_of (s : Same F H) : ∀ (ds : List D) (vs : List V) (ps : List PyData), Reps K cl F vs ds → toPys ds = some ps → DpAll K H vs ps
  | [], vs, ps, r, e => by simp only [toPys] at e; cases e; rw [r.inv0]; exact .nil
  | d :: ds, vs, ps, r, e => by
    obtain ⟨v, ws, rfl, r1, r2⟩ := r.inv
    simp only [toPys] at e
    cases q1 : toPy d with
    | none => rw [q1] at e; cases e
    | some p =>
      cases q2 : toPys ds with
      | none => rw [q1, q2] at e; cases e
      | some qs => rw [q1, q2] at e; cases e; exact .cons (dp_of s d v p r1 q1) (dps_of s ds ws qs r2 q2)
end
theorem dp_vw (s : Same F H) {v : V} {d : D} {p : PyData} (h : Vw K cl F H v d) (e : toPy d = some p) : Dp K H v p := by
  rcases h with h | ⟨a, rfl, h⟩
  · exact dp_of s d v p h e
  · cases d with
    | lst ds =>
      obtain ⟨vs, h1, h2⟩ := h
      simp only [toPy] at e
      cases q : toPys ds with
      | none => rw [q] at e; cases e
      | some ps => rw [q] at e; cases e; exact .lst (SqL.of h1) (dps_of s ds vs ps h2 q)
    | dK _ _ => simp only [toPy] at e; cases e
    | dT _ _ _ => simp only [toPy] at e; cases e
    | obj _ _ _ => simp only [toPy] at e; cases e
    | dN _ _ _ => simp only [toPy] at e; cases e
    | _ => exact h.elim
end
def eqP (d e : D) : Option Bool := match toPy d, toPy e with
  | some p, some q => if SeqAt.shaped p && SeqAt.shaped q then some (PyData.eqv p q) else none
  | _, _ => none
def eqB : D → D → Option Bool
  | .int i, .int j => some (i == j)
  | .str x, .str y => some (x == y)
  | .bl x, .bl y => some (x == y)
  | .byt x, .byt y => some (x == y)
  | .non, .non => some true
  | .non, .int _ => some false
  | .non, .str _ => some false
  | .int _, .non => some false
  | .str _, .non => some false
  | .int _, .str _ => some false
  | .str _, .int _ => some false
  | d, e => eqP d e
def eqD (d e : D) : Option D := (eqB d e).map D.bl
def neD (d e : D) : Option D := (eqB d e).map fun b => D.bl !b
section
variable {K : PySem.W.Frag} {cl : ClW} {X : Cx}
theorem eqP_inv {d e : D} {b : Bool} (h : eqP d e = some b) : ∃ p q, toPy d = some p ∧ toPy e = some q ∧ SeqAt.shaped p = true ∧ SeqAt.shaped q = true ∧ b = PyData.eqv p q := by
  unfold eqP at h
  cases e1 : toPy d with
  | none => rw [e1] at h; cases h
  | some p =>
    cases e2 : toPy e with
    | none => rw [e1, e2] at h; cases h
    | some q =>
      rw [e1, e2] at h
      simp only at h
      split at h
      · rename_i hs
        cases h
        obtain ⟨h1, h2⟩ := Bool.and_eq_true_iff.mp hs
        exact ⟨p, q, rfl, rfl, h1, h2, rfl⟩
      · cases h
def rEqA (K : PySem.W.Frag) : R2 := fun x y H Q => rEq x y H Q ∨ rEqD K x y H Q
def rNeA (K : PySem.W.Frag) : R2 := fun x y H Q => rNe x y H Q ∨ rNeD K x y H Q
theorem op_eqA (hu : X.A.units + 64 < cLine) : OpR X (compareOp .Eq) (rEqA X.K) := op_eq.or (op_eqD hu)
theorem op_neA (hu : X.A.units + 64 < cLine) : OpR X (compareOp .NotEq) (rNeA X.K) := op_ne.or (op_neD hu)
theorem eqB_at {F H : Hp} (s : Same F H) {x y : V} {d e : D} {b : Bool} (hx : Vw K cl F H x d) (hy : Vw K cl F H y e) (h : eqB d e = some b) :
    (scal x y = true ∧ decide (x = y) = b) ∨ ∃ p q, Dp K H x p ∧ Dp K H y q ∧ SeqAt.shaped p = true ∧ SeqAt.shaped q = true ∧ b = PyData.eqv p q := by
  unfold eqB at h
  split at h
  · cases h; rw [hx.int, hy.int]; exact .inl ⟨rfl, dec_int⟩
  · cases h; rw [hx.str, hy.str]; exact .inl ⟨rfl, dec_str⟩
  · cases h; rw [hx.bl, hy.bl]; exact .inl ⟨rfl, dec_bl⟩
  · cases h
    rw [hx.byt, hy.byt]
    refine .inl ⟨rfl, ?_⟩
    rename_i x1 y1
    by_cases e : x1 = y1
    · subst e; simp
    · rw [decide_eq_false (fun z => e (V.byt.inj z))]
      exact (beq_eq_false_iff_ne.mpr e).symm
  · cases h; rw [hx.non, hy.non]; exact .inl ⟨rfl, rfl⟩
  · cases h; rw [hx.non, hy.int]; exact .inl ⟨rfl, rfl⟩
  · cases h; rw [hx.non, hy.str]; exact .inl ⟨rfl, rfl⟩
  · cases h; rw [hx.int, hy.non]; exact .inl ⟨rfl, rfl⟩
  · cases h; rw [hx.str, hy.non]; exact .inl ⟨rfl, rfl⟩
  · cases h; rw [hx.int, hy.str]; exact .inl ⟨rfl, rfl⟩
  · cases h; rw [hx.str, hy.int]; exact .inl ⟨rfl, rfl⟩
  · obtain ⟨p, q, h1, h2, h3, h4, h5⟩ := eqP_inv h
    exact .inr ⟨p, q, dp_vw s hx h1, dp_vw s hy h2, h3, h4, h5⟩
theorem lop_eq : LOp K cl (rEqA K) eqD := by
  intro F H M x y d e z Q Qd g hx hy h p q
  unfold eqD at h
  cases e1 : eqB d e with
  | none => rw [e1] at h; cases h
  | some b =>
    rw [e1] at h
    cases h
    rcases eqB_at g.sub hx hy e1 with ⟨h1, h2⟩ | ⟨pd, pe, h1, h2, h3, h4, rfl⟩
    · exact .inl ⟨h1, by rw [h2]; exact p.val g (.bl _) q⟩
    · exact .inr ⟨pd, pe, h1, h2, h3, h4, p.val g (.bl _) q⟩
theorem lop_ne : LOp K cl (rNeA K) neD := by
  intro F H M x y d e z Q Qd g hx hy h p q
  unfold neD at h
  cases e1 : eqB d e with
  | none => rw [e1] at h; cases h
  | some b =>
    rw [e1] at h
    cases h
    rcases eqB_at g.sub hx hy e1 with ⟨h1, h2⟩ | ⟨pd, pe, h1, h2, h3, h4, rfl⟩
    · exact .inl ⟨h1, by rw [h2]; exact p.val g (.bl _) q⟩
    · exact .inr ⟨pd, pe, h1, h2, h3, h4, p.val g (.bl _) q⟩
def absF : List D → Option D
  | [.int i] => some (.int (if i < 0 then -i else i))
  | _ => none
def intF : List D → Option D
  | [.int i] => some (.int i)
  | [.bl b] => some (.int (if b then 1 else 0))
  | _ => none
def lenF : List D → Option D
  | [.lst xs] => some (.int xs.length)
  | [.tup xs] => some (.int xs.length)
  | [.str x] => if x.length ≤ sizeLine then some (.int x.length) else none
  | [.byt x] => if x.size ≤ sizeLine then some (.int x.size) else none
  | _ => none
def intsOf : List D → Option (List Int)
  | [] => some []
  | .int i :: r => (intsOf r).map (i :: ·)
  | _ :: _ => none
theorem intsOf_eq : ∀ {ds : List D} {ns : List Int}, intsOf ds = some ns → ds = ns.map D.int
  | [], ns, h => by simp only [intsOf] at h; cases h; rfl
  | d :: ds, ns, h => by
    cases d with
    | int i =>
      simp only [intsOf] at h
      cases e : intsOf ds with
      | none => rw [e] at h; cases h
      | some ms => rw [e] at h; cases h; rw [intsOf_eq e]; rfl
    | _ => simp only [intsOf] at h; cases h
theorem intsOf_map (ns : List Int) : intsOf (ns.map D.int) = some ns := by
  induction ns with
  | nil => rfl
  | cons n ns ih => simp only [List.map_cons, intsOf, ih]; rfl
def minF : List D → Option D
  | [.lst xs] => (intsOf xs).bind fun ns => ns.min?.map D.int
  | [.int i, .int j] => some (.int (if j < i then j else i))
  | _ => none
def maxF : List D → Option D
  | [.lst xs] => (intsOf xs).bind fun ns => ns.max?.map D.int
  | [.int i, .int j] => some (.int (if j > i then j else i))
  | _ => none
theorem reps1 {F : Hp} {M : Mem} {H : Hp} (g : Good K cl F H M) {xs : List V} {ds : List D} {d : D} (r : Reps K cl F xs ds) (e : ds.map (vw M) = [d]) : ∃ x, xs = [x] ∧ Vw K cl F H x d := by
  cases ds with
  | nil => cases e
  | cons a t =>
    cases t with
    | nil =>
      obtain ⟨x, ws, rfl, r1, r2⟩ := r.inv
      obtain rfl := r2.inv0
      simp only [List.map_cons, List.map_nil, List.cons.injEq, and_true] at e
      exact ⟨x, rfl, e ▸ vw_ok g r1⟩
    | cons b t => simp at e
theorem reps2 {F : Hp} {M : Mem} {H : Hp} (g : Good K cl F H M) {xs : List V} {ds : List D} {d e' : D} (r : Reps K cl F xs ds) (e : ds.map (vw M) = [d, e']) : ∃ x y, xs = [x, y] ∧ Vw K cl F H x d ∧ Vw K cl F H y e' := by
  cases ds with
  | nil => cases e
  | cons a t =>
    cases t with
    | nil => simp at e
    | cons b t =>
      cases t with
      | nil =>
        obtain ⟨x, ws, rfl, r1, r2⟩ := r.inv
        obtain ⟨y, ws, rfl, r3, r4⟩ := r2.inv
        obtain rfl := r4.inv0
        simp only [List.map_cons, List.map_nil, List.cons.injEq, and_true] at e
        exact ⟨x, y, rfl, e.1 ▸ vw_ok g r1, e.2 ▸ vw_ok g r3⟩
      | cons c t => simp at e
theorem lc_abs : LCall K cl (fun xs H Q => ∃ i, xs = [.int i] ∧ Q (.int (if i < 0 then -i else i)) H) absF := by
  intro F H M xs ds z Q Qd g r h p q
  generalize e : ds.map (vw M) = es at h
  unfold absF at h
  split at h
  · cases h
    obtain ⟨x, rfl, hv⟩ := reps1 g r e
    obtain rfl := hv.int
    exact ⟨_, rfl, p.val g (.int _) q⟩
  · cases h
theorem lc_int : LCall K cl (fun xs H Q => (∃ i, xs = [.int i] ∧ Q (.int i) H) ∨ ∃ k, xs = [.bl k] ∧ Q (.int (if k then 1 else 0)) H) intF := by
  intro F H M xs ds z Q Qd g r h p q
  generalize e : ds.map (vw M) = es at h
  unfold intF at h
  split at h
  · cases h
    obtain ⟨x, rfl, hv⟩ := reps1 g r e
    obtain rfl := hv.int
    exact .inl ⟨_, rfl, p.val g (.int _) q⟩
  · cases h
    obtain ⟨x, rfl, hv⟩ := reps1 g r e
    obtain rfl := hv.bl
    exact .inr ⟨_, rfl, p.val g (.int _) q⟩
  · cases h
theorem lc_len : LCall K cl (fun xs H Q => ∃ x n, xs = [x] ∧ LenV K x H n ∧ Q (.int n) H) lenF := by
  intro F H M xs ds z Q Qd g r h p q
  generalize e : ds.map (vw M) = es at h
  unfold lenF at h
  split at h
  · cases h
    obtain ⟨x, rfl, hv⟩ := reps1 g r e
    obtain ⟨a, vs, rfl, h1, h2⟩ := hv.lst g.sub
    exact ⟨_, _, rfl, .inl ⟨vs, h1, rfl⟩, by rw [h2.length]; exact p.val g (.int _) q⟩
  · cases h
    obtain ⟨x, rfl, hv⟩ := reps1 g r e
    obtain ⟨a, vs, rfl, h1, h2⟩ := hv.tup g.sub
    exact ⟨_, _, rfl, .inr ⟨vs, h1, rfl⟩, by rw [h2.length]; exact p.val g (.int _) q⟩
  · split at h
    · cases h
      obtain ⟨x, rfl, hv⟩ := reps1 g r e
      obtain rfl := hv.str
      exact ⟨_, _, rfl, ⟨by assumption, rfl⟩, p.val g (.int _) q⟩
    · cases h
  · split at h
    · cases h
      obtain ⟨x, rfl, hv⟩ := reps1 g r e
      obtain rfl := hv.byt
      exact ⟨_, _, rfl, ⟨by assumption, rfl⟩, p.val g (.int _) q⟩
    · cases h
  · cases h
theorem lc_max : LCall K cl (fun xs H Q => rMax K xs H Q ∨ ∃ i j, xs = [.int i, .int j] ∧ Q (.int (if j > i then j else i)) H) maxF := by
  intro F H M xs ds z Q Qd g r h p q
  generalize e : ds.map (vw M) = es at h
  unfold maxF at h
  split at h
  · obtain ⟨x, rfl, hv⟩ := reps1 g r e
    obtain ⟨a, vs, rfl, h1, h2⟩ := hv.lst g.sub
    rename_i ys
    cases e2 : intsOf ys with
    | none => rw [e2] at h; cases h
    | some ns =>
      rw [e2] at h
      simp only [Option.bind_some] at h
      cases e3 : ns.max? with
      | none => rw [e3] at h; cases h
      | some m =>
        rw [e3] at h
        cases h
        rw [intsOf_eq e2] at h2
        have hm := List.max?_eq_some_iff.mp e3
        refine .inl ⟨a, ns, rfl, by rw [← h2.ints]; exact h1, List.length_pos_of_mem hm.1, fun m' h3 h4 => ?_⟩
        have : m' = m := Int.le_antisymm (hm.2 m' h3) (h4 m hm.1)
        rw [this]
        exact p.val g (.int _) q
  · cases h
    obtain ⟨x, y, rfl, hv, hw⟩ := reps2 g r e
    obtain rfl := hv.int
    obtain rfl := hw.int
    exact .inr ⟨_, _, rfl, p.val g (.int _) q⟩
  · cases h
def tyName : D → Option String
  | .non => some "NoneType"
  | .bl _ => some "bool"
  | .int _ => some "int"
  | .str _ => some "str"
  | .byt _ => some "bytes"
  | .lst _ => some "list"
  | .tup _ => some "tuple"
  | .dK _ _ => some "dict"
  | _ => none
def tyNames : List String := ["NoneType", "bool", "int", "str", "bytes", "list", "tuple", "dict"]
def isTy (a b : String) : Bool := a == b || (a == "bool" && b == "int")
theorem isTy_kit : ∀ a ∈ tyNames, ∀ b ∈ tyNames, kitB a b = some (isTy a b) := by decide +kernel
theorem tyName_mem {d : D} {n : String} (h : tyName d = some n) : n ∈ tyNames := by
  cases d <;> simp only [tyName] at h <;> first | (cases h; decide) | cases h
theorem tyX_of {F H : Hp} (s : Same F H) {v : V} {d : D} {n : String} (h : Vw K cl F H v d) (e : tyName d = some n) : TyX K H v (.type n) := by
  cases d with
  | non => cases e; rw [h.non]; exact .base .non
  | bl b => cases e; rw [h.bl]; exact .base (.bl b)
  | int i => cases e; rw [h.int]; exact .base (.int i)
  | str x => cases e; rw [h.str]; exact .base (.str x)
  | byt b => cases e; rw [h.byt]; exact .byt b
  | lst ds =>
    cases e
    obtain ⟨a, vs, rfl, h1, h2⟩ := h.lst s
    rcases h1 with (h1 | ⟨o, h1⟩) | ⟨o, its, n, h1, h3, _⟩
    · exact .base (.lst h1)
    · exact .base (.frz h1)
    · exact .kList h1 h3
  | tup ds =>
    cases e
    obtain ⟨a, vs, rfl, h1, h2⟩ := h.tup s
    rcases h1 with (h1 | ⟨o, h1⟩) | ⟨o, its, n, h1, h3, _⟩
    · exact .base (.tup h1)
    · exact .fTuple h1
    · exact .kTuple h1 h3
  | dK ks ds =>
    cases e
    rcases h with h | ⟨a, rfl, vs, h1, _⟩
    · cases h with | dK h1 _ _ => exact .base (.dK (s _ _ h1))
    · exact .base (.dK h1)
  | _ => cases e
def isiF : List D → Option D
  | [d, .ty n] => match tyName d with
    | some a => if n ∈ tyNames then some (.bl (isTy a n)) else none
    | none => none
  | [d, .tup ts] => match tyName d with
    | some a => if ts.all (fun t => match t with | .ty n => decide (n ∈ tyNames) | _ => false) then some (.bl (ts.any fun t => match t with | .ty n => isTy a n | _ => false)) else none
    | none => none
  | _ => none
theorem kitAny_of {a : String} (ha : a ∈ tyNames) : ∀ {F : Hp} {vs : List V} {ts : List D}, Reps K cl F vs ts → ts.all (fun t => match t with | .ty n => decide (n ∈ tyNames) | _ => false) = true →
    ∃ us, Paired ClsV vs us ∧ PySem.W.kitAny K (.type a) us = some (ts.any fun t => match t with | .ty n => isTy a n | _ => false)
  | F, vs, [], r, _ => by
    obtain rfl := r.inv0
    exact ⟨[], .nil, kitAny_nil⟩
  | F, vs, t :: ts, r, h => by
    obtain ⟨v, ws, rfl, r1, r2⟩ := r.inv
    rw [List.all_cons] at h
    obtain ⟨h1, h2⟩ := Bool.and_eq_true_iff.mp h
    obtain ⟨us, hp, hk⟩ := kitAny_of ha r2 h2
    cases t with
    | ty n =>
      have hn : n ∈ tyNames := of_decide_eq_true h1
      rw [r1.toTy]
      refine ⟨.type n :: us, .cons (.ty n) hp, ?_⟩
      have k1 : PySem.W.kitOne K (.type a) (.type n) = some (isTy a n) := kit_ty (isTy_kit a ha n hn)
      rw [List.any_cons]
      refine kitAny_cons k1 (fun e => ?_) fun e => ?_
      · simp only [e, Bool.false_or]; exact hk
      · simp only [e, Bool.true_or]
    | _ => cases h1
theorem lc_isi : LCall K cl (fun xs H Q => rIsi K xs H Q ∨ rIsiT K xs H Q ∨ rIsiK K xs H Q) isiF := by
  intro F H M xs ds z Q Qd g r h p q
  generalize e : ds.map (vw M) = es at h
  unfold isiF at h
  split at h
  · rename_i d n
    obtain ⟨x, y, rfl, hv, hw⟩ := reps2 g r e
    cases e2 : tyName d with
    | none => rw [e2] at h; cases h
    | some a =>
      rw [e2] at h
      simp only at h
      split at h
      · rename_i hn
        cases h
        have hy : y = .ty n := by
          rcases hw with hw | ⟨_, _, hw⟩
          · exact hw.toTy
          · exact hw.elim
        subst hy
        exact .inl ⟨x, .ty n, .type a, .type n, _, rfl, .ty n, tyX_of g.sub hv e2, kit_ty (isTy_kit a (tyName_mem e2) n hn), p.val g (.bl _) q⟩
      · cases h
  · rename_i d ts
    obtain ⟨x, y, rfl, hv, hw⟩ := reps2 g r e
    cases e2 : tyName d with
    | none => rw [e2] at h; cases h
    | some a =>
      rw [e2] at h
      simp only at h
      split at h
      · rename_i hn
        cases h
        rcases hw with hw | ⟨_, _, hw⟩
        · obtain ⟨b, vs, rfl, h1, h2⟩ := hw.toTup1
          obtain ⟨us, hp, hk⟩ := kitAny_of (tyName_mem e2) h2 hn
          rcases h1 with h1 | ⟨⟨oc, od, dt, sl⟩, its, n, h1, h3, h4, h5, h6⟩
          · exact .inr (.inl ⟨x, b, vs, .type a, us, _, rfl, g.sub _ _ h1, hp, tyX_of g.sub hv e2, hk, p.val g (.bl _) q⟩)
          · simp only at h3 h4
            subst h3 h4
            have e3 := ClsV.all hp h6
            refine .inr (.inr ⟨x, b, od, us, n, sl, .type a, _, rfl, ?_, tyX_of g.sub hv e2, hk, p.val g (.bl _) q⟩)
            rw [← e3]
            simpa using h1
        · exact hw.elim
      · cases h
  · cases h
end
end DL
set_option Elab.async false
set_option linter.all false
set_option autoImplicit false
set_option maxRecDepth 100000
set_option maxHeartbeats 2000000
namespace DL
open PySem L2 PySem.W PySem.Spec
def FnB (cl : ClW) (P : Program) (w : World) (K : Frag) (mg : Str → Option Value) (base : Heap) (k : Nat) (x : Str) (ps : List Str) (spd : SpD) : Prop :=
  ∃ f fd, mg x = some (.ref f) ∧ keepIn K (.ref f) = true ∧ Binds K fd ps [] ∧ FnG cl P w K mg base k f fd ps spd
section
variable {cl : ClW} {X : Cx} {W : WX} {j k : Nat} {ps : List Str} {spd : SpD} {x : Str} {p pos : Pos} {e : Expr} {es : List Expr} {α : DTA}
theorem d_fn (c : Cap X W k) (G : FnB cl X.prog X.w X.K X.mg X.base j x ps spd) (hj : j ≤ k) (hg : Gl X x) (ha : DA cl X W (e :: es) α)
    (hdb : (x == ("__debug__" : Str)) = false := by decide) (he : starEach (e :: es) X.env = (false, eval e X.env) :: starEach es X.env := by rfl) (hpl : (backTo pos (starEach es X.env)).any (·.1) = false := by rfl) :
    DE cl X W (.Call (.Name x p) (e :: es) [] pos) (dCall spd [] α) := by
  obtain ⟨f, fd, h1, h2, h3, h4⟩ := G
  exact d_call c (h4.mono hj) hg h1 h2 h3 .nil (fun _ => .nil) ha hdb he hpl
theorem d_bltn {v : V} {u : Value} {d : D} (hg : Gl X x) (hm : X.mg x = none) (hv : bootBuiltins x = some u) (r : RelV v u) (rd : ∀ F, Rep X.K cl F v d) (hn : x ≠ "__name__" := by decide) (hd : (x == ("__debug__" : Str)) = false := by decide) : DE cl X W (.Name x pos) (dC d) :=
  d_c (pe_bltn hg hm hv r hn hd) rd
theorem d_ty {n : String} (hg : Gl X x) (hm : X.mg x = none) (hv : bootBuiltins x = some (.type n)) (hn : x ≠ "__name__" := by decide) (hd : (x == ("__debug__" : Str)) = false := by decide) : DE cl X W (.Name x pos) (dC (.ty n)) :=
  d_bltn (v := .ty n) hg hm hv rfl (fun _ => .ty n) hn hd
theorem d_globI {i : Int} (hg : Gl X x) (hm : ∃ t, X.mg x = some (.int i t)) (hd : (x == ("__debug__" : Str)) = false := by decide) : DE cl X W (.Name x pos) (dC (.int i)) := by
  obtain ⟨t, h⟩ := hm
  exact d_c (v := .int i) (pe_glob hg h ⟨t, rfl⟩ hd) fun _ => .int i
end
theorem good_script {K : Frag} {cl : ClW} {H : Hp} (hT : LamX.Tabs (tabsOf cl) H) (hn : ∀ b ps, H b ≠ some (.tbl ps)) : Good K cl H H (fun _ => none) := ⟨fun _ _ e => e, (fun _ _ e => by cases e), hT, hn⟩
theorem law_end {cl : ClW} {P : Program} {w : World} {K : Frag} {mg mb : Str → Option Value} {k : Nat} {fa a : Addr} {x : Str} {spd : SpD} {s0 : Shared} {vs : List Value} {ns : List Int} {H : Hp}
    (KX : K.In s0.heap) (hns : s0.heap.Ns mainGlobals mg) (hb : s0.heap.Ns builtinsNs mb) (hbb : ∀ x : Str, x ≠ "__name__" → mb x = bootBuiltins x) (hlim : s0.heap.NoLimit) (hg : s0.gens = #[])
    (ha : s0.heap.get? a = some { cls := .type "list", data := .seq vs.toArray }) (hr : RoomG k callerA) (F : ∀ base : Heap, K.In base → base.Ns mainGlobals mg → ∃ fd, Binds K fd [x] [] ∧ FnG cl P w K mg base k fa fd [x] spd)
    (hO : Only H) (hS : SqL K H a (ns.map V.int)) (hok : HOk P w H s0.heap) (hA : ∀ b, H b ≠ none → b = a) (hK : H a ≠ none → K.lookup a = none) (hT : tabsOf cl = []) (hn : ∀ b ps, H b ≠ some (.tbl ps))
    (hsp : ∀ (M : Mem) (Qd : DV) (Ed : DEK), (∀ M', Qd (.bl true) M') → spd [.lst (ns.map D.int)] M Qd Ed) :
    codeAny (model P w) callerA (.call (.ref fa) ⟨[.ref a], []⟩) (fun r s' => r = .ok (.ret (.bool true)) ∧ OldK s0.heap s'.heap ∧ s'.os = s0.os ∧ PyProof.Rows.AllBare s'.gens) s0 := by
  have only : ∀ {b u}, H b = some u → b = a := fun {b u} e => hA b (by rw [e]; exact nofun)
  have free : ∀ {b o es ep}, s0.heap.get? b = some o → o.data = Data.dict es ep → H b = none := by
    intro b o es ep e1 e2
    cases q : H b with
    | none => rfl
    | some u =>
      rw [only q, ha] at e1
      cases e1
      cases e2
  have ns2 : ∀ {b m}, s0.heap.Ns b m → (hidT s0.heap H).Ns b m := by
    rintro b m ⟨o, es, ep, e1, e2, r⟩
    exact ⟨o, es, ep, hidT_get e1 (free e1 e2), e2, r⟩
  have kin : K.In (hidT s0.heap H) := by
    intro b o e
    refine hidT_get (KX b o e) ?_
    cases q : H b with
    | none => rfl
    | some u =>
      have z := only q
      subst z
      rw [hK (by rw [q]; exact nofun)] at e
      cases e
  obtain ⟨mc, l1, l2⟩ := hlim
  have md : Mod K mg (hidT s0.heap H) := ⟨kin, ns2 hns, ⟨mb, ns2 hb, hbb⟩, mc, ns2 l1, l2⟩
  have env : Env0 P w K mg (hidT s0.heap H) callerA [] s0 H := ⟨rfl, md, fun _ _ e => of_hidT e, Nat.le_of_eq (hidT_size _ _), trivial, fun b z => (by cases z), hok, .of_eq hg⟩
  have low : lower K cl spd [.ref a] H (fun v _ => v = .bl true) (fun _ _ _ => False) :=
    ⟨H, fun _ => none, [.lst (ns.map D.int)], fun d _ => d = .bl true, fun _ _ _ _ => False, good_script (by rw [hT]; exact fun _ z => by cases z) hn, .one (.lst hS (.of_ints ns)), hsp _ _ _ fun _ => rfl, fun v _ _ d _ _ _ r e => by subst e; exact r.toBl, fun _ _ _ _ _ _ _ _ _ _ z => z⟩
  obtain ⟨fd, hbd, G⟩ := F _ kin (ns2 hns)
  refine codeAny_mono (G.run callerA [] s0 H _ [.ref a] [.ref a] _ _ hr env (hbd s0 [.ref a] KX rfl) (.cons rfl .nil) low) fun r s' h => ?_
  cases r with
  | error e =>
    obtain ⟨_, _, _, _, _, _, _, _, _, _, _, _, z⟩ := (show L2.CX P w [] H s0 (fun _ _ _ => False) e s' from h)
    exact z.elim
  | ok fl =>
    cases fl with
    | ret u =>
      obtain ⟨v, H', os, bare, un, hok', rv, q⟩ := (show CE [] P w H s0 (fun v _ => v = .bl true) u s' from h)
      subst q
      cases rv
      refine ⟨rfl, OldK.of_keep fun b o e => ?_, os, bare⟩
      rcases hO b with z | ⟨ob, xs, z⟩
      · exact un.keep b o e z (fun y => by cases y) (fun y => by cases y)
      · have h1 := (hok b _ z).1
        have h2 := (hok' b _ (un.frzs b ob _ z)).1
        rw [e] at h1
        cases h1
        exact h2
    | next => exact False.elim h
    | brk => exact False.elim h
    | cont => exact False.elim h
set_option autoImplicit false in
theorem law_callD {cl : ClW} {P : Program} {w : World} {K : Frag} {mg mb : Str → Option Value} {k : Nat} {fa a : Addr} {x : Str} {spd : SpD} {s0 : Shared} {vs : List Value} {ns : List Int}
    (KX : K.In s0.heap) (hns : s0.heap.Ns mainGlobals mg) (hb : s0.heap.Ns builtinsNs mb) (hbb : ∀ x : Str, x ≠ "__name__" → mb x = bootBuiltins x) (hlim : s0.heap.NoLimit) (hg : s0.gens = #[])
    (ha : s0.heap.get? a = some { cls := .type "list", data := .seq vs.toArray }) (hi : PyProof.Rows.IntsAre vs ns) (hl : ns.length ≤ sizeLine) (hr : RoomG k callerA) (F : ∀ base : Heap, K.In base → base.Ns mainGlobals mg → ∃ fd, Binds K fd [x] [] ∧ FnG cl P w K mg base k fa fd [x] spd)
    (hsp : ∀ (M : Mem) (Qd : DV) (Ed : DEK), (∀ M', Qd (.bl true) M') → spd [.lst (ns.map D.int)] M Qd Ed) (hT : tabsOf cl = []) :
    codeAny (model P w) callerA (.call (.ref fa) ⟨[.ref a], []⟩) (fun r s' => r = .ok (.ret (.bool true)) ∧ OldK s0.heap s'.heap ∧ s'.os = s0.os ∧ PyProof.Rows.AllBare s'.gens) s0 := by
  have hv := vals_ints hi
  have hle : vs.length ≤ sizeLine := by rw [hi.length]; exact hl
  cases hk : K.lookup a with
  | some o =>
    have e := KX a o hk
    rw [ha] at e
    cases e
    exact law_end (H := fun _ => none) KX hns hb hbb hlim hg ha hr F (fun _ => .inl rfl) (.inr ⟨_, vs.toArray, _, hk, rfl, rfl, rfl, by simpa using hle, by simpa using hv⟩) (fun _ _ z => by cases z) (fun _ z => (z rfl).elim) (fun z => (z rfl).elim) hT (fun _ _ z => by cases z) hsp
  | none =>
    let o : Obj := { cls := .type "list", data := .seq vs.toArray }
    have at_ : upd (fun _ => none) a (.frz o (.lst (ns.map V.int))) a = some (.frz o (.lst (ns.map V.int))) := upd_same
    have off : ∀ {b}, b ≠ a → upd (fun _ => none) a (.frz o (.lst (ns.map V.int))) b = none := fun h => upd_ne h
    refine law_end (H := upd (fun _ => none) a (.frz o (.lst (ns.map V.int)))) KX hns hb hbb hlim hg ha hr F (fun b => ?_) (.inl (.inr ⟨o, at_⟩)) (fun b u z => ?_) (fun b z => ?_) (fun _ => hk) hT (fun b ps z => ?_) hsp
    · by_cases h : b = a
      · subst h; exact .inr ⟨_, _, at_⟩
      · exact .inl (off h)
    · by_cases h : b = a
      · subst h
        rw [at_] at z
        cases z
        exact ⟨ha, by rw [List.length_map]; exact hl, vs, _, hv, ha⟩
      · rw [off h] at z
        cases z
    · by_cases h : b = a
      · exact h
      · exact (z (off h)).elim
    · by_cases h : b = a
      · subst h
        rw [at_] at z
        cases z
      · rw [off h] at z
        cases z
theorem walk_D {l : OpenLaw} {n k : Nat} {q : Program} {loose : List Str} {XP : (Str → Option Value) → Heap → Prop} {YP : World → Heap → Prop} {d : DefRec} {x : Str}
    (hn : l.most = some n) (hn2 : n ≤ sizeLine) (hdf : d.params.defaults = []) (hr : RoomG k callerA)
    (F : ∀ (w : World) (mg : Str → Option Value) (fa : Addr) (h : Heap), YP w h → h.Ns mainGlobals mg → mg d.name = some (.ref fa) →
      ∃ (cl : ClW) (K : Frag) (spd : SpD), tabsOf cl = [] ∧ K.In h ∧
        (∀ (ns : List Int) (M : Mem) (Qd : DV) (Ed : DEK), ns.length ≤ n → (∀ M', Qd (.bl true) M') → spd [.lst (ns.map D.int)] M Qd Ed) ∧
        ∀ base : Heap, K.In base → base.Ns mainGlobals mg → ∃ fd, Binds K fd [x] [] ∧ FnG cl l.prog w K mg base k fa fd [x] spd) :
    WalkO q loose XP YP l.row.toRowW d [] (fun f vs => PySem.call f vs) := by
  refine Att.attach_call hn hdf fun w s₀ s₁ mg mb fa o pm cd doc a vs ns G Y ho hd hcd hmg hobj hints hlen hg => ?_
  obtain ⟨cl, K, spd, hT, KX, hsp, hF⟩ := F w mg fa _ Y G.T.g hmg
  exact law_callD KX G.T.g G.T.b G.T.builtins G.T.nolimit hg hobj hints (Nat.le_trans hlen hn2) hr hF (fun M Qd Ed h => hsp ns M Qd Ed hlen h) hT
end DL
set_option Elab.async false
set_option linter.all false
set_option autoImplicit false
namespace DL
open PySem L2
@[simp] theorem size_line : sizeLine = 16777216 := sizeLine_eq
@[simp] theorem and_flat (a b c : Prop) : ((a ∧ b) ∧ c) = (a ∧ b ∧ c) := propext and_assoc
section
variable {M : Mem} {i j : Int} {b : Bool} {x y : Str} {xs ys : List D} {d e : D} {a : Addr}
@[simp] theorem vw_non : vw M .non = .non := rfl
@[simp] theorem vw_bl : vw M (.bl b) = .bl b := rfl
@[simp] theorem vw_int : vw M (.int i) = .int i := rfl
@[simp] theorem vw_str : vw M (.str x) = .str x := rfl
@[simp] theorem vw_byt {z : Array UInt8} : vw M (.byt z) = .byt z := rfl
@[simp] theorem vw_ty {n : String} : vw M (.ty n) = .ty n := rfl
@[simp] theorem vw_lst : vw M (.lst xs) = .lst xs := rfl
@[simp] theorem vw_tup : vw M (.tup xs) = .tup xs := rfl
@[simp] theorem vw_dK {ks : List Key} : vw M (.dK ks xs) = .dK ks xs := rfl
@[simp] theorem vw_dT {ep : Nat} {ks : List (List (Option Key))} : vw M (.dT ep ks xs) = .dT ep ks xs := rfl
@[simp] theorem vw_obj {c : Nat} {ns : List Str} : vw M (.obj c ns xs) = .obj c ns xs := rfl
@[simp] theorem vw_cls {c : Nat} : vw M (.cls c) = .cls c := rfl
theorem vw_ref (h : M a = some d) : vw M (.ref a) = d := by show (M a).getD _ = d; rw [h]; rfl
@[simp] theorem addD_int : addD (.int i) (.int j) = some (.int (i + j)) := rfl
@[simp] theorem addD_lst (h : xs.length + ys.length ≤ 16777216) : addD (.lst xs) (.lst ys) = some (.lst (xs ++ ys)) := if_pos (by rw [sizeLine_eq]; exact h)
@[simp] theorem addD_tup (h : xs.length + ys.length ≤ 16777216) : addD (.tup xs) (.tup ys) = some (.tup (xs ++ ys)) := if_pos (by rw [sizeLine_eq]; exact h)
@[simp] theorem addD_str (h : x.length + y.length ≤ 16777216) : addD (.str x) (.str y) = some (.str (x ++ y)) := if_pos (by rw [sizeLine_eq]; exact h)
@[simp] theorem mulD_int (h : (-18446744073709551616 < i ∧ i < 18446744073709551616) ∨ (-18446744073709551616 < j ∧ j < 18446744073709551616)) : mulD (.int i) (.int j) = some (.int (i * j)) := if_pos h
@[simp] theorem fdivD_int (h : 0 < j) (h2 : j < 1000000000000000000000000000000000000) : fdivD (.int i) (.int j) = some (.int (i / j)) := if_pos ⟨h, Int.lt_trans h2 (by decide)⟩
@[simp] theorem modD_int (h : 0 < j) : modD (.int i) (.int j) = some (.int (i % j)) := if_pos h
@[simp] theorem absF_int : absF [.int i] = some (.int (if i < 0 then -i else i)) := rfl
@[simp] theorem intF_int : intF [.int i] = some (.int i) := rfl
@[simp] theorem intF_bl : intF [.bl b] = some (.int (if b then 1 else 0)) := rfl
@[simp] theorem vw_upd : vw (updM M a d) (.ref a) = d := by show (updM M a d a).getD _ = d; rw [updM_same]; rfl
@[simp] theorem upd_at : updM M a d a = some d := updM_same
@[simp] theorem powD_int : powD (.int i) (.int j) = if 0 ≤ j ∧ j ≤ 1000000 ∧ i.natAbs < 2 ^ 64 then some (.int (i ^ j.toNat)) else none := rfl
@[simp] theorem ixD_lst : ixD (.lst xs) (.int i) = atI xs i := rfl
@[simp] theorem ixD_tup : ixD (.tup xs) (.int i) = atI xs i := rfl
@[simp] theorem slD_lst {lo hi : Option Int} : slD (.lst xs) lo hi = some (.lst (cutD xs lo hi)) := rfl
@[simp] theorem slD_tup {lo hi : Option Int} : slD (.tup xs) lo hi = some (.tup (cutD xs lo hi)) := rfl
@[simp] theorem lenF_lst : lenF [.lst xs] = some (.int xs.length) := rfl
@[simp] theorem lenF_tup : lenF [.tup xs] = some (.int xs.length) := rfl
@[simp] theorem minF_2 : minF [.int i, .int j] = some (.int (if j < i then j else i)) := rfl
@[simp] theorem maxF_2 : maxF [.int i, .int j] = some (.int (if j > i then j else i)) := rfl
@[simp] theorem minF_l : minF [.lst xs] = (intsOf xs).bind fun ns => ns.min?.map D.int := rfl
@[simp] theorem maxF_l : maxF [.lst xs] = (intsOf xs).bind fun ns => ns.max?.map D.int := rfl
@[simp] theorem intsOf_nil : intsOf [] = some [] := rfl
@[simp] theorem intsOf_cons : intsOf (.int i :: xs) = (intsOf xs).map (i :: ·) := rfl
@[simp] theorem intsOf_ints (ns : List Int) : intsOf (ns.map D.int) = some ns := intsOf_map ns
theorem atI_at {α : Type} {l : List α} {k : Int} (h0 : 0 ≤ k) (h1 : k < l.length) : atI l k = l[k.toNat]? := by
  obtain ⟨n, rfl⟩ := Int.eq_ofNat_of_zero_le h0
  have hn : n < l.length := by omega
  rw [Int.toNat_natCast, List.getElem?_eq_getElem hn]
  exact atI_nat (List.getElem?_eq_getElem hn)
@[simp] theorem atI_0 {α : Type} {u : α} {l : List α} : atI (u :: l) 0 = some u := atI_nat (j := 0) rfl
@[simp] theorem atI_1 {α : Type} {u v : α} {l : List α} : atI (u :: v :: l) 1 = some v := atI_nat (j := 1) rfl
@[simp] theorem atI_2 {α : Type} {u v w : α} {l : List α} : atI (u :: v :: w :: l) 2 = some w := atI_nat (j := 2) rfl
@[simp] theorem atI_3 {α : Type} {u v w z : α} {l : List α} : atI (u :: v :: w :: z :: l) 3 = some z := atI_nat (j := 3) rfl
@[simp] theorem atI_4 {α : Type} {u v w z y : α} {l : List α} : atI (u :: v :: w :: z :: y :: l) 4 = some y := atI_nat (j := 4) rfl
@[simp] theorem eqD_tup : eqD (.tup xs) (.tup ys) = (eqP (.tup xs) (.tup ys)).map D.bl := rfl
@[simp] theorem neD_tup : neD (.tup xs) (.tup ys) = (eqP (.tup xs) (.tup ys)).map fun b => D.bl !b := rfl
@[simp] theorem eqD_lst : eqD (.lst xs) (.lst ys) = (eqP (.lst xs) (.lst ys)).map D.bl := rfl
@[simp] theorem neD_lst : neD (.lst xs) (.lst ys) = (eqP (.lst xs) (.lst ys)).map fun b => D.bl !b := rfl
@[simp] theorem eqD_int : eqD (.int i) (.int j) = some (.bl (i == j)) := rfl
@[simp] theorem neD_int : neD (.int i) (.int j) = some (.bl (!(i == j))) := rfl
@[simp] theorem eqD_str : eqD (.str x) (.str y) = some (.bl (x == y)) := rfl
@[simp] theorem neD_str : neD (.str x) (.str y) = some (.bl (!(x == y))) := rfl
@[simp] theorem eqD_bl {c : Bool} : eqD (.bl b) (.bl c) = some (.bl (b == c)) := rfl
@[simp] theorem neD_bl {c : Bool} : neD (.bl b) (.bl c) = some (.bl (!(b == c))) := rfl
end
end DL
set_option Elab.async false
set_option linter.all false
set_option maxRecDepth 100000
set_option maxHeartbeats 2000000
set_option autoImplicit false
namespace DL
open PySem L2
def setN (f : Str) : List Str → List Str
  | [] => [f]
  | g :: r => if g = f then g :: r else g :: setN f r
def lookN {α : Type} (f : Str) : List Str → List α → Option α
  | g :: r, e :: es => if g = f then some e else lookN f r es
  | _, _ => none
section
variable {K : PySem.W.Frag} {cl : ClW} {F : Hp}
end
section
variable {cl : ClW} {X : Cx} {W : WX} {o e : Expr} {es : List Expr} {pos : Pos} {τ τo τv : DTE} {α : DTA} {f : Str} {cs : List Nat}
end
def MkB (cl : ClW) (P : Program) (w : World) (K : PySem.W.Frag) (mg : Str → Option Value) (base : Heap) (k : Nat) (x : Str) (c : Nat) (ps : List Str) (spd : SpD) : Prop :=
  mg x = some (.ref (cl c)) ∧ ∃ f fd, Mk K (cl c) f ∧ Binds K fd ps [] ∧ FnG cl P w K mg base k f fd ps spd
section
variable {cl : ClW} {X : Cx} {W : WX} {j k c : Nat} {ps : List Str} {spd : SpD} {x : Str} {p pos : Pos} {e : Expr} {es : List Expr} {α : DTA}
end
section
variable {cl : ClW} {X : Cx} {W : WX} {k : Nat} {m : Str} {p pos apos : Pos} {o e : Expr} {es : List Expr} {τ : DTE} {α : DTA} {tb : List (Nat × SpD)} {pl : Sem Bool}
end
end DL
set_option Elab.async false
set_option linter.all false
set_option maxRecDepth 100000
set_option maxHeartbeats 2000000
set_option autoImplicit false
namespace DL
open PySem L2
def blsOf : List D → Option (List Bool)
  | [] => some []
  | .bl i :: r => (blsOf r).map (i :: ·)
  | _ :: _ => none
@[simp] theorem blsOf_map (ns : List Bool) : blsOf (ns.map D.bl) = some ns := by
  induction ns with
  | nil => rfl
  | cons n ns ih => simp only [List.map_cons, blsOf, ih]; rfl
def allF : List D → Option D
  | [.lst xs] => (blsOf xs).map fun bs => .bl (bs.all id)
  | _ => none
def anyF : List D → Option D
  | [.lst xs] => (blsOf xs).map fun bs => .bl (bs.any id)
  | _ => none
def tupF : List D → Option D
  | [.lst xs] => some (.tup xs)
  | [.tup xs] => some (.tup xs)
  | _ => none
def lstF : List D → Option D
  | [.lst xs] => some (.lst xs)
  | [.tup xs] => some (.lst xs)
  | _ => none
section
variable {K : PySem.W.Frag} {cl : ClW} {F : Hp}
theorem lc_lst : LCall K cl (fun xs H Q => ∃ p ys, xs = [.ref p] ∧ (SqL K H p ys ∨ SqT K H p ys) ∧ ∀ l, H l = none → Q (.ref l) (upd H l (.lst ys))) lstF := by
  intro F H M xs ds z Q Qd g r h p q
  generalize e : ds.map (vw M) = es at h
  unfold lstF at h
  split at h
  · obtain ⟨x, rfl, hv⟩ := reps1 g r e
    obtain ⟨a, vs, rfl, h1, h2⟩ := hv.lst g.sub
    cases h
    exact ⟨a, vs, rfl, .inl h1, fun l hl => p.newL g h2 q hl⟩
  · obtain ⟨x, rfl, hv⟩ := reps1 g r e
    obtain ⟨a, vs, rfl, h1, h2⟩ := hv.tup g.sub
    cases h
    exact ⟨a, vs, rfl, .inr h1, fun l hl => p.newL g h2 q hl⟩
  · cases h
end
section
variable {cl : ClW} {X : Cx} {W : WX} {e : Expr} {es : List Expr} {pos p : Pos} {α : DTA}
end
@[simp] def flatD : D → Bool
  | .non => true
  | .bl _ => true
  | .int _ => true
  | .str _ => true
  | _ => false
@[simp] def eqFD : D → D → Bool
  | .non, .non => true
  | .bl a, .bl b => a == b
  | .bl a, .int b => (if a then 1 else 0) == b
  | .int a, .bl b => a == (if b then 1 else 0)
  | .int a, .int b => a == b
  | .str a, .str b => a == b
  | _, _ => false
def keyD : D → Option Key
  | .int i => some (.inl i)
  | .str x => some (.inr x)
  | _ => none
def inStr (x z : Str) : Bool := match x with
  | ⟨⟨[c]⟩⟩ => decide (c ∈ z.cps.toList)
  | x => !(Builtin.Str.occurrences z x 0 z.length 1).isEmpty
def inB (x : D) : D → Option Bool
  | .lst xs => if flatD x && xs.all flatD then some (xs.any fun y => eqFD y x) else none
  | .tup xs => if flatD x && xs.all flatD then some (xs.any fun y => eqFD y x) else none
  | .str z => match x with
    | .str i => some (inStr i z)
    | _ => none
  | .dK ks _ => (keyD x).map fun k => ks.any fun j => decide (j = k)
  | _ => none
def inD (x y : D) : Option D := (inB x y).map D.bl
def ninD (x y : D) : Option D := (inB x y).map fun b => D.bl !b
section
variable {K : PySem.W.Frag} {cl : ClW} {F H : Hp} {X : Cx}
theorem key_rep {v : V} {d : D} {k : Key} (h : Vw K cl F H v d) (e : keyD d = some k) : v = kV k := by
  cases d with
  | int i => cases e; exact h.int
  | str i => cases e; exact h.str
  | _ => cases e
theorem Vw.dK {v : V} {ks : List Key} {ds : List D} (g : Same F H) (h : Vw K cl F H v (.dK ks ds)) : ∃ a vs, v = .ref a ∧ H a = some (.dK (ks.zip vs)) ∧ ks.length = vs.length ∧ Reps K cl F vs ds := by
  rcases h with h | ⟨a, rfl, vs, h1, h2, h3⟩
  · cases h with
    | dK h1 h2 h3 => exact ⟨_, _, rfl, g _ _ h1, h2, h3⟩
  · exact ⟨a, vs, rfl, h1, h2, h3⟩
def atK {α β : Type} [DecidableEq β] (k : β) : List β → List α → Option α
  | j :: ks, d :: ds => if j = k then some d else atK k ks ds
  | _, _ => none
theorem valV_zip {β : Type} [DecidableEq β] (k : β) : ∀ (ks : List β) (vs : List V), valV (ks.zip vs) k = atK k ks vs
  | [], _ => by simp [atK, valV]
  | _ :: _, [] => by simp [atK, valV]
  | j :: ks, v :: vs => by
    rw [List.zip_cons_cons]
    unfold atK
    by_cases e : j = k
    · rw [valV_pos e, if_pos e]
    · rw [valV_neg e, if_neg e, valV_zip k ks vs]
theorem atK_some {α β : Type} [DecidableEq β] (k : β) : ∀ (ks : List β) (vs : List α), ks.length = vs.length → (atK k ks vs).isSome = ks.any fun j => decide (j = k)
  | [], _, _ => by simp [atK]
  | _ :: _, [], h => by simp at h
  | j :: ks, v :: vs, h => by
    unfold atK
    by_cases e : j = k
    · rw [if_pos e]; simp [e]
    · rw [if_neg e, atK_some k ks vs (by simpa using h)]
      simp [e]
theorem reps_atK {β : Type} [DecidableEq β] {k : β} : ∀ {ks : List β} {vs : List V} {ds : List D} {d : D}, Reps K cl F vs ds → atK k ks ds = some d → ∃ v, atK k ks vs = some v ∧ Rep K cl F v d
  | [], vs, ds, d, r, h => by cases ds <;> simp [atK] at h
  | _ :: _, _, _, d, .nil, h => by simp [atK] at h
  | j :: ks, _, _, d, .cons (v := v) (d := e) r t, h => by
    unfold atK at h ⊢
    by_cases q : j = k
    · simp only [if_pos q] at h ⊢
      cases h
      exact ⟨v, rfl, r⟩
    · simp only [if_neg q] at h ⊢
      exact reps_atK t h
def ixA : D → D → Option D
  | .dK ks ds, k => (keyD k).bind fun k => atK k ks ds
  | d, e => ixD d e
def rDIx : R2 := fun x y H Q => ∃ a v, x = .ref a ∧ DGet H a y (some v) ∧ Q v H
theorem ix_dict (hu : X.A.units + 1 < cLine) : IxR X rDIx := by
  intro value slice pins s σ H x y v u Q I rx ry h hs
  obtain ⟨a, z, rfl, g, q⟩ := h
  cases rx
  exact PyProof.Rows.tail_any (dict_typeIs I g) PySem.F.slot_dict_getitem.lookup (d_getItem hu I g ry fun w' s3 I3 rw' => ⟨z, H, I3, rw', q⟩) hs
theorem lixA : LOp K cl (fun x y H Q => rIx K x y H Q ∨ rDIx x y H Q) ixA := by
  intro F H M x y d e z Q Qd g hx hy h p q
  unfold ixA at h
  split at h
  · rename_i ks ds
    cases e1 : keyD e with
    | none => rw [e1] at h; cases h
    | some k =>
      rw [e1] at h
      obtain ⟨a, vs, rfl, h1, h2, h3⟩ := hx.dK g.sub
      obtain ⟨v, h4, h5⟩ := reps_atK h3 h
      exact .inr ⟨a, v, rfl, by rw [key_rep hy e1, ← h4, ← valV_zip]; exact DGet.k h1, p.val g h5 q⟩
  · exact .inl (lix F H M x y d e z Q Qd g hx hy h p q)
variable {W : WX} {a b : Expr} {pos : Pos} {τa τb : DTE}
theorem d_ixA (hu : X.A.units + 1 < cLine) (ha : DE cl X W a τa) (hb : DE cl X W b τb) (hs : PlainIx b := by exact fun _ _ => rfl) : DE cl X W (.Subscript a b pos) (dOp ixA τa τb) :=
  ⟨pe_imp (pe_ix (ix_seq.or (ix_dict hu)) ha.pe hb.pe hs) fun σ H Q ⟨F, ρ, M, Qd, Xd, g, s, t, p, w⟩ =>
    ⟨F, ρ, M, _, Xd, g, s, t, fun v H' F' d M' sm g' r' q => ⟨F', ρ, M', _, Xd, g', s.mono sm, q, fun u H2 F2 e M2 sm2 g2 r2 q2 => by
      obtain ⟨z, e1, e2⟩ := q2
      exact lixA F2 H2 M2 v u _ _ z Q Qd g2 (vw_ok g2 (r'.mono sm2)) (vw_ok g2 r2) e1 (p.mono (sm.trans sm2)) e2, w.mono sm⟩, w⟩⟩
end
end DL
set_option Elab.async false
set_option linter.all false
set_option maxRecDepth 100000
set_option maxHeartbeats 4000000
set_option autoImplicit false
namespace DL
open PySem L2
section
open PySem.Spec PyProof.Rows HT
variable {prog : Program} {w : World} {A : Around} {E : Value → Shared → Prop} {s : Shared}
end
section
open PySem.Spec PyProof.Rows HT
variable {X : Cx}
end
@[simp] def revD : D → Option D
  | .lst xs => some (.lst xs.reverse)
  | .tup xs => some (.tup xs.reverse)
  | _ => none
section
variable {cl : ClW} {X : Cx} {W : WX} {e : Expr} {τ : DTE} {pos : Pos}
end
def tyD (T : String) : D → Bool
  | .lst _ => T == "list"
  | .str _ => T == "str"
  | .dK _ _ => T == "dict"
  | _ => false
def LMt (K : PySem.W.Frag) (cl : ClW) (r : V → List V → Hp → VK → Prop) (φ : D → List D → Mem → DV → Prop) : Prop :=
  ∀ F H M x xs d ds Q Qd, Good K cl F H M → Rep K cl F x d → Reps K cl F xs ds → φ d ds M Qd → Post K cl F Q Qd → r x xs H Q
def dBM (T : String) (φ : D → List D → Mem → DV → Prop) (τ : DTE) (α : DTA) : DTE := fun ρ M Q X => τ ρ M (fun o M1 => tyD T (vw M1 o) = true ∧ α ρ M1 (fun ds M2 => φ o ds M2 Q) X) X
section
variable {K : PySem.W.Frag} {cl : ClW} {F H : Hp} {X : Cx} {W : WX}
theorem tyV_of {T : String} {v : V} {d : D} (s : Same F H) (h : Vw K cl F H v d) (e : tyD T d = true) : tyV K T v H := by
  cases d with
  | lst ds =>
    obtain ⟨a, vs, rfl, h1, h2⟩ := h.lst s
    exact .inl ⟨eq_of_beq e, vs, h1⟩
  | str z =>
    obtain rfl := h.str
    exact eq_of_beq e
  | dK ks ds =>
    obtain ⟨a, vs, rfl, h1, h2, h3⟩ := h.dK s
    exact .inr (.inr (.inl ⟨eq_of_beq e, .inl ⟨_, h1⟩⟩))
  | _ => cases e
variable {o e : Expr} {es : List Expr} {τ : DTE} {α : DTA} {name : Str} {apos cpos : Pos} {T id : String} {r : V → List V → Hp → VK → Prop} {φ : D → List D → Mem → DV → Prop}
theorem d_bm (pa : PlainAttrs T) (slot : Slot T name id) (hty : typeOf (.builtin id) = pure (.type "method_descriptor")) (hm : MtR X id r) (hl : LMt X.K cl r φ) (ho : DE cl X W o τ) (ha : DA cl X W (e :: es) α)
    (hbase : attributeBase o name X.env (eval o X.env) = eval o X.env := by rfl)
    (hfew : ((backTo cpos (starEach (e :: es) X.env)).all (fun x => !x.1) && (backToKw cpos (keywordEach [] X.env)).all (fun x => x.1.isSome)
      && decide ((e :: es).length + ([] : List Keyword).length + (if ([] : List Keyword).isEmpty then 0 else 1) < 30)) = true := by rfl)
    (hline : (apos.endLine == cpos.line) = true := by rfl) (hs : starEach (e :: es) X.env = (false, eval e X.env) :: starEach es X.env := by rfl) (hplain : (backTo cpos (starEach es X.env)).any (·.1) = false := by rfl) :
    DE cl X W (.Call (.Attribute o name apos) (e :: es) [] cpos) (dBM T φ τ α) :=
  ⟨pe_imp (pe_bm pa slot hty hm ho.pe ha.pa hbase hfew hline hs hplain) fun σ H Q ⟨F, ρ, M, Qd, Xd, g, s, t, p, w⟩ => ⟨F, ρ, M, _, Xd, g, s, t, fun v H' F' d M' sm g' r' ⟨e1, q⟩ =>
    ⟨tyV_of g'.sub (vw_ok g' r') e1, F', ρ, M', _, Xd, g', s.mono sm, q, fun vs H2 F2 ds M2 sm2 g2 r2 q2 => hl F2 H2 M2 v vs d ds Q Qd g2 (r'.mono sm2) r2 q2 (p.mono (sm.trans sm2)), w.mono sm⟩, w⟩⟩
def φApp : D → List D → Mem → DV → Prop := fun o ds M Q => ∃ a xs d, o = .ref a ∧ ds = [d] ∧ M a = some (.lst xs) ∧ xs.length < sizeLine ∧ Q .non (updM M a (.lst (xs ++ [d])))
theorem lm_app : LMt K cl rAppend φApp := by
  intro F H M x xs d ds Q Qd g rx rs h p
  obtain ⟨a, ys, y, rfl, rfl, h1, h2, q⟩ := h
  obtain rfl := rx.toRef
  obtain ⟨hF, vs, h3, h4⟩ := g.cell a _ h1
  obtain ⟨v, ws, rfl, r1, r2⟩ := rs.inv
  obtain rfl := r2.inv0
  exact ⟨a, vs, v, rfl, rfl, h3, by rw [h4.length]; exact h2, p _ _ F _ _ (Same.refl F) (g.put (d := .lst (ys ++ [y])) h1 ⟨vs ++ [v], upd_same, h4.append (.one r1)⟩) .non q⟩
def rExtS (K : PySem.W.Frag) : V → List V → Hp → VK → Prop := fun x vs H Q => ∃ l b xs zs, x = .ref l ∧ vs = [.ref b] ∧ H l = some (.lst xs) ∧ SqL K H b zs ∧ xs.length + zs.length ≤ sizeLine ∧ Q .non (upd H l (.lst (xs ++ zs)))
end
end DL
set_option Elab.async false
set_option linter.all false
set_option maxRecDepth 100000
set_option maxHeartbeats 4000000
set_option autoImplicit false
namespace DL
open PySem L2
theorem RoomG.u1 {k : Nat} {A : Around} (r : RoomG k A) : A.units + 1 < cLine := Nat.lt_of_le_of_lt (by omega) r.room.units
theorem list_extendW (l b : Addr) (items items2 : Array Value) (n n2 : Nat) (sl2 : Array (Option Value)) (hc0 : ¬(!items.isEmpty && Builtin.List.listTooLong (items.size + items2.size)) = true) (hc1 : items.size ≤ sizeLine) (hs2 : items.size + items2.size ≤ sizeLine + 1) :
    Meets (Builtin.«list.extend» ⟨[.ref l, .ref b], []⟩) (fun _ R s => s.heap.get? l = some { cls := .type "list", dict := none, data := .seq items n, slots := #[] } ∧ s.heap.get? b = some { cls := .type "list", dict := none, data := .seq items2 n2, slots := sl2 } ∧ R (.ok (.ret Value.none)) { s with heap := s.heap.update l (Obj.mapSeq fun x => x ++ items2), toks := s.toks }) :=
  .of_wp fun prog w A R s h => by
    obtain ⟨hp, g, d, tk, os⟩ := s; obtain ⟨hl, hb, h⟩ := h; have f1 := AutoSeq1.idx_int; have f2 := AutoSeq1.sub_tuple_tuple; have f3 := AutoSeq1.sub_list_list; have f4 := AutoSeq1.sub_tuple_list; have f5 := AutoSeq1.sub_list_tuple
    have hz' : (items ++ items2).size ≤ sizeLine + 1 := by rw [Array.size_append]; exact hs2
    wp_walk using (wpAny_updateSeq hl rfl (hz := hc1) (_hz' := hz')), AutoSeq1.wpAny_loadPart' hl, AutoSeq1.wpAny_loadPart' hb; exact ⟨_, rfl, h⟩
section
open PySem.Spec PyProof.Rows
variable {X : Cx}
theorem mt_extS : MtR X "list.extend" (rExtS X.K) := by
  intro pins s σ H x vs v us Q I rx rv h
  obtain ⟨l, b, xs, zs, rfl, rfl, hH, hB, hz, q⟩ := h
  cases rx
  obtain ⟨u, rfl, ru⟩ := rv.one
  cases ru
  obtain ⟨z, its, n, r, hl, e⟩ := I.lstM hH
  obtain ⟨its2, r2, ⟨o2, n2, ho2, hc2, hd2, hs2⟩, z2⟩ := I.list hB
  obtain ⟨c2, d2, t2, sl2⟩ := o2
  simp only at hc2 hd2 hs2
  subst hc2 hd2 hs2
  have hl2 := r2.length
  have hsz : its.toArray.size + its2.toArray.size ≤ sizeLine := by rw [List.size_toArray, List.size_toArray]; omega
  have hlong : ¬ (!its.toArray.isEmpty && Builtin.List.listTooLong (its.toArray.size + its2.toArray.size)) = true := by
    rw [notLongL hsz, Bool.and_false]
    exact Bool.false_ne_true
  refine call_meets PySem.F.slot_list_extend ⟨_, e, rfl⟩ PySem.F.entry_list_extend (PySem.F.args_list_extend_2 _ _)
    (list_extendW l b its.toArray its2.toArray n n2 sl2 hlong (by rw [List.size_toArray]; omega) (by omega)) ⟨e, ho2, ?_⟩
  refine ⟨.non, _, I.lset (its' := its ++ its2) hH e (by simp) (r.append r2) ?_, rfl, q⟩
  rw [List.length_append]
  omega
end
def φExt : D → List D → Mem → DV → Prop := fun o ds M Q => ∃ a xs d ys, o = .ref a ∧ ds = [d] ∧ vw M d = .lst ys ∧ M a = some (.lst xs) ∧ xs.length + ys.length ≤ sizeLine ∧ Q .non (updM M a (.lst (xs ++ ys)))
section
variable {K : PySem.W.Frag} {cl : ClW}
theorem lm_ext : LMt K cl (rExtS K) φExt := by
  intro F H M x xs d ds Q Qd g rx rs h p
  obtain ⟨a, ys, y, zs, rfl, rfl, hv, h1, h2, q⟩ := h
  obtain rfl := rx.toRef
  obtain ⟨hF, vs, h3, h4⟩ := g.cell a _ h1
  obtain ⟨v, ws, rfl, r1, r2⟩ := rs.inv
  obtain rfl := r2.inv0
  have k := vw_ok g r1
  rw [hv] at k
  obtain ⟨b, us, rfl, k1, k2⟩ := k.lst g.sub
  exact ⟨a, b, vs, us, rfl, rfl, h3, k1, by rw [h4.length, k2.length]; exact h2, p _ _ F _ _ (Same.refl F) (g.put (d := .lst (ys ++ zs)) h1 ⟨vs ++ us, upd_same, h4.append k2⟩) .non q⟩
end
@[simp] def iEn (τ : DTE) : DTI := fun ρ M R X => τ ρ M (fun d M1 => ∃ xs, d = .lst xs ∧ R (xs.zipIdx.map fun p => D.tup [.int (p.2 : Nat), p.1]) M1) X
@[simp] def iZp (τ τ' : DTE) : DTI := fun ρ M R X => τ ρ M (fun d M1 => τ' ρ M1 (fun e M2 => ∃ xs ys, d = .lst xs ∧ e = .lst ys ∧ R ((xs.zip ys).map fun p => D.tup [p.1, p.2]) M2) X) X
section
variable {cl : ClW} {X : Cx} {W : WX} {a b : Expr} {pos : Pos} {τa τb : DTE}
end
end DL
set_option Elab.async false
set_option linter.all false
set_option maxRecDepth 100000
set_option maxHeartbeats 4000000
set_option autoImplicit false
namespace DL
open PySem L2
def FnC (cl : ClW) (P : Program) (w : World) (K : PySem.W.Frag) (mg : Str → Option Value) (base : Heap) (k : Nat) (x qual : Str) (params : Arguments) (body : List Stmt) (scope : Scope) (f : Addr) (ps : List Str) (spd : SpD) : Prop :=
  ∃ fd, FunD K x qual params body scope [] [] f fd ∧ FnG cl P w K mg base k f fd ps spd
section
variable {cl : ClW} {P : Program} {w : World} {K : PySem.W.Frag} {mg : Str → Option Value} {base : Heap} {k : Nat} {x qual : Str} {params : Arguments} {body : List Stmt} {scope : Scope} {N ps ks : List Str} {spd : SpD} {f : Addr} {t : DTS} {c n : Nat} {ord : List Nat} {m : Str}
theorem fnC_of (F : ∃ fd, FunD K x qual params body scope [] [] f fd) (S : FnScope N ps scope)
    (hbody : ∀ (cdv : Value) (A : Around) (outer : List PySem.Env) (s : Shared) (H : Hp) (E : XK), Cap (cxOf (L2.CX P w) P w K mg base N qual scope f cdv A outer s H E) (fun cls d _ H => E cls d H) k →
      DSs cl (cxOf (L2.CX P w) P w K mg base N qual scope f cdv A outer s H E) (fun cls d _ H => E cls d H) body t)
    (hsp : ∀ ds M Q E, spd ds M Q E → ds.length = ps.length ∧ t (dEnds Q E) (startD N ds) M) : FnC cl P w K mg base (k + 1) x qual params body scope f ps spd := by
  obtain ⟨fd, F⟩ := F
  exact ⟨fd, F, fn_d F S t hbody hsp⟩
abbrev HBind (x qual : Str) (params : Arguments) (body : List Stmt) (scope : Scope) (ps : List Str) : Prop := ∀ (kV doc pm : Value) (an : Option Addr) (cdv ct : Value) (us : List Value), us.length = ps.length → bindArgs (PySem.W.fnOf x qual params body scope .none kV doc pm an cdv ct) ⟨us, []⟩ = pure (ps.zip us)
theorem FnC.fn (C : FnC cl P w K mg base k x qual params body scope f ps spd) {y : Str} (hm : mg y = some (.ref f)) (hb : HBind x qual params body scope ps) : FnB cl P w K mg base k y ps spd := by
  obtain ⟨fd, F, G⟩ := C
  exact ⟨f, fd, hm, F.kp, F.bindsN hb, G⟩
theorem FnC.mk (C : FnC cl P w K mg base k x qual params body scope f ps spd) {y : Str} (hy : mg y = some (.ref (cl c))) (hm : Mk K (cl c) f) (hb : HBind x qual params body scope ps) : MkB cl P w K mg base k y c ps spd := by
  obtain ⟨fd, F, G⟩ := C
  exact ⟨hy, f, fd, hm, F.bindsN hb, G⟩
end
structure DK (cl : ClW) (X : Cx) (W : WX) (kws : List Keyword) (τ : DTA) : Prop where
  pk : PK X kws (lowA X.K cl W τ)
section
variable {cl : ClW} {X : Cx} {W : WX} {e o : Expr} {es : List Expr} {kws : List Keyword} {nm : Option Str} {kpos pos apos p : Pos} {τ : DTE} {α β : DTA} {x m : Str} {n k j c : Nat} {ks ps : List Str} {ord : List Nat} {spd : SpD} {f : Addr} {fd : FuncData} {pl : Sem Bool}
end
end DL
set_option Elab.async false
set_option linter.all false
set_option maxRecDepth 100000
set_option maxHeartbeats 4000000
set_option autoImplicit false
namespace DL
open PySem L2
theorem forD_run {γ : DTG} {t : DTS} {E : DEnds} (xs : List D) (P : List D → Env → Mem → Prop)
    (step : ∀ (done : List D) (x : D) (rest : List D) (ρ : Env) (M : Mem) (Nx : Env → Mem → Prop), xs = done ++ x :: rest → P done ρ M → (∀ ρ' M', P (done ++ [x]) ρ' M' → Nx ρ' M') →
      γ x ρ M (fun ρ2 M2 => t { E with nx := Nx, ct := Nx, bk := E.nx } ρ2 M2) E.ex)
    (fin : ∀ ρ M, P xs ρ M → E.nx ρ M) {ρ : Env} {M : Mem} (h0 : P [] ρ M) : forD γ t xs E ρ M := by
  have go : ∀ (rest done : List D) (ρ : Env) (M : Mem), xs = done ++ rest → P done ρ M → forD γ t rest E ρ M := by
    intro rest
    induction rest with
    | nil =>
      intro done ρ M e p
      rw [List.append_nil] at e
      subst e
      exact fin ρ M p
    | cons x rest ih =>
      intro done ρ M e p
      exact step done x rest ρ M (forD γ t rest E) e p fun ρ' M' p' => ih (done ++ [x]) ρ' M' (by rw [e]; simp) p'
  exact go xs [] ρ M rfl h0
theorem lcD_run {γ : DTG} {υ : DTT} {τ : DTE} {vs : List Nat} {a : Addr} {Q : DV} {ρ : Env} (xs : List D) (P : List D → List D → Mem → Prop)
    (step : ∀ (done : List D) (x : D) (rest acc : List D) (M : Mem) (Nx : Mem → Prop), xs = done ++ x :: rest → M a = some (.lst acc) → P done acc M → (∀ acc' M', M' a = some (.lst acc') → P (done ++ [x]) acc' M' → Nx M') →
      γ x (wipeD ρ vs) M (fun ρ2 M2 => υ ρ2 M2 (fun b M3 => if b = true then τ ρ2 M3 (fun d M4 => ∃ acc, M4 a = some (.lst acc) ∧ acc.length < sizeLine ∧ Nx (updM M4 a (.lst (acc ++ [d])))) noX else Nx M3) noX) noX)
    (fin : ∀ acc M, M a = some (.lst acc) → P xs acc M → Q (.lst acc) (delM M a)) {M : Mem} (h0 : P [] [] (updM M a (.lst []))) : lcD γ υ τ vs a xs ρ (updM M a (.lst [])) Q := by
  have go : ∀ (rest done acc : List D) (M : Mem), xs = done ++ rest → M a = some (.lst acc) → P done acc M → lcD γ υ τ vs a rest ρ M Q := by
    intro rest
    induction rest with
    | nil =>
      intro done acc M e ha p
      rw [List.append_nil] at e
      subst e
      exact ⟨acc, ha, fin acc M ha p⟩
    | cons x rest ih =>
      intro done acc M e ha p
      exact step done x rest acc M (fun M' => lcD γ υ τ vs a rest ρ M' Q) e ha p fun acc' M' ha' p' => ih (done ++ [x]) acc' M' (by rw [e]; simp) ha' p'
  exact go xs [] [] _ rfl updM_same h0
theorem lcD_fn {γ : DTG} {υ : DTT} {τ : DTE} {vs : List Nat} {a : Addr} {Q : DV} {ρ : Env} {M : Mem} (f : D → Option D) (xs : List D) (hl : xs.length ≤ 16777216) (hM : M a = none)
    (step : ∀ x ∈ xs, ∀ (M1 : Mem) (T : Option D → Mem → Prop), (∀ b, b ≠ a → M1 b = M b) → T (f x) M1 → γ x (wipeD ρ vs) M1 (fun ρ2 M2 => υ ρ2 M2 (fun b M3 => if b = true then τ ρ2 M3 (fun d M4 => T (some d) M4) noX else T none M3) noX) noX)
    (q : Q (.lst (xs.filterMap f)) M) : lcD γ υ τ vs a xs ρ (updM M a (.lst [])) Q := by
  refine lcD_run xs (fun done acc M1 => acc = done.filterMap f ∧ M1 = updM M a (.lst acc)) ?_ ?_ ⟨rfl, rfl⟩
  · rintro done x rest acc M1 Nx e ha ⟨rfl, rfl⟩ nx
    have hx : x ∈ xs := by rw [e]; simp
    have hlen : (done.filterMap f).length < sizeLine := by
      have h1 := List.length_filterMap_le f done
      have h2 := congrArg List.length e
      rw [List.length_append, List.length_cons] at h2
      rw [sizeLine_eq]
      omega
    refine step x hx (updM M a (.lst (done.filterMap f))) (fun o M4 => match o with | some d => ∃ acc, M4 a = some (.lst acc) ∧ acc.length < sizeLine ∧ Nx (updM M4 a (.lst (acc ++ [d]))) | none => Nx M4) (fun b hb => updM_ne hb) ?_
    cases ho : f x with
    | none =>
      refine nx _ _ updM_same ⟨?_, rfl⟩
      rw [List.filterMap_append]
      simp [ho]
    | some d =>
      refine ⟨_, updM_same, hlen, nx _ _ updM_same ⟨?_, ?_⟩⟩
      · rw [List.filterMap_append]
        simp [ho]
      · exact updM_updM
  · rintro acc M1 ha ⟨rfl, rfl⟩
    rw [delM_updM hM]
    exact q
section
variable {cl : ClW} {X : Cx} {W : WX} {x f : Str} {p pos : Pos} {c : Nat} {d : D}
end
section
variable {cl : ClW} {X : Cx} {W : WX} {kx vx tg iter : Expr} {ifs : List Expr} {scope : Scope} {own : List (Str × Nat)} {pos : Pos} {ι : DTI} {is : List Nat} {γ : DTG} {υ : DTT} {τk τv : DTE}
end
end DL
set_option Elab.async false
set_option linter.all false
set_option maxRecDepth 100000
set_option maxHeartbeats 4000000
set_option autoImplicit false
namespace DL
open PySem L2
section
open PySem.Spec PyProof.Rows
variable {X : Cx} {tg : Expr}
def iSeqV (K : PySem.W.Frag) (tl : TE) : TI := fun σ H R => tl σ H fun x H1 => (∃ a, x = .ref a ∧ (∃ xs, SqL K H1 a xs) ∧ R (Itl K a) H1) ∨ (∃ a, x = .ref a ∧ (∃ xs, SqT K H1 a xs) ∧ R (Itt K a) H1) ∨ (∃ z, x = .str z ∧ R (Its z) H1) ∨ (∃ z, x = .byt z ∧ R (Itb z) H1)
theorem pi_seqV {l : Expr} {tl : TE} (hl : PE X l tl) : PI X tg l (iSeqV X.K tl) := by
  refine ⟨fun pins s σ H R I h => ?_⟩
  refine thn (hl.run pins s σ H _ I h) fun v s1 ⟨x, H1, I1, r1, q1⟩ => ?_
  rcases q1 with ⟨a, e, ⟨xs, hq⟩, q⟩ | ⟨a, e, ⟨xs, hq⟩, q⟩ | ⟨x, ex, q⟩ | ⟨x, ex, q⟩
  · subst e
    cases r1
    obtain ⟨its, rv, p, hz⟩ := I1.list hq
    refine wpAny_pyIter_list p.isList ?_
    refine ⟨s1.heap.objs.size, [s1.heap.objs.size], _, _, H1, rfl, I1.kept (t' := s1.toks) fun b o e => Heap.get?_push_of_some _ e, turn_list a _, ⟨_, Heap.get?_push_size _ rfl, rfl, rfl⟩, fun b hb => ?_, q⟩
    have e : b = s1.heap.objs.size := by simpa using hb
    subst e
    exact I1.fpOk (Nat.le_refl _) (I1.hok.fresh (Nat.le_refl _))
  · subst e
    cases r1
    obtain ⟨its, rv, p, hz⟩ := I1.tuple hq
    refine wpAny_pyIter_tuple (show s1.heap.IsTuple a its.toArray from p) ?_
    refine ⟨s1.heap.objs.size, [s1.heap.objs.size], _, _, H1, rfl, I1.kept (t' := s1.toks) fun b o e => Heap.get?_push_of_some _ e, turn_tuple a _, ⟨_, Heap.get?_push_size _ rfl, rfl, rfl⟩, fun b hb => ?_, q⟩
    have e : b = s1.heap.objs.size := by simpa using hb
    subst e
    exact I1.fpOk (Nat.le_refl _) (I1.hok.fresh (Nat.le_refl _))
  · subst ex
    obtain ⟨t, rfl⟩ := r1
    cases ha : x.cps.all (· < 128)
    · exact wpAny_pyIter_wide ha (pi_one (tk := s1.toks) I1 _ (turn_str _ x t "str_iterator" (.inr rfl)) ⟨_, Heap.get?_push_size _ rfl, rfl, rfl⟩ q)
    · exact wpAny_pyIter_ascii ha (pi_one (tk := s1.toks) I1 _ (turn_str _ x t "str_ascii_iterator" (.inl rfl)) ⟨_, Heap.get?_push_size _ rfl, rfl, rfl⟩ q)
  · subst ex
    obtain ⟨t, rfl⟩ := r1
    exact PySem.W.KBw.pyIter_bytes (pi_one (tk := s1.toks) I1 _ (turn_byt _ x t) ⟨_, Heap.get?_push_size _ rfl, rfl, rfl⟩ q)
end
@[simp] def itD : D → Option (List D)
  | .lst xs => some xs
  | .tup xs => some xs
  | .str z => some (z.cps.toList.map fun c => D.str ⟨#[c]⟩)
  | .byt b => some (b.toList.map fun c => D.int ((c.toNat : Nat) : Int))
  | _ => none
@[simp] def iS (τ : DTE) : DTI := fun ρ M R X => τ ρ M (fun d M1 => ∃ xs, itD d = some xs ∧ R xs M1) X
section
variable {cl : ClW} {X : Cx} {W : WX} {e : Expr} {τ : DTE}
theorem di_seq {tg : Expr} (h : DE cl X W e τ) : DI cl X W tg e (iS τ) := ⟨pi_imp (pi_seqV h.pe) fun σ H R ⟨F, ρ, M, Rd, Xd, g, s, q, p, w⟩ =>
  ⟨F, ρ, M, _, Xd, g, s, q, fun v H' F' d M' sm g' r ⟨xs, e1, q'⟩ => (by
    cases d with
    | lst ds =>
      cases e1
      obtain ⟨a, vs, rfl, h1, h2⟩ := r.toLst
      refine .inl ⟨a, rfl, ⟨vs, same_l g'.sub h1⟩, p _ _ F' xs M' sm g' (fun i F2 H2 M2 sm2 g2 => ⟨fun d hd => ?_, fun hl => ⟨vs, same_l (sm2.trans g2.sub) h1, by rw [h2.length]; exact hl⟩⟩) q'⟩
      obtain ⟨v, hv, rv⟩ := h2.get hd
      refine ⟨⟨vs, v, same_l (sm2.trans g2.sub) h1, hv⟩, fun x H3 ⟨e1, e2⟩ => ?_⟩
      subst e1
      have := e2 vs (same_l (sm2.trans g2.sub) h1)
      rw [hv] at this
      cases this
      exact ⟨F2, Same.refl F2, g2, rv.mono sm2⟩
    | tup ds =>
      cases e1
      obtain ⟨a, vs, rfl, h1, h2⟩ := r.toTup
      refine .inr (.inl ⟨a, rfl, ⟨vs, same_t g'.sub h1⟩, p _ _ F' xs M' sm g' (fun i F2 H2 M2 sm2 g2 => ⟨fun d hd => ?_, fun hl => ⟨vs, same_t (sm2.trans g2.sub) h1, by rw [h2.length]; exact hl⟩⟩) q'⟩)
      obtain ⟨v, hv, rv⟩ := h2.get hd
      refine ⟨⟨vs, v, same_t (sm2.trans g2.sub) h1, hv⟩, fun x H3 ⟨e1, e2⟩ => ?_⟩
      subst e1
      have := e2 vs (same_t (sm2.trans g2.sub) h1)
      rw [hv] at this
      cases this
      exact ⟨F2, Same.refl F2, g2, rv.mono sm2⟩
    | str z =>
      cases e1
      obtain rfl := r.toStr
      refine .inr (.inr (.inl ⟨z, rfl, p _ _ F' _ M' sm g' (fun i F2 H2 M2 sm2 g2 => ⟨fun d hd => ?_, fun hl => ?_⟩) q'⟩))
      · rw [List.getElem?_map] at hd
        obtain ⟨c, hc, rfl⟩ := Option.map_eq_some_iff.mp hd
        have hc' : z.cps[i]? = some c := by simpa using hc
        refine ⟨(Array.getElem?_eq_some_iff.mp hc').1, fun x H3 ⟨e1, c2, e2, e3⟩ => ?_⟩
        subst e1 e3
        rw [hc'] at e2
        cases e2
        exact ⟨F2, Same.refl F2, g2, .str _⟩
      · show z.cps.size ≤ i
        simpa using hl
    | byt z =>
      cases e1
      obtain rfl := r.toByt
      refine .inr (.inr (.inr ⟨z, rfl, p _ _ F' _ M' sm g' (fun i F2 H2 M2 sm2 g2 => ⟨fun d hd => ?_, fun hl => ?_⟩) q'⟩))
      · rw [List.getElem?_map] at hd
        obtain ⟨c, hc, rfl⟩ := Option.map_eq_some_iff.mp hd
        have hc' : z[i]? = some c := by simpa using hc
        refine ⟨(Array.getElem?_eq_some_iff.mp hc').1, fun x H3 ⟨e1, c2, e2, e3⟩ => ?_⟩
        subst e1 e3
        rw [hc'] at e2
        cases e2
        exact ⟨F2, Same.refl F2, g2, .int _⟩
      · show z.size ≤ i
        simpa using hl
    | _ => cases e1), w⟩⟩
end
end DL
set_option Elab.async false
set_option linter.all false
set_option maxRecDepth 100000
set_option maxHeartbeats 2000000
set_option autoImplicit false
namespace DL
open PySem L2
section
variable {M : Mem} {i j : Int} {b : Bool} {x y : Str} {xs ys : List D} {d e : D} {a : Addr} {ks : List Key}
@[simp] theorem ixA_lst : ixA (.lst xs) e = ixD (.lst xs) e := rfl
@[simp] theorem ixA_tup : ixA (.tup xs) e = ixD (.tup xs) e := rfl
@[simp] theorem ixA_str : ixA (.str x) e = ixD (.str x) e := rfl
@[simp] theorem ixA_dK : ixA (.dK ks xs) e = (keyD e).bind fun k => atK k ks xs := rfl
@[simp] theorem keyD_int : keyD (.int i) = some (.inl i) := rfl
@[simp] theorem keyD_str : keyD (.str x) = some (.inr x) := rfl
@[simp] theorem tupF_lst : tupF [.lst xs] = some (.tup xs) := rfl
@[simp] theorem tupF_tup : tupF [.tup xs] = some (.tup xs) := rfl
@[simp] theorem lstF_lst : lstF [.lst xs] = some (.lst xs) := rfl
@[simp] theorem lstF_tup : lstF [.tup xs] = some (.lst xs) := rfl
@[simp] theorem allF_lst : allF [.lst xs] = (blsOf xs).map fun bs => .bl (bs.all id) := rfl
@[simp] theorem anyF_lst : anyF [.lst xs] = (blsOf xs).map fun bs => .bl (bs.any id) := rfl
@[simp] theorem inD_def : inD d e = (inB d e).map D.bl := rfl
@[simp] theorem ninD_def : ninD d e = (inB d e).map fun b => D.bl !b := rfl
@[simp] theorem inB_lst : inB d (.lst xs) = if flatD d && xs.all flatD then some (xs.any fun y => eqFD y d) else none := rfl
@[simp] theorem inB_tup : inB d (.tup xs) = if flatD d && xs.all flatD then some (xs.any fun y => eqFD y d) else none := rfl
@[simp] theorem inB_dK : inB d (.dK ks xs) = (keyD d).map fun k => ks.any fun j => decide (j = k) := rfl
@[simp] theorem inB_str : inB (.str x) (.str y) = some (inStr x y) := rfl
@[simp] theorem tyD_lst : tyD "list" (.lst xs) = true := rfl
end
end DL
set_option Elab.async false
set_option linter.all false
set_option maxRecDepth 100000
set_option autoImplicit false
namespace DL
open PySem L2
end DL
set_option Elab.async false
set_option linter.all false
set_option maxRecDepth 100000
set_option autoImplicit false
namespace DL
open PySem L2
mutual
def plD : Nat → D → Bool
  | _, .non => true
  | _, .bl _ => true
  | _, .int _ => true
  | _, .str x => PyData.strOk x
  | n + 1, .lst xs => plDs n xs
  | n + 1, .tup xs => plDs n xs
  | _, _ => false
def plDs : Nat → List D → Bool
  | _, [] => true
  | n, x :: xs => plD n x && plDs n xs
end
mutual
def eqT : D → D → Bool
  | .non, .non => true
  | .bl a, .bl b => a == b
  | .bl a, .int j => (if a then 1 else 0) == j
  | .int i, .bl b => i == (if b then 1 else 0)
  | .int i, .int j => i == j
  | .str x, .str y => x == y
  | .lst xs, .lst ys => eqTs xs ys
  | .tup xs, .tup ys => eqTs xs ys
  | _, _ => false
def eqTs : List D → List D → Bool
  | [], [] => true
  | x :: xs, y :: ys => eqT x y && eqTs xs ys
  | _, _ => false
end
mutual
theorem plD_py : ∀ (n : Nat) (d : D), plD n d = true → ∃ p, toPy d = some p ∧ p.canLay0 = true ∧ p.depth ≤ n
  | n, .non, _ => ⟨.none, rfl, rfl, by simp [PyData.depth]⟩
  | n, .bl b, _ => ⟨.bool b, rfl, rfl, by simp [PyData.depth]⟩
  | n, .int b, _ => ⟨.int b, rfl, rfl, by simp [PyData.depth]⟩
  | n, .str b, h => ⟨.str b, rfl, by simpa [PyData.canLay0, plD] using h, by simp [PyData.depth]⟩
  | n + 1, .lst xs, h => by
    obtain ⟨ps, h1, h2, h3⟩ := plDs_py n xs (by simpa [plD] using h)
    exact ⟨.list ps, by simp [toPy, h1], by simpa [PyData.canLay0] using h2, by simp [PyData.depth]; omega⟩
  | n + 1, .tup xs, h => by
    obtain ⟨ps, h1, h2, h3⟩ := plDs_py n xs (by simpa [plD] using h)
    exact ⟨.tuple ps, by simp [toPy, h1], by simpa [PyData.canLay0] using h2, by simp [PyData.depth]; omega⟩
  | 0, .lst _, h => by simp [plD] at h
  | 0, .tup _, h => by simp [plD] at h
  | _, .byt _, h => by simp [plD] at h
  | _, .ty _, h => by simp [plD] at h
  | _, .ref _, h => by simp [plD] at h
  | _, .dK _ _, h => by simp [plD] at h
  | _, .dT _ _ _, h => by simp [plD] at h
  | _, .obj _ _ _, h => by simp [plD] at h
  | _, .cls _, h => by simp [plD] at h
  | _, .exc _ _ _ _ _, h => by simp [plD] at h
  | _, .xob _ _ _, h => by simp [plD] at h
  | _, .thk _ _ _ _ _, h => by simp [plD] at h
  | _, .dN _ _ _, h => by simp [plD] at h
theorem plDs_py : ∀ (n : Nat) (ds : List D), plDs n ds = true → ∃ ps, toPys ds = some ps ∧ PyData.canLayAll0 ps = true ∧ PyData.depthAll ps ≤ n
  | n, [], _ => ⟨[], rfl, rfl, by simp [PyData.depthAll]⟩
  | n, x :: xs, h => by
    simp only [plDs, Bool.and_eq_true] at h
    obtain ⟨p, h1, h2, h3⟩ := plD_py n x h.1
    obtain ⟨ps, k1, k2, k3⟩ := plDs_py n xs h.2
    exact ⟨p :: ps, by simp [toPys, h1, k1], by simp [PyData.canLayAll0, h2, k2], by simp [PyData.depthAll]; omega⟩
end
theorem toPy_inv {d : D} {p : PyData} (h : toPy d = some p) : (d = .non ∧ p = .none) ∨ (∃ b, d = .bl b ∧ p = .bool b) ∨ (∃ i, d = .int i ∧ p = .int i) ∨ (∃ x, d = .str x ∧ p = .str x) ∨ (∃ xs ps, d = .lst xs ∧ p = .list ps ∧ toPys xs = some ps) ∨ (∃ xs ps, d = .tup xs ∧ p = .tuple ps ∧ toPys xs = some ps) := by
  cases d with
  | non => simp only [toPy] at h; cases h; exact .inl ⟨rfl, rfl⟩
  | bl b => simp only [toPy] at h; cases h; exact .inr (.inl ⟨b, rfl, rfl⟩)
  | int b => simp only [toPy] at h; cases h; exact .inr (.inr (.inl ⟨b, rfl, rfl⟩))
  | str b => simp only [toPy] at h; cases h; exact .inr (.inr (.inr (.inl ⟨b, rfl, rfl⟩)))
  | lst xs =>
    simp only [toPy] at h
    obtain ⟨ps, h1, rfl⟩ := Option.map_eq_some_iff.mp h
    exact .inr (.inr (.inr (.inr (.inl ⟨xs, ps, rfl, rfl, h1⟩))))
  | tup xs =>
    simp only [toPy] at h
    obtain ⟨ps, h1, rfl⟩ := Option.map_eq_some_iff.mp h
    exact .inr (.inr (.inr (.inr (.inr ⟨xs, ps, rfl, rfl, h1⟩))))
  | _ => simp only [toPy] at h; cases h
theorem toPys_cons {x : D} {xs : List D} {ps : List PyData} (h : toPys (x :: xs) = some ps) : ∃ p qs, ps = p :: qs ∧ toPy x = some p ∧ toPys xs = some qs := by
  simp only [toPys] at h
  cases e1 : toPy x with
  | none => rw [e1] at h; cases h
  | some p =>
    cases e2 : toPys xs with
    | none => rw [e1, e2] at h; cases h
    | some qs => rw [e1, e2] at h; cases h; exact ⟨p, qs, rfl, rfl, rfl⟩
mutual
theorem eqv_T : ∀ (d e : D) (p q : PyData), toPy d = some p → toPy e = some q → PyData.eqv p q = eqT d e
  | .non, e, p, q, h, k => by
    simp only [toPy] at h; cases h
    rcases toPy_inv k with ⟨rfl, rfl⟩ | ⟨b, rfl, rfl⟩ | ⟨b, rfl, rfl⟩ | ⟨b, rfl, rfl⟩ | ⟨xs, ps, rfl, rfl, _⟩ | ⟨xs, ps, rfl, rfl, _⟩ <;> rfl
  | .bl a, e, p, q, h, k => by
    simp only [toPy] at h; cases h
    rcases toPy_inv k with ⟨rfl, rfl⟩ | ⟨b, rfl, rfl⟩ | ⟨b, rfl, rfl⟩ | ⟨b, rfl, rfl⟩ | ⟨xs, ps, rfl, rfl, _⟩ | ⟨xs, ps, rfl, rfl, _⟩ <;> rfl
  | .int a, e, p, q, h, k => by
    simp only [toPy] at h; cases h
    rcases toPy_inv k with ⟨rfl, rfl⟩ | ⟨b, rfl, rfl⟩ | ⟨b, rfl, rfl⟩ | ⟨b, rfl, rfl⟩ | ⟨xs, ps, rfl, rfl, _⟩ | ⟨xs, ps, rfl, rfl, _⟩ <;> rfl
  | .str a, e, p, q, h, k => by
    simp only [toPy] at h; cases h
    rcases toPy_inv k with ⟨rfl, rfl⟩ | ⟨b, rfl, rfl⟩ | ⟨b, rfl, rfl⟩ | ⟨b, rfl, rfl⟩ | ⟨xs, ps, rfl, rfl, _⟩ | ⟨xs, ps, rfl, rfl, _⟩ <;> rfl
  | .lst xs, e, p, q, h, k => by
    simp only [toPy] at h
    obtain ⟨ps, h1, rfl⟩ := Option.map_eq_some_iff.mp h
    rcases toPy_inv k with ⟨rfl, rfl⟩ | ⟨b, rfl, rfl⟩ | ⟨b, rfl, rfl⟩ | ⟨b, rfl, rfl⟩ | ⟨ys, qs, rfl, rfl, k1⟩ | ⟨ys, qs, rfl, rfl, k1⟩
    · rfl
    · rfl
    · rfl
    · rfl
    · simp only [PyData.eqv, eqT]
      exact eqvs_T xs ys ps qs h1 k1
    · rfl
  | .tup xs, e, p, q, h, k => by
    simp only [toPy] at h
    obtain ⟨ps, h1, rfl⟩ := Option.map_eq_some_iff.mp h
    rcases toPy_inv k with ⟨rfl, rfl⟩ | ⟨b, rfl, rfl⟩ | ⟨b, rfl, rfl⟩ | ⟨b, rfl, rfl⟩ | ⟨ys, qs, rfl, rfl, k1⟩ | ⟨ys, qs, rfl, rfl, k1⟩
    · rfl
    · rfl
    · rfl
    · rfl
    · rfl
    · simp only [PyData.eqv, eqT]
      exact eqvs_T xs ys ps qs h1 k1
  | .byt _, _, _, _, h, _ => by simp only [toPy] at h; cases h
  | .ty _, _, _, _, h, _ => by simp only [toPy] at h; cases h
  | .ref _, _, _, _, h, _ => by simp only [toPy] at h; cases h
  | .dK _ _, _, _, _, h, _ => by simp only [toPy] at h; cases h
  | .dT _ _ _, _, _, _, h, _ => by simp only [toPy] at h; cases h
  | .obj _ _ _, _, _, _, h, _ => by simp only [toPy] at h; cases h
  | .cls _, _, _, _, h, _ => by simp only [toPy] at h; cases h
theorem eqvs_T : ∀ (ds es : List D) (ps qs : List PyData), toPys ds = some ps → toPys es = some qs → PyData.eqvAll ps qs = eqTs ds es
  | [], [], ps, qs, h, k => by simp only [toPys] at h k; cases h; cases k; simp only [PyData.eqvAll, eqTs]
  | [], e :: es, ps, qs, h, k => by
    obtain ⟨q, qs', rfl, _, _⟩ := toPys_cons k
    simp only [toPys] at h; cases h; simp only [PyData.eqvAll, eqTs]
  | d :: ds, [], ps, qs, h, k => by
    obtain ⟨q, qs', rfl, _, _⟩ := toPys_cons h
    simp only [toPys] at k; cases k; simp only [PyData.eqvAll, eqTs]
  | d :: ds, e :: es, ps, qs, h, k => by
    obtain ⟨p, ps', rfl, h1, h2⟩ := toPys_cons h
    obtain ⟨q, qs', rfl, k1, k2⟩ := toPys_cons k
    simp only [PyData.eqvAll, eqTs]
    rw [eqv_T d e p q h1 k1, eqvs_T ds es ps' qs' h2 k2]
end
theorem eqP_pl {n m : Nat} {d e : D} (hd : plD n d = true) (he : plD m e = true) (hn : n ≤ 64 := by decide) (hm : m ≤ 64 := by decide) : eqP d e = some (eqT d e) := by
  obtain ⟨p, h1, h2, h3⟩ := plD_py n d hd
  obtain ⟨q, k1, k2, k3⟩ := plD_py m e he
  unfold eqP
  rw [h1, k1]
  have s1 : SeqAt.shaped p = true := by unfold SeqAt.shaped; rw [h2, decide_eq_true (by omega)]; rfl
  have s2 : SeqAt.shaped q = true := by unfold SeqAt.shaped; rw [k2, decide_eq_true (by omega)]; rfl
  simp only [s1, s2, Bool.and_self, if_true]
  rw [eqv_T d e p q h1 k1]
theorem eqD_lst' {n m : Nat} {xs ys : List D} (hd : plDs n xs = true) (he : plDs m ys = true) (hn : n < 64 := by decide) (hm : m < 64 := by decide) : eqD (.lst xs) (.lst ys) = some (.bl (eqTs xs ys)) := by
  show (eqP _ _).map D.bl = _
  rw [eqP_pl (n := n + 1) (m := m + 1) (by simpa [plD] using hd) (by simpa [plD] using he) hn hm]
  simp only [Option.map_some, eqT]
theorem neD_lst' {n m : Nat} {xs ys : List D} (hd : plDs n xs = true) (he : plDs m ys = true) (hn : n < 64 := by decide) (hm : m < 64 := by decide) : neD (.lst xs) (.lst ys) = some (.bl !(eqTs xs ys)) := by
  show (eqP _ _).map (fun b => D.bl !b) = _
  rw [eqP_pl (n := n + 1) (m := m + 1) (by simpa [plD] using hd) (by simpa [plD] using he) hn hm]
  simp only [Option.map_some, eqT]
mutual
theorem eqT_refl : ∀ (n : Nat) (d : D), plD n d = true → eqT d d = true
  | _, .non, _ => by simp [eqT]
  | _, .bl _, _ => by simp [eqT]
  | _, .int _, _ => by simp [eqT]
  | _, .str _, _ => by simp [eqT]
  | n + 1, .lst xs, h => by simp only [eqT]; exact eqTs_refl n xs (by simpa [plD] using h)
  | n + 1, .tup xs, h => by simp only [eqT]; exact eqTs_refl n xs (by simpa [plD] using h)
  | 0, .lst _, h => by simp [plD] at h
  | 0, .tup _, h => by simp [plD] at h
  | _, .byt _, h => by simp [plD] at h
  | _, .ty _, h => by simp [plD] at h
  | _, .ref _, h => by simp [plD] at h
  | _, .dK _ _, h => by simp [plD] at h
  | _, .dT _ _ _, h => by simp [plD] at h
  | _, .obj _ _ _, h => by simp [plD] at h
  | _, .cls _, h => by simp [plD] at h
  | _, .exc _ _ _ _ _, h => by simp [plD] at h
  | _, .xob _ _ _, h => by simp [plD] at h
  | _, .thk _ _ _ _ _, h => by simp [plD] at h
  | _, .dN _ _ _, h => by simp [plD] at h
theorem eqTs_refl : ∀ (n : Nat) (ds : List D), plDs n ds = true → eqTs ds ds = true
  | _, [], _ => by simp [eqTs]
  | n, d :: ds, h => by
    simp only [plDs, Bool.and_eq_true] at h
    simp only [eqTs, Bool.and_eq_true]
    exact ⟨eqT_refl n d h.1, eqTs_refl n ds h.2⟩
end
theorem plDs_all {n : Nat} : ∀ {ds : List D}, plDs n ds = true ↔ ∀ d ∈ ds, plD n d = true
  | [] => by simp [plDs]
  | d :: ds => by simp [plDs, plDs_all (ds := ds)]
@[simp] theorem plDs_nil {n : Nat} : plDs n [] = true := by simp [plDs]
theorem plDs_map {α : Type} {n : Nat} {f : α → D} {l : List α} (h : ∀ x ∈ l, plD n (f x) = true) : plDs n (l.map f) = true := plDs_all.mpr fun d hd => by
  obtain ⟨x, hx, rfl⟩ := List.mem_map.mp hd
  exact h x hx
@[simp] theorem eqTs_nilr {xs : List D} : eqTs xs [] = xs.isEmpty := by cases xs <;> simp [eqTs]
end DL
set_option Elab.async false
set_option linter.all false
set_option maxRecDepth 100000
set_option maxHeartbeats 1000000
namespace DL
open PySem L2
theorem toNat_inj {a b : Char} (h : a.toNat = b.toNat) : a = b := by
  have : a.val = b.val := UInt32.toNat_inj.mp h
  exact Char.ext this
@[simp] theorem ofStr_inj (a b : String) : (Str.ofString a = Str.ofString b) = (a = b) := by
  refine propext ⟨fun h => ?_, fun h => by rw [h]⟩
  rw [Str.ofString_eq_toList, Str.ofString_eq_toList] at h
  have h2 : a.toList.map Char.toNat = b.toList.map Char.toNat := by simpa using h
  have h3 : a.toList = b.toList := List.map_inj_right (fun x y e => toNat_inj e) |>.mp h2
  exact String.toList_inj.mp h3
@[simp] theorem ofStr_beq (a b : String) : (Str.ofString a == Str.ofString b) = (a == b) := by
  by_cases h : a = b
  · subst h; simp
  · have h1 : ¬ (Str.ofString a = Str.ofString b) := by rw [ofStr_inj]; exact h
    rw [beq_false_of_ne h1, beq_false_of_ne h]
def methAt (tb : List (Nat × SpD)) (m : Str) (o : D) (M : Mem) (R : SpD → Prop) : Prop := ∃ c ns ds spd, vw M o = .obj c ns ds ∧ tb.lookup c = some spd ∧ m ∉ ns ∧ R spd
theorem methAt_obj {tb : List (Nat × SpD)} {m : Str} {M : Mem} {R : SpD → Prop} {c : Nat} {ns : List Str} {ds : List D} : methAt tb m (.obj c ns ds) M R ↔ ∃ spd, tb.lookup c = some spd ∧ m ∉ ns ∧ R spd := by
  constructor
  · rintro ⟨c', ns', ds', spd, h, h1, h2, h3⟩
    rw [vw_obj] at h
    cases h
    exact ⟨spd, h1, h2, h3⟩
  · rintro ⟨spd, h1, h2, h3⟩
    exact ⟨c, ns, ds, spd, rfl, h1, h2, h3⟩
end DL
set_option Elab.async false
set_option linter.all false
set_option maxRecDepth 100000
set_option maxHeartbeats 1000000
set_option autoImplicit false
namespace FL
open PySem L2 DL
def Keep (M M' : Mem) : Prop := ∀ b d, M b = some d → M' b = some d
theorem Keep.refl (M : Mem) : Keep M M := fun _ _ h => h
theorem Keep.trans {M M1 M2 : Mem} (h : Keep M M1) (k : Keep M1 M2) : Keep M M2 := fun b d e => k b d (h b d e)
theorem Keep.new {M : Mem} {a : Addr} {d : D} (h : M a = none) : Keep M (updM M a d) := fun b e q => by
  rw [updM_ne (fun z => by rw [z, h] at q; cases q)]; exact q
theorem Keep.upd {M M' : Mem} {a : Addr} {d : D} (k : Keep M M') (h : M a = none) : Keep M (updM M' a d) := fun b e q => by
  rw [updM_ne (fun z => by rw [z, h] at q; cases q)]; exact k b e q
theorem Keep.del {M M' : Mem} {a : Addr} (k : Keep M M') (h : M a = none) : Keep M (delM M' a) := fun b e q => by
  rw [delM_ne (fun z => by rw [z, h] at q; cases q)]; exact k b e q
theorem Keep.vw {M M' : Mem} (k : Keep M M') {d : D} (h : ∀ a, d = .ref a → (M a).isSome) : vw M' d = vw M d := by
  cases d with
  | ref a =>
    have := h a rfl
    cases e : M a with
    | none => rw [e] at this; cases this
    | some c => rw [vw_ref e, vw_ref (k a c e)]
  | _ => rfl
def Well (M : Mem) (r : Addr) (n : Nat) : Prop := ∃ a b c : Int, M r = some (.lst [.int a, .int b, .int c]) ∧ 0 ≤ b ∧ b < 2147483629 ∧ 0 ≤ c ∧ c ≤ n
structure WTo (M M' : Mem) (r : Addr) (n : Nat) : Prop where
  ok : Well M' r n
  keep : ∀ b d, b ≠ r → M b = some d → M' b = some d
theorem Well.mono {M : Mem} {r : Addr} {n m : Nat} (h : Well M r n) (l : n ≤ m) : Well M r m := by
  obtain ⟨a, b, c, h1, h2, h3, h4, h5⟩ := h
  exact ⟨a, b, c, h1, h2, h3, h4, by omega⟩
theorem Well.keep {M M' : Mem} {r : Addr} {n : Nat} (h : Well M r n) (k : Keep M M') : Well M' r n := by
  obtain ⟨a, b, c, h1, h2⟩ := h
  exact ⟨a, b, c, k _ _ h1, h2⟩
theorem Well.there {M : Mem} {r : Addr} {n : Nat} (h : Well M r n) : ∃ d, M r = some d := by
  obtain ⟨a, b, c, h1, _⟩ := h
  exact ⟨_, h1⟩
theorem Well.ne {M : Mem} {r a : Addr} {n : Nat} (h : Well M r n) (e : M a = none) : r ≠ a := fun z => by
  obtain ⟨d, q⟩ := h.there
  rw [z, e] at q
  cases q
theorem WTo.refl {M : Mem} {r : Addr} {n : Nat} (h : Well M r n) : WTo M M r n := ⟨h, fun _ _ _ q => q⟩
theorem WTo.trans {M M1 M2 : Mem} {r : Addr} {n m : Nat} (h : WTo M M1 r n) (k : WTo M1 M2 r m) : WTo M M2 r m := ⟨k.ok, fun b d hb q => k.keep b d hb (h.keep b d hb q)⟩
theorem WTo.mono {M M1 : Mem} {r : Addr} {n m : Nat} (h : WTo M M1 r n) (l : n ≤ m) : WTo M M1 r m := ⟨h.ok.mono l, h.keep⟩
theorem WTo.and {M M1 M2 : Mem} {r : Addr} {n : Nat} (h : WTo M M1 r n) (k : Keep M1 M2) : WTo M M2 r n := ⟨h.ok.keep k, fun b d hb q => k b d (h.keep b d hb q)⟩
theorem WTo.keep1 {M M1 : Mem} {r a : Addr} {n : Nat} {d : D} (h : WTo M M1 r n) (e : M a = some d) (hne : a ≠ r) : M1 a = some d := h.keep a d hne e
theorem WTo.put {M : Mem} {r : Addr} {n : Nat} {a b c : Int} (hb : 0 ≤ b) (hb2 : b < 2147483629) (hc : 0 ≤ c) (hn : c ≤ n) : WTo M (updM M r (.lst [.int a, .int b, .int c])) r n :=
  ⟨⟨a, b, c, updM_same, hb, hb2, hc, hn⟩, fun _ _ h q => by rw [updM_ne h]; exact q⟩
theorem WTo.upd {M M1 : Mem} {r a : Addr} {n : Nat} {d : D} (h : WTo M M1 r n) (e : M a = none) (hne : a ≠ r) : WTo M (updM M1 a d) r n := by
  refine ⟨?_, fun b c hb q => ?_⟩
  · obtain ⟨x, y, z, h1, h2⟩ := h.ok
    exact ⟨x, y, z, by rw [updM_ne (Ne.symm hne)]; exact h1, h2⟩
  · rw [updM_ne (fun z => by rw [z, e] at q; cases q)]
    exact h.keep b c hb q
theorem WTo.del {M M1 : Mem} {r a : Addr} {n : Nat} (h : WTo M M1 r n) (e : M a = none) (hne : a ≠ r) : WTo M (delM M1 a) r n := by
  refine ⟨?_, fun b c hb q => ?_⟩
  · obtain ⟨x, y, z, h1, h2⟩ := h.ok
    exact ⟨x, y, z, by rw [delM_ne (Ne.symm hne)]; exact h1, h2⟩
  · rw [delM_ne (fun z => by rw [z, e] at q; cases q)]
    exact h.keep b c hb q
def isL (c : Nat) : Bool := decide (97 ≤ c) && decide (c ≤ 122)
def isS (c : Nat) : Bool := isL c || (decide (48 ≤ c) && decide (c ≤ 57))
def S (cs : List Nat) : Str := ⟨cs.toArray⟩
@[simp] theorem S_inj {a b : List Nat} : S a = S b ↔ a = b := by
  constructor
  · intro h
    have := congrArg (fun x : Str => x.cps.toList) h
    simpa [S] using this
  · rintro rfl; rfl
def NameOk (cs : List Nat) : Prop := ∃ c r, cs = c :: r ∧ r.length ≤ 7 ∧ isL c = true ∧ ∀ e ∈ r, isS e = true
theorem isS_lt {c : Nat} (h : isS c = true) : c < 1114112 := by simp [isS, isL] at h; omega
theorem isL_S {c : Nat} (h : isL c = true) : isS c = true := by simp [isS, h]
theorem NameOk.all {cs : List Nat} (h : NameOk cs) : ∀ c ∈ cs, isS c = true := by
  obtain ⟨c, r, rfl, _, h1, h2⟩ := h
  intro e he
  rcases List.mem_cons.mp he with rfl | he
  · exact isL_S h1
  · exact h2 e he
theorem NameOk.ok {cs : List Nat} (h : NameOk cs) (n : Nat) : plD n (.str (S cs)) = true := by
  simp [plD, PyData.strOk, S]
  intro c hc
  exact isS_lt (h.all c hc)
theorem NameOk.len {cs : List Nat} (h : NameOk cs) : 1 ≤ cs.length ∧ cs.length ≤ 8 := by
  obtain ⟨c, r, rfl, h1, _⟩ := h
  simp; omega
@[simp] theorem S_length (a : List Nat) : (S a).length = a.length := by simp [S, Str.length]
theorem range_at {n : Nat} {f : Nat → D} {done rest : List D} {x : D} (h : (List.range n).map f = done ++ x :: rest) : done.length < n ∧ x = f done.length := by
  have h1 := congrArg List.length h
  simp at h1
  have h2 : done.length < n := by omega
  refine ⟨h2, ?_⟩
  have h3 := congrArg (fun l : List D => l[done.length]?) h
  simp [h2] at h3
  exact h3.symm
structure Row where
  nm : List Nat
  va : Int
  lv : Int
def Row.d (r : Row) : D := .tup [.str (S r.nm), .int r.va, .int r.lv]
def LevOk (ls : List Int) : Prop := ∀ (i : Nat) (l : Int), ls[i]? = some l → 0 ≤ l ∧ (i = 0 → l = 0) ∧ ∀ k : Nat, i = k + 1 → ∃ m : Int, ls[k]? = some m ∧ l ≤ m + 1
structure RowsOk (rs : List Row) : Prop where
  len : rs.length ≤ 60
  names : ∀ r ∈ rs, NameOk r.nm
  vals : ∀ r ∈ rs, -(10 ^ 30) ≤ r.va ∧ r.va ≤ 10 ^ 30
  nd : (rs.map Row.nm).Nodup
  lev : LevOk (rs.map Row.lv)
theorem LevOk.snoc {ls : List Int} {l : Int} (h : LevOk ls) (h0 : 0 ≤ l) (h1 : ls = [] → l = 0) (h2 : ∀ m, ls.getLast? = some m → l ≤ m + 1) : LevOk (ls ++ [l]) := by
  intro i x hx
  by_cases hi : i < ls.length
  · rw [List.getElem?_append_left hi] at hx
    obtain ⟨a, b, c⟩ := h i x hx
    refine ⟨a, b, fun k hk => ?_⟩
    obtain ⟨m, hm, hl⟩ := c k hk
    exact ⟨m, by rw [List.getElem?_append_left (by omega)]; exact hm, hl⟩
  · rw [List.getElem?_append_right (by omega)] at hx
    have hi2 : i = ls.length := by
      have := (List.getElem?_eq_some_iff.mp hx).1
      simp at this
      omega
    subst hi2
    simp at hx
    subst hx
    refine ⟨h0, fun z => h1 (List.eq_nil_of_length_eq_zero z), fun k hk => ?_⟩
    have hk2 : k < ls.length := by omega
    refine ⟨ls[k], by rw [List.getElem?_append_left hk2]; simp [hk2], h2 _ ?_⟩
    rw [List.getLast?_eq_getElem?, hk]
    simp [hk2]
def anc (ls : List Int) : Nat → Int → List Nat
  | 0, _ => []
  | i + 1, lev => if ls.getD i 0 < lev then i :: anc ls i (ls.getD i 0) else anc ls i lev
def ancs (ls : List Int) (p : Nat) : List Nat := anc ls p (ls.getD p 0)
def line (ls : List Int) (p : Nat) : List Nat := p :: ancs ls p
end FL
set_option Elab.async false
set_option linter.all false
set_option maxRecDepth 100000
set_option maxHeartbeats 1000000
namespace FL
open PySem L2 DL
def strD (x : List Nat) : D := .str (S x)
def SeqOf (d : D) (xs : List D) : Prop := d = .lst xs ∨ d = .tup xs
theorem SeqOf.vw {d : D} {xs : List D} (h : SeqOf d xs) (M : Mem) : vw M d = d := by rcases h with rfl | rfl <;> rfl
theorem SeqOf.ix {d : D} {xs : List D} (h : SeqOf d xs) (k : Int) : ixA d (.int k) = atI xs k := by rcases h with rfl | rfl <;> rfl
theorem SeqOf.it {d : D} {xs : List D} (h : SeqOf d xs) : itD d = some xs := by rcases h with rfl | rfl <;> rfl
theorem SeqOf.len {d : D} {xs : List D} (h : SeqOf d xs) : lenF [d] = some (.int xs.length) := by rcases h with rfl | rfl <;> rfl
theorem SeqOf.ty {d : D} {xs : List D} (h : SeqOf d xs) : ∃ n, tyName d = some n ∧ (n == "list" || n == "tuple") = true := by
  rcases h with rfl | rfl
  · exact ⟨"list", rfl, rfl⟩
  · exact ⟨"tuple", rfl, rfl⟩
theorem SeqOf.sl {d : D} {xs : List D} (h : SeqOf d xs) (lo hi : Option Int) : ∃ e, slD d lo hi = some e ∧ SeqOf e (cutD xs lo hi) := by
  rcases h with rfl | rfl
  · exact ⟨_, rfl, .inl rfl⟩
  · exact ⟨_, rfl, .inr rfl⟩
theorem SeqOf.tup {d : D} {xs : List D} (h : SeqOf d xs) : tupF [d] = some (.tup xs) := by rcases h with rfl | rfl <;> rfl
theorem sIx_nat (n d p : Nat) : HT.sIx n d (some (p : Int)) = min p n := by
  have h0 : ¬ ((p : Int) < 0) := by omega
  unfold HT.sIx
  simp [h0]
theorem cutD_to {xs : List D} {p : Nat} : cutD xs none (some (p : Int)) = xs.take p := by
  unfold cutD
  rw [sIx_nat]
  have e0 : HT.sIx xs.length 0 none = 0 := rfl
  rw [e0]
  simp only [List.drop_zero, Nat.sub_zero]
  by_cases h : p ≤ xs.length
  · rw [Nat.min_eq_left h]
  · rw [Nat.min_eq_right (by omega), List.take_of_length_le (Nat.le_refl _), List.take_of_length_le (by omega)]
theorem RowsOk.at {rs : List Row} (h : RowsOk rs) {p : Nat} {x : Row} (hx : rs[p]? = some x) :
    NameOk x.nm ∧ (-(10 ^ 30) ≤ x.va ∧ x.va ≤ 10 ^ 30) ∧ 0 ≤ x.lv ∧ (p = 0 → x.lv = 0) ∧ (∀ k : Nat, p = k + 1 → ∃ y, rs[k]? = some y ∧ x.lv ≤ y.lv + 1) ∧ ∀ y ∈ rs.take p, y.nm ≠ x.nm := by
  have hm : x ∈ rs := List.mem_of_getElem? hx
  have hl := h.lev p x.lv (by simp [hx])
  refine ⟨h.names x hm, h.vals x hm, hl.1, hl.2.1, fun k hk => ?_, fun y hy e => ?_⟩
  · obtain ⟨m, h1, h2⟩ := hl.2.2 k hk
    rw [List.getElem?_map] at h1
    cases e : rs[k]? with
    | none => rw [e] at h1; cases h1
    | some y => rw [e] at h1; cases h1; exact ⟨y, rfl, h2⟩
  · obtain ⟨j, hj, hjy⟩ := List.mem_take_iff_getElem.mp hy
    have hp := (List.getElem?_eq_some_iff.mp hx).1
    have e1 : (rs.map Row.nm)[j]? = (rs.map Row.nm)[p]? := by
      simp only [List.getElem?_map, hx]
      rw [List.getElem?_eq_getElem (by omega), hjy]
      simp [e]
    have := (List.getElem?_inj (by simp; omega) h.nd).mp e1
    omega
def spotsK (rs : List Row) : List Key := rs.map fun r => .inr (S r.nm)
def places (n : Nat) : List D := (List.range n).map fun (i : Nat) => D.int (i : Int)
def FD (rs : List Row) : D := .obj 0 ["rows", "order", "spots"] [.tup (rs.map Row.d), .tup (rs.map fun r => strD r.nm), .dK (spotsK rs) (places rs.length)]
@[simp] theorem vw_FD {M : Mem} {rs : List Row} : vw M (FD rs) = FD rs := rfl
@[simp] theorem vw_strD {M : Mem} {x : List Nat} : vw M (strD x) = strD x := rfl
@[simp] theorem methAt_FD {tb : List (Nat × SpD)} {m : Str} {M : Mem} {R : SpD → Prop} {rs : List Row} : methAt tb m (FD rs) M R ↔ ∃ spd, tb.lookup 0 = some spd ∧ m ∉ (["rows", "order", "spots"] : List Str) ∧ R spd := methAt_obj
def nmAt (rs : List Row) (i : Nat) : D := strD ((rs.map Row.nm).getD i [])
@[simp] theorem vw_nmAt {M : Mem} {rs : List Row} {i : Nat} : vw M (nmAt rs i) = nmAt rs i := rfl
def lvs (rs : List Row) : List Int := rs.map Row.lv
def optNm (rs : List Row) : Option Nat → D
  | some i => nmAt rs i
  | none => .non
def optI : Option Nat → D
  | some i => .int (i : Int)
  | none => .non
@[simp] theorem optI_some (i : Nat) : optI (some i) = .int (i : Int) := rfl
@[simp] theorem optI_none : optI none = .non := rfl
def keepIn (l : List Nat) : D → Option D
  | .int i => if i.toNat ∈ l then some (.int i) else none
  | _ => none
@[simp] theorem vw_optNm {M : Mem} {rs : List Row} {o : Option Nat} : vw M (optNm rs o) = optNm rs o := by cases o <;> rfl
end FL
set_option Elab.async false
set_option linter.all false
set_option maxRecDepth 100000
set_option maxHeartbeats 4000000
set_option autoImplicit false
namespace DL
open PySem L2
section
variable {cl : ClW} {X : Cx} {W : WX} {k : Nat} {f : Addr} {fd : FuncData} {ps : List Str} {spd : SpD}
end
abbrev DB2 := D → D → DL.Env → Mem → DV → DX → Prop
def BinG (cl : ClW) (X : Cx) (W : WX) (op : Value → Value → Sem Value) (φ : DB2) : Prop :=
  ∀ (pins : List (Addr × Obj)) (s : Shared) (σ : St) (H F : Hp) (ρ : DL.Env) (M : Mem) (v u : Value) (x y : V) (d e : D) (Q : VK) (Qd : DV) (Xd : DX), Inv X pins σ H s → RelV x v → RelV y u → Good X.K cl F H M → Slots X.K cl F σ ρ → Rep X.K cl F x d → Rep X.K cl F y e →
    φ d e ρ M Qd Xd → Post X.K cl F Q Qd → WOk X.K cl W F Xd → wpAny (model X.prog X.w) X.A (op v u) (EP X pins σ Q) X.xe s
@[simp] def dBin (φ : DB2) (τa τb : DTE) : DTE := fun ρ M Q X => τa ρ M (fun d M1 => τb ρ M1 (fun e M2 => φ d e ρ M2 Q X) X) X
@[simp] def bOp (f : D → D → Option D) : DB2 := fun d e _ M Q _ => ∃ z, f (vw M d) (vw M e) = some z ∧ Q z M
@[simp] def bOr (φ ψ : DB2) : DB2 := fun d e ρ M Q X => φ d e ρ M Q X ∨ ψ d e ρ M Q X
section
variable {cl : ClW} {X : Cx} {W : WX} {pos : Pos} {a b : Expr} {τa τb : DTE}
theorem BinG.or {op : Value → Value → Sem Value} {φ ψ : DB2} (h : BinG cl X W op φ) (h' : BinG cl X W op ψ) : BinG cl X W op (bOr φ ψ) := fun pins s σ H F ρ M v u x y d e Q Qd Xd I rx ry g sl r1 r2 q p w => by
  rcases q with q | q
  · exact h pins s σ H F ρ M v u x y d e Q Qd Xd I rx ry g sl r1 r2 q p w
  · exact h' pins s σ H F ρ M v u x y d e Q Qd Xd I rx ry g sl r1 r2 q p w
theorem bin_low {σ : St} {H : Hp} {Q : VK} {φ : DB2} (h : lowE X.K cl W (dBin φ τa τb) σ H Q) : lowE X.K cl W τa σ H (fun x H1 => ∃ F ρ M d Qd Xd, Good X.K cl F H1 M ∧ Slots X.K cl F σ ρ ∧ Rep X.K cl F x d ∧ τb ρ M (fun e M2 => φ d e ρ M2 Qd Xd) Xd ∧ Post X.K cl F Q Qd ∧ WOk X.K cl W F Xd) := by
  obtain ⟨F, ρ, M, Qd, Xd, g, s, q, p, w⟩ := h
  exact ⟨F, ρ, M, _, Xd, g, s, q, fun x H1 F1 d M1 sm g1 r q1 => ⟨F1, ρ, M1, d, Qd, Xd, g1, s.mono sm, r, q1, p.mono sm, w.mono sm⟩, w⟩
theorem run_bin {op : Value → Value → Sem Value} {φ : DB2} (ho : BinG cl X W op φ) (ha : DE cl X W a τa) (hb : DE cl X W b τb) {pins : List (Addr × Obj)} {s : Shared} {σ : St} {H : Hp} {Q : VK} (I : Inv X pins σ H s) (h : lowE X.K cl W (dBin φ τa τb) σ H Q) :
    wpAny (model X.prog X.w) X.A (eval a X.env) (fun v s1 => wpAny (model X.prog X.w) X.A (eval b X.env) (fun u s2 => wpAny (model X.prog X.w) X.A (op v u) (EP X pins σ Q) X.xe s2) X.xe s1) X.xe s := by
  refine thn (ha.pe.run pins s σ H _ I (bin_low h)) fun v s1 ⟨x, H1, I1, r1, F1, ρ, M1, d, Qd, Xd, g1, sl1, rd, q1, p1, w1⟩ => ?_
  refine thn (hb.pe.run pins s1 σ H1 (fun y H2 => ∃ F2 M2 e, Same F1 F2 ∧ Good X.K cl F2 H2 M2 ∧ Rep X.K cl F2 y e ∧ φ d e ρ M2 Qd Xd) I1 ⟨F1, ρ, M1, _, Xd, g1, sl1, q1, fun y H2 F2 e M2 sm g2 r2 q2 => ⟨F2, M2, e, sm, g2, r2, q2⟩, w1⟩) fun u s2 ⟨y, H2, I2, r2, F2, M2, e, sm, g2, re, q2⟩ => ?_
  exact ho pins s2 σ H2 F2 ρ M2 v u x y d e Q Qd Xd I2 r1 r2 g2 (sl1.mono sm) (rd.mono sm) re q2 (p1.mono sm) (w1.mono sm)
theorem d_bin {op : Operator} {φ : DB2} (ho : BinG cl X W (binaryOp op) φ) (ha : DE cl X W a τa) (hb : DE cl X W b τb) : DE cl X W (.BinOp a op b pos) (dBin φ τa τb) := ⟨⟨fun pins s σ H Q I h => wpAny_BinOp (run_bin ho ha hb I h)⟩⟩
theorem d_tcmpG {op : CmpOp} {φ : DB2} (ho : BinG cl X W (compareOp op) φ) (ha : DE cl X W a τa) (hb : DE cl X W b τb) (hm : behindInMarks op b = false) : DT cl X W (.Compare a [op] [b] pos) (dTest (dBin φ τa τb)) := ⟨⟨fun pins s σ H Q I h => by
  obtain ⟨F, ρ, M, Qd, Xd, g, sl, q, p, w⟩ := h
  have h2 : lowE X.K cl W (dBin φ τa τb) σ H (fun x H' => ∃ k, x = .bl k ∧ Q k H') := ⟨F, ρ, M, _, Xd, g, sl, q, p.test, w⟩
  refine wpAny_isTrue_Compare1 (thn (run_bin ho ha hb I h2) fun v s1 q1 => thn q1 fun u s2 q2 => thn q2 fun c s3 ⟨z, H3, I3, r3, k, e, q3⟩ => ?_) hm
  subst e
  cases r3
  exact wpAny_truthy_bool ⟨H3, I3, q3⟩⟩⟩
end
end DL
set_option Elab.async false
set_option linter.all false
set_option maxRecDepth 100000
set_option maxHeartbeats 4000000
set_option autoImplicit false
namespace DL
open PySem L2
@[simp] def kB : D → Option D
  | .bl b => some (.bl b)
  | _ => none
@[simp] def kNB : D → Option D
  | .bl b => some (.bl !b)
  | _ => none
@[simp] def kV : D → Option D
  | .bl b => some (.bl b)
  | .obj c ns ds => some (.obj c ns ds)
  | _ => none
section
variable {cl : ClW} {X : Cx} {W : WX} {k : Nat} {tb : List (Nat × SpD)}
end
end DL
set_option Elab.async false
set_option linter.all false
set_option maxRecDepth 100000
set_option maxHeartbeats 4000000
set_option autoImplicit false
namespace DL
open PySem L2
section
variable {prog : Program} {w : World} {A : Around} {E : Value → Shared → Prop} {s : Shared} {K : PySem.W.Frag} {x C L f : Addr} {h₀ : Heap} {m : Str → Option Value} {ox : Obj} {od : Option Obj} {b tb : Value}
end
section
variable {cl : ClW} {X : Cx} {W : WX} {k : Nat} {tb : List (Nat × SpD)}
structure TyC (K : PySem.W.Frag) (C : Addr) : Prop where
  cls : Cls K C
  ha : PySem.W.findIn K (.ref C) "__class__" = some (some (.builtin "object.__class__"))
  hn : PySem.W.specialIn K (.builtin "object.__class__") "__get__" = some (some (.builtin "getset_descriptor.__get__"))
  htk : PySem.W.takesIn K (.builtin "object.__class__") = some true
  hm : PySem.W.mroIn K C (.type "object") = some true
structure IsoOk (K : PySem.W.Frag) (cl : Nat → Addr) (c : Nat) (yes no : List Nat) : Prop where
  y : ∀ j ∈ yes, TyC K (cl j) ∧ PySem.W.kitOne K (.ref (cl j)) (.ref (cl c)) = some true
  n : ∀ j ∈ no, TyC K (cl j) ∧ PySem.W.kitOne K (.ref (cl j)) (.ref (cl c)) = some false
  t : ∀ n ∈ tyNames, PySem.W.kitOne K (.type n) (.ref (cl c)) = some false
def isoF (c : Nat) (yes no : List Nat) : List D → Option D
  | [.obj j _ _, .cls i] => if i = c then if j ∈ yes then some (.bl true) else if j ∈ no then some (.bl false) else none else none
  | [d, .cls i] => if i = c then if (tyName d).isSome then some (.bl false) else none else none
  | _ => none
theorem Vw.cls {K : PySem.W.Frag} {F H : Hp} {v : V} {c : Nat} (h : Vw K cl F H v (.cls c)) : v = .ref (cl c) := by
  rcases h with h | ⟨a, rfl, h⟩
  · exact h.toCls
  · exact h.elim
end
end DL
set_option Elab.async false
set_option linter.all false
set_option maxRecDepth 100000
set_option maxHeartbeats 2000000
set_option autoImplicit false
namespace DL
open PySem L2
theorem Cap.mono {X : Cx} {W : WX} {j k : Nat} (c : Cap X W k) (h : j ≤ k) : Cap X W j := ⟨c.tk, c.hr.mono h, c.po, c.calm⟩
section
variable {K : PySem.W.Frag} {cl : ClW}
theorem and2 {a b : Bool} (h : (a && b) = true) : a = true ∧ b = true := Bool.and_eq_true_iff.mp h
end
section
variable {cl : ClW} {X : Cx} {W : WX} {pos : Pos}
end
@[simp] theorem isoF_obj {c j : Nat} {yes no : List Nat} {ns : List Str} {ds : List D} : isoF c yes no [.obj j ns ds, .cls c] = if j ∈ yes then some (.bl true) else if j ∈ no then some (.bl false) else none := by simp [isoF]
end DL
set_option Elab.async false
set_option linter.all false
set_option maxRecDepth 100000
set_option maxHeartbeats 4000000
set_option autoImplicit false
namespace DL
open PySem L2
def spX (C : Addr) (fs : List Str) : Sp := fun vs H Q _ => ∃ (a : Addr) (ws : List V), vs = .ref a :: ws ∧ ws.length = fs.length ∧ H a = some (exo a C none) ∧
  ∀ (d : Addr) (H' : Hp), H d = none → d ≠ a → H' a = some (exo a C (some d)) → H' d = some (exd d (fs.reverse.zip ws.reverse)) → (∀ b, b ≠ a → b ≠ d → H' b = H b) → Q .non H'
structure ExcK (P : Program) (w : World) (K : PySem.W.Frag) (mg : Str → Option Value) (base : Heap) (x : Str) (C : Addr) (fs : List Str) : Prop where
  oex : OexC K C
  gl : mg x = some (.ref C)
  ini : ∃ fI fd ps, PySem.W.findIn K (.ref C) "__init__" = some (some (.ref fI)) ∧ PySem.W.typeIn K (.ref fI) = some (.type "function") ∧ FnOk P w K mg base (L2.CX P w) 1 fI fd ps (spX C fs) ∧ Binds K fd ps []
section
variable {P : Program} {w : World} {K : PySem.W.Frag} {mg : Str → Option Value} {base : Heap} {qual : Str} {params : Arguments} {scope : Scope} {f C : Addr} {fd : FuncData}
theorem xinit1 {p1 p2 p3 p4 : Pos} {g : Str} (T : OexC K C) (hno : PySem.W.findIn K (.ref C) g = some none) (F : FunD K "__init__" qual params [.Assign [.Attribute (.Name "self" p1) g p2] (.Name g p3) p4] scope [] [] f fd) (S : FnScope ["self", g] ["self", g] scope)
    (h0 : Vis scope "self" := by first | exact Or.inl rfl | exact Or.inr (Or.inl rfl)) (h1 : Vis scope g := by first | exact Or.inl rfl | exact Or.inr (Or.inl rfl)) (hd : (g == ("__debug__" : Str)) = false := by decide) (hcd : (g == ("__classdict__" : Str)) = false := by decide) : FnOk P w K mg base (L2.CX P w) 1 f fd ["self", g] (spX C [g]) := by
  refine F.ok S (fun vs H Q E ⟨a, ws, e, hl, _⟩ => by rw [e, List.length_cons, hl]; rfl) fun cdv A outer s H vs Q E hr ⟨a, ws, e, hl, ha, q⟩ => ?_
  obtain ⟨v, rfl⟩ : ∃ v, ws = [v] := by
    match ws, hl with
    | [v], _ => exact ⟨v, rfl⟩
  subst e
  refine ⟨_, pss_one (ps_ost (pe_var (i := 0) rfl h0 (by decide)) (pe_var (i := 1) rfl h1 hd hcd)), ?_⟩
  refine ⟨v, rfl, .ref a, rfl, a, C, rfl, T, hno, .inl ⟨ha, fun d hd hne => q d _ hd hne upd_same (by rw [upd_ne hne, upd_same]; rfl) (fun b h1 h2 => by rw [upd_ne h1, upd_ne h2])⟩⟩
end
def dRaise (c : Nat) (fs : List Str) (α : DTA) : DTS := fun E ρ M => α ρ M (fun ds M1 => ds.length = fs.length ∧ E.ex c fs.reverse ds.reverse ρ M1) E.ex
section
variable {cl : ClW} {X : Cx} {W : WX} {k : Nat} {x : Str} {c : Nat} {fs : List Str} {e : Expr} {es : List Expr} {α : DTA} {p p2 pos : Pos}
theorem ds_raise (cp : Cap X W k) (hk : 2 ≤ k) (T : ExcK X.prog X.w X.K X.mg X.base x (cl c) fs) (hf : fs.length ≤ 900) (hg : Gl X x) (ha : DA cl X W (e :: es) α)
    (hdb : (x == ("__debug__" : Str)) = false := by decide) (he : starEach (e :: es) X.env = (false, eval e X.env) :: starEach es X.env := by rfl) (hpl : (backTo p2 (starEach es X.env)).any (·.1) = false := by rfl) :
    DS cl X W (.Raise (some (.Call (.Name x p) (e :: es) [] p2)) none pos) (dRaise c fs α) := by
  obtain ⟨fI, fd, ps, iC, tI, F1, hb⟩ := T.ini
  refine ⟨ps_imp (ps_raise cp.calm cp.tk (pmk_oex T.oex iC tI F1 (cp.hr.mono hk).room hb .nil (fun pins σ H s e s' I h => ?_) hg T.gl ha.pa hdb he hpl)) fun D σ H ⟨F, ρ, M, E, g, s, q, ok⟩ => ?_⟩
  · obtain ⟨_, _, _, _, _, _, _, _, _, _, _, _, h⟩ := h
    exact h.elim
  · refine ⟨F, ρ, M, _, E.ex, g, s, q, fun vs H1 F1 ds M1 sm g1 r1 ⟨hl, q1⟩ => ⟨by rw [r1.length, hl]; omega, fun a ha => ?_⟩, ok.ex⟩
    refine ⟨a, vs, by rw [List.append_nil], by rw [r1.length, hl], upd_same, fun d H' hd hne h1 h2 h3 => ⟨rfl, d, _, h1, h2, ?_, ?_⟩⟩
    · rw [upd_ne hne] at hd; exact hd
    · rw [upd_ne hne] at hd
      have eH : L2.upd (L2.del H' a) d (.xd (fs.reverse.zip vs.reverse)) = L2.upd H1 d (.xd (fs.reverse.zip vs.reverse)) := by
        funext b
        by_cases hb : b = d
        · rw [hb, upd_same, upd_same]
        · rw [upd_ne hb, upd_ne hb]
          by_cases hb2 : b = a
          · rw [hb2, del_same, ha]
          · rw [del_ne hb2, h3 b hb2 hb, upd_ne hb2]
      rw [eH]
      have sm2 : Same F1 (L2.upd F1 d (.xd (fs.reverse.zip vs.reverse))) := same_new (g1.freshF hd)
      exact ok.ex c _ _ σ _ _ ρ M1 (some d) (sm.trans sm2) (g1.new hd) (s.mono (sm.trans sm2)) (.inr ⟨d, vs.reverse, rfl, upd_same, by rw [List.length_reverse, List.length_reverse, r1.length, hl], (r1.mono sm2).reverse⟩) q1
end
end DL
set_option Elab.async false
set_option linter.all false
set_option maxRecDepth 100000
set_option maxHeartbeats 4000000
set_option autoImplicit false
namespace DL
open PySem L2
abbrev Clause := Value × Option Nat × (Addr → Value → Option Addr → TS)
abbrev SuiteOk (X : Cx) (su : List Stmt) (ts : Addr → Value → Option Addr → TS) : Prop := ∀ (a : Addr) (oe : Obj) (cl : Value) (d : Option Addr) (pn : List (Addr × Obj)), Zc cl d oe → (∃ vs, oe.data = .fields vs) → PSs (X.suite a ((a, oe) :: pn)) su (ts a cl d)
inductive Mix (X : Cx) : List ExceptHandler → List Clause → Prop
  | nil : Mix X [] []
  | only {x : Str} {c : Value} {ts : Addr → Value → Option Addr → TS} {st : Stmt} {su : List Stmt} {np hp : Pos} {hs : List ExceptHandler} {l : List Clause} (hc : Names X x c) (h : SuiteOk X (st :: su) ts) (r : Mix X hs l) : Mix X (.ExceptHandler (some (.Name x np)) none (st :: su) hp :: hs) ((c, none, ts) :: l)
  | as {x n : Str} {i : Nat} {c : Value} {ts : Addr → Value → Option Addr → TS} {st : Stmt} {su : List Stmt} {np hp : Pos} {hs : List ExceptHandler} {l : List Clause} (hN : X.N.Nodup) (hi : X.N[i]? = some n) (hn : X.env.kindOf n = some .local) (hc : Names X x c) (h : SuiteOk X (st :: su) ts) (r : Mix X hs l) :
      Mix X (.ExceptHandler (some (.Name x np)) (some n) (st :: su) hp :: hs) ((c, some i, ts) :: l)
section
variable {X : Cx} {body : List Stmt} {hd0 : ExceptHandler} {hds : List ExceptHandler} {l : List Clause} {pos : Pos} {tb : WX → TS} {Wo : WX}
end
end DL
set_option Elab.async false
set_option linter.all false
set_option maxRecDepth 100000
set_option maxHeartbeats 4000000
set_option autoImplicit false
namespace DL
open PySem L2
structure DClause where
  k : Nat
  slot : Option Nat
  su : D → DTS
def XOk (cl : ClW) (x : D) (a : Addr) (cls : Value) (d : Option Addr) : Prop := ∃ dd c ns ds, x = .exc a dd c ns ds ∧ d = some dd ∧ cls = .ref (cl c)
section
variable {cl : ClW} {X : Cx} {W : WX}
inductive DMix (cl : ClW) (X : Cx) : List ExceptHandler → List DClause → Prop
  | nil : DMix cl X [] []
  | only {x : Str} {k : Nat} {su : D → DTS} {st : Stmt} {ss : List Stmt} {np hp : Pos} {hs : List ExceptHandler} {l : List DClause} (hc : Names X x (.ref (cl k)))
      (h : ∀ (x : D) (a : Addr) (oe : Obj) (cls : Value) (d : Option Addr) (pn : List (Addr × Obj)), XOk cl x a cls d → Zc cls d oe → (∃ vs, oe.data = .fields vs) → DSs cl (X.suite a ((a, oe) :: pn)) W0 (st :: ss) (su x)) (r : DMix cl X hs l) :
      DMix cl X (.ExceptHandler (some (.Name x np)) none (st :: ss) hp :: hs) (⟨k, none, su⟩ :: l)
  | as {x n : Str} {i k : Nat} {su : D → DTS} {st : Stmt} {ss : List Stmt} {np hp : Pos} {hs : List ExceptHandler} {l : List DClause} (hN : X.N.Nodup) (hi : X.N[i]? = some n) (hn : X.env.kindOf n = some .local) (hc : Names X x (.ref (cl k)))
      (h : ∀ (x : D) (a : Addr) (oe : Obj) (cls : Value) (d : Option Addr) (pn : List (Addr × Obj)), XOk cl x a cls d → Zc cls d oe → (∃ vs, oe.data = .fields vs) → DSs cl (X.suite a ((a, oe) :: pn)) W0 (st :: ss) (su x)) (r : DMix cl X hs l) :
      DMix cl X (.ExceptHandler (some (.Name x np)) (some n) (st :: ss) hp :: hs) (⟨k, some i, su⟩ :: l)
end
end DL
set_option Elab.async false
set_option linter.all false
set_option maxRecDepth 100000
set_option maxHeartbeats 4000000
set_option autoImplicit false
namespace DL
open PySem L2
structure CapS (A : Around) : Prop where
  un : A.units + 200 < cLine
  gd : A.guards = some []
theorem Cap.suite {X : Cx} {W : WX} {k : Nat} (c : Cap X W k) (a : Addr) (pn : List (Addr × Obj)) : CapS (X.suite a pn).A := ⟨by have := c.hr.room.un; show X.A.units + 200 < cLine; omega, c.hr.gd⟩
theorem CapS.u1 {A : Around} (c : CapS A) : A.units + 1 < cLine := by have := c.un; omega
section
variable {X : Cx}
end
def excF (cs : List Nat) (f : Str) : D → Option D
  | .exc _ _ c ns ds => if c ∈ cs then lookN f ns ds else none
  | _ => none
@[simp] def dXf (cs : List Nat) (f : Str) (x : D) (τ : DTE) : DTE := fun ρ M Q X => τ ρ M (fun d M1 => d = x ∧ ∃ v, excF cs f x = some v ∧ Q v M1) X
section
variable {cl : ClW} {X : Cx} {a : Addr} {oe : Obj} {cls : Value} {d : Option Addr} {pn : List (Addr × Obj)} {x : D} {e : Expr} {τ : DTE} {f : Str} {cs : List Nat} {pos : Pos}
end
def oexB (K : PySem.W.Frag) (C : Addr) : Bool := (match K.lookup C with
  | some ⟨.type "type", _, .cls cd, sl⟩ => (match cd.mro, sl.toList with
    | .ref C' :: bm, [_, _, _, _, some (.builtin n), _] => decide (C' = C) && (decide (n = "ValueError.__new__") && (!cd.hasDel && (cd.hasDict && PySem.HandSPX.refsVE bm)))
    | _, _ => false)
  | _ => false) && (He.eqO (PySem.W.findIn K (.ref C) "__setattr__") (some (some (.builtin "object.__setattr__"))) && ((PySem.W.subIn K (.ref C) (.type "BaseException") == some true) && ((PySem.W.typeIn K (.ref C) == some (.type "type")) && PySem.W.keepIn K (.ref C))))
theorem oexB_ok {K : PySem.W.Frag} {C : Addr} (h : oexB K C = true) : OexC K C := by
  obtain ⟨h0, h⟩ := and2 h
  obtain ⟨h1, h⟩ := and2 h
  obtain ⟨h2, h⟩ := and2 h
  obtain ⟨h3, h4⟩ := and2 h
  refine ⟨?_, He.eqO_ok h1, beq_iff_eq.mp h2, beq_iff_eq.mp h3, h4⟩
  split at h0
  · rename_i dd cd sl ho
    split at h0
    · rename_i C' bm k0 k1 k2 k3 n k5 hm hs
      obtain ⟨g1, h0⟩ := and2 h0
      obtain ⟨g2, h0⟩ := and2 h0
      obtain ⟨g3, h0⟩ := and2 h0
      obtain ⟨g4, g5⟩ := and2 h0
      have e1 := of_decide_eq_true g1
      have e2 := of_decide_eq_true g2
      have e3 : cd.hasDel = false := by simpa using g3
      subst e1 e2
      obtain ⟨nm, bs, mro, ns, qn, hd, sn, sb, ab, col, del⟩ := cd
      dsimp only at hm e3 g4
      subst hm e3 g4
      have hsl : sl = #[k0, k1, k2, k3, some (.builtin "ValueError.__new__"), k5] := by
        cases sl
        dsimp only at hs
        rw [hs]
      subst hsl
      exact ⟨nm, qn, ns, bs, bm, sn, sb, ab, col, dd, k0, k1, k2, k3, k5, ho, g5⟩
    · cases h0
  · cases h0
def xnB (K : PySem.W.Frag) (C : Addr) (fI : Addr) (fs : List Str) : Bool := He.eqO (PySem.W.findIn K (.ref C) "__init__") (some (some (.ref fI))) && ((PySem.W.typeIn K (.ref fI) == some (.type "function")) && (fs.all fun f => He.eqO (PySem.W.findIn K (.ref C) f) (some none)))
theorem xnB_ok {K : PySem.W.Frag} {C fI : Addr} {fs : List Str} (h : xnB K C fI fs = true) : PySem.W.findIn K (.ref C) "__init__" = some (some (.ref fI)) ∧ PySem.W.typeIn K (.ref fI) = some (.type "function") ∧ ∀ f ∈ fs, PySem.W.findIn K (.ref C) f = some none := by
  obtain ⟨h1, h⟩ := and2 h
  obtain ⟨h2, h3⟩ := and2 h
  exact ⟨He.eqO_ok h1, beq_iff_eq.mp h2, fun f hf => He.eqO_ok (List.all_eq_true.mp h3 f hf)⟩
section
variable {K : PySem.W.Frag} {cl : ClW}
end
end DL
set_option Elab.async false
set_option linter.all false
set_option maxRecDepth 100000
set_option maxHeartbeats 4000000
namespace DL
open PySem L2
section
variable {cl : ClW} {X : Cx} {W : WX} {elt tg iter : Expr} {ifs : List Expr} {scope : Scope} {own : List (Str × Nat)} {pos : Pos} {ι : DTI} {is : List Nat} {γ : DTG} {υ : DTT} {τ : DTE}
end
section
variable {cl : ClW} {X : Cx} {W : WX} {st : Stmt} {t : DTS}
end
end DL
set_option Elab.async false
set_option linter.all false
set_option maxRecDepth 100000
set_option maxHeartbeats 4000000
set_option autoImplicit false
namespace DL
open PySem L2
theorem meets_enum1 {v : Value} {o : Obj} {H : Heap → Prop} (B : Begins v o H) :
    Meets (Builtin.«enumerate.__new__» ⟨[.type "enumerate", v], []⟩) (fun _ R s => H s.heap ∧
      R (.ok (.ret (.ref (s.heap.push o).objs.size))) { s with heap := (s.heap.push o).push { cls := .type "enumerate", data := .fields #[.none, .bool false, .ref s.heap.objs.size, rawInt 0, .none, .none] } }) :=
  .of_wp fun prog w A R s ⟨h1, h⟩ => by
    obtain ⟨hp, g, d, tk, os⟩ := s
    have sb := sub_enumerate
    have q1 : ∀ {A' : Around} {E : Value → Shared → Prop} {Q : Value → Shared → Prop}, Q (.ref hp.objs.size) ⟨hp.push o, g, d, tk, os⟩ → wpAny (model prog w) A' (pyIter v) Q E ⟨hp, g, d, tk, os⟩ :=
      fun q => B.iter prog w _ _ ⟨hp, g, d, tk, os⟩ _ h1 q
    wp_walk using q1
    refine wpAny_stack_any fun st => wpAny_pure ?_
    split
    · rename_i c _ _ _ _ _
      cases (c == Value.type "enumerate")
      · wp_walk using q1
        exact ⟨_, rfl, h⟩
      · wp_walk using q1
        exact ⟨_, rfl, h⟩
    · wp_walk using q1
      exact ⟨_, rfl, h⟩
section
variable {prog : Program} {w : World} {A : Around} {E : Value → Shared → Prop} {s : Shared}
theorem call_enum1 {v : Value} {o : Obj} {H : Heap → Prop} {Q : Value → Shared → Prop} (B : Begins v o H) (h1 : H s.heap)
    (h : ∀ h', IsEnum h' (s.heap.objs.size + 1) s.heap.objs.size 0 .none → h'.get? s.heap.objs.size = some o → (∀ b o, s.heap.get? b = some o → h'.get? b = some o) → Q (.ref (s.heap.objs.size + 1)) { s with heap := h' }) :
    wpAny (model prog w) A (call (.type "enumerate") [v]) Q E s := by
  refine callType_new F.called_enumerate (by decide) (F.typeCall_enumerate_1 _) (F.newCall_enumerate_1 _) (fun obj => F.args_object_init_2 obj _) F.entry_enumerate_new (meets_enum1 B) ⟨h1, ?_⟩
  have hz : (s.heap.push o).objs.size = s.heap.objs.size + 1 := Heap.size_push ..
  show _ ∧ _
  rw [hz]
  have at1 := Heap.get?_push_size (s.heap.push o) (o := { cls := .type "enumerate", data := .fields #[.none, .bool false, .ref s.heap.objs.size, rawInt 0, .none, .none] }) rfl
  rw [hz] at at1
  exact ⟨⟨_, at1, rfl⟩, h _ at1 (Heap.get?_push_of_some _ (Heap.get?_push_size _ B.free)) fun b o x => Heap.get?_push_of_some _ (Heap.get?_push_of_some _ x)⟩
end
def IteT (K : PySem.W.Frag) (a : Addr) : It :=
  ⟨fun i H => ∃ (xs : List V) (x : V), SqT K H a xs ∧ xs[i]? = some x, fun i H v H' => ∃ T x, v = .ref T ∧ H T = none ∧ H' = upd H T (.tup [.int (i : Nat), x]) ∧ ∀ xs, SqT K H a xs → xs[i]? = some x, fun i H => ∃ xs : List V, SqT K H a xs ∧ xs.length ≤ i⟩
theorem turn_enumT {P : Program} {w : World} {K : PySem.W.Frag} {elts : List Expr} {kk : Nat} {tpos : Pos} (a e it : Addr) :
    Turn P w K (.Tuple elts kk tpos) (IteT K a) [e, it] e (fun i h => (∃ old, IsEnum h e it ((i : Nat) : Int) old) ∧ h.IsTupleIter it a i ∧ e ≠ it) where
  mem := by simp
  obj := fun i h ⟨⟨old, he⟩, ⟨o, ho, hc, hd⟩, _⟩ b hb => by
    rcases List.mem_cons.mp hb with rfl | hb
    · exact ⟨_, he, fun v q => nomatch q⟩
    · rw [List.mem_singleton.mp hb]
      exact ⟨o, ho, fun v q => by rw [hd] at q; cases q⟩
  keep := fun i h h' ⟨⟨old, he⟩, hi, hne⟩ k => ⟨⟨old, k e (by simp) _ he⟩, hi.at fun o q => k it (by simp) o q, hne⟩
  item := by
    intro X hP hw hK hc i pins s σ H E I hf ⟨⟨old, he⟩, hit, hne⟩ ⟨xs, x, hq, hx⟩
    subst hP hw hK
    obtain ⟨its, rv, p, hz⟩ := I.tuple hq
    obtain ⟨u, hu, ru⟩ := rv.get hx
    have hel : e < s.heap.objs.size := Heap.lt_size he
    have hil : it < s.heap.objs.size := by obtain ⟨_, q, _⟩ := hit; exact Heap.lt_size q
    have nai : a ≠ it := fun z => by
      obtain ⟨o1, e1, c1, _⟩ := p
      obtain ⟨o2, e2, c2, _⟩ := hit
      rw [z, e2] at e1
      cases e1
      rw [c2] at c1
      exact absurd c1 (by simp)
    have nae : e ∉ [it, a] := fun hm => by
      rcases List.mem_cons.mp hm with z | hm
      · exact hne z
      · have z := List.mem_singleton.mp hm
        obtain ⟨o1, e1, c1, _⟩ := p
        rw [← z, he] at e1
        cases e1
        exact absurd c1 (by simp)
    have hlt : i < its.toArray.size := by simpa using (List.getElem?_eq_some_iff.mp hu).1
    have hh : X.A.in1.handled = none := I.ok.hd hc
    refine wpAny_pyNext_enum_itemD (Draws.tuple hh it a nai its.toArray) he ⟨hit, p⟩ hlt hne nae fun y h' tk hy ho hst hT hsz hk => ?_
    have hyu : y = u := by
      have : its.toArray[i]? = some u := by simpa using hu
      rw [this] at hy
      exact (Option.some.inj hy).symm
    subst hyu
    refine ⟨_, rfl, wpAny_letOwnedTupleGo_enum (s := { s with heap := h', toks := tk + 1 }) ho fun h'' he' sb => ?_⟩
    have hT2 : h''.get? s.heap.objs.size = some { cls := .type "tuple", data := .seq #[.int i tk, y] } := (sb.2 _ (Nat.ne_of_gt hel)).trans hT
    have new : ObjOk X.prog X.w (upd H s.heap.objs.size (.tup [.int (i : Nat), x])) h'' s.heap.objs.size (.tup [.int (i : Nat), x]) :=
      ⟨by show 2 ≤ sizeLine; decide, [.int i tk, y], .cons ⟨_, rfl⟩ (.cons ru .nil), ⟨_, hT2, rfl, _, rfl⟩⟩
    have I1 : Inv X pins σ (upd H s.heap.objs.size (.tup [.int (i : Nat), x])) { s with heap := h'', toks := tk + 1 } :=
      I.turnedNew (ch := [e, it]) (fun b ob hb q => (sb.2 b (fun z => hb (by simp [z]))).trans (hk b ob (fun z => hb (by simp [z])) (fun z => hb (by simp [z])) q)) hf (Nat.le_refl _) new
    refine ⟨.ref s.heap.objs.size, _, I1, rfl, ⟨_, x, rfl, I.hok.fresh (Nat.le_refl _), rfl, fun ys hy => by rw [I.tuple_inj hy hq]; exact hx⟩, ⟨⟨y, ?_⟩, hst.1.at fun o q => (sb.2 it (Ne.symm hne)).trans q, hne⟩, fun b hb => ?_⟩
    · rw [show ((i + 1 : Nat) : Int) = (i : Int) + 1 by omega]
      exact he'
    · have hlt2 : b < s.heap.objs.size := by
        rcases List.mem_cons.mp hb with rfl | hb
        · exact hel
        · rw [List.mem_singleton.mp hb]; exact hil
      rw [upd_ne (Nat.ne_of_lt hlt2)]
      exact (hf b hb).1
  done := by
    intro X hP hw hK hc i pins s σ H E I hf ⟨⟨old, he⟩, hit, hne⟩ ⟨xs, hq, hx⟩
    subst hP hw hK
    obtain ⟨its, rv, p, hz⟩ := I.tuple hq
    have hl : xs.length = its.length := Paired.length rv
    have hh : X.A.in1.handled = none := I.ok.hd hc
    have D0 : Draws X.prog X.w X.A.in1 it [it, a] i (fun _ _ => True) (fun j h => j = i ∧ h.IsTupleIter it a j ∧ h.IsTuple a its.toArray) := {
      live := fun _ _ ⟨_, st, _⟩ => let ⟨o, ho, _⟩ := st; ⟨o, ho⟩
      frame := fun _ _ _ ⟨e, s1, s2⟩ hk => ⟨e, s1.at fun o e => hk it (by simp) o e, s2.at fun o e => hk a (by simp) o e⟩
      item := fun j s Q E hj ⟨e, _⟩ _ => absurd e (by omega)
      done := fun s Q E ⟨_, s1, s2⟩ hE => wpAny_nextOf_tuple_end hh s1 s2 (by simp; omega) hE }
    obtain ⟨f0, f1, f2, f3, f4, f5⟩ := hf it (by simp)
    exact wpAny_pyNext_enum_endD D0 he ⟨rfl, hit, p⟩ fun h' eb => ⟨rfl, I.turned (t' := s.toks) (fun b o hb q => eb b o hb q) f0 f1 f3 f4 f5⟩
  self := fun A i s Q E ⟨⟨_, he⟩, _⟩ h => wpAny_pyIter_enum he h
def iEnumT (K : PySem.W.Frag) (ta : TA) : TI := fun σ H R => ta σ H fun vs H1 => (∃ a xs, vs = [.ref a] ∧ SqL K H1 a xs ∧ R (Ite K a) H1) ∨ ∃ a xs, vs = [.ref a] ∧ SqT K H1 a xs ∧ R (IteT K a) H1
theorem pi_enumT {X : Cx} {e : Expr} {ta : TA} {p pos tpos : Pos} {elts : List Expr} {kk : Nat} (hg : Gl X "enumerate") (hm : X.mg "enumerate" = none) (ha : PA X [e] ta) (hs : starEach [e] X.env = [(false, eval e X.env)] := by rfl) :
    PI X (.Tuple elts kk tpos) (.Call (.Name "enumerate" p) [e] [] pos) (iEnumT X.K ta) := by
  refine ⟨fun pins s σ H R I h => PyProof.Rows.Call_ (ld_blt I hg hm PyProof.Rows.boot_enumerate (PyProof.Rows.callWith_type1 (thn (ha.run pos pins s σ H _ I h) fun us s1 ⟨vs, H1, I1, r1, q1⟩ => ?_) hs rfl))⟩
  have fps : ∀ b ∈ [s1.heap.objs.size + 1, s1.heap.objs.size], FpOk X pins H1 b := fun b hb => by
    have hle : s1.heap.objs.size ≤ b := by
      rcases List.mem_cons.mp hb with z | hb
      · rw [z]; exact Nat.le_add_right _ _
      · rw [List.mem_singleton.mp hb]; exact Nat.le_refl _
    exact I1.fpOk hle (I1.hok.fresh hle)
  rcases q1 with ⟨a, xs, rfl, hq, q⟩ | ⟨a, xs, rfl, hq, q⟩
  · obtain ⟨u, rfl, ru⟩ := vals1 r1
    obtain rfl : u = Value.ref a := ru
    obtain ⟨its, rv, pl, hz⟩ := I1.list hq
    exact call_enumerate_list pl.isList fun h' e1 e2 hsz hk => wpAny_pyIter_enum e1 ⟨s1.heap.objs.size + 1, [s1.heap.objs.size + 1, s1.heap.objs.size], _, _, H1, rfl, I1.kept (t' := s1.toks) hk, turn_enum a _ _, ⟨⟨.none, e1⟩, e2, Nat.succ_ne_self _⟩, fps, q⟩
  · obtain ⟨u, rfl, ru⟩ := vals1 r1
    obtain rfl : u = Value.ref a := ru
    obtain ⟨its, rv, pl, hz⟩ := I1.tuple hq
    exact call_enum1 (begins_tuple a its.toArray) pl fun h' e1 e2 hk => wpAny_pyIter_enum e1 ⟨s1.heap.objs.size + 1, [s1.heap.objs.size + 1, s1.heap.objs.size], _, _, H1, rfl, I1.kept (t' := s1.toks) hk, turn_enumT a _ _, ⟨⟨.none, e1⟩, ⟨_, e2, rfl, rfl⟩, Nat.succ_ne_self _⟩, fps, q⟩
@[simp] def enD : D → Option (List D)
  | .lst xs => some xs
  | .tup xs => some xs
  | _ => none
@[simp] def iEnT (τ : DTE) : DTI := fun ρ M R X => τ ρ M (fun d M1 => ∃ xs, enD d = some xs ∧ R (xs.zipIdx.map fun p => D.tup [.int (p.2 : Nat), p.1]) M1) X
section
variable {cl : ClW} {X : Cx} {W : WX} {a : Expr} {pos : Pos} {τa : DTE}
theorem di_enumT {elts : List Expr} {kk : Nat} {tpos p : Pos} (hg : Gl X "enumerate") (hm : X.mg "enumerate" = none) (ha : DE cl X W a τa) (hs : starEach [a] X.env = [(false, eval a X.env)] := by rfl) :
    DI cl X W (.Tuple elts kk tpos) (.Call (.Name "enumerate" p) [a] [] pos) (iEnT τa) :=
  ⟨pi_imp (pi_enumT hg hm (da_cons (W := W) (cl := cl) ha da_nil hs).pa hs) fun σ H R ⟨F, ρ, M, Rd, Xd, g, s, q, p, w⟩ =>
    ⟨F, ρ, M, fun ds M1 => ∃ d xs, ds = [d] ∧ enD d = some xs ∧ Rd (xs.zipIdx.map fun p => D.tup [.int (p.2 : Nat), p.1]) M1, Xd, g, s, (by
      unfold iEnT at q
      unfold dCons dNil
      have same : (fun d M1 => ∃ xs, enD d = some xs ∧ Rd (xs.zipIdx.map fun p => D.tup [.int (p.2 : Nat), p.1]) M1) = (fun d M1 => ∃ d' xs, [d] = [d'] ∧ enD d' = some xs ∧ Rd (xs.zipIdx.map fun p => D.tup [.int (p.2 : Nat), p.1]) M1) := by
        funext d M1
        simp
      rw [same] at q
      exact q), fun vs H' F' ds M' sm g' r ⟨d, xs, e1, e2, q'⟩ => (by
      subst e1
      obtain ⟨v, ws, rfl, r1, r2⟩ := r.inv
      obtain rfl := r2.inv0
      have item : ∀ (us : List V), Reps X.K cl F' us xs → ∀ (i : Nat) (F2 H2 : Hp) (M2 : Mem), Same F' F2 → Good X.K cl F2 H2 M2 → ∀ d0, (xs.zipIdx.map fun p => D.tup [.int (p.2 : Nat), p.1])[i]? = some d0 →
          ∃ v0, us[i]? = some v0 ∧ ∀ (T : Addr) (x0 : V) (H3 : Hp), H2 T = none → H3 = upd H2 T (.tup [.int (i : Nat), x0]) → x0 = v0 → ∃ F3, Same F2 F3 ∧ Good X.K cl F3 H3 M2 ∧ Rep X.K cl F3 (.ref T) d0 := fun us hu i F2 H2 M2 sm2 g2 d0 hd => by
        rw [List.getElem?_map, List.getElem?_zipIdx] at hd
        cases e3 : xs[i]? with
        | none => rw [e3] at hd; cases hd
        | some d1 =>
          rw [e3] at hd
          cases hd
          obtain ⟨v0, h3, h4⟩ := hu.get e3
          refine ⟨v0, h3, fun T x0 H3 hT eH ex => ?_⟩
          subst eH ex
          have sm3 : Same F2 (upd F2 T (.tup [.int (i : Nat), x0])) := same_new (g2.freshF hT)
          refine ⟨_, sm3, g2.new hT, .tup (SqT1.of upd_same) (.cons ?_ (.one (h4.mono (sm2.trans sm3))))⟩
          simpa using Rep.int (i : Int)
      cases d with
      | lst ys =>
        have ey : ys = xs := by simpa using e2
        subst ey
        obtain ⟨a, us, rfl, h1, h2⟩ := r1.toLst
        refine .inl ⟨a, us, rfl, same_l g'.sub h1, p _ _ F' _ M' sm g' (fun i F2 H2 M2 sm2 g2 => ⟨fun d0 hd => ?_, fun hl => ⟨us, same_l (sm2.trans g2.sub) h1, by rw [h2.length]; simpa using hl⟩⟩) q'⟩
        obtain ⟨v0, h3, h4⟩ := item us h2 i F2 H2 M2 sm2 g2 d0 hd
        refine ⟨⟨us, v0, same_l (sm2.trans g2.sub) h1, h3⟩, fun x H3 ⟨T, x0, ex, hT, eH, hy⟩ => ?_⟩
        subst ex
        have h5 := hy us (same_l (sm2.trans g2.sub) h1)
        rw [h3] at h5
        exact h4 T x0 H3 hT eH (Option.some.inj h5).symm
      | tup ys =>
        have ey : ys = xs := by simpa using e2
        subst ey
        obtain ⟨a, us, rfl, h1, h2⟩ := r1.toTup
        refine .inr ⟨a, us, rfl, same_t g'.sub h1, p _ _ F' _ M' sm g' (fun i F2 H2 M2 sm2 g2 => ⟨fun d0 hd => ?_, fun hl => ⟨us, same_t (sm2.trans g2.sub) h1, by rw [h2.length]; simpa using hl⟩⟩) q'⟩
        obtain ⟨v0, h3, h4⟩ := item us h2 i F2 H2 M2 sm2 g2 d0 hd
        refine ⟨⟨us, v0, same_t (sm2.trans g2.sub) h1, h3⟩, fun x H3 ⟨T, x0, ex, hT, eH, hy⟩ => ?_⟩
        subst ex
        have h5 := hy us (same_t (sm2.trans g2.sub) h1)
        rw [h3] at h5
        exact h4 T x0 H3 hT eH (Option.some.inj h5).symm
      | _ => cases e2), w⟩⟩
end
end DL
set_option Elab.async false
set_option linter.all false
set_option maxRecDepth 100000
set_option maxHeartbeats 4000000
set_option autoImplicit false
namespace DL
open PySem L2
section
variable {P : Program} {w : World} {A : Around} {E : Value → Shared → Prop} {s : Shared} {K : PySem.W.Frag} {x C : Addr} {ox od : Obj}
end
section
variable {cl : ClW} {X : Cx} {a : Addr} {oe : Obj} {cls : Value} {d : Option Addr} {pn : List (Addr × Obj)} {x : D} {tb : List ((Nat × Nat) × Bool)}
end
end DL
set_option Elab.async false
set_option linter.all false
set_option maxRecDepth 100000
set_option maxHeartbeats 4000000
set_option autoImplicit false
namespace DL
open PySem L2
@[simp] def kLen : D → Option D
  | .int i => if 0 ≤ i ∧ i < 2 ^ 62 then some (.int i) else none
  | _ => none
section
variable {cl : ClW} {X : Cx} {W : WX} {k : Nat} {tb : List (Nat × SpD)} {e : Expr} {τ : DTE} {p pos : Pos}
end
end DL
set_option Elab.async false
set_option linter.all false
set_option maxRecDepth 100000
set_option maxHeartbeats 1000000
set_option autoImplicit false
namespace FL
open PySem L2 DL
def Rn (M : Mem) (r : Addr) : Prop := ∃ a b c : Int, M r = some (.lst [.int a, .int b, .int c]) ∧ 0 ≤ a ∧ 0 ≤ b ∧ b < 2147483629 ∧ 0 ≤ c
structure RTo (M M' : Mem) (r : Addr) : Prop where
  ok : Rn M' r
  keep : ∀ b d, b ≠ r → M b = some d → M' b = some d
theorem Rn.keep {M M' : Mem} {r : Addr} (h : Rn M r) (k : Keep M M') : Rn M' r := by
  obtain ⟨a, b, c, h1, h2⟩ := h
  exact ⟨a, b, c, k _ _ h1, h2⟩
theorem Rn.ne {M : Mem} {r a : Addr} (h : Rn M r) (e : M a = none) : r ≠ a := fun z => by
  obtain ⟨x, y, w, h1, _⟩ := h
  rw [z, e] at h1; cases h1
theorem RTo.refl {M : Mem} {r : Addr} (h : Rn M r) : RTo M M r := ⟨h, fun _ _ _ q => q⟩
theorem RTo.trans {M M1 M2 : Mem} {r : Addr} (h : RTo M M1 r) (k : RTo M1 M2 r) : RTo M M2 r := ⟨k.ok, fun b d hb q => k.keep b d hb (h.keep b d hb q)⟩
theorem RTo.and {M M1 M2 : Mem} {r : Addr} (h : RTo M M1 r) (k : Keep M1 M2) : RTo M M2 r := ⟨h.ok.keep k, fun b d hb q => k b d (h.keep b d hb q)⟩
theorem RTo.of {M M1 : Mem} {r : Addr} (h : Rn M r) (k : Keep M M1) : RTo M M1 r := (RTo.refl h).and k
theorem RTo.keep1 {M M1 : Mem} {r a : Addr} {d : D} (h : RTo M M1 r) (e : M a = some d) (hne : a ≠ r) : M1 a = some d := h.keep a d hne e
theorem RTo.put {M : Mem} {r : Addr} {a b c : Int} (ha : 0 ≤ a) (hb : 0 ≤ b) (hb2 : b < 2147483629) (hc : 0 ≤ c) : RTo M (updM M r (.lst [.int a, .int b, .int c])) r :=
  ⟨⟨a, b, c, updM_same, ha, hb, hb2, hc⟩, fun x d hx q => by rw [updM_ne hx]; exact q⟩
theorem RTo.upd {M M1 : Mem} {r a : Addr} {d : D} (h : RTo M M1 r) (e : M a = none) (hne : a ≠ r) : RTo M (updM M1 a d) r := by
  refine ⟨?_, fun b c hb q => ?_⟩
  · obtain ⟨x, y, z, h1, h2⟩ := h.ok
    exact ⟨x, y, z, by rw [updM_ne (Ne.symm hne)]; exact h1, h2⟩
  · have : b ≠ a := fun w => by rw [w, e] at q; cases q
    rw [updM_ne this]; exact h.keep b c hb q
theorem RTo.del {M M1 : Mem} {r a : Addr} (h : RTo M M1 r) (e : M a = none) (hne : a ≠ r) : RTo M (delM M1 a) r := by
  refine ⟨?_, fun b c hb q => ?_⟩
  · obtain ⟨x, y, z, h1, h2⟩ := h.ok
    exact ⟨x, y, z, by rw [delM_ne (Ne.symm hne)]; exact h1, h2⟩
  · have : b ≠ a := fun w => by rw [w, e] at q; cases q
    rw [delM_ne this]; exact h.keep b c hb q
theorem cells_int (ns : List Int) (k : Nat) : ∀ x : D, x ∈ cutD (ns.map D.int ++ [D.int 0]) none (some (k : Int)) → ∃ i : Int, x = D.int i := by
  intro x hx
  rw [cutD_to] at hx
  have := List.mem_of_mem_take hx
  simp at this
  rcases this with ⟨a, _, rfl⟩ | rfl
  · exact ⟨a, rfl⟩
  · exact ⟨0, rfl⟩
theorem cells_add (ns : List Int) (h : ns.length ≤ 63) : addD (.lst (ns.map D.int)) (.lst [.int 0]) = some (.lst (ns.map D.int ++ [.int 0])) := addD_lst (by simp; omega)
end FL
set_option Elab.async false
set_option linter.all false
set_option maxRecDepth 100000
set_option maxHeartbeats 1000000
set_option autoImplicit false
namespace FL
open PySem L2 DL
def clash (rs os : List Row) : Option (List Nat) := ((os.map Row.nm).filter fun x => decide (x ∈ rs.map Row.nm)).head?
theorem clash_none {rs os : List Row} (h : clash rs os = none) : ∀ x ∈ os.map Row.nm, x ∉ rs.map Row.nm := by
  unfold clash at h
  rw [List.head?_eq_none_iff, List.filter_eq_nil_iff] at h
  intro x hx z
  exact h x hx (by simpa using z)
theorem LevOk.append {a b : List Int} (ha : LevOk a) (hb : LevOk b) : LevOk (a ++ b) := by
  intro i l hl
  by_cases hi : i < a.length
  · rw [List.getElem?_append_left hi] at hl
    obtain ⟨h1, h2, h3⟩ := ha i l hl
    refine ⟨h1, h2, fun k hk => ?_⟩
    obtain ⟨m, hm, hle⟩ := h3 k hk
    exact ⟨m, by rw [List.getElem?_append_left (by omega)]; exact hm, hle⟩
  · rw [List.getElem?_append_right (by omega)] at hl
    obtain ⟨h1, h2, h3⟩ := hb _ l hl
    refine ⟨h1, fun z => h2 (by omega), fun k hk => ?_⟩
    by_cases hj : i - a.length = 0
    · have hk2 : k < a.length := by omega
      refine ⟨a[k], by rw [List.getElem?_append_left hk2]; simp [hk2], ?_⟩
      have := (ha k a[k] (by simp [hk2])).1
      have := h2 hj
      omega
    · obtain ⟨m, hm, hle⟩ := h3 (k - a.length) (by omega)
      exact ⟨m, by rw [List.getElem?_append_right (by omega)]; exact hm, hle⟩
theorem RowsOk.append {rs os : List Row} (h : RowsOk rs) (k : RowsOk os) (hc : clash rs os = none) (hl : rs.length + os.length ≤ 60) : RowsOk (rs ++ os) where
  len := by rw [List.length_append]; exact hl
  names := fun x hx => (List.mem_append.mp hx).elim (h.names x) (k.names x)
  vals := fun x hx => (List.mem_append.mp hx).elim (h.vals x) (k.vals x)
  nd := by
    rw [List.map_append, List.nodup_append]
    exact ⟨h.nd, k.nd, fun x hx y hy e => clash_none hc y hy (e ▸ hx)⟩
  lev := by rw [List.map_append]; exact h.lev.append k.lev
def sumD (rs os : List Row) : D := match clash rs os with
  | some x => .tup [.str "twice", strD x]
  | none => if 60 < rs.length + os.length then .tup [.str "forest", .tup [.int (-1), .str "rows"]] else .tup [.str "rows", .tup ((rs ++ os).map Row.d)]
theorem sumD_tup (rs os : List Row) : ∃ xs, sumD rs os = .tup xs := by
  unfold sumD
  split
  · exact ⟨_, rfl⟩
  · split
    · exact ⟨_, rfl⟩
    · exact ⟨_, rfl⟩
@[simp] theorem vw_sumD {M : Mem} {rs os : List Row} : vw M (sumD rs os) = sumD rs os := by
  obtain ⟨xs, e⟩ := sumD_tup rs os
  rw [e]; rfl
def unS : D → List Nat
  | .str z => z.cps.toList
  | _ => []
@[simp] theorem unS_strD (x : List Nat) : unS (strD x) = x := by simp [unS, strD, S]
end FL
set_option Elab.async false
set_option linter.all false
set_option maxRecDepth 100000
set_option maxHeartbeats 4000000
set_option autoImplicit false
namespace DL
open PySem L2
section
variable {K : PySem.W.Frag} {cl : ClW} {F H : Hp} {X : Cx}
end
@[simp] def dListRg (τ : DTE) : DTE := fun ρ M Q X => τ ρ M (fun d M1 => ∃ n : Int, d = .int n ∧ 0 ≤ n ∧ n ≤ 16777216 ∧ Q (.lst ((List.range n.toNat).map fun (i : Nat) => D.int (i : Int))) M1) X
section
variable {cl : ClW} {X : Cx} {W : WX} {a : Expr} {τ : DTE} {p1 p2 p3 p4 : Pos}
end
end DL
set_option Elab.async false
set_option linter.all false
set_option maxRecDepth 100000
set_option maxHeartbeats 4000000
set_option autoImplicit false
namespace FL
open PySem L2 DL
def kids (ls : List Int) (p : Nat) : Nat := ((ls.drop (p + 1)).takeWhile fun l => decide (ls.getD p 0 < l)).length
section
variable {α : Type} {γ : DTG} {υ : DTT} {τ : DTE} {vs : List Nat} {a : Addr} {Q : DV} {R : Mem → Prop} {ρ : DL.Env} {M : Mem}
theorem Keep.updN {M M1 : Mem} {a : Addr} {d : D} (h : Keep M M1) (e : M a = none) : Keep M (updM M1 a d) := fun b c hb => by
  have z : b ≠ a := fun z => by rw [z, e] at hb; cases hb
  rw [updM_ne z]; exact h b c hb
theorem Keep.delN {M M1 : Mem} {a : Addr} (h : Keep M M1) (e : M a = none) : Keep M (delM M1 a) := fun b c hb => by
  have z : b ≠ a := fun z => by rw [z, e] at hb; cases hb
  rw [delM_ne z]; exact h b c hb
end
end FL
set_option Elab.async false
set_option linter.all false
set_option maxRecDepth 100000
set_option maxHeartbeats 4000000
set_option autoImplicit false
namespace DL
open PySem L2
mutual
inductive Dv (M : Mem) : D → D → Prop
  | same (d : D) : Dv M d d
  | ref {a : Addr} {ds es : List D} : M a = some (.lst ds) → Dvs M ds es → Dv M (.ref a) (.lst es)
  | lst {ds es : List D} : Dvs M ds es → Dv M (.lst ds) (.lst es)
  | tup {ds es : List D} : Dvs M ds es → Dv M (.tup ds) (.tup es)
inductive Dvs (M : Mem) : List D → List D → Prop
  | nil : Dvs M [] []
  | cons {d e : D} {ds es : List D} : Dv M d e → Dvs M ds es → Dvs M (d :: ds) (e :: es)
end
theorem Dvs.same {M : Mem} : ∀ ds : List D, Dvs M ds ds
  | [] => .nil
  | d :: ds => .cons (.same d) (Dvs.same ds)
theorem Dv.cell {M : Mem} {a : Addr} {ds : List D} (h : M a = some (.lst ds)) : Dv M (.ref a) (.lst ds) := .ref h (Dvs.same ds)
section
variable {K : PySem.W.Frag} {cl : ClW} {F H : Hp} {M : Mem} {X : Cx} {W : WX}
mutual
theorem dp_deep (g : Good K cl F H M) {d e : D} (t : Dv M d e) {v : V} {p : PyData} (r : Rep K cl F v d) (h : toPy e = some p) : Dp K H v p := by
  cases t with
  | same => exact dp_of g.sub d v p r h
  | ref ha ts =>
    rename_i a ds es
    obtain rfl := r.toRef
    obtain ⟨hF, vs, h3, h4⟩ := g.cell a _ ha
    simp only [toPy] at h
    cases q : toPys es with
    | none => rw [q] at h; cases h
    | some ps => rw [q] at h; cases h; exact .lst (SqL.of h3) (dps_deep g ts h4 q)
  | lst ts =>
    rename_i ds es
    obtain ⟨a, vs, rfl, h1, h2⟩ := r.toLst
    simp only [toPy] at h
    cases q : toPys es with
    | none => rw [q] at h; cases h
    | some ps => rw [q] at h; cases h; exact .lst (same_l g.sub h1) (dps_deep g ts h2 q)
  | tup ts =>
    rename_i ds es
    obtain ⟨a, vs, rfl, h1, h2⟩ := r.toTup
    simp only [toPy] at h
    cases q : toPys es with
    | none => rw [q] at h; cases h
    | some ps => rw [q] at h; cases h; exact .tup (same_t g.sub h1) (dps_deep g ts h2 q)
theorem dps_deep (g : Good K cl F H M) {ds es : List D} (t : Dvs M ds es) {vs : List V} {ps : List PyData} (r : Reps K cl F vs ds) (h : toPys es = some ps) : DpAll K H vs ps := by
  cases t with
  | nil =>
    obtain rfl := r.inv0
    simp only [toPys] at h
    cases h
    exact .nil
  | cons t1 t2 =>
    rename_i d e ds es
    obtain ⟨v, ws, rfl, r1, r2⟩ := r.inv
    obtain ⟨p, qs, rfl, h1, h2⟩ := toPys_cons h
    exact .cons (dp_deep g t1 r1 h1) (dps_deep g t2 r2 h2)
end
@[simp] def bDeepEq : DB2 := fun d e _ M Q _ => ∃ d' e' b, Dv M d d' ∧ Dv M e e' ∧ eqP d' e' = some b ∧ Q (.bl b) M
@[simp] def bDeepNe : DB2 := fun d e _ M Q _ => ∃ d' e' b, Dv M d d' ∧ Dv M e e' ∧ eqP d' e' = some b ∧ Q (.bl !b) M
@[simp] def dRevM (τ : DTE) : DTE := fun ρ M Q X => τ ρ M (fun d M1 => ∃ xs, vw M1 d = .lst xs ∧ ∀ a, M1 a = none → Q (.ref a) (updM M1 a (.lst xs.reverse))) X
variable {e : Expr} {τ : DTE} {pos : Pos}
def truD : D → Option Bool
  | .bl b => some b
  | .int i => some (i != 0)
  | .non => some false
  | .lst xs => some (!xs.isEmpty)
  | .tup xs => some (!xs.isEmpty)
  | _ => none
@[simp] def dOrT (τa τb : DTE) : DTE := fun ρ M Q X => τa ρ M (fun d M1 => ∃ k, truD (vw M1 d) = some k ∧ if k = true then Q d M1 else τb ρ M1 Q X) X
variable {a b : Expr} {τa τb : DTE} {rest : List Expr}
end
end DL
set_option Elab.async false
set_option linter.all false
set_option maxRecDepth 100000
set_option maxHeartbeats 4000000
set_option autoImplicit false
namespace FL
open PySem L2 DL
def Fr (M : Mem) (xs : List D) (Q : DV) : Prop := ∀ a M', M a = none → M' a = some (.lst xs) → Keep M M' → Q (.ref a) M'
theorem Fr.frz {M : Mem} {xs : List D} {Q : DV} (h : ∀ M', Keep M M' → Q (.lst xs) M') : Fr M xs (fun d M1 => frz d M1 Q) := fun a M' ha h1 k => by
  simp only [DL.frz, h1]
  exact h _ (k.delN ha)
end FL
set_option Elab.async false
set_option linter.all false
set_option maxRecDepth 100000
set_option maxHeartbeats 4000000
namespace DL
open PySem L2
abbrev DTIg := DL.Env → Mem → ((Mem → Prop) → List D → Mem → Prop) → DX → Prop
def WalksG (K : PySem.W.Frag) (cl : ClW) (J : It) (F : Hp) (C : Mem → Prop) (xs : List D) : Prop := ∀ i F' H' M', Same F F' → Good K cl F' H' M' → C M' →
  (∀ d, xs[i]? = some d → J.go i H' ∧ ∀ x H3, J.yld i H' x H3 → ∃ F3, Same F' F3 ∧ Good K cl F3 H3 M' ∧ Rep K cl F3 x d) ∧ (xs.length ≤ i → J.stop i H')
structure DIg (cl : ClW) (X : Cx) (W : WX) (tg iter : Expr) (ι : DTIg) : Prop where
  pi : PI X tg iter (fun σ H R => ∃ F ρ M Rd Xd, Good X.K cl F H M ∧ Slots X.K cl F σ ρ ∧ ι ρ M Rd Xd ∧ (∀ J H' F' C xs M', Same F F' → Good X.K cl F' H' M' → WalksG X.K cl J F' C xs → Rd C xs M' → R J H') ∧ WOk X.K cl W F Xd)
def lcG (C : Mem → Prop) (γ : DTG) (υ : DTT) (τ : DTE) (vs : List Nat) (a : Addr) : List D → DL.Env → Mem → (Mem → Prop) → Prop
  | [] => fun _ M R => C M ∧ R M
  | x :: xs => fun ρ M R => C M ∧ γ x (wipeD ρ vs) M (fun ρ2 M2 => υ ρ2 M2 (fun b M3 => if b = true then τ ρ2 M3 (fun d M4 => ∃ acc, M4 a = some (.lst acc) ∧ acc.length < sizeLine ∧ lcG C γ υ τ vs a xs ρ (updM M4 a (.lst (acc ++ [d]))) R) noX else lcG C γ υ τ vs a xs ρ M3 R) noX) noX
def endF (a : Addr) (Q : DV) : Mem → Prop := fun M => ∃ ds, M a = some (.lst ds) ∧ Q (.lst ds) (delM M a)
def dLcG (ι : DTIg) (γ : DTG) (υ : DTT) (τ : DTE) (vs : List Nat) : DTE := fun ρ M Q X => ι ρ M (fun C xs M1 => ∀ a, M1 a = none → lcG C γ υ τ vs a xs ρ (updM M1 a (.lst [])) (endF a Q)) X
@[simp] def iSG (τ : DTE) : DTIg := fun ρ M R X => τ ρ M (fun d M1 => ∃ xs, itD (vw M1 d) = some xs ∧ R (fun M => itD (vw M d) = some xs) xs M1) X
@[simp] def iEnG (τ : DTE) : DTIg := fun ρ M R X => τ ρ M (fun d M1 => ∃ xs, enD (vw M1 d) = some xs ∧ R (fun M => enD (vw M d) = some xs) (xs.zipIdx.map fun p => D.tup [.int (p.2 : Nat), p.1]) M1) X
@[simp] def iG (ι : DTI) : DTIg := fun ρ M R X => ι ρ M (fun xs M1 => R (fun _ => True) xs M1) X
section
variable {K : PySem.W.Frag} {cl : ClW} {F H : Hp} {M : Mem}
theorem cellL (g : Good K cl F H M) {a : Addr} {xs : List D} (e : itD (vw M (.ref a)) = some xs ∨ enD (vw M (.ref a)) = some xs) : M a = some (.lst xs) ∧ ∃ vs, H a = some (.lst vs) ∧ Reps K cl F vs xs := by
  have hv : vw M (.ref a) = (M a).getD (.ref a) := rfl
  cases hM : M a with
  | none => rw [hv, hM] at e; rcases e with e | e <;> cases e
  | some c =>
    rw [hv, hM] at e
    obtain ⟨_, h2⟩ := g.cell a c hM
    cases c with
    | lst ds =>
      have : ds = xs := by rcases e with e | e <;> exact Option.some.inj e
      subst this
      exact ⟨rfl, h2⟩
    | tup ds => exact h2.elim
    | str ds => exact h2.elim
    | byt ds => exact h2.elim
    | _ => rcases e with e | e <;> cases e
end
section
variable {cl : ClW} {X : Cx} {W : WX} {e : Expr} {τ : DTE}
theorem di_g {tg : Expr} {ι : DTI} (h : DI cl X W tg e ι) : DIg cl X W tg e (iG ι) := ⟨pi_imp h.pi fun σ H R ⟨F, ρ, M, Rd, Xd, g, s, q, p, w⟩ =>
  ⟨F, ρ, M, _, Xd, g, s, q, fun J H' F' xs M' sm g' wk q' => p J H' F' _ xs M' sm g' (fun i F2 H2 M2 sm2 g2 _ => wk i F2 H2 M2 sm2 g2) q', w⟩⟩
theorem di_seqG {tg : Expr} (h : DE cl X W e τ) : DIg cl X W tg e (iSG τ) := ⟨pi_imp (pi_seqV h.pe) fun σ H R ⟨F, ρ, M, Rd, Xd, g, s, q, p, w⟩ =>
  ⟨F, ρ, M, _, Xd, g, s, q, fun v H' F' d M' sm g' r ⟨xs, e1, q'⟩ => (by
    cases d with
    | ref a =>
      obtain rfl := r.toRef
      obtain ⟨_, vs, h1, h2⟩ := cellL g' (.inl e1)
      refine .inl ⟨a, rfl, ⟨vs, SqL.of h1⟩, p _ _ F' _ xs M' sm g' (fun i F2 H2 M2 sm2 g2 hC => ?_) q'⟩
      obtain ⟨_, vs, h1, h2⟩ := cellL g2 (.inl hC)
      refine ⟨fun d hd => ?_, fun hl => ⟨vs, SqL.of h1, by rw [h2.length]; exact hl⟩⟩
      obtain ⟨v, hv, rv⟩ := h2.get hd
      refine ⟨⟨vs, v, SqL.of h1, hv⟩, fun x H3 ⟨e1, e2⟩ => ?_⟩
      subst e1
      have := e2 vs (SqL.of h1)
      rw [hv] at this
      cases this
      exact ⟨F2, Same.refl F2, g2, rv⟩
    | lst ds =>
      cases e1
      obtain ⟨a, vs, rfl, h1, h2⟩ := r.toLst
      refine .inl ⟨a, rfl, ⟨vs, same_l g'.sub h1⟩, p _ _ F' _ xs M' sm g' (fun i F2 H2 M2 sm2 g2 _ => ⟨fun d hd => ?_, fun hl => ⟨vs, same_l (sm2.trans g2.sub) h1, by rw [h2.length]; exact hl⟩⟩) q'⟩
      obtain ⟨v, hv, rv⟩ := h2.get hd
      refine ⟨⟨vs, v, same_l (sm2.trans g2.sub) h1, hv⟩, fun x H3 ⟨e1, e2⟩ => ?_⟩
      subst e1
      have := e2 vs (same_l (sm2.trans g2.sub) h1)
      rw [hv] at this
      cases this
      exact ⟨F2, Same.refl F2, g2, rv.mono sm2⟩
    | tup ds =>
      cases e1
      obtain ⟨a, vs, rfl, h1, h2⟩ := r.toTup
      refine .inr (.inl ⟨a, rfl, ⟨vs, same_t g'.sub h1⟩, p _ _ F' _ xs M' sm g' (fun i F2 H2 M2 sm2 g2 _ => ⟨fun d hd => ?_, fun hl => ⟨vs, same_t (sm2.trans g2.sub) h1, by rw [h2.length]; exact hl⟩⟩) q'⟩)
      obtain ⟨v, hv, rv⟩ := h2.get hd
      refine ⟨⟨vs, v, same_t (sm2.trans g2.sub) h1, hv⟩, fun x H3 ⟨e1, e2⟩ => ?_⟩
      subst e1
      have := e2 vs (same_t (sm2.trans g2.sub) h1)
      rw [hv] at this
      cases this
      exact ⟨F2, Same.refl F2, g2, rv.mono sm2⟩
    | str z =>
      cases e1
      obtain rfl := r.toStr
      refine .inr (.inr (.inl ⟨z, rfl, p _ _ F' _ _ M' sm g' (fun i F2 H2 M2 sm2 g2 _ => ⟨fun d hd => ?_, fun hl => ?_⟩) q'⟩))
      · rw [List.getElem?_map] at hd
        obtain ⟨c, hc, rfl⟩ := Option.map_eq_some_iff.mp hd
        have hc' : z.cps[i]? = some c := by simpa using hc
        refine ⟨(Array.getElem?_eq_some_iff.mp hc').1, fun x H3 ⟨e1, c2, e2, e3⟩ => ?_⟩
        subst e1 e3
        rw [hc'] at e2
        cases e2
        exact ⟨F2, Same.refl F2, g2, .str _⟩
      · show z.cps.size ≤ i
        simpa using hl
    | byt z =>
      cases e1
      obtain rfl := r.toByt
      refine .inr (.inr (.inr ⟨z, rfl, p _ _ F' _ _ M' sm g' (fun i F2 H2 M2 sm2 g2 _ => ⟨fun d hd => ?_, fun hl => ?_⟩) q'⟩))
      · rw [List.getElem?_map] at hd
        obtain ⟨c, hc, rfl⟩ := Option.map_eq_some_iff.mp hd
        have hc' : z[i]? = some c := by simpa using hc
        refine ⟨(Array.getElem?_eq_some_iff.mp hc').1, fun x H3 ⟨e1, c2, e2, e3⟩ => ?_⟩
        subst e1 e3
        rw [hc'] at e2
        cases e2
        exact ⟨F2, Same.refl F2, g2, .int _⟩
      · show z.size ≤ i
        simpa using hl
    | _ => cases e1), w⟩⟩
variable {elt tg iter kx vx : Expr} {ifs : List Expr} {scope : Scope} {own : List (Str × Nat)} {pos : Pos} {ι : DTIg} {is : List Nat} {γ : DTG} {υ : DTT} {τk τv : DTE} {sts : List Stmt} {t : DTS}
theorem lcG_lift {K : PySem.W.Frag} (his : ∀ i ∈ is, i ∈ own.map (·.2)) {σ : St} {H : Hp} {Q : VK} {F : Hp} {ρ : DL.Env} {M : Mem} {Xd : DX} (R : Addr → Mem → Prop) (g : Good K cl F H M) (s : Slots K cl F σ ρ)
    (q : ι ρ M (fun C xs M1 => ∀ a, M1 a = none → lcG C γ υ τ (own.map (·.2)) a xs ρ (updM M1 a (.lst [])) (R a)) Xd) (p : ∀ a H' F' M', Same F F' → Good K cl F' H' M' → R a M' → Q (.ref a) H') (w : WOk K cl W F Xd) :
    tLc (fun σ H R => ∃ F ρ M Rd Xd, Good K cl F H M ∧ Slots K cl F σ ρ ∧ ι ρ M Rd Xd ∧ (∀ J H' F' C xs M', Same F F' → Good K cl F' H' M' → WalksG K cl J F' C xs → Rd C xs M' → R J H') ∧ WOk K cl W F Xd)
      (fun v σ H Q => ∃ F ρ M d Qd Xd, Good K cl F H M ∧ Slots K cl F σ ρ ∧ Rep K cl F v d ∧ γ d ρ M Qd Xd ∧ (∀ σ' H' F' ρ' M', Same F F' → Good K cl F' H' M' → Slots K cl F' σ' ρ' → (∀ vs : List Nat, (∀ i ∈ is, i ∈ vs) → wipe σ' vs = wipe σ vs) → Qd ρ' M' → Q σ' H') ∧ WOk K cl W0 F Xd)
      (lowT K cl W0 υ) (lowE K cl W0 τ) (own.map (·.2)) σ H Q := by
  refine ⟨F, ρ, M, _, Xd, g, s, q, fun J H1 F1 C xs M1 sm1 g1 wk q1 a hD => ?_, w⟩
  refine ⟨fun i m H => m = xs.length - i ∧ i ≤ xs.length ∧ ∃ F' M, Same F1 F' ∧ Good K cl F' H M ∧ lcG C γ υ τ (own.map (·.2)) a (xs.drop i) ρ M (R a),
    ⟨xs.length, by simp, Nat.zero_le _, F1, updM M1 a (.lst []), Same.refl F1, g1.newM (d := .lst []) hD ⟨[], upd_same, .nil⟩, by simpa using q1 a (g1.freshM hD)⟩, ?_⟩
  rintro i m H2 ⟨rfl, hi, F2, M2, sm2, g2, q2⟩
  by_cases hlt : i < xs.length
  · rw [List.drop_eq_getElem_cons hlt] at q2
    unfold lcG at q2
    obtain ⟨hC, q2⟩ := q2
    obtain ⟨go, yl⟩ := (wk i F2 H2 M2 sm2 g2 hC).1 xs[i] (by simp [hlt])
    refine .inr ⟨go, fun H' => ∃ F' M', Same F1 F' ∧ Good K cl F' H' M' ∧ lcG C γ υ τ (own.map (·.2)) a (xs.drop (i + 1)) ρ M' (R a), fun H' n => ⟨xs.length - (i + 1), by omega, rfl, hlt, n⟩, fun x H3 y => ?_⟩
    obtain ⟨F3, sm3, g3, r3⟩ := yl x H3 y
    refine ⟨F3, wipeD ρ (own.map (·.2)), M2, xs[i], _, noX, g3, (s.mono ((sm1.trans sm2).trans sm3)).wipe _, r3, q2, fun σ4 H4 F4 ρ4 M4 sm4 g4 s4 w4 q4 => ⟨?_, ?_⟩, wok0⟩
    · rw [w4 _ his]
      exact wipe_idem _ _ _ fun _ h => h
    · refine ⟨F4, ρ4, M4, _, noX, g4, s4, q4, fun k H5 F5 M5 sm5 g5 q5 => ?_, wok0⟩
      cases k with
      | true =>
        rw [if_pos rfl] at q5 ⊢
        refine ⟨F5, ρ4, M5, _, noX, g5, s4.mono sm5, q5, fun y2 H6 F6 d M6 sm6 g6 r6 q6 => ?_, wok0⟩
        obtain ⟨acc, e1, e2, q6⟩ := q6
        obtain ⟨hF, vs, h1, h2⟩ := g6.cell a _ e1
        refine ⟨vs, h1, by rw [h2.length]; exact e2, F6, _, (((sm2.trans sm3).trans sm4).trans sm5).trans sm6, g6.put (d := .lst (acc ++ [d])) e1 ⟨vs ++ [y2], upd_same, h2.append (.one r6)⟩, q6⟩
      | false =>
        rw [if_neg Bool.false_ne_true] at q5 ⊢
        exact ⟨F5, M5, ((sm2.trans sm3).trans sm4).trans sm5, g5, q5⟩
  · have e : i = xs.length := by omega
    subst e
    rw [List.drop_length] at q2
    unfold lcG at q2
    exact .inl ⟨(wk _ F2 H2 M2 sm2 g2 q2.1).2 (Nat.le_refl _), p _ _ _ _ (sm1.trans sm2) g2 q2.2⟩
theorem endF_ok {K : PySem.W.Frag} {F : Hp} {Q : VK} {Qd : DV} (p : Post K cl F Q Qd) : ∀ a H' F' M', Same F F' → Good K cl F' H' M' → endF a Qd M' → Q (.ref a) H' := fun a H' F' M' sm g ⟨ds, e1, q⟩ => by
  obtain ⟨F3, sm3, g3, r3⟩ := g.freeze e1
  exact p _ _ _ _ _ (sm.trans sm3) g3 r3 q
theorem d_lcG (hc : X.calm = true) (hN : X.N.Nodup) (hi : DIg cl X W tg iter ι) (ok : BlkOk X.N X.env.scope scope own)
    (hg : ∀ (s : Shared) (H : Hp) (C : Addr) (cs : List (Str × Addr)) (fp : List Addr), DG cl (X.blk s H scope (compEnvC scope cs C X.env) fp) W0 tg is γ) (ht : ∀ (s : Shared) (H : Hp) (C : Addr) (cs : List (Str × Addr)) (fp : List Addr), DTs cl (X.blk s H scope (compEnvC scope cs C X.env) fp) W0 ifs υ)
    (he : ∀ (s : Shared) (H : Hp) (C : Addr) (cs : List (Str × Addr)) (fp : List Addr), DE cl (X.blk s H scope (compEnvC scope cs C X.env) fp) W0 elt τ) (his : ∀ i ∈ is, i ∈ own.map (·.2) := by decide) (hs : ∀ x, foldedSetIterable iter X.env x = pure x := by intro _; rfl) :
    DE cl X W (.ListComp elt [⟨tg, iter, ifs, 0⟩] scope pos) (dLcG ι γ υ τ (own.map (·.2))) :=
  ⟨pe_imp (pe_lc hc hN hi.pi ok (fun s H C cs fp => (hg s H C cs fp).pg) (fun s H C cs fp => (ht s H C cs fp).pts) (fun s H C cs fp => (he s H C cs fp).pe) hs) fun σ H Q ⟨F, ρ, M, Qd, Xd, g, s, q, p, w⟩ => lcG_lift his (fun a => endF a Qd) g s q (endF_ok p) w⟩
end
theorem lcG_run {C : Mem → Prop} {γ : DTG} {υ : DTT} {τ : DTE} {vs : List Nat} {a : Addr} {R : Mem → Prop} {ρ : DL.Env} (xs : List D) (P : List D → List D → Mem → Prop)
    (step : ∀ (done : List D) (x : D) (rest acc : List D) (M : Mem) (Nx : Mem → Prop), xs = done ++ x :: rest → M a = some (.lst acc) → P done acc M → (∀ acc' M', M' a = some (.lst acc') → P (done ++ [x]) acc' M' → Nx M') →
      C M ∧ γ x (wipeD ρ vs) M (fun ρ2 M2 => υ ρ2 M2 (fun b M3 => if b = true then τ ρ2 M3 (fun d M4 => ∃ acc, M4 a = some (.lst acc) ∧ acc.length < sizeLine ∧ Nx (updM M4 a (.lst (acc ++ [d])))) noX else Nx M3) noX) noX)
    (fin : ∀ acc M, M a = some (.lst acc) → P xs acc M → C M ∧ R M) {M : Mem} (h0 : P [] [] (updM M a (.lst []))) : lcG C γ υ τ vs a xs ρ (updM M a (.lst [])) R := by
  have go : ∀ (rest done acc : List D) (M : Mem), xs = done ++ rest → M a = some (.lst acc) → P done acc M → lcG C γ υ τ vs a rest ρ M R := by
    intro rest
    induction rest with
    | nil => intro done acc M e ha p; rw [List.append_nil] at e; subst e; exact fin acc M ha p
    | cons x rest ih => intro done acc M e ha p; exact step done x rest acc M _ e ha p fun acc' M' ha' p' => ih (done ++ [x]) acc' M' (by rw [e, List.append_assoc]; rfl) ha' p'
  exact go xs [] [] _ rfl updM_same h0
end DL
set_option Elab.async false
set_option linter.all false
set_option maxRecDepth 100000
set_option maxHeartbeats 4000000
namespace DL
open PySem L2
open PyProof.Rows (Compare_chain isTrue_chain chain_link chain_last test_link test_last ite_tt ite_ff)
section
variable {cl : ClW} {X : Cx} {a : Addr} {oe : Obj} {cls : Value} {d : Option Addr} {pn : List (Addr × Obj)} {x : D}
theorem Vw.ty {K : PySem.W.Frag} {F H : Hp} {v : V} {n : String} (h : Vw K cl F H v (.ty n)) : v = .ty n := by
  rcases h with h | ⟨_, _, h⟩
  · exact h.toTy
  · exact h.elim
end
section
variable {cl : ClW} {X : Cx} {W : WX} {pos : Pos} {a b : Expr} {τa τb : DTE}
theorem Reps.rep {K : PySem.W.Frag} {F : Hp} {vs : List V} {ds : List D} (h : Reps K cl F vs ds) : ∀ n : Nat, Reps K cl F (List.replicate n vs).flatten (List.replicate n ds).flatten
  | 0 => .nil
  | n + 1 => by
    rw [List.replicate_succ, List.replicate_succ, List.flatten_cons, List.flatten_cons]
    exact h.append (Reps.rep h n)
theorem Good.drop {K : PySem.W.Frag} {F H : Hp} {M : Mem} (g : Good K cl F H M) (p : Addr) : Good K cl F H (delM M p) := ⟨g.sub, fun a d e => by
  by_cases h : a = p
  · subst h; rw [delM_same] at e; cases e
  · rw [delM_ne h] at e; exact g.cell a d e, g.tab, g.noT⟩
def bRepD : DB2 := fun d e _ M Q _ => ∃ p xs k, d = .ref p ∧ M p = some (.lst xs) ∧ e = .int k ∧ -(2 ^ 63) ≤ k ∧ k < 2 ^ 63 ∧ xs.length * k.toNat ≤ sizeLine ∧ Q (.lst (List.replicate k.toNat xs).flatten) (delM M p)
theorem bin_repD : BinG cl X W (binaryOp .Mult) bRepD := by
  intro pins s σ H F ρ M v u x y d e Q Qd Xd I rx ry g sl r1 r2 h p w
  obtain ⟨b, xs, k, rfl, hM, rfl, k1, k2, hl, q⟩ := h
  obtain rfl := r1.toRef
  obtain rfl := r2.toInt
  obtain ⟨hF, vs, h1, h2⟩ := g.cell b _ hM
  exact op_rep pins s σ H _ _ v u Q I rx ry ⟨b, k, vs, rfl, rfl, h1, k1, k2, by rw [h2.length]; exact hl, fun c hc => p.newL (g.drop b) (h2.rep _) q hc⟩
end
section
variable {X : Cx} {a b c d : Expr} {ta tb tc td : TE} {pos : Pos}
end
section
variable {cl : ClW} {X : Cx} {W : WX} {a b c d : Expr} {τa τb τc τd : DTE} {pos : Pos}
@[simp] def dChain3 (f f' f'' : D → D → Option D) (τa τb τc τd : DTE) : DTE := fun ρ M Q X => τa ρ M (fun d M1 => τb ρ M1 (fun e M2 => ∃ k, f (vw M2 d) (vw M2 e) = some (.bl k) ∧
  if k = true then τc ρ M2 (fun h M3 => ∃ k, f' (vw M3 e) (vw M3 h) = some (.bl k) ∧ if k = true then τd ρ M3 (fun j M4 => ∃ z, f'' (vw M4 h) (vw M4 j) = some z ∧ Q z M4) X else Q (.bl false) M3) X else Q (.bl false) M2) X) X
end
end DL
set_option Elab.async false
set_option linter.all false
set_option maxRecDepth 100000
set_option maxHeartbeats 4000000
namespace DL
open PySem L2
open PySem.SeqAt
section
open AutoSeq1 (wpAny_loadPart')
variable {prog : Program} {w : World}
inductive EqL (prog : Program) (w : World) (A : Around) (s : Shared) : List (Value × Value) → List Bool → Prop
  | nil : EqL prog w A s [] []
  | cons {p : Value × Value} {b : Bool} {ps : List (Value × Value)} {bs : List Bool} : EqP prog w A s p.1 p.2 b → EqL prog w A s ps bs → EqL prog w A s (p :: ps) (b :: bs)
theorem tup_eq_pairs (l b : Addr) (us vs : Array Value) (n m : Nat) (dd de : Option Addr) (sl sm : Array (Option Value)) (bs : List Bool) :
    MeetsIn prog w (Builtin.«tuple.__eq__» ⟨[.ref l, .ref b], []⟩)
      (fun A R s => s.heap.get? l = some { cls := .type "tuple", dict := dd, data := .seq us n, slots := sl } ∧ s.heap.get? b = some { cls := .type "tuple", dict := de, data := .seq vs m, slots := sm } ∧
        EqL prog w A.in1 s (us.toList.zip vs.toList) bs ∧ R (.ok (.ret (.bool (bs.all id && us.size == vs.size)))) s) :=
  .of_wp fun A R s0 h => by
    obtain ⟨h0, g0, d0, t0, o0⟩ := s0
    obtain ⟨hl, hb, he, hR⟩ := h
    have sub := AutoSeq1.sub_tuple_tuple
    wp_walk using wpAny_loadPart' hl, wpAny_loadPart' hb, wpAny_forIn_list _ (fun rest st s1 => st.1 = none ∧ s1 = ⟨h0, g0, d0, t0, o0⟩ ∧ ∃ cs, EqL prog w A.in1 ⟨h0, g0, d0, t0, o0⟩ rest cs ∧ R (.ok (.ret (.bool (cs.all id && us.size == vs.size)))) ⟨h0, g0, d0, t0, o0⟩) _
    case turn =>
      rintro ⟨y, x⟩ rest st s1 ⟨e1, rfl, cs, ep, er⟩
      cases ep with
      | @cons _ c _ cs hp ep =>
        rw [List.all_cons] at er
        refine wpAny_bind (hp _ _ ?_)
        cases c with
        | true => wp_walk; exact ⟨rfl, rfl, cs, ep, by simpa using er⟩
        | false => wp_walk; exact ⟨_, rfl, by simpa using er⟩
    case fin =>
      rintro ⟨x1, x2⟩ s1 ⟨e1, rfl, cs, ep, er⟩
      simp only at e1
      subst e1
      cases ep
      wp_walk
      exact ⟨_, rfl, by simpa [Builtin.Tuple.tupleCompareSizes] using er⟩
    case h => exact ⟨rfl, rfl, bs, he, hR⟩
def RcP (prog : Program) (w : World) (A : Around) (s : Shared) (v u : Value) (k : Bool) : Prop := ∀ (E Q : Value → Shared → Prop), Q (.bool k) s → wpAny (model prog w) A (richCompare .Eq v u) Q E s
theorem RcP.of {A : Around} {s : Shared} {v u : Value} {k : Bool} (h : RcAt A s v u k) : RcP prog w A s v u k := fun E Q q => h prog w E Q q
theorem rcp_tups {A : Around} {s : Shared} {l b : Addr} {us vs : Array Value} (bs : List Bool) (hl : s.heap.IsTuple l us) (hb : s.heap.IsTuple b vs) (hu : A.units < cLine)
    (he : EqL prog w A.in1 s (us.toList.zip vs.toList) bs) : RcP prog w A s (.ref l) (.ref b) (bs.all id && us.size == vs.size) := fun E Q q => by
  obtain ⟨⟨c1, d1, x1, s1⟩, ho, hc, n, hd⟩ := id hl
  obtain ⟨⟨c2, d2, x2, s2⟩, ho2, hc2, n2, hd2⟩ := id hb
  simp only at hc hd hc2 hd2
  subst hc hd hc2 hd2
  exact wpAny_richCompare_same_room (op := .Eq) ⟨_, ho, rfl⟩ ⟨_, ho2, rfl⟩ PySem.F.slot_tuple_eq (call_meetsIn PySem.F.slot_tuple_eq ⟨_, ho, rfl⟩ PySem.F.entry_tuple_eq (PySem.F.args_tuple_eq_2 _ _) (tup_eq_pairs l b us vs n n2 d1 d2 s1 s2 bs)
    ⟨ho, ho2, he, show Value.bool _ ≠ Value.notImplemented ∧ Q (.bool _) s from ⟨(fun z => nomatch z), q⟩⟩) hu
theorem dict_no {A : Around} {s : Shared} {K : Type} [DecidableEq K] {knd : KeyKind prog w K} {a : Addr} {ka : List (K × Value)} {v : Value} {T : String} {E Q : Value → Shared → Prop} (da : s.heap.DictOf knd a ka) (hv : s.TypeIs v T) (hs : isSubtype (.type T) (.type "dict") = pure false) (q : Q .notImplemented s) :
    wpAny (model prog w) A (call (.builtin "dict.__eq__") [.ref a, v]) Q E s := by
  refine wpAny_call_entry PySem.F.slot_dict_eq da.typeIs PySem.F.entry_dict_eq ?_ (PySem.F.args_dict_eq_2 _ _)
  show wpAny _ _ (Builtin.Dict.dictSlotArgs "__eq__" ⟨[.ref a, v], []⟩ >>= _) _ _ s
  unfold Builtin.Dict.dictSlotArgs
  refine wpAny_bind (wpAny_bind (wpAny_notOrdered_dict da.typeIs ?_))
  refine wpAny_pure (wpAny_bind (wpAny_isInstance (T := T) hv hs ?_))
  simp only [Bool.not_false, if_true]
  exact wpAny_bind (wpAny_rule (wpAny_pure ⟨_, rfl, q⟩))
theorem int_no_dict (i : Int) (u : Tok) (l : Addr) (es : Array DictEntry) (ep : Nat) (dd : Option Addr) (sl : Array (Option Value)) :
    Meets (Builtin.«int.__eq__» ⟨[.int i u, .ref l], []⟩) (fun _ R s => s.heap.get? l = some { cls := .type "dict", dict := dd, data := .dict es ep, slots := sl } ∧ R (.ok (.ret .notImplemented)) s) :=
  .of_wp fun prog w A R s q => by obtain ⟨h0, g0, d0, t0, o0⟩ := s; obtain ⟨hl, q⟩ := q; wp_walk using wpAny_loadPart' hl, wpAny_load hl; exact ⟨_, rfl, q⟩
theorem bool_no_dict (i : Bool) (l : Addr) (es : Array DictEntry) (ep : Nat) (dd : Option Addr) (sl : Array (Option Value)) :
    Meets (Builtin.«int.__eq__» ⟨[.bool i, .ref l], []⟩) (fun _ R s => s.heap.get? l = some { cls := .type "dict", dict := dd, data := .dict es ep, slots := sl } ∧ R (.ok (.ret .notImplemented)) s) :=
  .of_wp fun prog w A R s q => by obtain ⟨h0, g0, d0, t0, o0⟩ := s; obtain ⟨hl, q⟩ := q; wp_walk using wpAny_loadPart' hl, wpAny_load hl; exact ⟨_, rfl, q⟩
theorem str_no_dict (i : Str) (u : Tok) (l : Addr) (es : Array DictEntry) (ep : Nat) (dd : Option Addr) (sl : Array (Option Value)) :
    Meets (Builtin.«str.__eq__» ⟨[.str i u, .ref l], []⟩) (fun _ R s => s.heap.get? l = some { cls := .type "dict", dict := dd, data := .dict es ep, slots := sl } ∧ R (.ok (.ret .notImplemented)) s) :=
  .of_wp fun prog w A R s q => by obtain ⟨h0, g0, d0, t0, o0⟩ := s; obtain ⟨hl, q⟩ := q; wp_walk using wpAny_loadPart' hl, wpAny_load hl; exact ⟨_, rfl, q⟩
theorem list_no_dict (b : Addr) (us : Array Value) (n : Nat) (db : Option Addr) (sb : Array (Option Value)) (l : Addr) (es : Array DictEntry) (ep : Nat) (dd : Option Addr) (sl : Array (Option Value)) :
    Meets (Builtin.«list.__eq__» ⟨[.ref b, .ref l], []⟩) (fun _ R s => s.heap.get? b = some { cls := .type "list", dict := db, data := .seq us n, slots := sb } ∧ s.heap.get? l = some { cls := .type "dict", dict := dd, data := .dict es ep, slots := sl } ∧ R (.ok (.ret .notImplemented)) s) :=
  .of_wp fun prog w A R s q => by obtain ⟨h0, g0, d0, t0, o0⟩ := s; obtain ⟨hb, hl, q⟩ := q; have f := PySem.F.sub_dict_list; wp_walk using wpAny_loadPart' hb, wpAny_loadPart' hl, wpAny_load hl; exact ⟨_, rfl, q⟩
theorem tup_no_dict (b : Addr) (us : Array Value) (n : Nat) (db : Option Addr) (sb : Array (Option Value)) (l : Addr) (es : Array DictEntry) (ep : Nat) (dd : Option Addr) (sl : Array (Option Value)) :
    Meets (Builtin.«tuple.__eq__» ⟨[.ref b, .ref l], []⟩) (fun _ R s => s.heap.get? b = some { cls := .type "tuple", dict := db, data := .seq us n, slots := sb } ∧ s.heap.get? l = some { cls := .type "dict", dict := dd, data := .dict es ep, slots := sl } ∧ R (.ok (.ret .notImplemented)) s) :=
  .of_wp fun prog w A R s q => by obtain ⟨h0, g0, d0, t0, o0⟩ := s; obtain ⟨hb, hl, q⟩ := q; have f := PySem.F.sub_dict_tuple; wp_walk using wpAny_loadPart' hb, wpAny_loadPart' hl, wpAny_load hl; exact ⟨_, rfl, q⟩
def NoDict (prog : Program) (w : World) (s : Shared) (a : Addr) (v : Value) : Prop := ∃ T id, s.TypeIs v T ∧ (Value.type "dict" != Value.type T) = true ∧ (Value.type T != Value.type "dict") = true ∧ isSubtype (.type T) (.type "dict") = pure false ∧ isSubtype (.type "dict") (.type T) = pure false ∧
  Slot T (cmpInfo .Eq).2.1 id ∧ Slot T (cmpInfo .Eq).2.2 id ∧ (∀ A (E Q : Value → Shared → Prop), Q .notImplemented s → wpAny (model prog w) A (call (.builtin id) [v, .ref a]) Q E s) ∧
  (∀ A E (R : Bool → Shared → Prop), R false s → wpAny (model prog w) A (isSame (.ref a) v) R E s) ∧ (∀ A E (R : Bool → Shared → Prop), R false s → wpAny (model prog w) A (isSame v (.ref a)) R E s)
section
variable {K : Type} [DecidableEq K] {knd : KeyKind prog w K} {a : Addr} {ka : List (K × Value)} {A : Around} {s : Shared} {v : Value}
theorem rcp_dict_no (da : s.heap.DictOf knd a ka) (nd : NoDict prog w s a v) (hu : A.units < cLine) : RcP prog w A s (.ref a) v false := fun E Q q => by
  obtain ⟨T, id, h1, h2, h3, h4, h5, h6, h7, h8, h9, h10⟩ := nd
  exact rc_eq_decline_or (k := false) da.typeIs h1 h2 h4 PySem.F.slot_dict_eq h7 (fun _ z => dict_no da h1 h4 z) (fun _ z => h8 _ _ _ z) (fun _ z => h9 _ _ _ z) (.inr hu) q
theorem rcp_no_dict (da : s.heap.DictOf knd a ka) (nd : NoDict prog w s a v) (hu : A.units < cLine) : RcP prog w A s v (.ref a) false := fun E Q q => by
  obtain ⟨T, id, h1, h2, h3, h4, h5, h6, h7, h8, h9, h10⟩ := nd
  exact rc_eq_decline_or (k := false) h1 da.typeIs h3 h5 h6 PySem.F.slot_dict_eq_refl (fun _ z => h8 _ _ _ z) (fun _ z => dict_no da h1 h4 z) (fun _ z => h10 _ _ _ z) (.inr hu) q
theorem dict_obj (da : s.heap.DictOf knd a ka) : ∃ es ep, s.heap.get? a = some { cls := .type "dict", dict := none, data := .dict es ep, slots := #[] } := by
  obtain ⟨⟨c, d, x, sl⟩, es, ep, ho, ⟨hc, hd, hs⟩, hx, _⟩ := da
  simp only at hc hd hs hx
  subst hc hd hs hx
  exact ⟨es, ep, ho⟩
theorem nd_none (da : s.heap.DictOf knd a ka) : NoDict prog w s a .none :=
  ⟨"NoneType", _, rfl, by decide, by decide, PySem.F.sub_NoneType_dict, PySem.F.sub_dict_NoneType, PySem.F.slot_NoneType_eq, PySem.F.slot_NoneType_eq_refl, fun A E Q q => call_gives PySem.F.slot_NoneType_eq rfl PySem.F.entry_NoneType_eq (PySem.F.args_NoneType_eq_2 _ _) (NoneType___eq___none_ref_0 a) q,
    fun A E R r => wpAny_of_eq (rfl : isSame (.ref a) .none = pure false) r, fun A E R r => wpAny_of_eq (rfl : isSame .none (.ref a) = pure false) r⟩
theorem nd_bool (da : s.heap.DictOf knd a ka) (b : Bool) : NoDict prog w s a (.bool b) := by
  obtain ⟨es, ep, ho⟩ := dict_obj da
  exact ⟨"bool", _, rfl, by decide, by decide, PySem.F.sub_bool_dict, PySem.F.sub_dict_bool, PySem.F.slot_bool_eq, PySem.F.slot_bool_eq_refl, fun A E Q q => call_meets PySem.F.slot_bool_eq rfl PySem.F.entry_int_eq (PySem.F.args_int_eq_2 _ _) (bool_no_dict b a es ep _ _) ⟨ho, q⟩,
    fun A E R r => wpAny_of_eq (rfl : isSame (.ref a) (.bool b) = pure false) r, fun A E R r => wpAny_of_eq (rfl : isSame (.bool b) (.ref a) = pure false) r⟩
theorem nd_int (da : s.heap.DictOf knd a ka) (i : Int) (t : Tok) : NoDict prog w s a (.int i t) := by
  obtain ⟨es, ep, ho⟩ := dict_obj da
  exact ⟨"int", _, rfl, by decide, by decide, PySem.F.sub_int_dict, PySem.F.sub_dict_int, PySem.F.slot_int_eq, PySem.F.slot_int_eq_refl, fun A E Q q => call_meets PySem.F.slot_int_eq rfl PySem.F.entry_int_eq (PySem.F.args_int_eq_2 _ _) (int_no_dict i t a es ep _ _) ⟨ho, q⟩,
    fun A E R r => wpAny_of_eq (rfl : isSame (.ref a) (.int i t) = pure false) r, fun A E R r => wpAny_of_eq (rfl : isSame (.int i t) (.ref a) = pure false) r⟩
theorem nd_str (da : s.heap.DictOf knd a ka) (i : Str) (t : Tok) : NoDict prog w s a (.str i t) := by
  obtain ⟨es, ep, ho⟩ := dict_obj da
  exact ⟨"str", _, rfl, by decide, by decide, PySem.F.sub_str_dict, PySem.F.sub_dict_str, PySem.F.slot_str_eq, PySem.F.slot_str_eq_refl, fun A E Q q => call_meets PySem.F.slot_str_eq rfl PySem.F.entry_str_eq (PySem.F.args_str_eq_2 _ _) (str_no_dict i t a es ep _ _) ⟨ho, q⟩,
    fun A E R r => wpAny_of_eq (rfl : isSame (.ref a) (.str i t) = pure false) r, fun A E R r => wpAny_of_eq (rfl : isSame (.str i t) (.ref a) = pure false) r⟩
theorem nd_list (da : s.heap.DictOf knd a ka) {b : Addr} {us : Array Value} (hl : s.heap.IsList b us) : NoDict prog w s a (.ref b) := by
  obtain ⟨es, ep, ho⟩ := dict_obj da
  obtain ⟨⟨c1, d1, x1, s1⟩, hb, hc, n, hd⟩ := id hl
  simp only at hc hd
  subst hc hd
  have ne : a ≠ b := fun z => by subst z; rw [ho] at hb; exact absurd (congrArg (Option.map Obj.cls) hb) (by simp)
  exact ⟨"list", _, ⟨_, hb, rfl⟩, by decide, by decide, PySem.F.sub_list_dict, PySem.F.sub_dict_list, PySem.F.slot_list_eq, PySem.F.slot_list_eq_refl, fun A E Q q => call_meets PySem.F.slot_list_eq ⟨_, hb, rfl⟩ PySem.F.entry_list_eq (PySem.F.args_list_eq_2 _ _) (list_no_dict b us n _ _ a es ep _ _) ⟨hb, ho, q⟩,
    fun A E R r => wpAny_isSame_ref_other' ne ho hb (by simp) r, fun A E R r => wpAny_isSame_ref_other' ne.symm hb ho (by simp) r⟩
theorem nd_tup (da : s.heap.DictOf knd a ka) {b : Addr} {us : Array Value} (hl : s.heap.IsTuple b us) : NoDict prog w s a (.ref b) := by
  obtain ⟨es, ep, ho⟩ := dict_obj da
  obtain ⟨⟨c1, d1, x1, s1⟩, hb, hc, n, hd⟩ := id hl
  simp only at hc hd
  subst hc hd
  have ne : a ≠ b := fun z => by subst z; rw [ho] at hb; exact absurd (congrArg (Option.map Obj.cls) hb) (by simp)
  exact ⟨"tuple", _, ⟨_, hb, rfl⟩, by decide, by decide, PySem.F.sub_tuple_dict, PySem.F.sub_dict_tuple, PySem.F.slot_tuple_eq, PySem.F.slot_tuple_eq_refl, fun A E Q q => call_meets PySem.F.slot_tuple_eq ⟨_, hb, rfl⟩ PySem.F.entry_tuple_eq (PySem.F.args_tuple_eq_2 _ _) (tup_no_dict b us n _ _ a es ep _ _) ⟨hb, ho, q⟩,
    fun A E R r => wpAny_isSame_ref_other ne ho hb (by simp) r, fun A E R r => wpAny_isSame_ref_other' ne.symm hb ho (by simp) r⟩
end
end
mutual
def eqX : D → D → Bool
  | .non, .non => true
  | .bl a, .bl b => a == b
  | .bl a, .int j => (if a then 1 else 0) == j
  | .int i, .bl b => i == (if b then 1 else 0)
  | .int i, .int j => i == j
  | .str x, .str y => x == y
  | .lst xs, .lst ys => eqXs xs ys
  | .tup xs, .tup ys => eqXs xs ys
  | .dK ks ds, .dK ls es => ks.length == ls.length && eqKs ks ds ls es
  | _, _ => false
def eqXs : List D → List D → Bool
  | [], [] => true
  | x :: xs, y :: ys => eqX x y && eqXs xs ys
  | _, _ => false
def eqKs : List Key → List D → List Key → List D → Bool
  | k :: ks, d :: ds, ls, es => (match atK k ls es with
    | some e => eqX d e
    | none => false) && eqKs ks ds ls es
  | _, _, _, _ => true
end
mutual
def plX : Nat → D → Bool
  | _, .non => true
  | _, .bl _ => true
  | _, .int _ => true
  | _, .str _ => true
  | n + 1, .lst xs => plXs n xs
  | n + 1, .tup xs => plXs n xs
  | n + 1, .dK ks ds => decide ks.Nodup && ks.length == ds.length && plXs n ds
  | _, _ => false
def plXs : Nat → List D → Bool
  | _, [] => true
  | n, x :: xs => plX n x && plXs n xs
end
theorem plXs_all {n : Nat} : ∀ {ds : List D}, plXs n ds = true ↔ ∀ d ∈ ds, plX n d = true
  | [] => by simp [plXs]
  | d :: ds => by simp [plXs, plXs_all (ds := ds)]
theorem atK_self {ks : List Key} (nd : ks.Nodup) : ∀ {ds : List D}, ks.length = ds.length → ∀ (i : Nat) (k : Key) (d : D), ks[i]? = some k → ds[i]? = some d → atK k ks ds = some d := by
  induction ks with
  | nil => intro ds _ i k d h; simp at h
  | cons j ks ih =>
    intro ds hl i k d h1 h2
    cases ds with
    | nil => simp at hl
    | cons d0 ds =>
      cases i with
      | zero =>
        simp at h1 h2
        subst h1 h2
        simp [atK]
      | succ i =>
        simp at h1 h2
        have hm : k ∈ ks := List.mem_of_getElem? h1
        have hne : j ≠ k := fun z => by subst z; exact (List.nodup_cons.mp nd).1 hm
        have := ih (List.nodup_cons.mp nd).2 (by simpa using hl) i k d h1 h2
        simp [atK, hne, this]
mutual
theorem eqX_refl : ∀ (n : Nat) (d : D), plX n d = true → eqX d d = true
  | _, .non, _ => by simp [eqX]
  | _, .bl _, _ => by simp [eqX]
  | _, .int _, _ => by simp [eqX]
  | _, .str _, _ => by simp [eqX]
  | n + 1, .lst xs, h => by simp only [eqX]; exact eqXs_refl n xs (by simpa [plX] using h)
  | n + 1, .tup xs, h => by simp only [eqX]; exact eqXs_refl n xs (by simpa [plX] using h)
  | n + 1, .dK ks ds, h => by
    simp only [plX, Bool.and_eq_true, decide_eq_true_eq, beq_iff_eq] at h
    simp only [eqX, beq_self_eq_true, Bool.true_and]
    exact eqKs_refl n ds ks ds ks 0 h.2 (by simp) (by simp) h.1.1 h.1.2
  | 0, .lst _, h => by simp [plX] at h
  | 0, .tup _, h => by simp [plX] at h
  | 0, .dK _ _, h => by simp [plX] at h
  | _, .byt _, h => by simp [plX] at h
  | _, .ty _, h => by simp [plX] at h
  | _, .ref _, h => by simp [plX] at h
  | _, .dT _ _ _, h => by simp [plX] at h
  | _, .obj _ _ _, h => by simp [plX] at h
  | _, .cls _, h => by simp [plX] at h
  | _, .exc _ _ _ _ _, h => by simp [plX] at h
  | _, .xob _ _ _, h => by simp [plX] at h
  | _, .thk _ _ _ _ _, h => by simp [plX] at h
  | _, .dN _ _ _, h => by simp [plX] at h
theorem eqXs_refl : ∀ (n : Nat) (ds : List D), plXs n ds = true → eqXs ds ds = true
  | _, [], _ => by simp [eqXs]
  | n, d :: ds, h => by
    simp only [plXs, Bool.and_eq_true] at h
    simp only [eqXs, Bool.and_eq_true]
    exact ⟨eqX_refl n d h.1, eqXs_refl n ds h.2⟩
theorem eqKs_refl : ∀ (n : Nat) (ds : List D) (ks : List Key) (es : List D) (ls : List Key) (i : Nat), plXs n ds = true → ds = es.drop i → ks = ls.drop i → ls.Nodup → ls.length = es.length → eqKs ks ds ls es = true
  | _, [], ks, es, ls, i, _, _, _, _, _ => by cases ks <;> simp [eqKs]
  | n, d :: ds, [], es, ls, i, _, _, _, _, _ => by simp [eqKs]
  | n, d :: ds, k :: ks, es, ls, i, h, h1, h2, nd, hl => by
    simp only [plXs, Bool.and_eq_true] at h
    have e1 : es[i]? = some d := by have := congrArg List.head? h1; simpa [List.head?_drop] using this.symm
    have e2 : ls[i]? = some k := by have := congrArg List.head? h2; simpa [List.head?_drop] using this.symm
    have e3 := atK_self nd hl i k d e2 e1
    simp only [eqKs, e3, Bool.and_eq_true]
    exact ⟨eqX_refl n d h.1, eqKs_refl n ds ks es ls (i + 1) h.2 (by have := congrArg List.tail h1; simpa [List.tail_drop] using this) (by have := congrArg List.tail h2; simpa [List.tail_drop] using this) nd hl⟩
end
section
variable {X : Cx} {pins : List (Addr × Obj)} {σ : St} {H : Hp} {s : Shared} {cl : ClW}
inductive Side (X : Cx) (cl : ClW) (H : Hp) (s : Shared) : D → Value → Prop
  | non : Side X cl H s .non .none
  | bl (b : Bool) : Side X cl H s (.bl b) (.bool b)
  | int (i : Int) (t : Tok) : Side X cl H s (.int i) (.int i t)
  | str (x : Str) (t : Tok) : Side X cl H s (.str x) (.str x t)
  | lst {a : Addr} {us : List Value} {vs : List V} {ds : List D} : s.heap.IsList a us.toArray → Vals vs us → Reps X.K cl H vs ds → Side X cl H s (.lst ds) (.ref a)
  | tup {a : Addr} {us : List Value} {vs : List V} {ds : List D} : s.heap.IsTuple a us.toArray → Vals vs us → Reps X.K cl H vs ds → Side X cl H s (.tup ds) (.ref a)
  | dK {a : Addr} {ks : List Key} {us : List (Key × Value)} {vs : List V} {ds : List D} : (a == sysModules) = false → s.heap.DictOf (mixKind X.prog X.w) a us → KV (ks.zip vs) us → ks.length = vs.length → Reps X.K cl H vs ds → Side X cl H s (.dK ks ds) (.ref a)
theorem side_of (I : Inv X pins σ H s) {n : Nat} {d : D} {x : V} {v : Value} (r : Rep X.K cl H x d) (p : plX n d = true) (rv : RelV x v) : Side X cl H s d v := by
  cases r with
  | non => cases (show v = Value.none from rv); exact .non
  | bl b => cases (show v = Value.bool b from rv); exact .bl b
  | int i => obtain ⟨t, rfl⟩ := rv; exact .int i t
  | str x => obtain ⟨t, rfl⟩ := rv; exact .str x t
  | lst h1 h2 =>
    cases (show v = Value.ref _ from rv)
    obtain ⟨us, r1, p1, _⟩ := I.list h1
    exact .lst p1.isList r1 h2
  | tup h1 h2 =>
    cases (show v = Value.ref _ from rv)
    obtain ⟨us, r1, p1, _⟩ := I.tuple h1.sq
    exact .tup p1 r1 h2
  | dK h1 h2 h3 =>
    cases (show v = Value.ref _ from rv)
    obtain ⟨_, y, us, r1, dd⟩ := (show ObjOk X.prog X.w H s.heap _ (.dK _) from I.hok _ _ h1)
    exact .dK y dd r1 h2 h3
  | _ => simp [plX] at p
theorem eqP_of_rcP {A : Around} {v u : Value} {k : Bool} {d : D} (hd : Side X cl H s d v) (h : RcP X.prog X.w A s v u k) (hs : v = u → k = true) : EqP X.prog X.w A s v u k := fun E Q q => by
  unfold eqBool
  refine wpAny_holding (wpAny_ite_split (fun e => ?_) (fun _ => ?_))
  · have := hs (eq_of_beq e)
    subst this
    exact wpAny_bind (wpAny_rule (wpAny_pure q))
  · cases hd <;> exact wpAny_bind (h E _ (wpAny_truthy_bool q))
def eqZ : List D → List D → List Bool
  | x :: xs, y :: ys => eqX x y :: eqZ xs ys
  | _, _ => []
theorem eqXs_Z : ∀ xs ys : List D, eqXs xs ys = ((eqZ xs ys).all id && xs.length == ys.length)
  | [], [] => by simp [eqXs, eqZ]
  | [], _ :: _ => by simp [eqXs, eqZ]
  | _ :: _, [] => by simp [eqXs, eqZ]
  | x :: xs, y :: ys => by
    simp only [eqXs, eqZ, List.all_cons, id, List.length_cons]
    rw [eqXs_Z xs ys, Bool.and_assoc]
    congr 1
    congr 1
    rw [Bool.eq_iff_iff]
    simp
theorem eqZ_at : ∀ (xs ys : List D) (j : Nat), j < xs.length → j < ys.length → (eqZ xs ys)[j]? = some (eqX (xs.getD j .non) (ys.getD j .non))
  | [], _, j, h, _ => by simp at h
  | _ :: _, [], j, _, h => by simp at h
  | x :: xs, y :: ys, 0, _, _ => by simp [eqZ]
  | x :: xs, y :: ys, j + 1, h1, h2 => by simpa [eqZ] using eqZ_at xs ys j (by simpa using h1) (by simpa using h2)
theorem eqZ_len : ∀ (xs ys : List D), xs.length = ys.length → (eqZ xs ys).length = xs.length
  | [], [], _ => rfl
  | [], _ :: _, h => by simp at h
  | _ :: _, [], h => by simp at h
  | x :: xs, y :: ys, h => by simp [eqZ, eqZ_len xs ys (by simpa using h)]
theorem range_all (bs : List Bool) (e : Nat → Bool) (n : Nat) (hn : bs.length = n) (h : ∀ j < n, bs[j]? = some (e j)) : (List.range n).all e = bs.all id := by
  have : bs = (List.range n).map e := by
    refine List.ext_getElem? fun j => ?_
    by_cases hj : j < n
    · rw [h j hj]; simp [hj]
    · simp [hj]; omega
  rw [this, List.all_map]
  rfl
def unV : Value → Option V
  | .none => some .non
  | .bool b => some (.bl b)
  | .int i _ => some (.int i)
  | .str x _ => some (.str x)
  | .bytes b _ => some (.byt b)
  | .float b _ => some (.flt b)
  | .ref a => some (.ref a)
  | .type n => some (.ty n)
  | _ => none
theorem unV_of {x : V} {v : Value} (h : RelV x v) : unV v = some x := by
  cases x <;> simp only [RelV] at h <;> first | (subst h; rfl) | (obtain ⟨t, rfl⟩ := h; rfl)
theorem relV_inj {x y : V} {v : Value} (h : RelV x v) (k : RelV y v) : x = y := Option.some.inj ((unV_of h).symm.trans (unV_of k))
theorem vals_inj {vs ws : List V} {us : List Value} (h : Vals vs us) (k : Vals ws us) : vs = ws := by
  induction h generalizing ws with
  | nil => cases k; rfl
  | cons a b ih =>
    cases k with
    | cons c d => rw [relV_inj a c, ih d]
theorem dict_ne_list {a b : Addr} {ka : List (Key × Value)} {us : Array Value} (da : s.heap.DictOf (mixKind X.prog X.w) a ka) (hl : s.heap.IsList b us) : a ≠ b := fun z => by
  obtain ⟨es, ep, ho⟩ := dict_obj da
  obtain ⟨o, hb, hc, n, hd⟩ := hl
  subst z
  rw [ho] at hb
  cases hb
  exact absurd hc (by simp)
theorem dict_ne_tup {a b : Addr} {ka : List (Key × Value)} {us : Array Value} (da : s.heap.DictOf (mixKind X.prog X.w) a ka) (hl : s.heap.IsTuple b us) : a ≠ b := fun z => by
  obtain ⟨es, ep, ho⟩ := dict_obj da
  obtain ⟨o, hb, hc, n, hd⟩ := hl
  subst z
  rw [ho] at hb
  cases hb
  exact absurd hc (by simp)
theorem list_same {a : Addr} {us vs : List Value} (h : s.heap.IsList a us.toArray) (k : s.heap.IsList a vs.toArray) : us = vs := by
  obtain ⟨o, h1, _, n, h2⟩ := h
  obtain ⟨o2, k1, _, m, k2⟩ := k
  rw [h1] at k1
  cases k1
  rw [h2] at k2
  cases k2
  rfl
theorem tup_same {a : Addr} {us vs : List Value} (h : s.heap.IsTuple a us.toArray) (k : s.heap.IsTuple a vs.toArray) : us = vs := by
  obtain ⟨o, h1, _, n, h2⟩ := h
  obtain ⟨o2, k1, _, m, k2⟩ := k
  rw [h1] at k1
  cases k1
  rw [h2] at k2
  cases k2
  rfl
theorem pairs_inj {es : List DictEntry} {us vs : List (Key × Value)} (h : Pairs (mixKind X.prog X.w) es us) (k : Pairs (mixKind X.prog X.w) es vs) : us = vs := by
  induction h generalizing vs with
  | nil => cases k; rfl
  | cons a b c ih =>
    cases k with
    | cons a' b' c' => rw [ih c', Prod.ext ((mixKind X.prog X.w).inj _ _ _ a a') (b.symm.trans b')]
theorem kv_same {a : Addr} {us vs : List (Key × Value)} (h : s.heap.DictOf (mixKind X.prog X.w) a us) (k : s.heap.DictOf (mixKind X.prog X.w) a vs) : us = vs := by
  obtain ⟨o, es, ep, h1, _, h2, _, h3, _⟩ := h
  obtain ⟨o2, es2, ep2, k1, _, k2, _, k3, _⟩ := k
  rw [h1] at k1
  cases k1
  rw [h2] at k2
  cases k2
  exact pairs_inj h3 k3
theorem kv_inj {ks ls : List Key} {vs ws : List V} {us : List (Key × Value)} (h : KV (ks.zip vs) us) (hl : ks.length = vs.length) (k : KV (ls.zip ws) us) (kl : ls.length = ws.length) : ks = ls ∧ vs = ws := by
  induction us generalizing ks ls vs ws with
  | nil =>
    have e1 : (ks.zip vs).length = 0 := by rw [KV.length h]; rfl
    have e2 : (ls.zip ws).length = 0 := by rw [KV.length k]; rfl
    rw [List.length_zip] at e1 e2
    have a1 : ks = [] := List.length_eq_zero_iff.mp (by omega)
    have a2 : vs = [] := List.length_eq_zero_iff.mp (by omega)
    have a3 : ls = [] := List.length_eq_zero_iff.mp (by omega)
    have a4 : ws = [] := List.length_eq_zero_iff.mp (by omega)
    simp [a1, a2, a3, a4]
  | cons u us ih =>
    match ks, vs, ls, ws, h, k, hl, kl with
    | k1 :: ks, v1 :: vs, l1 :: ls, w1 :: ws, .cons a b, .cons c d, hl, kl =>
      obtain ⟨e1, e2⟩ := ih (ks := ks) (vs := vs) (ls := ls) (ws := ws) b (by simpa using hl) d (by simpa using kl)
      have e3 : k1 = l1 := a.1.trans c.1.symm
      have e4 : v1 = w1 := relV_inj a.2 c.2
      simp [e1, e2, e3, e4]
theorem kv_vals {ks : List Key} {vs : List V} {us : List (Key × Value)} (h : KV (ks.zip vs) us) (hl : ks.length = vs.length) : ∃ ws, Vals vs ws := by
  induction us generalizing ks vs with
  | nil =>
    have e1 : (ks.zip vs).length = 0 := by rw [KV.length h]; rfl
    rw [List.length_zip] at e1
    have a2 : vs = [] := List.length_eq_zero_iff.mp (by omega)
    exact ⟨[], by rw [a2]; exact .nil⟩
  | cons u us ih =>
    match ks, vs, h, hl with
    | k1 :: ks, v1 :: vs, .cons a b, hl =>
      obtain ⟨ws, h⟩ := ih (ks := ks) (vs := vs) b (by simpa using hl)
      exact ⟨u.2 :: ws, .cons a.2 h⟩
theorem side_reps (I : Inv X pins σ H s) {n : Nat} (ih : ∀ (d e : D) (v : Value), Side X cl H s d v → Side X cl H s e v → plX n d = true → plX n e = true → d = e) : ∀ {vs : List V} {us : List Value} {ds es : List D}, Vals vs us → Reps X.K cl H vs ds → Reps X.K cl H vs es → plXs n ds = true → plXs n es = true → ds = es
  | [], _, _, _, _, r, q, _, _ => by cases r; cases q; rfl
  | v :: vs, _, _, _, .cons a b, .cons r1 r2, .cons q1 q2, h, k => by
    simp only [plXs, Bool.and_eq_true] at h k
    rw [ih _ _ _ (side_of I r1 h.1 a) (side_of I q1 k.1 a) h.1 k.1, side_reps I ih b r2 q2 h.2 k.2]
theorem side_inj (I : Inv X pins σ H s) : ∀ (n : Nat) (d e : D) (v : Value), Side X cl H s d v → Side X cl H s e v → plX n d = true → plX n e = true → d = e
  | n, _, _, _, .non, .non, _, _ => rfl
  | n, _, _, _, .bl _, .bl _, _, _ => rfl
  | n, _, _, _, .int _ _, .int _ _, _, _ => rfl
  | n, _, _, _, .str _ _, .str _ _, _, _ => rfl
  | n + 1, _, _, _, .lst h1 h2 h3, .lst k1 k2 k3, p, q => by
    have e := list_same h1 k1
    subst e
    have e := vals_inj h2 k2
    subst e
    rw [side_reps I (side_inj I n) h2 h3 k3 (by simpa [plX] using p) (by simpa [plX] using q)]
  | n + 1, _, _, _, .tup h1 h2 h3, .tup k1 k2 k3, p, q => by
    have e := tup_same h1 k1
    subst e
    have e := vals_inj h2 k2
    subst e
    rw [side_reps I (side_inj I n) h2 h3 k3 (by simpa [plX] using p) (by simpa [plX] using q)]
  | n + 1, _, _, _, .dK h0 h1 h2 h3 h4, .dK k0 k1 k2 k3 k4, p, q => by
    have e := kv_same h1 k1
    subst e
    obtain ⟨rfl, rfl⟩ := kv_inj h2 h3 k2 k3
    simp only [plX, Bool.and_eq_true] at p q
    obtain ⟨us, hv⟩ : ∃ us, Vals _ us := kv_vals h2 h3
    rw [side_reps I (side_inj I n) hv h4 k4 p.2 q.2]
  | n, _, _, _, .lst h1 _ _, .tup k1 _ _, _, _ => absurd rfl (ne_of_list_tuple h1 k1)
  | n, _, _, _, .tup h1 _ _, .lst k1 _ _, _, _ => absurd rfl (ne_of_list_tuple k1 h1)
  | n, _, _, _, .lst h1 _ _, .dK _ k1 _ _ _, _, _ => absurd rfl (dict_ne_list k1 h1)
  | n, _, _, _, .dK _ h1 _ _ _, .lst k1 _ _, _, _ => absurd rfl (dict_ne_list h1 k1)
  | n, _, _, _, .tup h1 _ _, .dK _ k1 _ _ _, _, _ => absurd rfl (dict_ne_tup k1 h1)
  | n, _, _, _, .dK _ h1 _ _ _, .tup k1 _ _, _, _ => absurd rfl (dict_ne_tup h1 k1)
  | 0, _, _, _, .lst _ _ _, .lst _ _ _, p, _ => by simp [plX] at p
  | 0, _, _, _, .tup _ _ _, .tup _ _ _, p, _ => by simp [plX] at p
  | 0, _, _, _, .dK _ _ _ _ _, .dK _ _ _ _ _, p, _ => by simp [plX] at p
theorem eqX_at {A : Around} (I : Inv X pins σ H s) {n : Nat} {d e : D} {v u : Value} (h : RcP X.prog X.w A s v u (eqX d e)) (sd : Side X cl H s d v) (se : Side X cl H s e u) (pd : plX n d = true) (pe : plX n e = true) : EqP X.prog X.w A s v u (eqX d e) :=
  eqP_of_rcP sd h fun z => by
    subst z
    rw [side_inj I n d e _ sd se pd pe]
    exact eqX_refl n e pe
theorem atK_mem {β : Type} [DecidableEq β] {k : β} {e : D} : ∀ {ls : List β} {es : List D}, atK k ls es = some e → e ∈ es
  | [], _, h => by simp [atK] at h
  | _ :: _, [], h => by simp [atK] at h
  | l :: ls, x :: es, h => by
    by_cases c : l = k
    · simp [atK, c] at h; simp [h]
    · simp [atK, c] at h; exact List.mem_cons_of_mem _ (atK_mem h)
theorem keq_hits {A : Around} {n : Nat} (I : Inv X pins σ H s) (ih : ∀ (d e : D) (v u : Value), Side X cl H s d v → Side X cl H s e u → plX n d = true → plX n e = true → EqP X.prog X.w A s v u (eqX d e)) {ls : List Key} {ws : List V} {ub : List (Key × Value)} {es : List D} (rb : KV (ls.zip ws) ub) (rl : ls.length = ws.length) (re : Reps X.K cl H ws es) (pe : plXs n es = true) :
    ∀ {ks : List Key} {vs : List V} {ua : List (Key × Value)} {ds : List D}, KV (ks.zip vs) ua → ks.length = vs.length → Reps X.K cl H vs ds → plXs n ds = true → PySem.W.KeqHitsP X.prog X.w A s ub ua (eqKs ks ds ls es)
  | [], [], _, _, .nil, _, rd, _ => by cases rd; simp only [eqKs]; exact .nil
  | k :: ks, v :: vs, (k', u) :: ua, d :: ds, .cons a b, hl, .cons r1 r2, pd => by
    simp only [plXs, Bool.and_eq_true] at pd
    have rest := keq_hits I ih rb rl re pe b (by simpa using hl) r2 pd.2
    have rv := rb.val k
    rw [valV_zip] at rv
    obtain ⟨e0, ru⟩ : k = k' ∧ RelV v u := a
    subst e0
    simp only [eqKs]
    cases hm : atK k ls es with
    | none =>
      have e1 : (atK k ls ws).isSome = (atK k ls es).isSome := by rw [atK_some k ls ws rl, atK_some k ls es (rl.trans re.length)]
      rw [hm] at e1
      cases hw : atK k ls ws with
      | some x => rw [hw] at e1; cases e1
      | none =>
        rw [hw] at rv
        cases hu : valueAt ub k with
        | some x => rw [hu] at rv; exact rv.elim
        | none => simp only [Bool.false_and]; exact .miss hu
    | some e =>
      obtain ⟨w', hw, re'⟩ := reps_atK re hm
      rw [hw] at rv
      have pe' : plX n e = true := plXs_all.mp pe e (atK_mem hm)
      cases hu : valueAt ub k with
      | none => rw [hu] at rv; exact rv.elim
      | some y =>
        rw [hu] at rv
        exact .hit hu (ih d e u y (side_of I r1 pd.1 ru) (side_of I re' pe' rv) pd.1 pe') rest
theorem eqL_of {A : Around} {n : Nat} (I : Inv X pins σ H s) (ih : ∀ (d e : D) (v u : Value), Side X cl H s d v → Side X cl H s e u → plX n d = true → plX n e = true → EqP X.prog X.w A s v u (eqX d e)) :
    ∀ {vs ws : List V} {us ts : List Value} {ds es : List D}, Vals vs us → Reps X.K cl H vs ds → Vals ws ts → Reps X.K cl H ws es → plXs n ds = true → plXs n es = true → EqL X.prog X.w A s (us.zip ts) (eqZ ds es)
  | _, _, _, _, _, _, .nil, .nil, _, _, _, _ => by simp only [eqZ, List.zip_nil_left]; exact .nil
  | _, _, _, _, _, _, .cons _ _, .cons _ _, .nil, .nil, _, _ => by simp only [eqZ, List.zip_nil_right]; exact .nil
  | _, _, _, _, _, _, .cons a b, .cons r1 r2, .cons c d, .cons q1 q2, p, q => by
    simp only [plXs, Bool.and_eq_true] at p q
    simp only [eqZ, List.zip_cons_cons]
    exact .cons (ih _ _ _ _ (side_of I r1 p.1 a) (side_of I q1 q.1 c) p.1 q.1) (eqL_of I ih b r2 d q2 p.2 q.2)
theorem eqL_at {prog : Program} {w : World} {A : Around} {s : Shared} {ps : List (Value × Value)} {bs : List Bool} (h : EqL prog w A s ps bs) : ∀ (j : Nat) (p : Value × Value), ps[j]? = some p → ∃ b, bs[j]? = some b ∧ EqP prog w A s p.1 p.2 b := by
  induction h with
  | nil => intro j p e; simp at e
  | cons a b ih =>
    intro j p e
    cases j with
    | zero => simp at e; subst e; exact ⟨_, rfl, a⟩
    | succ j => simpa using ih j p (by simpa using e)
theorem rc_flat {A : Around} {d e : D} {v u : Value} (sd : Side X cl H s d v) (se : Side X cl H s e u) (pd : plX 0 d = true) (pe : plX 0 e = true) : RcP X.prog X.w A s v u (eqX d e) := by
  cases sd with
  | non =>
    cases se with
    | non => simp only [eqX]; exact .of .none_none
    | bl bb => simp only [eqX]; exact .of (.none_bool bb)
    | int bi bt => simp only [eqX]; exact .of (.none_int bi bt)
    | str bx bt => simp only [eqX]; exact .of (.none_str bx bt)
    | lst => simp [plX] at pe
    | tup => simp [plX] at pe
    | dK => simp [plX] at pe
  | bl pb =>
    cases se with
    | non => simp only [eqX]; exact .of (.bool_none pb)
    | bl bb => simp only [eqX]; exact .of (.bool_bool pb bb)
    | int bi bt => simp only [eqX]; exact .of (.bool_int pb bi bt)
    | str bx bt => simp only [eqX]; exact .of (.bool_str pb bx bt)
    | lst => simp [plX] at pe
    | tup => simp [plX] at pe
    | dK => simp [plX] at pe
  | int pi pt =>
    cases se with
    | non => simp only [eqX]; exact .of (.int_none pi pt)
    | bl bb => simp only [eqX]; exact .of (.int_bool pi pt bb)
    | int bi bt => simp only [eqX]; exact .of (.int_int pi pt bi bt)
    | str bx bt => simp only [eqX]; exact .of (.int_str pi pt bx bt)
    | lst => simp [plX] at pe
    | tup => simp [plX] at pe
    | dK => simp [plX] at pe
  | str px pt =>
    cases se with
    | non => simp only [eqX]; exact .of (.str_none px pt)
    | bl bb => simp only [eqX]; exact .of (.str_bool px pt bb)
    | int bi bt => simp only [eqX]; exact .of (.str_int px pt bi bt)
    | str bx bt => simp only [eqX]; exact .of (.str_str px pt bx bt)
    | lst => simp [plX] at pe
    | tup => simp [plX] at pe
    | dK => simp [plX] at pe
  | lst => simp [plX] at pd
  | tup => simp [plX] at pd
  | dK => simp [plX] at pd
theorem rc_lsts {A : Around} {n : Nat} (I : Inv X pins σ H s) (ihE : ∀ (d e : D) (v u : Value), Side X cl H s d v → Side X cl H s e u → plX n d = true → plX n e = true → EqP X.prog X.w A.in1 s v u (eqX d e)) {a b : Addr} {us ts : List Value} {vs ws : List V} {ds es : List D}
    (h1 : s.heap.IsList a us.toArray) (h2 : Vals vs us) (h3 : Reps X.K cl H vs ds) (k1 : s.heap.IsList b ts.toArray) (k2 : Vals ws ts) (k3 : Reps X.K cl H ws es) (p : plXs n ds = true) (q : plXs n es = true) (hA : A.units < cLine) : RcP X.prog X.w A s (.ref a) (.ref b) (eqXs ds es) := by
  have l1 := h2.length
  have l2 := k2.length
  have l3 := h3.length
  have l4 := k3.length
  rw [eqXs_Z]
  by_cases hl : ds.length = es.length
  · have L := eqL_of I ihE h2 h3 k2 k3 p q
    have hz := eqZ_len ds es hl
    intro E Q r
    refine SeqAt.rcP_lists (e := fun j => eqX (ds.getD j .non) (es.getD j .non)) h1 k1 (by simp; omega) hA (fun j j1 j2 => ?_) E Q ?_
    · simp at j1 j2
      obtain ⟨b', e1, e2⟩ := eqL_at L j (us[j], ts[j]) (by simp [List.getElem?_zip_eq_some, j1, j2])
      rw [eqZ_at ds es j (by omega) (by omega)] at e1
      cases e1
      simpa using e2
    · rw [range_all (eqZ ds es) _ us.toArray.size (by simp; omega) (fun j hj => eqZ_at ds es j (by simp at hj; omega) (by simp at hj; omega))]
      simpa [hl] using r
  · have e : ((eqZ ds es).all id && ds.length == es.length) = false := by simp [hl]
    rw [e]
    exact .of (.lists_lengths h1 k1 (by simp; omega) hA)
theorem rcX (I : Inv X pins σ H s) : ∀ (n : Nat) (A : Around), A.units + n < cLine → ∀ (d e : D) (v u : Value), Side X cl H s d v → Side X cl H s e u → plX n d = true → plX n e = true → RcP X.prog X.w A s v u (eqX d e) := by
  intro n
  induction n with
  | zero =>
    intro A hu d e v u sd se pd pe
    exact rc_flat sd se pd pe
  | succ n ih =>
    intro A hu d e v u sd se pd pe
    have hA : A.units < cLine := by omega
    have ihE : ∀ (d e : D) (v u : Value), Side X cl H s d v → Side X cl H s e u → plX n d = true → plX n e = true → EqP X.prog X.w A.in1 s v u (eqX d e) := fun d e v u sd se pd pe => eqX_at I (ih A.in1 (by show A.units + 1 + n < cLine; omega) d e v u sd se pd pe) sd se pd pe
    cases sd with
    | non =>
      cases se with
      | non => exact rc_flat (cl := cl) (H := H) (.non) (.non) rfl rfl
      | bl bb => exact rc_flat (cl := cl) (H := H) (.non) (.bl bb) rfl rfl
      | int bi bt => exact rc_flat (cl := cl) (H := H) (.non) (.int bi bt) rfl rfl
      | str bx bt => exact rc_flat (cl := cl) (H := H) (.non) (.str bx bt) rfl rfl
      | lst h1 h2 h3 => simp only [eqX]; exact .of (.none_list h1 hA)
      | tup h1 h2 h3 => simp only [eqX]; exact .of (.none_tuple h1 hA)
      | dK h0 h1 h2 h3 h4 => simp only [eqX]; exact rcp_no_dict h1 (nd_none h1) hA
    | bl pb =>
      cases se with
      | non => exact rc_flat (cl := cl) (H := H) (.bl pb) (.non) rfl rfl
      | bl bb => exact rc_flat (cl := cl) (H := H) (.bl pb) (.bl bb) rfl rfl
      | int bi bt => exact rc_flat (cl := cl) (H := H) (.bl pb) (.int bi bt) rfl rfl
      | str bx bt => exact rc_flat (cl := cl) (H := H) (.bl pb) (.str bx bt) rfl rfl
      | lst h1 h2 h3 => simp only [eqX]; exact .of (.bool_list pb h1 hA)
      | tup h1 h2 h3 => simp only [eqX]; exact .of (.bool_tuple pb h1 hA)
      | dK h0 h1 h2 h3 h4 => simp only [eqX]; exact rcp_no_dict h1 (nd_bool h1 pb) hA
    | int pi pt =>
      cases se with
      | non => exact rc_flat (cl := cl) (H := H) (.int pi pt) (.non) rfl rfl
      | bl bb => exact rc_flat (cl := cl) (H := H) (.int pi pt) (.bl bb) rfl rfl
      | int bi bt => exact rc_flat (cl := cl) (H := H) (.int pi pt) (.int bi bt) rfl rfl
      | str bx bt => exact rc_flat (cl := cl) (H := H) (.int pi pt) (.str bx bt) rfl rfl
      | lst h1 h2 h3 => simp only [eqX]; exact .of (.int_list pi pt h1 hA)
      | tup h1 h2 h3 => simp only [eqX]; exact .of (.int_tuple pi pt h1 hA)
      | dK h0 h1 h2 h3 h4 => simp only [eqX]; exact rcp_no_dict h1 (nd_int h1 pi pt) hA
    | str px pt =>
      cases se with
      | non => exact rc_flat (cl := cl) (H := H) (.str px pt) (.non) rfl rfl
      | bl bb => exact rc_flat (cl := cl) (H := H) (.str px pt) (.bl bb) rfl rfl
      | int bi bt => exact rc_flat (cl := cl) (H := H) (.str px pt) (.int bi bt) rfl rfl
      | str bx bt => exact rc_flat (cl := cl) (H := H) (.str px pt) (.str bx bt) rfl rfl
      | lst h1 h2 h3 => simp only [eqX]; exact .of (.str_list px pt h1 hA)
      | tup h1 h2 h3 => simp only [eqX]; exact .of (.str_tuple px pt h1 hA)
      | dK h0 h1 h2 h3 h4 => simp only [eqX]; exact rcp_no_dict h1 (nd_str h1 px pt) hA
    | lst h1 h2 h3 =>
      cases se with
      | non => simp only [eqX]; exact .of (.list_none h1 hA)
      | bl bb => simp only [eqX]; exact .of (.list_bool bb h1 hA)
      | int bi bt => simp only [eqX]; exact .of (.list_int bi bt h1 hA)
      | str bx bt => simp only [eqX]; exact .of (.list_str bx bt h1 hA)
      | lst k1 k2 k3 =>
        simp only [eqX]
        have p := by simpa [plX] using pd
        have q := by simpa [plX] using pe
        exact rc_lsts I ihE h1 h2 h3 k1 k2 k3 p q hA
      | tup k1 k2 k3 => simp only [eqX]; exact .of (.list_tuple h1 k1 hA)
      | dK k0 k1 k2 k3 k4 => simp only [eqX]; exact rcp_no_dict k1 (nd_list k1 h1) hA
    | tup h1 h2 h3 =>
      cases se with
      | non => simp only [eqX]; exact .of (.tuple_none h1 hA)
      | bl bb => simp only [eqX]; exact .of (.tuple_bool bb h1 hA)
      | int bi bt => simp only [eqX]; exact .of (.tuple_int bi bt h1 hA)
      | str bx bt => simp only [eqX]; exact .of (.tuple_str bx bt h1 hA)
      | lst k1 k2 k3 => simp only [eqX]; exact .of (.tuple_list h1 k1 hA)
      | tup k1 k2 k3 =>
        simp only [eqX]
        have p := by simpa [plX] using pd
        have q := by simpa [plX] using pe
        have r := rcp_tups (A := A) (eqZ _ _) h1 k1 hA (eqL_of I ihE h2 h3 k2 k3 p q)
        rw [eqXs_Z]
        have l1 := h2.length
        have l2 := k2.length
        have l3 := h3.length
        have l4 := k3.length
        simp only [List.size_toArray] at r
        rw [← l1, ← l2, l3, l4] at r
        exact r
      | dK k0 k1 k2 k3 k4 => simp only [eqX]; exact rcp_no_dict k1 (nd_tup k1 h1) hA
    | dK h0 h1 h2 h3 h4 =>
      cases se with
      | non => simp only [eqX]; exact rcp_dict_no h1 (nd_none h1) hA
      | bl bb => simp only [eqX]; exact rcp_dict_no h1 (nd_bool h1 bb) hA
      | int bi bt => simp only [eqX]; exact rcp_dict_no h1 (nd_int h1 bi bt) hA
      | str bx bt => simp only [eqX]; exact rcp_dict_no h1 (nd_str h1 bx bt) hA
      | lst k1 k2 k3 => simp only [eqX]; exact rcp_dict_no h1 (nd_list h1 k1) hA
      | tup k1 k2 k3 => simp only [eqX]; exact rcp_dict_no h1 (nd_tup h1 k1) hA
      | dK k0 k1 k2 k3 k4 =>
        simp only [eqX]
        simp only [plX, Bool.and_eq_true] at pd pe
        have e1 := KV.length h2
        have e2 := KV.length k2
        rw [List.length_zip, ← h3, Nat.min_self] at e1
        rw [List.length_zip, ← k3, Nat.min_self] at e2
        rw [e1, e2]
        exact fun E Q q => PySem.W.rcP_dicts h0 k0 h1 k1 hA (fun _ => keq_hits I ihE k2 k3 k4 pe.2 h2 h3 h4 pd.2) E Q q
end
end DL
set_option Elab.async false
set_option linter.all false
set_option maxRecDepth 100000
set_option maxHeartbeats 4000000
namespace DL
open PySem L2
open PySem.SeqAt
section
open AutoSeq1 (wpAny_loadPart')
open MeetsSeq MeetsSeq2 MeetsSeq3 SeqRoads2
variable {prog : Program} {w : World}
theorem lst_ne_turns (l b : Addr) (us vs : Array Value) (n m : Nat) (da db : Option Addr) (sa sb : Array (Option Value)) (hz : us.size = vs.size) (k : Nat) : ∀ (i : Nat) (bs : List Bool), us.size - i = k →
    MeetsIn prog w (Builtin.«list.__eq__.loop» ⟨[.ref l, .ref b, rawInt i, rawInt 3], []⟩)
      (fun A R s => s.heap.get? l = some { cls := .type "list", dict := da, data := .seq us n, slots := sa } ∧ s.heap.get? b = some { cls := .type "list", dict := db, data := .seq vs m, slots := sb } ∧
        EqL prog w A.in1 s ((us.toList.zip vs.toList).drop i) bs ∧ R (.ok (.ret (.bool (!bs.all id)))) s) := by
  have hlen : (us.toList.zip vs.toList).length = us.size := by simp [hz]
  induction k with
  | zero =>
    intro i bs hk A R s0 q
    obtain ⟨h0, g0, d0, t0, o0⟩ := s0
    obtain ⟨ga, gb, he, q⟩ := q
    rw [List.drop_of_length_le (by omega)] at he
    cases he
    have na : us[((i : Nat) : Int).toNat]? = none := by simp; omega
    have nb : vs[((i : Nat) : Int).toNat]? = none := by simp; omega
    wp_walk using wpAny_loadPart' ga, wpAny_loadPart' gb
    rw [na, nb]
    wp_walk using wpAny_loadPart' ga, wpAny_loadPart' gb
    show R (.ok (.ret (.bool (us.size != vs.size)))) _
    simpa [hz] using q
  | succ k ih =>
    intro i bs hk A R s0 q
    obtain ⟨h0, g0, d0, t0, o0⟩ := s0
    obtain ⟨ga, gb, he, q⟩ := q
    have ia : i < us.size := by omega
    have ib : i < vs.size := by omega
    rw [List.drop_eq_getElem_cons (by omega)] at he
    cases he with
    | @cons _ c _ cs hp he =>
      have na : us[((i : Nat) : Int).toNat]? = some us[i] := by simp [ia]
      have nb : vs[((i : Nat) : Int).toNat]? = some vs[i] := by simp [ib]
      have nx : ((i : Int) + 1) = ((i + 1 : Nat) : Int) := by simp
      have hp' : EqP prog w A.in1 ⟨h0, g0, d0, t0, o0⟩ us[i] vs[i] c := by simpa using hp
      wp_walk using wpAny_loadPart' ga, wpAny_loadPart' gb
      rw [na, nb]
      refine wpAny_bind (hp' _ _ ?_)
      cases c with
      | true =>
        wp_walk
        rw [nx]
        refine ⟨plainId_quiet plain_eq_loop _, codeAny_builtin entry_eq_loop ?_⟩
        rw [Around.under_plainId plain_eq_loop _]
        exact ih (i + 1) cs (by omega) A R _ ⟨ga, gb, he, by simpa using q⟩
      | false =>
        wp_walk using wpAny_loadPart' ga, wpAny_loadPart' gb
        rw [na, nb]
        wp_walk
        simpa using q
theorem lst_ne (l b : Addr) (us vs : Array Value) (n m : Nat) (da db : Option Addr) (sa sb : Array (Option Value)) (hz : us.size = vs.size) (bs : List Bool) :
    MeetsIn prog w (Builtin.«list.__ne__» ⟨[.ref l, .ref b], []⟩)
      (fun A R s => s.heap.get? l = some { cls := .type "list", dict := da, data := .seq us n, slots := sa } ∧ s.heap.get? b = some { cls := .type "list", dict := db, data := .seq vs m, slots := sb } ∧
        EqL prog w A.in1 s (us.toList.zip vs.toList) bs ∧ R (.ok (.ret (.bool (!bs.all id)))) s) := by
  intro A R s0 q
  obtain ⟨h0, g0, d0, t0, o0⟩ := s0
  obtain ⟨ga, gb, he, q⟩ := q
  have sub := AutoSeq1.sub_list_list
  have same : ¬ (us.size != vs.size) = true := by simp [hz]
  wp_walk using wpAny_loadPart' ga, wpAny_loadPart' gb
  refine ⟨plainId_quiet plain_eq_loop _, codeAny_builtin entry_eq_loop ?_⟩
  rw [Around.under_plainId plain_eq_loop _]
  exact lst_ne_turns l b us vs n m da db sa sb hz _ 0 bs rfl A R _ ⟨ga, gb, he, q⟩
end
section
variable {X : Cx} {pins : List (Addr × Obj)} {σ : St} {H : Hp} {s : Shared} {cl : ClW}
end
section
variable {K : PySem.W.Frag} {cl : ClW} {F H : Hp} {M : Mem} {X : Cx} {W : WX}
mutual
theorem rep_deep (g : Good K cl F H M) {d e : D} (t : Dv M d e) {v : V} (r : Rep K cl F v d) : Rep K cl H v e := by
  cases t with
  | same => exact r.mono g.sub
  | ref ha ts =>
    obtain rfl := r.toRef
    obtain ⟨hF, vs, h3, h4⟩ := g.cell _ _ ha
    exact .lst (SqL.of h3) (reps_deep g ts h4)
  | lst ts =>
    obtain ⟨a, vs, rfl, h1, h2⟩ := r.toLst
    exact .lst (same_l g.sub h1) (reps_deep g ts h2)
  | tup ts =>
    obtain ⟨a, vs, rfl, h1, h2⟩ := r.toTup1
    exact .tup (h1.mono g.sub) (reps_deep g ts h2)
theorem reps_deep (g : Good K cl F H M) {ds es : List D} (t : Dvs M ds es) {vs : List V} (r : Reps K cl F vs ds) : Reps K cl H vs es := by
  cases t with
  | nil =>
    obtain rfl := r.inv0
    exact .nil
  | cons t1 t2 =>
    obtain ⟨v, ws, rfl, r1, r2⟩ := r.inv
    exact .cons (rep_deep g t1 r1) (reps_deep g t2 r2)
end
@[simp] def bEqX : DB2 := fun d e _ M Q _ => ∃ d' e' n, Dv M d d' ∧ Dv M e e' ∧ n ≤ 60 ∧ plX n d' = true ∧ plX n e' = true ∧ Q (.bl (eqX d' e')) M
@[simp] def bNeX : DB2 := fun d e _ M Q _ => ∃ xs ys n, Dv M d (.lst xs) ∧ Dv M e (.lst ys) ∧ n ≤ 60 ∧ plXs n xs = true ∧ plXs n ys = true ∧ Q (.bl (!eqXs xs ys)) M
end
end DL
set_option Elab.async false
set_option linter.all false
set_option maxRecDepth 100000
set_option maxHeartbeats 4000000
namespace DL
open PySem L2
end DL
set_option Elab.async false
set_option linter.all false
set_option maxRecDepth 100000
set_option maxHeartbeats 4000000
namespace FL
open PySem L2 DL
def seqs : D → Option (List D)
  | .lst xs => some xs
  | .tup xs => some xs
  | _ => none
theorem seqs_en {d : D} {xs : List D} (h : seqs d = some xs) : enD d = some xs := by cases d <;> first | exact h | cases h
theorem seqs_or {d : D} {xs : List D} (h : seqs d = some xs) : d = .lst xs ∨ d = .tup xs := by cases d <;> first | (cases h; simp) | cases h
structure Pl (d : D) : Prop where
  ty : ∃ n, tyName d = some n
  st : ∀ z, d = .str z → z.length ≤ 1000 ∧ ∀ c ∈ z.cps.toList, c < 1114112
structure PlRow (y : D) : Prop where
  pl : Pl y
  it : ∀ l, seqs y = some l → ∀ c ∈ l, Pl c
theorem Pl.vw {d : D} (h : Pl d) (M : Mem) : DL.vw M d = d := by
  obtain ⟨n, hn⟩ := h.ty
  cases d <;> first | rfl | cases hn
structure Handed (M : Mem) (d : D) : Prop where
  ty : ∃ n, tyName (vw M d) = some n
  rows : ∀ xs, seqs (vw M d) = some xs → xs.length ≤ 60 → ∀ y ∈ xs, PlRow (vw M y)
theorem lcG_fn {C : Mem → Prop} {γ : DTG} {υ : DTT} {τ : DTE} {vs : List Nat} {a : Addr} {Q : DV} {ρ : DL.Env} {M : Mem} (f : D → Option D) (xs : List D) (hl : xs.length ≤ 16777216) (hM : M a = none) (hC : ∀ M1, (∀ b, b ≠ a → M1 b = M b) → C M1)
    (step : ∀ x ∈ xs, ∀ (M1 : Mem) (T : Option D → Mem → Prop), (∀ b, b ≠ a → M1 b = M b) → T (f x) M1 → γ x (wipeD ρ vs) M1 (fun ρ2 M2 => υ ρ2 M2 (fun b M3 => if b = true then τ ρ2 M3 (fun d M4 => T (some d) M4) noX else T none M3) noX) noX)
    (q : Q (.lst (xs.filterMap f)) M) : lcG C γ υ τ vs a xs ρ (updM M a (.lst [])) (endF a Q) := by
  have far : ∀ (d : D) b, b ≠ a → updM M a d b = M b := fun d b hb => updM_ne hb
  refine lcG_run xs (fun done acc M1 => acc = done.filterMap f ∧ M1 = updM M a (.lst acc)) ?_ ?_ ⟨rfl, rfl⟩
  · rintro done x rest acc M1 Nx e ha ⟨rfl, rfl⟩ nx
    have hx : x ∈ xs := by rw [e]; simp
    have hlen : (done.filterMap f).length < sizeLine := by
      have h1 := List.length_filterMap_le f done
      have h2 : done.length < xs.length := by rw [e]; simp
      rw [size_line]; omega
    refine ⟨hC _ (far _), step x hx _ (fun o M' => match o with
      | some d => ∃ acc, M' a = some (.lst acc) ∧ acc.length < sizeLine ∧ Nx (updM M' a (.lst (acc ++ [d])))
      | none => Nx M') (far _) ?_⟩
    cases hf : f x with
    | none => exact nx _ _ updM_same ⟨by simp [hf], by simp [hf]⟩
    | some d => exact ⟨_, updM_same, hlen, nx _ _ updM_same ⟨by simp [hf], by simp [hf, updM_updM]⟩⟩
  · rintro acc M1 ha ⟨rfl, rfl⟩
    exact ⟨hC _ (far _), _, updM_same, by rw [delM_updM hM]; exact q⟩
mutual
theorem plX_mono : ∀ (n m : Nat) (d : D), plX n d = true → n ≤ m → plX m d = true
  | _, m, .non, _, _ => by cases m <;> simp [plX]
  | _, m, .bl _, _, _ => by cases m <;> simp [plX]
  | _, m, .int _, _, _ => by cases m <;> simp [plX]
  | _, m, .str _, _, _ => by cases m <;> simp [plX]
  | n + 1, m + 1, .lst xs, h, l => by simp only [plX] at h ⊢; exact plXs_mono n m xs h (by omega)
  | n + 1, m + 1, .tup xs, h, l => by simp only [plX] at h ⊢; exact plXs_mono n m xs h (by omega)
  | n + 1, m + 1, .dK ks ds, h, l => by
    simp only [plX, Bool.and_eq_true] at h ⊢
    exact ⟨h.1, plXs_mono n m ds h.2 (by omega)⟩
  | n + 1, 0, .lst _, _, l => by omega
  | n + 1, 0, .tup _, _, l => by omega
  | n + 1, 0, .dK _ _, _, l => by omega
  | 0, _, .lst _, h, _ => by simp [plX] at h
  | 0, _, .tup _, h, _ => by simp [plX] at h
  | 0, _, .dK _ _, h, _ => by simp [plX] at h
  | _, _, .byt _, h, _ => by simp [plX] at h
  | _, _, .ty _, h, _ => by simp [plX] at h
  | _, _, .ref _, h, _ => by simp [plX] at h
  | _, _, .dT _ _ _, h, _ => by simp [plX] at h
  | _, _, .obj _ _ _, h, _ => by simp [plX] at h
  | _, _, .cls _, h, _ => by simp [plX] at h
  | _, _, .exc _ _ _ _ _, h, _ => by simp [plX] at h
theorem plXs_mono : ∀ (n m : Nat) (ds : List D), plXs n ds = true → n ≤ m → plXs m ds = true
  | _, _, [], _, _ => by simp [plXs]
  | n, m, d :: ds, h, l => by
    simp only [plXs, Bool.and_eq_true] at h ⊢
    exact ⟨plX_mono n m d h.1 l, plXs_mono n m ds h.2 l⟩
end
theorem pl_of {d : D} {n : String} (h : tyName d = some n) (hs : ∀ z, d ≠ .str z) : Pl d := ⟨⟨n, h⟩, fun z e => absurd e (hs z)⟩
theorem pl_name {x : List Nat} (h : NameOk x) (k : List Nat) (hk : k.length ≤ 10) (hk2 : ∀ c ∈ k, c < 1114112) : Pl (strD (x ++ k)) := ⟨⟨_, rfl⟩, fun w e => by
  cases e
  have := h.len
  refine ⟨by simp; omega, fun c hc => ?_⟩
  simp [S] at hc
  rcases hc with hc | hc
  · exact isS_lt (h.all c hc)
  · exact hk2 c hc⟩
theorem pl_nm {x : List Nat} (h : NameOk x) : Pl (strD x) := by simpa using pl_name h [] (by simp) (by simp)
end FL
set_option Elab.async false
set_option linter.all false
set_option maxRecDepth 100000
set_option maxHeartbeats 4000000
namespace DL
open PySem L2
section
variable {X : Cx} {cl : ClW}
end
section
variable {X : Cx} {cl : ClW} {W : WX} {pos : Pos}
structure DPs (cl : ClW) (X : Cx) (W : WX) (pos : Pos) (keys : List (Option Expr)) (values : List Expr) (prs : List (DTE × DTE)) : Prop where
  pps : PPs X pos keys values (prs.map fun q => (lowE X.K cl W q.1, lowE X.K cl W q.2))
inductive Pairs2 (K : PySem.W.Frag) (cl : ClW) (F : Hp) : List (V × V) → List (D × D) → Prop
  | nil : Pairs2 K cl F [] []
  | cons {x y : V} {d e : D} {ps : List (V × V)} {qs : List (D × D)} : Rep K cl F x d → Rep K cl F y e → Pairs2 K cl F ps qs → Pairs2 K cl F ((x, y) :: ps) ((d, e) :: qs)
end
end DL
set_option Elab.async false
set_option linter.all false
set_option maxRecDepth 100000
set_option maxHeartbeats 4000000
namespace DL
open PySem L2
def lc2G (C : Mem → Prop) (γ : DTG) (υ : DTT) (ι1 : DTIg) (γ1 : DTG) (υ1 : DTT) (τ : DTE) (vs vs1 : List Nat) (a : Addr) : List D → DL.Env → Mem → (Mem → Prop) → Prop
  | [] => fun _ M R => C M ∧ R M
  | x :: xs => fun ρ M R => C M ∧ γ x (wipeD ρ vs) M (fun ρ2 M2 => υ ρ2 M2 (fun b M3 => if b = true then ι1 ρ2 M3 (fun C1 ys M4 => lcG C1 γ1 υ1 τ vs1 a ys ρ2 M4 (fun M5 => lc2G C γ υ ι1 γ1 υ1 τ vs vs1 a xs ρ M5 R)) noX else lc2G C γ υ ι1 γ1 υ1 τ vs vs1 a xs ρ M3 R) noX) noX
def dLc2 (ι : DTIg) (γ : DTG) (υ : DTT) (ι1 : DTIg) (γ1 : DTG) (υ1 : DTT) (τ : DTE) (vs vs1 : List Nat) : DTE := fun ρ M Q X => ι ρ M (fun C xs M1 => ∀ a, M1 a = none → lc2G C γ υ ι1 γ1 υ1 τ vs vs1 a xs ρ (updM M1 a (.lst [])) (endF a Q)) X
section
variable {cl : ClW} {X : Cx} {W : WX} {elt tg iter tg1 iter1 : Expr} {ifs ifs1 : List Expr} {scope : Scope} {own : List (Str × Nat)} {vs1 : List Nat} {pos : Pos} {ι ι1 : DTIg} {is is1 : List Nat} {γ γ1 : DTG} {υ υ1 : DTT} {τ : DTE}
theorem lcG_in {K : PySem.W.Frag} (his : ∀ i ∈ is1, i ∈ vs1) {σ : St} {a : Addr} {J : It} {H : Hp} {F : Hp} {C : Mem → Prop} {xs : List D} {ρ : DL.Env} {M : Mem} {R : Mem → Prop} {Nx : Hp → Prop} (g : Good K cl F H M) (s : Slots K cl F σ ρ) (wk : WalksG K cl J F C xs)
    (q : lcG C γ1 υ1 τ vs1 a xs ρ M R) (p : ∀ H' F' M', Same F F' → Good K cl F' H' M' → R M' → Nx H') :
    ∃ W1 : Nat → Nat → Hp → Prop, (∃ m, W1 0 m H) ∧ ∀ j k H, W1 j k H →
      (J.stop j H ∧ Nx H) ∨ (J.go j H ∧ ∃ Nx1 : Hp → Prop, (∀ H', Nx1 H' → ∃ k', k' < k ∧ W1 (j + 1) k' H') ∧ ∀ x H', J.yld j H x H' →
        (fun v σ H Q => ∃ F ρ M d Qd Xd, Good K cl F H M ∧ Slots K cl F σ ρ ∧ Rep K cl F v d ∧ γ1 d ρ M Qd Xd ∧ (∀ σ' H' F' ρ' M', Same F F' → Good K cl F' H' M' → Slots K cl F' σ' ρ' → (∀ vs : List Nat, (∀ i ∈ is1, i ∈ vs) → wipe σ' vs = wipe σ vs) → Qd ρ' M' → Q σ' H') ∧ WOk K cl W0 F Xd : TG) x (wipe σ vs1) H' fun σ3 H5 => wipe σ3 vs1 = wipe σ vs1 ∧ lowT K cl W0 υ1 σ3 H5 fun b H6 =>
        if b = true then lowE K cl W0 τ σ3 H6 fun y H7 => ∃ acc, H7 a = some (.lst acc) ∧ acc.length < sizeLine ∧ Nx1 (upd H7 a (.lst (acc ++ [y]))) else Nx1 H6) := by
  refine ⟨fun i m H => m = xs.length - i ∧ i ≤ xs.length ∧ ∃ F' M, Same F F' ∧ Good K cl F' H M ∧ lcG C γ1 υ1 τ vs1 a (xs.drop i) ρ M R, ⟨xs.length, by simp, Nat.zero_le _, F, M, Same.refl F, g, by simpa using q⟩, ?_⟩
  rintro i m H2 ⟨rfl, hi, F2, M2, sm2, g2, q2⟩
  by_cases hlt : i < xs.length
  · rw [List.drop_eq_getElem_cons hlt] at q2
    unfold lcG at q2
    obtain ⟨hC, q2⟩ := q2
    obtain ⟨go, yl⟩ := (wk i F2 H2 M2 sm2 g2 hC).1 xs[i] (by simp [hlt])
    refine .inr ⟨go, fun H' => ∃ F' M', Same F F' ∧ Good K cl F' H' M' ∧ lcG C γ1 υ1 τ vs1 a (xs.drop (i + 1)) ρ M' R, fun H' n => ⟨xs.length - (i + 1), by omega, rfl, hlt, n⟩, fun x H3 y => ?_⟩
    obtain ⟨F3, sm3, g3, r3⟩ := yl x H3 y
    refine ⟨F3, wipeD ρ vs1, M2, xs[i], _, noX, g3, (s.mono (sm2.trans sm3)).wipe _, r3, q2, fun σ4 H4 F4 ρ4 M4 sm4 g4 s4 w4 q4 => ⟨?_, ?_⟩, wok0⟩
    · rw [w4 _ his]
      exact wipe_idem _ _ _ fun _ h => h
    · refine ⟨F4, ρ4, M4, _, noX, g4, s4, q4, fun k H5 F5 M5 sm5 g5 q5 => ?_, wok0⟩
      cases k with
      | true =>
        rw [if_pos rfl] at q5 ⊢
        refine ⟨F5, ρ4, M5, _, noX, g5, s4.mono sm5, q5, fun y2 H6 F6 d M6 sm6 g6 r6 q6 => ?_, wok0⟩
        obtain ⟨acc, e1, e2, q6⟩ := q6
        obtain ⟨hF, vs, h1, h2⟩ := g6.cell a _ e1
        refine ⟨vs, h1, by rw [h2.length]; exact e2, F6, _, (((sm2.trans sm3).trans sm4).trans sm5).trans sm6, g6.put (d := .lst (acc ++ [d])) e1 ⟨vs ++ [y2], upd_same, h2.append (.one r6)⟩, q6⟩
      | false =>
        rw [if_neg Bool.false_ne_true] at q5 ⊢
        exact ⟨F5, M5, ((sm2.trans sm3).trans sm4).trans sm5, g5, q5⟩
  · have e : i = xs.length := by omega
    subst e
    rw [List.drop_length] at q2
    unfold lcG at q2
    exact .inl ⟨(wk _ F2 H2 M2 sm2 g2 q2.1).2 (Nat.le_refl _), p _ _ _ sm2 g2 q2.2⟩
theorem lc2_lift {K : PySem.W.Frag} (his : ∀ i ∈ is, i ∈ own.map (·.2)) (his1 : ∀ i ∈ is1, i ∈ vs1) {σ : St} {H : Hp} {Q : VK} {F : Hp} {ρ : DL.Env} {M : Mem} {Xd : DX} (R : Addr → Mem → Prop) (g : Good K cl F H M) (s : Slots K cl F σ ρ)
    (q : ι ρ M (fun C xs M1 => ∀ a, M1 a = none → lc2G C γ υ ι1 γ1 υ1 τ (own.map (·.2)) vs1 a xs ρ (updM M1 a (.lst [])) (R a)) Xd) (p : ∀ a H' F' M', Same F F' → Good K cl F' H' M' → R a M' → Q (.ref a) H') (w : WOk K cl W F Xd) :
    tLc2 (fun σ H R => ∃ F ρ M Rd Xd, Good K cl F H M ∧ Slots K cl F σ ρ ∧ ι ρ M Rd Xd ∧ (∀ J H' F' C xs M', Same F F' → Good K cl F' H' M' → WalksG K cl J F' C xs → Rd C xs M' → R J H') ∧ WOk K cl W F Xd)
      (fun v σ H Q => ∃ F ρ M d Qd Xd, Good K cl F H M ∧ Slots K cl F σ ρ ∧ Rep K cl F v d ∧ γ d ρ M Qd Xd ∧ (∀ σ' H' F' ρ' M', Same F F' → Good K cl F' H' M' → Slots K cl F' σ' ρ' → (∀ vs : List Nat, (∀ i ∈ is, i ∈ vs) → wipe σ' vs = wipe σ vs) → Qd ρ' M' → Q σ' H') ∧ WOk K cl W0 F Xd)
      (lowT K cl W0 υ)
      (fun σ H R => ∃ F ρ M Rd Xd, Good K cl F H M ∧ Slots K cl F σ ρ ∧ ι1 ρ M Rd Xd ∧ (∀ J H' F' C xs M', Same F F' → Good K cl F' H' M' → WalksG K cl J F' C xs → Rd C xs M' → R J H') ∧ WOk K cl W0 F Xd)
      (fun v σ H Q => ∃ F ρ M d Qd Xd, Good K cl F H M ∧ Slots K cl F σ ρ ∧ Rep K cl F v d ∧ γ1 d ρ M Qd Xd ∧ (∀ σ' H' F' ρ' M', Same F F' → Good K cl F' H' M' → Slots K cl F' σ' ρ' → (∀ vs : List Nat, (∀ i ∈ is1, i ∈ vs) → wipe σ' vs = wipe σ vs) → Qd ρ' M' → Q σ' H') ∧ WOk K cl W0 F Xd)
      (lowT K cl W0 υ1) (lowE K cl W0 τ) (own.map (·.2)) vs1 σ H Q := by
  refine ⟨F, ρ, M, _, Xd, g, s, q, fun J H1 F1 C xs M1 sm1 g1 wk q1 a hD => ?_, w⟩
  refine ⟨fun i m H => m = xs.length - i ∧ i ≤ xs.length ∧ ∃ F' M, Same F1 F' ∧ Good K cl F' H M ∧ lc2G C γ υ ι1 γ1 υ1 τ (own.map (·.2)) vs1 a (xs.drop i) ρ M (R a),
    ⟨xs.length, by simp, Nat.zero_le _, F1, updM M1 a (.lst []), Same.refl F1, g1.newM (d := .lst []) hD ⟨[], upd_same, .nil⟩, by simpa using q1 a (g1.freshM hD)⟩, ?_⟩
  rintro i m H2 ⟨rfl, hi, F2, M2, sm2, g2, q2⟩
  by_cases hlt : i < xs.length
  · rw [List.drop_eq_getElem_cons hlt] at q2
    unfold lc2G at q2
    obtain ⟨hC, q2⟩ := q2
    obtain ⟨go, yl⟩ := (wk i F2 H2 M2 sm2 g2 hC).1 xs[i] (by simp [hlt])
    refine .inr ⟨go, fun H' => ∃ F' M', Same F1 F' ∧ Good K cl F' H' M' ∧ lc2G C γ υ ι1 γ1 υ1 τ (own.map (·.2)) vs1 a (xs.drop (i + 1)) ρ M' (R a), fun H' n => ⟨xs.length - (i + 1), by omega, rfl, hlt, n⟩, fun x H3 y => ?_⟩
    obtain ⟨F3, sm3, g3, r3⟩ := yl x H3 y
    refine ⟨F3, wipeD ρ (own.map (·.2)), M2, xs[i], _, noX, g3, (s.mono ((sm1.trans sm2).trans sm3)).wipe _, r3, q2, fun σ4 H4 F4 ρ4 M4 sm4 g4 s4 w4 q4 => ⟨?_, ?_⟩, wok0⟩
    · rw [w4 _ his]
      exact wipe_idem _ _ _ fun _ h => h
    · refine ⟨F4, ρ4, M4, _, noX, g4, s4, q4, fun k H5 F5 M5 sm5 g5 q5 => ?_, wok0⟩
      cases k with
      | true =>
        rw [if_pos rfl] at q5 ⊢
        refine ⟨F5, ρ4, M5, _, noX, g5, s4.mono sm5, q5, fun J1 H6 F6 C1 ys M6 sm6 g6 wk6 q6 => ?_, wok0⟩
        exact lcG_in his1 g6 ((s4.mono sm5).mono sm6) wk6 q6 fun H' F' M' sm' g' r' => ⟨F', M', ((((sm2.trans sm3).trans sm4).trans sm5).trans sm6).trans sm', g', r'⟩
      | false =>
        rw [if_neg Bool.false_ne_true] at q5 ⊢
        exact ⟨F5, M5, ((sm2.trans sm3).trans sm4).trans sm5, g5, q5⟩
  · have e : i = xs.length := by omega
    subst e
    rw [List.drop_length] at q2
    unfold lc2G at q2
    exact .inl ⟨(wk _ F2 H2 M2 sm2 g2 q2.1).2 (Nat.le_refl _), p _ _ _ _ (sm1.trans sm2) g2 q2.2⟩
theorem d_lc2 (vs1 : List Nat) (hc : X.calm = true) (hN : X.N.Nodup) (hi : DIg cl X W tg iter ι) (ok : BlkOk X.N X.env.scope scope own)
    (hg : ∀ (s : Shared) (H : Hp) (C : Addr) (cs : List (Str × Addr)) (fp : List Addr), DG cl (X.blk s H scope (compEnvC scope cs C X.env) fp) W0 tg is γ) (ht : ∀ (s : Shared) (H : Hp) (C : Addr) (cs : List (Str × Addr)) (fp : List Addr), DTs cl (X.blk s H scope (compEnvC scope cs C X.env) fp) W0 ifs υ)
    (hi1 : ∀ (s : Shared) (H : Hp) (C : Addr) (cs : List (Str × Addr)) (fp : List Addr), DIg cl (X.blk s H scope (compEnvC scope cs C X.env) fp) W0 tg1 iter1 ι1)
    (hg1 : ∀ (s : Shared) (H : Hp) (C : Addr) (cs : List (Str × Addr)) (fp : List Addr), DG cl (X.blk s H scope (compEnvC scope cs C X.env) fp) W0 tg1 is1 γ1) (ht1 : ∀ (s : Shared) (H : Hp) (C : Addr) (cs : List (Str × Addr)) (fp : List Addr), DTs cl (X.blk s H scope (compEnvC scope cs C X.env) fp) W0 ifs1 υ1)
    (he : ∀ (s : Shared) (H : Hp) (C : Addr) (cs : List (Str × Addr)) (fp : List Addr), DE cl (X.blk s H scope (compEnvC scope cs C X.env) fp) W0 elt τ) (hv : ∀ i ∈ vs1, i ∈ own.map (·.2) := by decide) (his : ∀ i ∈ is, i ∈ own.map (·.2) := by decide) (his1 : ∀ i ∈ is1, i ∈ vs1 := by decide) (hs : ∀ x, foldedSetIterable iter X.env x = pure x := by intro _; rfl) (hs1 : ∀ env x, foldedSetIterable iter1 env x = pure x := by intro _ _; rfl) :
    DE cl X W (.ListComp elt [⟨tg, iter, ifs, 0⟩, ⟨tg1, iter1, ifs1, 0⟩] scope pos) (dLc2 ι γ υ ι1 γ1 υ1 τ (own.map (·.2)) vs1) :=
  ⟨pe_imp (pe_lc2 hc hN hi.pi ok hv (fun s H C cs fp => (hg s H C cs fp).pg) (fun s H C cs fp => (ht s H C cs fp).pts) (fun s H C cs fp => (hi1 s H C cs fp).pi) (fun s H C cs fp => (hg1 s H C cs fp).pg) (fun s H C cs fp => (ht1 s H C cs fp).pts) (fun s H C cs fp => (he s H C cs fp).pe) hs hs1) fun σ H Q ⟨F, ρ, M, Qd, Xd, g, s, q, p, w⟩ => lc2_lift his his1 (fun a => endF a Qd) g s q (endF_ok p) w⟩
end
end DL
set_option Elab.async false
set_option linter.all false
set_option maxRecDepth 100000
set_option maxHeartbeats 4000000
namespace DL
open PySem L2
def cmpX (k : Int → Int → Bool) (f : Ordering → Bool) : D → D → Option D
  | .byt x, .byt y => some (.bl (f (Builtin.Bytes.order x.toList y.toList)))
  | d, e => cmpD k d e
section
variable {K : PySem.W.Frag} {cl : ClW}
theorem lop_cmpX (k : Int → Int → Bool) (f : Ordering → Bool) : LOp K cl (fun x y H Q => rI0 (fun i j => .bl (k i j)) x y H Q ∨ rBytB f x y H Q) (cmpX k f) := by
  intro F H M x y d e z Q Qd g hx hy h p q
  unfold cmpX at h
  split at h
  · cases h
    obtain rfl := hx.byt; obtain rfl := hy.byt
    exact .inr ⟨_, _, rfl, rfl, p.val g (.bl _) q⟩
  · exact .inl (lop_cmp k F H M x y d e z Q Qd g hx hy h p q)
end
section
variable {X : Cx}
theorem op_geX : OpR X (compareOp .GtE) (fun x y H Q => rI0 (fun i j => .bl (decide (j ≤ i))) x y H Q ∨ rBytB (· != .lt) x y H Q) := op_ge.or op_ge_byt
end
abbrev geX := cmpX (fun i j => decide (j ≤ i)) (· != .lt)
def is8 (ns : List Int) : Bool := ns.all fun n => decide (0 ≤ n) && decide (n < 256)
theorem is8_iff {ns : List Int} : is8 ns = true ↔ ∀ n ∈ ns, 0 ≤ n ∧ n < 256 := by simp [is8, List.all_eq_true]
def bytesF : List D → Option D
  | [.lst xs] => (intsOf xs).bind fun ns => if is8 ns = true then some (.byt (byteArr ns)) else none
  | [.tup xs] => (intsOf xs).bind fun ns => if is8 ns = true then some (.byt (byteArr ns)) else none
  | [.byt b] => some (.byt b)
  | _ => none
theorem intsSome {xs : List D} {z : D} {f : List Int → D} (h : ((intsOf xs).bind fun ns => if is8 ns = true then some (f ns) else none) = some z) : ∃ ns, xs = ns.map D.int ∧ (∀ n ∈ ns, 0 ≤ n ∧ n < 256) ∧ z = f ns := by
  cases e : intsOf xs with
  | none => rw [e] at h; cases h
  | some ns =>
    rw [e] at h
    simp only [Option.bind_some] at h
    by_cases k : is8 ns = true
    · rw [if_pos k] at h
      cases h
      exact ⟨ns, intsOf_eq e, is8_iff.mp k, rfl⟩
    · rw [if_neg k] at h; cases h
section
variable {K : PySem.W.Frag} {cl : ClW} {X : Cx}
def rBytes (K : PySem.W.Frag) : List V → Hp → VK → Prop := fun xs H Q => r1 (kByts K) xs H Q ∨ ∃ p ns, xs = [.ref p] ∧ SqT K H p (ns.map V.int) ∧ B8 ns ∧ Q (.byt (byteArr ns)) H
theorem call_bytesA (hc : X.calm = true) : CallR X (.type "bytes") (rBytes X.K) := by
  intro pins s σ H xs us Q I r h
  rcases h with h | h
  · exact call_r1 (rl_bytes hc) pins s σ H xs us Q I r h
  · exact call_bytes_tup hc pins s σ H xs us Q I r h
theorem lc_bytes : LCall K cl (rBytes K) bytesF := by
  intro F H M xs ds z Q Qd g r h p q
  generalize e : ds.map (vw M) = es at h
  unfold bytesF at h
  split at h
  · obtain ⟨x, rfl, hv⟩ := reps1 g r e
    obtain ⟨a, vs, rfl, h1, h2⟩ := hv.lst g.sub
    obtain ⟨ns, rfl, h8, rfl⟩ := intsSome (f := fun ns => D.byt (byteArr ns)) h
    rw [h2.ints] at h1
    exact .inl (.inr ⟨a, ns, rfl, h1, h8, p.val g (.byt _) q⟩)
  · obtain ⟨x, rfl, hv⟩ := reps1 g r e
    obtain ⟨a, vs, rfl, h1, h2⟩ := hv.tup g.sub
    obtain ⟨ns, rfl, h8, rfl⟩ := intsSome (f := fun ns => D.byt (byteArr ns)) h
    rw [h2.ints] at h1
    exact .inr ⟨a, ns, rfl, h1, h8, p.val g (.byt _) q⟩
  · cases h
    obtain ⟨x, rfl, hv⟩ := reps1 g r e
    obtain rfl := hv.byt
    exact .inl (.inl ⟨_, rfl, p.val g (.byt _) q⟩)
  · cases h
def slB : D → Option Int → Option Int → Option D
  | .byt b, lo, hi => if b.size ≤ 16777216 then some (.byt (PySem.W.KBy.picked b lo hi)) else none
  | _, _, _ => none
theorem d_sliceB {W : WX} {e : Expr} {τ : DTE} {lo hi : Option Expr} {τl τh : DTO} {p2 pos : Pos} (he : DE cl X W e τ) (hl : DO cl X W lo τl) (hu : DO cl X W hi τh) : DE cl X W (.Subscript e (.Slice lo hi none p2) pos) (dSl slB τ τl τh) :=
  ⟨pe_imp (pe_slice sl_byt he.pe hl.po hu.po) fun σ H Q ⟨F, ρ, M, Qd, Xd, g, s, t, p, w⟩ =>
    ⟨F, ρ, M, _, Xd, g, s, t, fun v H1 F1 d M1 sm1 g1 r1 q1 => ⟨F1, ρ, M1, _, Xd, g1, s.mono sm1, q1, fun l H2 F2 M2 sm2 g2 q2 => ⟨F2, ρ, M2, _, Xd, g2, s.mono (sm1.trans sm2), q2, fun h H3 F3 M3 sm3 g3 q3 => (by
      obtain ⟨z, e1, e2⟩ := q3
      have hv := vw_ok g3 (r1.mono (sm2.trans sm3))
      have p' := p.mono ((sm1.trans sm2).trans sm3)
      cases hd : vw M3 d with
      | byt b =>
        rw [hd] at hv e1
        simp only [slB] at e1
        split at e1
        · cases e1
          obtain rfl := hv.byt
          exact ⟨b, rfl, by assumption, p'.val g3 (.byt _) e2⟩
        · cases e1
      | _ => rw [hd] at e1; cases e1), w.mono (sm1.trans sm2)⟩, w.mono sm1⟩, w⟩⟩
def rIxB : R2 := fun x y H Q => ∃ (b : Array UInt8) (i : Int) (k : Nat) (c : UInt8), x = .byt b ∧ y = .int i ∧ b.size ≤ 16777216 ∧ seqIndex? i b.size = some k ∧ b[k]? = some c ∧ Q (.int (c.toNat : Nat)) H
theorem ix_byt : IxR X rIxB := by
  intro value slice pins s σ H x y v u Q I rx ry h hs
  obtain ⟨b, i, k, c, rfl, rfl, hz, hk, hc, q⟩ := h
  obtain ⟨t, rfl⟩ := rx
  obtain ⟨t', rfl⟩ := ry
  refine PyProof.Rows.tail_any (PySem.W.typeIs_bytes s b t) PySem.W.FB.slot_bytes_getitem.lookup (PySem.getItem_gives (PySem.W.typeIs_bytes s _ t) (by decide) PySem.W.FB.slot_bytes_getitem PySem.W.FB.entry_bytes_getitem (PySem.W.FB.args_bytes_getitem_2 _ _) (PySem.W.gives_bytes_getitem _ i t t' c ?_ ?_) ⟨.int (c.toNat : Nat), H, I.tok _, ⟨_, rfl⟩, q⟩) hs
  · unfold seqIndex? at hk
    simp only [Builtin.Bytes.fitsIndex, Bool.and_eq_true, decide_eq_true_eq]
    dsimp only at hk
    split at hk <;> split at hk <;> simp_all <;> omega
  · rw [hk]; simpa using hc
def ixB : D → D → Option D
  | .byt b, .int i => if b.size ≤ 16777216 then (seqIndex? i b.size).bind fun k => (b[k]?).map fun c => .int (c.toNat : Nat) else none
  | _, _ => none
theorem lixB : LOp K cl rIxB ixB := by
  intro F H M x y d e z Q Qd g hx hy h p q
  unfold ixB at h
  split at h
  · rename_i b i
    obtain rfl := hx.byt; obtain rfl := hy.int
    split at h
    · cases e1 : seqIndex? i b.size with
      | none => rw [e1] at h; cases h
      | some k =>
        rw [e1] at h
        simp only [Option.bind_some] at h
        cases e2 : b[k]? with
        | none => rw [e2] at h; cases h
        | some c =>
          rw [e2] at h
          cases h
          exact ⟨b, i, k, c, rfl, rfl, by assumption, e1, e2, p.val g (.int _) q⟩
    · cases h
  · cases h
theorem d_ixB {W : WX} {a b : Expr} {pos : Pos} {τa τb : DTE} (ha : DE cl X W a τa) (hb : DE cl X W b τb) (hs : PlainIx b := by exact fun _ _ => rfl) : DE cl X W (.Subscript a b pos) (dOp ixB τa τb) :=
  ⟨pe_imp (pe_ix ix_byt ha.pe hb.pe hs) fun σ H Q ⟨F, ρ, M, Qd, Xd, g, s, t, p, w⟩ =>
    ⟨F, ρ, M, _, Xd, g, s, t, fun v H' F' d M' sm g' r' q => ⟨F', ρ, M', _, Xd, g', s.mono sm, q, fun u H2 F2 e M2 sm2 g2 r2 q2 => by
      obtain ⟨z, e1, e2⟩ := q2
      exact lixB F2 H2 M2 v u _ _ z Q Qd g2 (vw_ok g2 (r'.mono sm2)) (vw_ok g2 r2) e1 (p.mono (sm.trans sm2)) e2, w.mono sm⟩, w⟩⟩
end
end DL
set_option Elab.async false
set_option linter.all false
set_option maxRecDepth 100000
set_option maxHeartbeats 4000000
set_option autoImplicit false
namespace DL
open PySem L2
section
variable {cl : ClW} {X : Cx} {W : WX} {x : Str} {pos : Pos}
end
end DL
set_option Elab.async false
set_option linter.all false
set_option maxRecDepth 100000
set_option maxHeartbeats 4000000
set_option autoImplicit false
namespace DL
open PySem L2 PySem.SeqAt
section
variable {A : Around} {s : Shared}
end
def bulky : D → Bool
  | .lst _ => true
  | .tup _ => true
  | .dK _ _ => true
  | _ => false
@[simp] def bInX (neg : Bool) : DB2 := fun d e _ M Q _ => ∃ (d' : D) (n : Nat) (zs : List Str), Dv M d d' ∧ plX n d' = true ∧ bulky d' = true ∧ vw M e = .lst (zs.map D.str) ∧ Q (.bl neg) M
section
variable {cl : ClW} {X : Cx} {W : WX} {pins : List (Addr × Obj)} {σ : St} {H : Hp} {s : Shared}
end
end DL
set_option Elab.async false
set_option linter.all false
set_option maxRecDepth 100000
set_option autoImplicit false
namespace DL
open PySem L2
def obsR (n : Nat) (fa : List He.Fa) (fn : List He.DefD) (ex : PySem.W.Frag → Bool) (g : Addr → Option Obj) : He.AlD × Bool := (He.obsD fa fn (He.frG g (List.range n)), ex (He.frG g (List.range n)))
def hookR (n : Nat) (fa : List He.Fa) (fn : List He.DefD) (ex : PySem.W.Frag → Bool) : PySem.W.Hook where
  α := He.AlD × Bool
  obs := fun s => obsR n fa fn ex s.heap.get?
  val := fun _ => (He.valD fn, true)
  says := fun _ h => ∃ K : PySem.W.Frag, K.In h ∧ He.SaysD fa fn K ∧ ex K = true
  of := fun _ _ e => ⟨_, He.frG_in, congrArg Prod.fst e, congrArg Prod.snd e⟩
  keeps := fun _ _ _ ⟨K, hK, c⟩ k => ⟨K, PySem.W.Frag.In.keeps hK k, c⟩
theorem obsR_eq {n : Nat} {fa : List He.Fa} {fn : List He.DefD} {ex : PySem.W.Frag → Bool} {g : Addr → Option Obj} {s : Shared} (h : ∀ a, g a = s.heap.get? a) : obsR n fa fn ex g = (hookR n fa fn ex).obs s := by
  have e : g = s.heap.get? := funext h
  rw [e] <;> rfl
theorem opt_pair {α β γ : Type} {o : Option α} {f : α → β} {g : α → γ} {a : β} {b : γ} (h1 : o.map f = some a) (h2 : o.map g = some b) : ∃ s, o = some s ∧ f s = a ∧ g s = b := by
  cases o with
  | none => cases h1
  | some s => exact ⟨s, rfl, Option.some.inj h1, Option.some.inj h2⟩
open PySem.W PySem.Calls PyProof.Rows HandSHeadRun in
theorem runR_of {r : OpenRow} {q : Program} {n : Nat} {fa : List He.Fa} {fn : List He.DefD} {ex : PySem.W.Frag → Bool} {M : Nat} {loose : List PySem.Str} {w : World}
    (h1 : ∀ os, (HandSHeadRun.endF (stepQ (denQ tabQ) r.prog w) M r.prog w os).map (fun s => (looksF r.prog (boot_heap w.params) s.abs, seenQ q loose (importedModules r.prog.main.body) (fun s => xlAt q [] s && recOk r.toRowW.records s) s.abs)) = some (true, openGood q loose))
    (h2 : ∀ os, (HandSHeadRun.endF (stepQ (denQ tabQ) r.prog w) M r.prog w os).map (fun s => fa.all fun f => f.ok (He.frG (getT s) (List.range n))) = some true)
    (h3 : ∀ os, (HandSHeadRun.endF (stepQ (denQ tabQ) r.prog w) M r.prog w os).map (fun s => (fn.all fun d => d.ok (He.frG (getT s) (List.range n)), fn.map fun d => He.fnW (He.frG (getT s) (List.range n)) d.at_)) = some (true, fn.map He.DefD.val))
    (h4 : ∀ os, (HandSHeadRun.endF (stepQ (denQ tabQ) r.prog w) M r.prog w os).map (fun s => ex (He.frG (getT s) (List.range n))) = some true) :
    RunEq r q (hookR n fa fn ex) (fun s => obsR n fa fn ex (getT s)) M loose w := by
  intro os
  obtain ⟨s, e, a1, a2⟩ := opt_pair (h1 os) (h2 os)
  have b3 := h3 os
  have b4 := h4 os
  rw [e] at b3 b4 ⊢
  have b3 := Option.some.inj b3
  have b4 := Option.some.inj b4
  have c1 := congrArg Prod.fst a1
  have c2 := congrArg Prod.snd a1
  have d1 := congrArg Prod.fst b3
  have d2 := congrArg Prod.snd b3
  simp only at c1 c2 d1 d2 b4 a2
  show some (looksF r.prog (boot_heap w.params) s.abs, seenQ q loose (importedModules r.prog.main.body) (fun s => xlAt q [] s && recOk r.toRowW.records s) s.abs, ((((fa.all fun f => f.ok (He.frG (getT s) (List.range n))) && fn.all fun d => d.ok (He.frG (getT s) (List.range n))), fn.map fun d => He.fnW (He.frG (getT s) (List.range n)) d.at_), ex (He.frG (getT s) (List.range n)))) = _
  rw [c1, c2, a2, d1, d2, b4]
  rfl
end DL
set_option Elab.async false
set_option linter.all false
set_option maxRecDepth 100000
set_option maxHeartbeats 4000000
namespace DL
open PySem L2
section
variable {cl : ClW} {X : Cx} {W : WX} {e : Expr} {τ : DTE} {pos : Pos}
end
@[simp] def bEqE : DB2 := fun d e _ M Q _ => ∃ xs ys, vw M d = .lst xs ∧ vw M e = .lst ys ∧ (xs = [] ∨ ys = []) ∧ Q (.bl (xs.isEmpty && ys.isEmpty)) M
@[simp] def bNeE : DB2 := fun d e _ M Q _ => ∃ xs ys, vw M d = .lst xs ∧ vw M e = .lst ys ∧ (xs = [] ∨ ys = []) ∧ Q (.bl (!(xs.isEmpty && ys.isEmpty))) M
section
open PySem.SeqAt
variable {cl : ClW} {X : Cx} {W : WX}
end
end DL
set_option Elab.async false
set_option linter.all false
set_option maxRecDepth 100000
set_option maxHeartbeats 4000000
namespace DL
open PySem L2
end DL
set_option Elab.async false
set_option linter.all false
set_option maxRecDepth 100000
set_option maxHeartbeats 4000000
namespace DL
open PySem L2
mutual
def toPyX : D → Option PyData
  | .non => some .none
  | .bl b => some (.bool b)
  | .int i => some (.int i)
  | .str x => some (.str x)
  | .lst xs => (toPyXs xs).map .list
  | .tup xs => (toPyXs xs).map .tuple
  | .dK [] [] => some (.dict [])
  | _ => none
def toPyXs : List D → Option (List PyData)
  | [] => some []
  | d :: ds => (toPyX d).bind fun p => (toPyXs ds).map fun ps => p :: ps
end
def SmOk (K : PySem.W.Frag) : Prop := ∃ o, K.lookup sysModules = some o ∧ o.cls = .type "dict"
def smB (K : PySem.W.Frag) : Bool := match K.lookup sysModules with
  | some o => o.cls == .type "dict"
  | none => false
theorem smB_ok {K : PySem.W.Frag} (h : smB K = true) : SmOk K := by
  unfold smB at h
  split at h
  · exact ⟨_, by assumption, beq_iff_eq.mp h⟩
  · cases h
section
variable {X : Cx} {cl : ClW} {pins : List (Addr × Obj)} {σ : St} {H : Hp} {s : Shared}
theorem sm_ne (I : Inv X pins σ H s) (sm : SmOk X.K) {a : Addr} {o : Obj} (h : s.heap.get? a = some o) (hc : o.cls = .type "list") : sysModules ≠ a := fun e => by
  obtain ⟨o', h1, h2⟩ := sm
  have := I.kIn _ _ h1
  rw [e, h] at this
  have e2 := Option.some.inj this
  rw [← e2, hc] at h2
  exact absurd h2 (by decide)
mutual
theorem reads_of (I : Inv X pins σ H s) (sm : SmOk X.K) : ∀ {x : V} {d : D}, Rep X.K cl H x d → ∀ {u : Value} {p : PyData}, RelV x u → toPyX d = some p → ∃ as, Reads s.heap u p as ∧ sysModules ∉ as
  | _, _, .non, u, p, r, e => by cases (show u = Value.none from r); cases e; exact ⟨[], .none, by simp⟩
  | _, _, .bl b, u, p, r, e => by cases (show u = Value.bool b from r); cases e; exact ⟨[], .bool b, by simp⟩
  | _, _, .int i, u, p, r, e => by obtain ⟨t, rfl⟩ := r; cases e; exact ⟨[], .int i t, by simp⟩
  | _, _, .str z, u, p, r, e => by obtain ⟨t, rfl⟩ := r; cases e; exact ⟨[], .str z t, by simp⟩
  | _, _, .lst h1 h2, u, p, r, e => by
    cases (show u = Value.ref _ from r)
    obtain ⟨us, r1, p1, _⟩ := I.list h1
    obtain ⟨o, ho, hc, n, hd⟩ := p1.isList
    simp only [toPyX] at e
    obtain ⟨ps, e1, rfl⟩ := Option.map_eq_some_iff.mp e
    obtain ⟨as, q1, q2⟩ := readss_of I sm h2 r1 e1
    refine ⟨_, .list ho hc hd q1, ?_⟩
    intro z
    rcases List.mem_cons.mp z with z | z
    · exact sm_ne I sm ho hc z
    · exact q2 z
  | _, _, .tup h1 h2, u, p, r, e => by
    cases (show u = Value.ref _ from r)
    obtain ⟨us, r1, p1, _⟩ := I.tuple h1.sq
    obtain ⟨o, ho, hc, n, hd⟩ := p1
    simp only [toPyX] at e
    obtain ⟨ps, e1, rfl⟩ := Option.map_eq_some_iff.mp e
    obtain ⟨as, q1, q2⟩ := readss_of I sm h2 r1 e1
    exact ⟨_, .tuple ho hc hd q1, q2⟩
  | _, _, .dK (a := a) (ks := ks) (ds := ds) h1 h2 h3, u, p, r, e => by
    cases (show u = Value.ref _ from r)
    obtain ⟨_, y, us, r1, dd⟩ := (show ObjOk X.prog X.w H s.heap _ (.dK _) from I.hok _ _ h1)
    cases ks with
    | cons k ks => simp [toPyX] at e
    | nil =>
      cases ds with
      | cons d ds => simp [toPyX] at e
      | nil =>
        cases e
        have hu : us = [] := by
          have := KV.length r1
          simp at this
          exact List.eq_nil_of_length_eq_zero this.symm
        subst hu
        obtain ⟨o, es, ep, ho, hx, hd, _, hp, _⟩ := dd
        have he : es.toList = [] := List.eq_nil_of_length_eq_zero (by rw [hp.length]; rfl)
        refine ⟨a :: [] ++ [], .dict ho hx.1 hd (kvs := []) (by rw [he]; exact .nil) (by rw [he]; exact .nil), ?_⟩
        simp only [List.append_nil, List.mem_singleton]
        intro z
        rw [← z] at y
        cases y
  | _, _, .byt b, u, p, r, e => by simp [toPyX] at e
  | _, _, .ty b, u, p, r, e => by simp [toPyX] at e
  | _, _, .ref b, u, p, r, e => by simp [toPyX] at e
  | _, _, .cls b, u, p, r, e => by simp [toPyX] at e
  | _, _, .dT _ _ _ _, u, p, r, e => by simp [toPyX] at e
  | _, _, .obj _ _ _, u, p, r, e => by simp [toPyX] at e
  | _, _, .exc _ _ _, u, p, r, e => by simp [toPyX] at e
  | _, _, .xob _ _ _, u, p, r, e => by simp [toPyX] at e
  | _, _, .thk _ _, u, p, r, e => by simp [toPyX] at e
  | _, _, .dN _ _ _, u, p, r, e => by simp [toPyX] at e
theorem readss_of (I : Inv X pins σ H s) (sm : SmOk X.K) : ∀ {xs : List V} {ds : List D}, Reps X.K cl H xs ds → ∀ {us : List Value} {ps : List PyData}, Vals xs us → toPyXs ds = some ps → ∃ as, ReadsAll s.heap us ps as ∧ sysModules ∉ as
  | _, _, .nil, us, ps, r, e => by cases r; cases e; exact ⟨[], .nil, by simp⟩
  | _, _, .cons h t, us, ps, r, e => by
    cases r with
    | cons r1 r2 =>
      simp only [toPyXs] at e
      obtain ⟨p, e1, e2⟩ := Option.bind_eq_some_iff.mp e
      obtain ⟨ps, e3, rfl⟩ := Option.map_eq_some_iff.mp e2
      obtain ⟨as, a1, a2⟩ := reads_of I sm h r1 e1
      obtain ⟨bs, b1, b2⟩ := readss_of I sm t r2 e3
      exact ⟨_, .cons a1 b1, fun z => (List.mem_append.mp z).elim a2 b2⟩
end
end
section
variable {K : PySem.W.Frag} {cl : ClW} {X : Cx}
end
end DL
set_option Elab.async false
set_option linter.all false
set_option maxRecDepth 100000
set_option maxHeartbeats 4000000
set_option autoImplicit false
namespace DL
open PySem L2 PyProof.Rows
structure KeyS (x : Str) (scope : Scope) : Prop where
  kind : scope.kind = .function
  co : scope.isCoroutine = false
  gen : scope.isGenerator = false
  own : scope.names.lookup x = some .local
  nc : ∀ y ∈ scope.names, y.2 ≠ .cell
  nf : ∀ y ∈ scope.names, y.2 ≠ .free
section
variable {P : Program} {w : World} {A : Around} {s : Shared}
end
theorem each_vals {R : Value → V × D → Prop} {K : PySem.W.Frag} {cl : ClW} {F : Hp} (h1 : ∀ v b, R v b → RelV b.1 v ∧ Rep K cl F b.1 b.2) {vs : List Value} {bs : List (V × D)} (e : PySem.W.EachIs R vs bs) : Vals (bs.map (·.1)) vs ∧ Reps K cl F (bs.map (·.1)) (bs.map (·.2)) := by
  induction e with
  | nil => exact ⟨.nil, .nil⟩
  | cons a b ih => exact ⟨.cons (h1 _ _ a).1 ih.1, .cons (h1 _ _ a).2 ih.2⟩
section
variable {cl : ClW} {X : Cx} {W : WX} {e : Expr} {α : DTA} {p p1 p2 p3 pos lpos kpos : Pos} {k i j : Nat} {cc P : Addr} {x : Str} {params : Arguments} {scope : Scope}
end
end DL
set_option Elab.async false
set_option linter.all false
set_option maxRecDepth 100000
set_option maxHeartbeats 4000000
set_option autoImplicit false
namespace DL
open PySem L2
section
variable {K : PySem.W.Frag} {cl : ClW}
end
inductive DJ (cl : ClW) (X : Cx) (W : WX) : List Expr → List DTE → Prop where
  | nil : DJ cl X W [] []
  | cons {e : Expr} {τ : DTE} {es : List Expr} {ts : List DTE} (h : DE cl X W e τ) (r : DJ cl X W es ts) : DJ cl X W (e :: es) (τ :: ts)
section
variable {cl : ClW} {X : Cx} {W : WX} {e e1 e2 o : Expr} {es : List Expr} {ts : List DTE} {pos tpos : Pos} {τ τo τv : DTE} {f : Str} {cs : List Nat}
end
end DL
set_option Elab.async false
set_option linter.all false
set_option maxRecDepth 100000
set_option maxHeartbeats 4000000
set_option autoImplicit false
namespace DL
open PySem L2
section
variable {cl : ClW} {X : Cx} {W : WX} {j k c : Nat} {ps : List Str} {spd : SpD} {x : Str} {p sp_ pos : Pos} {e : Expr} {τ : DTE}
end
section
variable {K : PySem.W.Frag} {cl : ClW}
end
end DL
set_option Elab.async false
set_option linter.all false
set_option autoImplicit false
set_option maxRecDepth 100000
set_option maxHeartbeats 2000000
namespace DL
open PySem L2 PySem.W PySem.Spec
structure TabsAt (K : Frag) (h : Heap) (cs : List (Addr × Addr)) : Prop where
  at_ : ∀ p ∈ cs, h.get? p.2 = some { cls := .none, data := .fields #[] }
  off : ∀ p ∈ cs, K.lookup p.2 = none
  code : ∀ p ∈ cs, CodeHd h p.1 p.2
end DL
set_option Elab.async false
set_option linter.all false
set_option maxRecDepth 100000
set_option maxHeartbeats 2000000
set_option autoImplicit false
namespace DL
open PySem L2
def codeF (K : PySem.W.Frag) (f : Addr) : Addr := match K.lookup f with
  | some o => match o.data with
    | .func fd => match fd.code with
      | .ref c => c
      | _ => 0
    | _ => 0
  | none => 0
def tabF (K : PySem.W.Frag) (c : Addr) : Addr := match K.lookup c with
  | some o => match o.data with
    | .fields vs => match vs[11]? with
      | some (Value.ref p) => p
      | _ => 0
    | _ => 0
  | none => 0
def tabD (K : PySem.W.Frag) (d : Str × Option Str) : Addr := tabF K (codeF K (He.fAd K d))
structure TabK (h : Heap) (K : PySem.W.Frag) (d : Str × Option Str) : Prop where
  hd : PySem.W.codeHdIn K (codeF K (He.fAd K d)) (tabD K d) = true
  at_ : h.get? (tabD K d) = some { cls := .none, data := .fields #[] }
  off : K.lookup (tabD K d) = none
  gl : mainGlobals ≠ tabD K d
  nz : tabD K d ≠ 0
  code : ∀ fd o, K.lookup (He.fAd K d) = some o → o.data = .func fd → fd.code = .ref (codeF K (He.fAd K d))
end DL
set_option Elab.async false
set_option linter.all false
set_option maxRecDepth 100000
set_option maxHeartbeats 2000000
set_option autoImplicit false
namespace DL
open PySem L2
section
variable {cl : ClW} {P : Program} {w : World} {K : PySem.W.Frag} {mg : Str → Option Value} {base h : Heap} {k : Nat} {x qual : Str} {params : Arguments} {body : List Stmt} {scope : Scope} {N ps : List Str} {spd : SpD} {d : Str × Option Str} {t : DTS}
end
end DL
set_option Elab.async false
set_option linter.all false
set_option maxRecDepth 100000
set_option maxHeartbeats 2000000
set_option autoImplicit false
namespace DL
open PySem L2
section
variable {X : Cx} {o e : Expr} {to ta : TE} {apos cpos : Pos}
end
section
variable {cl : ClW} {X : Cx} {W : WX} {o e : Expr} {τo τ : DTE} {apos cpos : Pos}
end
end DL
set_option Elab.async false
set_option linter.all false
set_option maxRecDepth 100000
set_option maxHeartbeats 4000000
set_option autoImplicit false
namespace DLB
open PySem PySem.W
theorem owner_bi : Manifest.owners.lookup (String.ofList ['r', 'o', 't', 'a', 'r', 'e', 't', 'i', '_', 's', 'e', 't', 'y', 'b'].reverse) = some Manifest.sig_bytes_iterator := by kernel_rfl
theorem slot_bi_next : Slot "bytes_iterator" "__next__" "bytes_iterator.__next__" :=
  .of (owner := "bytes_iterator") (n := "__next__") (by rw [typeLookup_type, builtinLookup_eq_fast]; kernel_rfl) (by decide +kernel) (by decide +kernel) (by decide +kernel)
    (by first | exact .inl (by decide +kernel) | exact .inr (by decide +kernel)) (by rw [isSubtype_type]; kernel_rfl)
theorem entry_bi_next : entryFor table "bytes_iterator.__next__" = some Builtin.«bytes_iterator.__next__» := entryFor_of_tree (by kernel_rfl)
theorem args_bi_next_1 (a : Value) : argsOk "bytes_iterator.__next__" ⟨[a], []⟩ := by
  unfold argsOk; rw [signature?_of (id := "bytes_iterator.__next__") (n := ['_', '_', 't', 'x', 'e', 'n', '_', '_']) (o := ['r', 'o', 't', 'a', 'r', 'e', 't', 'i', '_', 's', 'e', 't', 'y', 'b']) (by kernel_rfl) owner_bi]; kernel_rfl
def IsBi (h : Heap) (it : Addr) (b : Array UInt8) (t : Tok) (i : Nat) : Prop := ∃ o, h.get? it = some o ∧ o.cls = .type "bytes_iterator" ∧ o.data = .fields #[.bytes b t, .int i 0]
section
variable {prog : Program} {w : World} {A : Around} {E : Value → Shared → Prop} {s : Shared} {it : Addr} {b : Array UInt8} {t : Tok} {i : Nat}
theorem IsBi.typeIs (h : IsBi s.heap it b t i) : s.TypeIs (.ref it) "bytes_iterator" := by
  obtain ⟨o, ho, hc, _⟩ := h
  exact ⟨o, ho, hc⟩
theorem nextOf_bi_item {c : UInt8} {Q : Value → Shared → Prop} (hit : IsBi s.heap it b t i) (hx : b[i]? = some c)
    (hQ : ∀ h', IsBi h' it b t (i + 1) → Heap.SameBut it s.heap h' → Q (.int (c.toNat : Nat) s.toks) { s with heap := h', toks := s.toks + 1 }) :
    wpAny (model prog w) A (Builtin.SmallTypes.nextOf (.ref it)) Q E s := by
  obtain ⟨o, ho, hc, hd⟩ := id hit
  unfold Builtin.SmallTypes.nextOf
  refine wpAny_bind (wpAny_callSpecial?_slot (name := Str.ofString "__next__") hit.typeIs slot_bi_next
    (wpAny_call_entry slot_bi_next hit.typeIs entry_bi_next ?_ (args_bi_next_1 _)))
  show wpAny _ _ (field (.ref it) 0 >>= _) _ _ s
  refine wpAny_bind (wpAny_field ho hd (x := .bytes b t) rfl ?_)
  show wpAny _ _ (if (Value.bytes b t == Value.none) = true then _ else _) _ _ s
  rw [if_neg (show ¬ ((Value.bytes b t == Value.none) = true) from Bool.false_ne_true)]
  show wpAny _ _ (field (.ref it) 1 >>= _) _ _ s
  refine wpAny_bind (wpAny_field ho hd (x := .int i 0) rfl ?_)
  refine wpAny_bind (wpAny_of_eq (a := b) rfl ?_)
  simp only [Int.toNat_natCast, hx]
  refine wpAny_bind (wpAny_setField ho hd (by simp) (wpAny_bind (wpAny_mkInt (wpAny_pure ⟨_, rfl, wpAny_pure (hQ _ ?_ (Heap.SameBut.update ..))⟩))))
  exact ⟨_, Heap.get?_update_self _ ho (Obj.isFreed_of_fields (Obj.data_mapFields hd _)), (Obj.cls_mapFields ..).trans hc, by
    rw [Obj.data_mapFields hd]; simp [rawInt]⟩
theorem nextOf_bi_end {Q : Value → Shared → Prop} (hh : A.handled = none) (hit : IsBi s.heap it b t i) (hx : b[i]? = none)
    (hE : ∀ h' e, Heap.ExtBut it s.heap h' → (∃ o, h'.get? e = some o ∧ o.cls = .type "StopIteration") → E (.ref e) { s with heap := h' }) :
    wpAny (model prog w) A (Builtin.SmallTypes.nextOf (.ref it)) Q E s := by
  obtain ⟨o, ho, hc, hd⟩ := id hit
  unfold Builtin.SmallTypes.nextOf
  refine wpAny_bind (wpAny_callSpecial?_slot (name := Str.ofString "__next__") hit.typeIs slot_bi_next
    (wpAny_call_entry slot_bi_next hit.typeIs entry_bi_next ?_ (args_bi_next_1 _)))
  show wpAny _ _ (field (.ref it) 0 >>= _) _ _ s
  refine wpAny_bind (wpAny_field ho hd (x := .bytes b t) rfl ?_)
  show wpAny _ _ (if (Value.bytes b t == Value.none) = true then _ else _) _ _ s
  rw [if_neg (show ¬ ((Value.bytes b t == Value.none) = true) from Bool.false_ne_true)]
  show wpAny _ _ (field (.ref it) 1 >>= _) _ _ s
  refine wpAny_bind (wpAny_field ho hd (x := .int i 0) rfl ?_)
  refine wpAny_bind (wpAny_of_eq (a := b) rfl ?_)
  simp only [Int.toNat_natCast, hx]
  refine wpAny_bind (wpAny_rule (wpAny_bind (wpAny_setField ho hd (by simp) ?_)))
  show wpAny _ _ (newExc (.type "StopIteration") [] >>= _) _ _ _
  refine wpAny_bind ?_
  simp only [newExc, newTuple]
  refine wpAny_bind (wpAny_newObj_type ?_ (by size_fits))
  refine wpAny_bind (m := firstArgMember _ _) (wpAny_of_eq (a := Value.none) (by first | rfl | (simp only [firstArgMember]; rfl)) ?_)
  refine wpAny_newObj_type ?_ (by size_fits)
  simp only [raiseNew]
  refine wpAny_bind (wpAny_handled ?_)
  first | rw [show A.in1.handled = none from hh] | rw [hh]
  refine wpAny_bind (wpAny_pure (wpAny_throw ?_))
  exact hE _ _ (((Heap.SameBut.update ..).extBut.push _).push _) ⟨_, Heap.get?_push_size _ rfl, rfl⟩
theorem pyIter_bytes {Q : Value → Shared → Prop} (hQ : Q (.ref s.heap.objs.size) { s with heap := s.heap.push { cls := .type "bytes_iterator", data := .fields #[.bytes b t, .int 0 0] } }) : wpAny (model prog w) A (pyIter (.bytes b t)) Q E s := by
  refine wpAny_pyIter_slot (typeIs_bytes s b t) FB.slot_bytes_iter (wpAny_call_entry FB.slot_bytes_iter (typeIs_bytes s b t) FB.entry_bytes_iter ?_ (FB.args_bytes_iter_1 _))
  show wpAny _ _ (do ret (← newFields "bytes_iterator" [.bytes b t, rawInt 0])) _ _ s
  exact wpAny_bind (wpAny_newObj_type (wpAny_pure ⟨_, rfl, "bytes_iterator", _, ⟨_, Heap.get?_push_size _ rfl, rfl⟩, slot_bi_next.lookup, hQ⟩))
end
theorem draws_bytes {prog : Program} {w : World} {A : Around} (hh : A.handled = none) (it : Addr) (b : Array UInt8) (t : Tok) :
    Draws prog w A it [it] b.size (fun i v => ∃ c u, b[i]? = some c ∧ v = .int (c.toNat : Nat) u) (fun i h => IsBi h it b t i) where
  live := fun _ _ st => let ⟨o, ho, _⟩ := st; ⟨o, ho⟩
  frame := fun _ _ _ st hk => let ⟨o, ho, r⟩ := st; ⟨o, hk it (by simp) o ho, r⟩
  item := fun i s Q E hi st hQ => by
    refine nextOf_bi_item st (c := b[i]) (by simp [hi]) fun h' hit' hs' => ?_
    exact hQ _ h' (s.toks + 1) ⟨_, _, by simp [hi], rfl⟩ hit' hs'
  done := fun s Q E st hE => nextOf_bi_end hh st (by simp) hE
theorem begins_bytes (b : Array UInt8) (t : Tok) : Begins (.bytes b t) { cls := .type "bytes_iterator", data := .fields #[.bytes b t, .int 0 0] } fun _ => True where
  iter := fun prog w A E s Q _ h => pyIter_bytes h
  keeps := fun _ _ _ _ => trivial
  free := rfl
end DLB
set_option Elab.async false
set_option linter.all false
set_option maxRecDepth 100000
set_option maxHeartbeats 4000000
set_option autoImplicit false
namespace DLC
open PySem PySem.W Builtin PyProof.Rows SeqAt
theorem slot_bytes_eq_refl : Slot "bytes" (cmpInfo .Eq).2.2 "bytes.__eq__" :=
  .of (owner := "bytes") (n := "__eq__") (by rw [typeLookup_type, builtinLookup_eq_fast]; kernel_rfl) (by decide +kernel) (by decide +kernel) (by decide +kernel)
    (by first | exact .inl (by decide +kernel) | exact .inr (by decide +kernel)) (by rw [isSubtype_type]; kernel_rfl)
theorem slot_bytes_ne_refl : Slot "bytes" (cmpInfo .NotEq).2.2 "bytes.__ne__" :=
  .of (owner := "bytes") (n := "__ne__") (by rw [typeLookup_type, builtinLookup_eq_fast]; kernel_rfl) (by decide +kernel) (by decide +kernel) (by decide +kernel)
    (by first | exact .inl (by decide +kernel) | exact .inr (by decide +kernel)) (by rw [isSubtype_type]; kernel_rfl)
theorem bytes_eq_none (b : Array UInt8) (t : Tok) : Gives («bytes.__eq__» ⟨[.bytes b t, .none], []⟩) (.val (Value.notImplemented)) := .of_wp fun M A E s Q hq => by
  show wpAny M A (isInstance .none (.type "bytes") >>= fun r => _) _ E s
  refine wpAny_bind (wpAny_isInstance (T := "NoneType") rfl F.sub_NoneType_bytes ?_)
  refine wpAny_bind (wpAny_isInstance (T := "NoneType") rfl F.sub_NoneType_bytes ?_)
  simp only [Bool.not_false, if_true]
  exact wpAny_bind (wpAny_rule (wpAny_pure ⟨_, rfl, hq⟩))
theorem bytes_ne_none (b : Array UInt8) (t : Tok) : Gives («bytes.__ne__» ⟨[.bytes b t, .none], []⟩) (.val (Value.notImplemented)) := .of_wp fun M A E s Q hq => by
  show wpAny M A (isInstance .none (.type "bytes") >>= fun r => _) _ E s
  refine wpAny_bind (wpAny_isInstance (T := "NoneType") rfl F.sub_NoneType_bytes ?_)
  refine wpAny_bind (wpAny_isInstance (T := "NoneType") rfl F.sub_NoneType_bytes ?_)
  simp only [Bool.not_false, if_true]
  exact wpAny_bind (wpAny_rule (wpAny_pure ⟨_, rfl, hq⟩))
theorem none_eq_bytes (b : Array UInt8) (t : Tok) : Gives (Builtin.«NoneType.__eq__» ⟨[.none, .bytes b t], []⟩) (.val (Value.notImplemented)) :=
  .of_wp fun M A E s Q h => by obtain ⟨hp, g, d, tk, os⟩ := s; wp_walk; exact ⟨_, rfl, h⟩
theorem none_ne_bytes (b : Array UInt8) (t : Tok) : Gives (Builtin.«NoneType.__ne__» ⟨[.none, .bytes b t], []⟩) (.val (Value.notImplemented)) :=
  .of_wp fun M A E s Q h => by obtain ⟨hp, g, d, tk, os⟩ := s; wp_walk; exact ⟨_, rfl, h⟩
section
variable {prog : Program} {w : World} {A : Around} {E Q : Value → Shared → Prop} {s : Shared} {b c : Array UInt8} {t u : Tok}
theorem rc_bytes (hu : A.units < cLine) (q : Q (.bool (b == c)) s) : wpAny (model prog w) A (richCompare .Eq (.bytes b t) (.bytes c u)) Q E s := by
  refine wpAny_richCompare_same_room (op := .Eq) (typeIs_bytes s b t) (typeIs_bytes s c u) FB.slot_bytes_eq (call_gives FB.slot_bytes_eq (typeIs_bytes s b t) FB.entry_bytes_eq (FB.args_bytes_eq_2 _ _) (gives_bytes_eq b c t u) ⟨(fun z => nomatch z), ?_⟩) hu
  have e : (b.toList == c.toList) = (b == c) := by
    rw [Bool.eq_iff_iff]; simp [Array.toList_inj]
  rw [e]; exact q
theorem rcn_bytes (hu : A.units < cLine) (q : Q (.bool (b != c)) s) : wpAny (model prog w) A (richCompare .NotEq (.bytes b t) (.bytes c u)) Q E s := by
  refine wpAny_richCompare_same_room (op := .NotEq) (typeIs_bytes s b t) (typeIs_bytes s c u) FB.slot_bytes_ne (call_gives FB.slot_bytes_ne (typeIs_bytes s b t) FB.entry_bytes_ne (FB.args_bytes_ne_2 _ _) (gives_bytes_ne b c t u) ⟨(fun z => nomatch z), ?_⟩) hu
  have e : (b.toList != c.toList) = (b != c) := by
    rw [Bool.eq_iff_iff]; simp [bne, Array.toList_inj]
  rw [e]; exact q
theorem rc_bytes_none (q : Q (.bool false) s) : wpAny (model prog w) A (richCompare .Eq (.bytes b t) .none) Q E s :=
  rc_eq_decline_or (k := false) (typeIs_bytes s b t) (Tb := "NoneType") rfl (by decide) F.sub_NoneType_bytes FB.slot_bytes_eq PySem.F.slot_NoneType_eq_refl
    (fun _ z => call_gives FB.slot_bytes_eq (typeIs_bytes s b t) FB.entry_bytes_eq (FB.args_bytes_eq_2 _ _) (bytes_eq_none b t) z)
    (fun _ z => call_gives PySem.F.slot_NoneType_eq_refl rfl PySem.F.entry_NoneType_eq (PySem.F.args_NoneType_eq_2 _ _) (none_eq_bytes b t) z)
    (fun _ z => wpAny_of_eq (rfl : isSame (.bytes b t) .none = pure false) z) (.inl rfl) q
theorem rc_none_bytes (q : Q (.bool false) s) : wpAny (model prog w) A (richCompare .Eq .none (.bytes b t)) Q E s :=
  rc_eq_decline_or (k := false) (Ta := "NoneType") rfl (typeIs_bytes s b t) (by decide) F.sub_bytes_NoneType PySem.F.slot_NoneType_eq slot_bytes_eq_refl
    (fun _ z => call_gives PySem.F.slot_NoneType_eq rfl PySem.F.entry_NoneType_eq (PySem.F.args_NoneType_eq_2 _ _) (none_eq_bytes b t) z)
    (fun _ z => call_gives slot_bytes_eq_refl (typeIs_bytes s b t) FB.entry_bytes_eq (FB.args_bytes_eq_2 _ _) (bytes_eq_none b t) z)
    (fun _ z => wpAny_of_eq (rfl : isSame .none (.bytes b t) = pure false) z) (.inl rfl) q
theorem rcn_bytes_none (q : Q (.bool true) s) : wpAny (model prog w) A (richCompare .NotEq (.bytes b t) .none) Q E s :=
  rc_ne_decline_or (k := false) (typeIs_bytes s b t) (Tb := "NoneType") rfl (by decide) F.sub_NoneType_bytes FB.slot_bytes_ne PySem.F.slot_NoneType_ne_refl
    (fun _ z => call_gives FB.slot_bytes_ne (typeIs_bytes s b t) FB.entry_bytes_ne (FB.args_bytes_ne_2 _ _) (bytes_ne_none b t) z)
    (fun _ z => call_gives PySem.F.slot_NoneType_ne_refl rfl PySem.F.entry_NoneType_ne (PySem.F.args_NoneType_ne_2 _ _) (none_ne_bytes b t) z)
    (fun _ z => wpAny_of_eq (rfl : isSame (.bytes b t) .none = pure false) z) (.inl rfl) q
theorem rcn_none_bytes (q : Q (.bool true) s) : wpAny (model prog w) A (richCompare .NotEq .none (.bytes b t)) Q E s :=
  rc_ne_decline_or (k := false) (Ta := "NoneType") rfl (typeIs_bytes s b t) (by decide) F.sub_bytes_NoneType PySem.F.slot_NoneType_ne slot_bytes_ne_refl
    (fun _ z => call_gives PySem.F.slot_NoneType_ne rfl PySem.F.entry_NoneType_ne (PySem.F.args_NoneType_ne_2 _ _) (none_ne_bytes b t) z)
    (fun _ z => call_gives slot_bytes_ne_refl (typeIs_bytes s b t) FB.entry_bytes_ne (FB.args_bytes_ne_2 _ _) (bytes_ne_none b t) z)
    (fun _ z => wpAny_of_eq (rfl : isSame .none (.bytes b t) = pure false) z) (.inl rfl) q
end
theorem slot_bytes_lt : Slot "bytes" "__lt__" "bytes.__lt__" :=
  .of (owner := "bytes") (n := "__lt__") (by rw [typeLookup_type, builtinLookup_eq_fast]; kernel_rfl) (by decide +kernel) (by decide +kernel) (by decide +kernel)
    (by first | exact .inl (by decide +kernel) | exact .inr (by decide +kernel)) (by rw [isSubtype_type]; kernel_rfl)
theorem entry_bytes_lt : entryFor table "bytes.__lt__" = some Builtin.«bytes.__lt__» := entryFor_of_tree (by kernel_rfl)
theorem args_bytes_lt_2 (a b : Value) : argsOk "bytes.__lt__" ⟨[a, b], []⟩ := by
  unfold argsOk; rw [signature?_of (id := "bytes.__lt__") (n := ['_', '_', 't', 'l', '_', '_']) (o := ['s', 'e', 't', 'y', 'b']) (by kernel_rfl) FB.owner_bytes]; kernel_rfl
theorem gives_bytes_lt (b c : Array UInt8) (t u : Tok) : Gives («bytes.__lt__» ⟨[.bytes b t, .bytes c u], []⟩) (.val (.bool (Builtin.Bytes.order b.toList c.toList == .lt))) := by
  refine .of_wp fun M A E s Q hq => ?_
  show wpAny M A (isInstance (.bytes c u) (.type "bytes") >>= fun r => _) _ E s
  refine wpAny_bind (wpAny_isInstance (typeIs_bytes s c u) F.sub_bytes_bytes ?_)
  exact wpAny_pure ⟨_, rfl, hq⟩
end DLC
set_option Elab.async false
set_option linter.all false
set_option maxRecDepth 100000
set_option maxHeartbeats 4000000
set_option autoImplicit false
namespace DL
open PySem L2
inductive Wkd where
  | txt (z : Str)
  | byt (b : Array UInt8)
  | lst (a : Addr)
  | tup (a : Addr)
namespace Wkd
def v : Wkd → V
  | .txt z => .str z
  | .byt b => .byt b
  | .lst a => .ref a
  | .tup a => .ref a
def val (t : Tok) : Wkd → Value
  | .txt z => .str z t
  | .byt b => .bytes b t
  | .lst a => .ref a
  | .tup a => .ref a
def has (K : PySem.W.Frag) (H : Hp) : Wkd → List V → Prop
  | .txt z, xs => xs = z.cps.toList.map fun c => V.str ⟨#[c]⟩
  | .byt b, xs => xs = b.toList.map fun c => V.int (c.toNat : Nat)
  | .lst a, xs => SqL K H a xs
  | .tup a, xs => SqT K H a xs
def st (t : Tok) (it : Addr) (i : Nat) (h : Heap) : Wkd → Prop
  | .txt z => h.IsStrIter it (strIterType z) z t i
  | .byt b => DLB.IsBi h it b t i
  | .lst a => h.IsListIter it a i
  | .tup a => h.IsTupleIter it a i
def ads : Wkd → List Addr
  | .txt _ => []
  | .byt _ => []
  | .lst a => [a]
  | .tup a => [a]
def mk (t : Tok) : Wkd → Obj
  | .txt z => { cls := .type (strIterType z), data := .fields #[.str z t, .int 0 0] }
  | .byt b => { cls := .type "bytes_iterator", data := .fields #[.bytes b t, .int 0 0] }
  | .lst a => { cls := .type "list_iterator", data := .fields #[.ref a, .int 0 0] }
  | .tup a => { cls := .type "tuple_iterator", data := .fields #[.ref a, .int 0 0] }
variable {k : Wkd} {t : Tok} {it : Addr} {i : Nat} {h h' : Heap}
theorem st_obj (s : k.st t it i h) : ∃ o, h.get? it = some o ∧ ∀ v, o.data ≠ .cell v := by
  cases k <;> exact let ⟨o, e, _, d⟩ := s; ⟨o, e, fun v z => by rw [d] at z; cases z⟩
theorem st_keep (s : k.st t it i h) (e : ∀ o, h.get? it = some o → h'.get? it = some o) : k.st t it i h' := by
  cases k <;> exact let ⟨o, ho, r⟩ := s; ⟨o, e o ho, r⟩
theorem st_mk (e : h.get? it = some (k.mk t)) : k.st t it 0 h := by
  cases k <;> exact ⟨_, e, rfl, rfl⟩
theorem rel {u : Value} (r : RelV k.v u) : ∃ t, u = k.val t := by
  cases k with
  | txt z => exact r
  | byt b => exact r
  | lst a => exact ⟨0, r⟩
  | tup a => exact ⟨0, r⟩
variable {X : Cx} {pins : List (Addr × Obj)} {σ : St} {H : Hp} {s : Shared} {xs ys : List V}
theorem inj (I : Inv X pins σ H s) (q : k.has X.K H xs) (q' : k.has X.K H ys) : ys = xs := by
  cases k with
  | txt z => exact q'.trans q.symm
  | byt b => exact q'.trans q.symm
  | lst a => exact I.list_inj q' q
  | tup a => exact I.tuple_inj q' q
theorem lt (I : Inv X pins σ H s) (q : k.has X.K H xs) : ∀ a ∈ k.ads, a < s.heap.objs.size := by
  intro a ha
  cases k with
  | txt z => cases ha
  | byt b => cases ha
  | lst b =>
    obtain rfl := List.mem_singleton.mp ha
    obtain ⟨its, rv, p, _⟩ := I.list q
    obtain ⟨o, e, _⟩ := p.isList
    exact Heap.lt_size e
  | tup b =>
    obtain rfl := List.mem_singleton.mp ha
    obtain ⟨its, rv, p, _⟩ := I.tuple q
    obtain ⟨o, e, _⟩ := p
    exact Heap.lt_size e
theorem begins (I : Inv X pins σ H s) (q : k.has X.K H xs) (t : Tok) : ∃ G : Heap → Prop, Begins (k.val t) (k.mk t) G ∧ G s.heap := by
  cases k with
  | txt z => exact ⟨_, begins_text z t, trivial⟩
  | byt b => exact ⟨_, DLB.begins_bytes b t, trivial⟩
  | lst b =>
    obtain ⟨its, rv, p, _⟩ := I.list q
    exact ⟨_, begins_list b its.toArray, p.isList⟩
  | tup b =>
    obtain ⟨its, rv, p, _⟩ := I.tuple q
    exact ⟨_, begins_tuple b its.toArray, p⟩
theorem weak {P : Program} {w : World} {A : Around} {fp : List Addr} {n : Nat} {φ ψ : Nat → Value → Prop} {S : Nat → Heap → Prop} (D : Draws P w A it fp n φ S) (h : ∀ i v, φ i v → ψ i v) : Draws P w A it fp n ψ S :=
  ⟨D.live, D.frame, fun i s Q E hi hs hQ => D.item i s Q E hi hs fun x h' tk hp => hQ x h' tk (h _ _ hp), D.done⟩
theorem seqD {its : List Value} (r : Vals xs its) (i : Nat) (v : Value) (e : its.toArray[i]? = some v) : ∃ x, xs[i]? = some x ∧ RelV x v := by
  have e' : its[i]? = some v := by simpa using e
  have hl : xs.length = its.length := Paired.length r
  have hi : i < xs.length := by rw [hl]; exact (List.getElem?_eq_some_iff.mp e').1
  obtain ⟨u, hu, ru⟩ := r.get (List.getElem?_eq_getElem hi)
  rw [e'] at hu
  cases hu
  exact ⟨_, List.getElem?_eq_getElem hi, ru⟩
theorem draws (I : Inv X pins σ H s) (q : k.has X.K H xs) {A : Around} (hh : A.handled = none) (ne : it ∉ k.ads) (t : Tok) :
    ∃ S : Nat → Heap → Prop, Draws X.prog X.w A it (it :: k.ads) xs.length (fun i v => ∃ x, xs[i]? = some x ∧ RelV x v) S ∧ (∀ i, k.st t it i s.heap → S i s.heap) ∧ ∀ i h, S i h → k.st t it i h := by
  cases k with
  | txt z =>
    have hn : xs.length = z.cps.size := by rw [show xs = _ from q]; simp
    rw [hn]
    refine ⟨fun i h => h.IsStrIter it (strIterType z) z t i, weak (Draws.text hh it z t) fun i v ⟨c, u, hc, ev⟩ => ⟨.str ⟨#[c]⟩, ?_, u, ev⟩, fun i h => h, fun i h s => s⟩
    rw [show xs = _ from q, List.getElem?_map]
    have : z.cps.toList[i]? = some c := by simpa using hc
    rw [this]
    rfl
  | byt b =>
    have hn : xs.length = b.size := by rw [show xs = _ from q]; simp
    rw [hn]
    refine ⟨fun i h => DLB.IsBi h it b t i, weak (DLB.draws_bytes hh it b t) fun i v ⟨c, u, hc, ev⟩ => ⟨.int (c.toNat : Nat), ?_, u, ev⟩, fun i h => h, fun i h s => s⟩
    rw [show xs = _ from q, List.getElem?_map]
    have : b.toList[i]? = some c := by simpa using hc
    rw [this]
    rfl
  | lst b =>
    obtain ⟨its, rv, p, _⟩ := I.list q
    have hn : xs.length = its.toArray.size := by simpa using Paired.length rv
    rw [hn]
    refine ⟨fun i h => h.IsListIter it b i ∧ h.IsList b its.toArray, weak (Draws.list hh it b (fun e => ne (by rw [e]; exact List.mem_singleton.mpr rfl)) its.toArray) fun i v e => seqD rv i v e, fun i h => ⟨h, p.isList⟩, fun i h s => s.1⟩
  | tup b =>
    obtain ⟨its, rv, p, _⟩ := I.tuple q
    have hn : xs.length = its.toArray.size := by simpa using Paired.length rv
    rw [hn]
    refine ⟨fun i h => h.IsTupleIter it b i ∧ h.IsTuple b its.toArray, weak (Draws.tuple hh it b (fun e => ne (by rw [e]; exact List.mem_singleton.mpr rfl)) its.toArray) fun i v e => seqD rv i v e, fun i h => ⟨h, p⟩, fun i h s => s.1⟩
end Wkd
structure Five (k1 k2 : Wkd) (z TI TO i1 i2 : Addr) : Prop where
  nd : [z, TI, TO, i1, i2].Nodup
  f1 : ∀ a ∈ k1.ads, a ∉ [z, TI, TO, i1, i2]
  f2 : ∀ a ∈ k2.ads, a ∉ [z, TI, TO, i1, i2]
end DL
set_option Elab.async false
set_option linter.all false
set_option maxRecDepth 100000
set_option maxHeartbeats 4000000
set_option autoImplicit false
namespace DL
open PySem L2
theorem Wkd.shift {P : Program} {w : World} {A : Around} {it : Addr} {fp : List Addr} {n : Nat} {φ : Nat → Value → Prop} {S : Nat → Heap → Prop} (D : Draws P w A it fp n φ S) (c : Nat) : Draws P w A it fp (n + c) (fun i v => φ (i - c) v) (fun i h => c ≤ i ∧ S (i - c) h) where
  live := fun i h s => D.live _ h s.2
  frame := fun i h h' s k => ⟨s.1, D.frame _ h h' s.2 k⟩
  item := fun i s Q E hi hs hQ => D.item (i - c) s Q E (by omega) hs.2 fun x h' tk hp s' sb => hQ x h' tk hp ⟨by omega, by rw [show i + 1 - c = i - c + 1 by omega]; exact s'⟩ sb
  done := fun s Q E hs hE => D.done s Q E (by have h2 := hs.2; rw [Nat.add_sub_cancel] at h2; exact h2) hE
def IteG (K : PySem.W.Frag) (k : Wkd) (n c : Nat) : It where
  go := fun i H => ∃ xs x, k.has K H xs ∧ xs.length = n ∧ xs[i]? = some x
  yld := fun i H v H' => ∃ T x, v = .ref T ∧ H T = none ∧ H' = upd H T (.tup [.int ((i + c : Nat)), x]) ∧ ∀ xs, k.has K H xs → xs[i]? = some x
  stop := fun i H => ∃ xs, k.has K H xs ∧ xs.length = n ∧ n ≤ i
theorem turn_enumG {P : Program} {w : World} {K : PySem.W.Frag} {elts : List Expr} {kk : Nat} {tpos : Pos} {k : Wkd} {n c : Nat} {t : Tok} {e it : Addr} (hne : e ≠ it) (h1 : ∀ a ∈ k.ads, a ≠ e ∧ a ≠ it) :
    Turn P w K (.Tuple elts kk tpos) (IteG K k n c) [e, it] e (fun i h => (∃ old, IsEnum h e it ((i + c : Nat) : Int) old) ∧ k.st t it i h ∧ i ≤ n) where
  mem := List.mem_cons_self
  obj := fun i h ⟨⟨old, he⟩, s1, _⟩ b hb => by
    rcases List.mem_cons.mp hb with z | hb
    · rw [z]; exact ⟨_, he, fun v q => nomatch q⟩
    · rw [List.mem_singleton.mp hb]; exact Wkd.st_obj s1
  keep := fun i h h' ⟨⟨old, he⟩, s1, l⟩ kp => ⟨⟨old, kp e (by simp) _ he⟩, Wkd.st_keep s1 fun o q => kp it (by simp) o q, l⟩
  item := by
    intro X hP hw hK hc i pins s σ H E I hf ⟨⟨old, he⟩, s1, l⟩ ⟨xs, x, q1, e1, hx⟩
    subst hP hw hK
    have hh : X.A.in1.handled = none := I.ok.hd hc
    obtain ⟨S, D, to_, of_⟩ := k.draws I q1 hh (it := it) (fun hm => (h1 _ hm).2 rfl) t
    have hi : i < xs.length := (List.getElem?_eq_some_iff.mp hx).1
    have hel : e < s.heap.objs.size := Heap.lt_size he
    refine wpAny_pyNext_enum_itemD (Wkd.shift D c) he ⟨Nat.le_add_left c i, by rw [Nat.add_sub_cancel]; exact to_ _ s1⟩ (by omega) hne (fun hm => (List.mem_cons.mp hm).elim hne fun hm => (h1 _ hm).1 rfl) fun v h' tk hv ho hst hT hsz hk => ?_
    rw [Nat.add_sub_cancel] at hv
    obtain ⟨x', hx', rx⟩ := hv
    obtain rfl := Option.some.inj (hx.symm.trans hx')
    refine ⟨_, rfl, wpAny_letOwnedTupleGo_enum (s := { s with heap := h', toks := tk + 1 }) ho fun h'' he' sb => ?_⟩
    have hT2 : h''.get? s.heap.objs.size = some { cls := .type "tuple", data := .seq #[.int ((i + c : Nat) : Int) tk, v] } := (sb.2 _ (Nat.ne_of_gt hel)).trans hT
    have new : ObjOk X.prog X.w (upd H s.heap.objs.size (.tup [.int ((i + c : Nat)), x])) h'' s.heap.objs.size (.tup [.int ((i + c : Nat)), x]) :=
      ⟨by show 2 ≤ sizeLine; decide, [.int ((i + c : Nat) : Int) tk, v], .cons ⟨_, rfl⟩ (.cons rx .nil), ⟨_, hT2, rfl, _, rfl⟩⟩
    have I1 : Inv X pins σ (upd H s.heap.objs.size (.tup [.int ((i + c : Nat)), x])) { s with heap := h'', toks := tk + 1 } :=
      I.turnedNew (ch := [e, it]) (fun b ob hb q => (sb.2 b (fun z => hb (by simp [z]))).trans (hk b ob (fun z => hb (by simp [z])) (fun z => hb (by simp [z])) q)) hf (Nat.le_refl _) new
    refine ⟨.ref s.heap.objs.size, _, I1, rfl, ⟨_, x, rfl, I.hok.fresh (Nat.le_refl _), rfl, fun ys hy => by rw [k.inj I q1 hy]; exact hx⟩, ⟨⟨v, ?_⟩, ?_, by omega⟩, fun b hb => ?_⟩
    · rw [show ((i + 1 + c : Nat) : Int) = ((i + c : Nat) : Int) + 1 by omega]
      exact he'
    · have h2 := hst.2
      rw [show i + c + 1 - c = i + 1 by omega] at h2
      exact Wkd.st_keep (of_ _ _ h2) fun o q => (sb.2 it (Ne.symm hne)).trans q
    · have hlt2 : b < s.heap.objs.size := by
        rcases List.mem_cons.mp hb with z | hb
        · rw [z]; exact hel
        · rw [List.mem_singleton.mp hb]; obtain ⟨o, q, _⟩ := Wkd.st_obj s1; exact Heap.lt_size q
      rw [upd_ne (Nat.ne_of_lt hlt2)]
      exact (hf b hb).1
  done := by
    intro X hP hw hK hc i pins s σ H E I hf ⟨⟨old, he⟩, s1, l⟩ ⟨xs, q1, e1, hend⟩
    subst hP hw hK e1
    have hh : X.A.in1.handled = none := I.ok.hd hc
    obtain ⟨S, D, to_, of_⟩ := k.draws I q1 hh (it := it) (fun hm => (h1 _ hm).2 rfl) t
    obtain rfl : i = xs.length := by omega
    obtain ⟨f0, f1, f2, f3, f4, f5⟩ := hf it (by simp)
    exact wpAny_pyNext_enum_endD D he (to_ _ s1) fun h' eb => ⟨rfl, I.turned (t' := s.toks) (fun b o hb q => eb b o hb q) f0 f1 f3 f4 f5⟩
  self := fun A i s Q E ⟨⟨_, he⟩, _⟩ h => wpAny_pyIter_enum he h
def iEnW (K : PySem.W.Frag) (c : Nat) (ta : TA) : TI := fun σ H R => ta σ H fun vs H1 => ∃ (k : Wkd) (xs : List V), vs = [k.v] ∧ k.has K H1 xs ∧ R (IteG K k xs.length c) H1
theorem enum_pie {X : Cx} {pins : List (Addr × Obj)} {σ : St} {H1 : Hp} {s1 : Shared} {h' : Heap} {R : It → Hp → Prop} {k : Wkd} {xs : List V} {c : Nat} {t : Tok} {p tpos : Pos} {elts : List Expr} {kk : Nat} (I1 : Inv X pins σ H1 s1) (q1 : k.has X.K H1 xs) (q : R (IteG X.K k xs.length c) H1)
    (he : IsEnum h' (s1.heap.objs.size + 1) s1.heap.objs.size ((c : Nat) : Int) .none) (ho : h'.get? s1.heap.objs.size = some (k.mk t)) (hk : ∀ b o, s1.heap.get? b = some o → h'.get? b = some o) :
    PIE X pins σ (.Tuple elts kk tpos) R (.ref (s1.heap.objs.size + 1)) { s1 with heap := h' } := by
  have two : ∀ b ∈ [s1.heap.objs.size + 1, s1.heap.objs.size], s1.heap.objs.size ≤ b := fun b hb => by
    rcases List.mem_cons.mp hb with z | hb
    · rw [z]; exact Nat.le_add_right _ _
    · rw [List.mem_singleton.mp hb]; exact Nat.le_refl _
  refine ⟨_, [s1.heap.objs.size + 1, s1.heap.objs.size], _, _, H1, rfl, I1.kept (t' := s1.toks) hk, turn_enumG (k := k) (n := xs.length) (c := c) (t := t) (Nat.succ_ne_self _) (fun a ha => ?_), ⟨⟨.none, by rw [Nat.zero_add]; exact he⟩, Wkd.st_mk ho, Nat.zero_le _⟩, fun b hb => I1.fpOk (two b hb) (I1.hok.fresh (two b hb)), q⟩
  have hl := k.lt I1 q1 a ha
  exact ⟨Nat.ne_of_lt (Nat.lt_succ_of_lt hl), Nat.ne_of_lt hl⟩
theorem pi_enumG {X : Cx} {e : Expr} {ta : TA} {p pos tpos : Pos} {elts : List Expr} {kk : Nat} (hg : Gl X "enumerate") (hm : X.mg "enumerate" = none) (ha : PA X [e] ta) (hs : starEach [e] X.env = [(false, eval e X.env)] := by rfl) :
    PI X (.Tuple elts kk tpos) (.Call (.Name "enumerate" p) [e] [] pos) (iEnW X.K 0 ta) := by
  refine ⟨fun pins s σ H R I h => PyProof.Rows.Call_ (ld_blt I hg hm PyProof.Rows.boot_enumerate (PyProof.Rows.callWith_type1 (thn (ha.run pos pins s σ H _ I h) fun us s1 ⟨vs, H1, I1, r1, k, xs, ev, q1, q⟩ => ?_) hs rfl))⟩
  subst ev
  obtain ⟨u, rfl, ru⟩ := vals1 r1
  obtain ⟨t, rfl⟩ := Wkd.rel ru
  obtain ⟨G, B, g⟩ := k.begins I1 q1 t
  exact call_enum1 B g fun h' he ho hk => wpAny_pyIter_enum he (enum_pie (p := p) I1 q1 q he ho hk)
@[simp] def wkD : D → Option (List D)
  | .lst xs => some xs
  | .tup xs => some xs
  | .str z => some (z.cps.toList.map fun c => D.str ⟨#[c]⟩)
  | .byt b => some (b.toList.map fun c => D.int (c.toNat : Nat))
  | _ => none
theorem Rep.wkd {K : PySem.W.Frag} {cl : ClW} {F : Hp} {v : V} {d : D} {xs : List D} (r : Rep K cl F v d) (e : wkD d = some xs) : ∃ (k : Wkd) (us : List V), v = k.v ∧ k.has K F us ∧ Reps K cl F us xs := by
  cases d with
  | lst ys =>
    cases e
    obtain ⟨a, us, rfl, h1, h2⟩ := r.toLst
    exact ⟨.lst a, us, rfl, h1, h2⟩
  | tup ys =>
    cases e
    obtain ⟨a, us, rfl, h1, h2⟩ := r.toTup
    exact ⟨.tup a, us, rfl, h1, h2⟩
  | str z =>
    cases e
    obtain rfl := r.toStr
    refine ⟨.txt z, _, rfl, rfl, ?_⟩
    induction z.cps.toList with
    | nil => exact .nil
    | cons c l ih => exact .cons (.str _) ih
  | byt b =>
    cases e
    obtain rfl := r.toByt
    refine ⟨.byt b, _, rfl, rfl, ?_⟩
    induction b.toList with
    | nil => exact .nil
    | cons c l ih => exact .cons (.int _) ih
  | _ => cases e
theorem Wkd.same' {K : PySem.W.Frag} {k : Wkd} {H H' : Hp} {us : List V} (h : k.has K H us) (s : Same H H') : k.has K H' us := by
  cases k with
  | txt z => exact h
  | byt b => exact h
  | lst a => exact same_l s h
  | tup a => exact same_t s h
@[simp] def iZpW (τ τ' : DTE) : DTI := fun ρ M R X => τ ρ M (fun d M1 => τ' ρ M1 (fun e M2 => ∃ xs ys, wkD d = some xs ∧ wkD e = some ys ∧ R ((xs.zip ys).map fun p => D.tup [p.1, p.2]) M2) X) X
@[simp] def iEnN (c : Nat) (τ : DTE) : DTI := fun ρ M R X => τ ρ M (fun d M1 => ∃ xs, wkD d = some xs ∧ R (xs.zipIdx.map fun p => D.tup [.int ((p.2 + c : Nat)), p.1]) M1) X
section
variable {cl : ClW} {X : Cx} {W : WX} {a b : Expr} {pos : Pos} {τa τb : DTE}
theorem enum_low {tg it : Expr} {c : Nat} (h : PI X tg it (iEnW X.K c (lowA X.K cl W (dCons τa dNil)))) : DI cl X W tg it (iEnN c τa) :=
  ⟨pi_imp h fun σ H R ⟨F, ρ, M, Rd, Xd, g, s, q, p, w⟩ =>
    ⟨F, ρ, M, fun ds M1 => ∃ d xs, ds = [d] ∧ wkD d = some xs ∧ Rd (xs.zipIdx.map fun p => D.tup [.int ((p.2 + c : Nat)), p.1]) M1, Xd, g, s, (by
      unfold iEnN at q
      unfold dCons dNil
      have same : (fun d M1 => ∃ xs, wkD d = some xs ∧ Rd (xs.zipIdx.map fun p => D.tup [.int ((p.2 + c : Nat)), p.1]) M1) = (fun d M1 => ∃ d' xs, [d] = [d'] ∧ wkD d' = some xs ∧ Rd (xs.zipIdx.map fun p => D.tup [.int ((p.2 + c : Nat)), p.1]) M1) := by
        funext d M1
        simp
      rw [same] at q
      exact q), fun vs H' F' ds M' sm g' r ⟨d, xs, e1, e2, q'⟩ => (by
      subst e1
      obtain ⟨v, ws, rfl, r1, r2⟩ := r.inv
      obtain rfl := r2.inv0
      obtain ⟨k, us, rfl, h1, h2⟩ := r1.wkd e2
      refine ⟨k, us, rfl, Wkd.same' h1 g'.sub, p _ _ F' _ M' sm g' (fun i F2 H2 M2 sm2 g2 => ⟨fun d0 hd => ?_, fun hl => ⟨us, Wkd.same' h1 (sm2.trans g2.sub), rfl, by rw [h2.length]; simpa using hl⟩⟩) q'⟩
      rw [List.getElem?_map, List.getElem?_zipIdx] at hd
      cases e3 : xs[i]? with
      | none => rw [e3] at hd; cases hd
      | some d1 =>
        rw [e3] at hd
        cases hd
        obtain ⟨v0, h3, h4⟩ := h2.get e3
        refine ⟨⟨us, v0, Wkd.same' h1 (sm2.trans g2.sub), rfl, h3⟩, fun x H3 ⟨T, x0, ex, hT, eH, hy⟩ => ?_⟩
        subst ex eH
        obtain rfl := Option.some.inj (h3.symm.trans (hy us (Wkd.same' h1 (sm2.trans g2.sub))))
        have sm3 : Same F2 (upd F2 T (.tup [.int ((i + c : Nat)), v0])) := same_new (g2.freshF hT)
        refine ⟨_, sm3, g2.new hT, .tup (SqT1.of upd_same) (.cons ?_ (.one (h4.mono (sm2.trans sm3))))⟩
        simpa using Rep.int ((i + c : Nat) : Int)), w⟩⟩
theorem di_enumW {elts : List Expr} {kk : Nat} {tpos p : Pos} (hg : Gl X "enumerate") (hm : X.mg "enumerate" = none) (ha : DE cl X W a τa) (hs : starEach [a] X.env = [(false, eval a X.env)] := by rfl) :
    DI cl X W (.Tuple elts kk tpos) (.Call (.Name "enumerate" p) [a] [] pos) (iEnN 0 τa) := enum_low (pi_enumG hg hm (da_cons (W := W) (cl := cl) ha da_nil hs).pa hs)
end
end DL
set_option Elab.async false
set_option linter.all false
set_option maxRecDepth 100000
set_option maxHeartbeats 4000000
set_option autoImplicit false
namespace DL
open PySem L2
structure KTab (K : PySem.W.Frag) (w : World) (d : Addr) (tb : List (Str × Str)) : Prop where
  kd : ∃ es n, KDict K w d es n
  get : ∀ z : Str, match tb.lookup z with
    | some v => ∃ t, PySem.W.nsIn K d z = some (some (.str v t))
    | none => PySem.W.nsIn K d z = some none
section
variable {cl : ClW} {X : Cx} {W : WX} {x : Str} {d : Addr} {tb : List (Str × Str)} {a : Expr} {τ : DTE} {p pos : Pos}
end
end DL
set_option Elab.async false
set_option linter.all false
set_option maxRecDepth 100000
set_option maxHeartbeats 4000000
set_option autoImplicit false
namespace DL
open PySem L2
section
variable {K : PySem.W.Frag} {cl : ClW}
end
section
variable {K : PySem.W.Frag} {cl : ClW}
end
end DL
set_option Elab.async false
set_option linter.all false
set_option maxRecDepth 100000
set_option maxHeartbeats 4000000
set_option autoImplicit false
namespace DL
open PySem L2
section
variable {K : PySem.W.Frag} {cl : ClW} {X : Cx}
end
end DL
set_option Elab.async false
set_option linter.all false
set_option maxRecDepth 100000
set_option maxHeartbeats 4000000
set_option autoImplicit false
namespace DL
open PySem L2
section
variable {X : Cx} {e : Expr} {es : List Expr} {ta : TA} {p pos : Pos}
end
section
variable {cl : ClW} {X : Cx} {W : WX} {k : Nat} {x : Str} {c : Nat} {fs : List Str} {e : Expr} {es : List Expr} {α : DTA} {p pos : Pos}
end
def xoF (cs : List Nat) (f : Str) : D → Option D
  | .xob c ns ds => if c ∈ cs then lookN f ns ds else none
  | _ => none
@[simp] def dXo (cs : List Nat) (f : Str) (τ : DTE) : DTE := fun ρ M Q X => τ ρ M (fun d M1 => ∃ v, xoF cs f d = some v ∧ Q v M1) X
section
variable {P : Program} {w : World} {A : Around} {E : Value → Shared → Prop} {s : Shared} {K : PySem.W.Frag} {x C f : Addr} {ox : Obj} {od : Option Obj} {m : Str}
end
structure MethX (cl : ClW) (P : Program) (w : World) (K : PySem.W.Frag) (mg : Str → Option Value) (base : Heap) (k c : Nat) (m : Str) (spd : SpD) : Prop where
  xf : XfC K (cl c)
  ex : ∃ f fd ps, PySem.W.findIn K (.ref (cl c)) m = some (some (.ref f)) ∧ PySem.W.typeIn K (.ref f) = some (.type "function") ∧ PySem.W.keepIn K (.ref f) = true ∧ Binds K fd ps [] ∧ FnG cl P w K mg base k f fd ps spd
section
variable {cl : ClW} {X : Cx} {W : WX} {k : Nat} {m : Str} {o : Expr} {τ : DTE} {apos pos : Pos}
end
end DL
set_option Elab.async false
set_option linter.all false
set_option maxRecDepth 100000
set_option maxHeartbeats 4000000
set_option autoImplicit false
namespace DLC
open PySem PySem.W Builtin PyProof.Rows SeqAt
theorem order_lt : ∀ (xs ys : List UInt8), (Builtin.Bytes.order xs ys == .lt) = decide (xs.map UInt8.toNat < ys.map UInt8.toNat)
  | [], [] => by simp [Bytes.order]
  | [], y :: ys => by simp [Bytes.order]
  | x :: xs, [] => by simp [Bytes.order]
  | x :: xs, y :: ys => by
    simp only [Bytes.order, List.map_cons, List.cons_lt_cons_iff]
    have e1 : x < y ↔ x.toNat < y.toNat := Iff.rfl
    have e2 : x > y ↔ y.toNat < x.toNat := Iff.rfl
    by_cases h1 : x < y
    · rw [if_pos h1]
      have := e1.mp h1
      simp [this]
    · rw [if_neg h1]
      by_cases h2 : x > y
      · rw [if_pos h2]
        have a := e2.mp h2
        have b : ¬ x.toNat < y.toNat := by omega
        have c : ¬ x.toNat = y.toNat := by omega
        simp [b, c]
      · rw [if_neg h2, order_lt xs ys]
        have b : ¬ x.toNat < y.toNat := fun z => h1 (e1.mpr z)
        have c : ¬ y.toNat < x.toNat := fun z => h2 (e2.mpr z)
        have d : x.toNat = y.toNat := by omega
        simp [d]
@[reducible] def bytKind : PyProof.Rows.KeyKind where
  α := List Nat
  blt a b := decide (a < b)
  irrefl a := by simpa using List.lt_irrefl a
  trans a b c h1 h2 := by simp only [decide_eq_true_eq] at *; exact List.lt_trans h1 h2
  negTrans a b c h := by
    simp only [decide_eq_true_eq] at *
    by_cases hab : a < b
    · exact .inl hab
    · exact .inr (List.lt_of_le_of_lt (List.not_lt.mp hab) h)
  total a b h1 h2 := by simp only [decide_eq_false_iff_not] at *; exact List.le_antisymm (List.not_lt.mp h2) (List.not_lt.mp h1)
  keyOf v := match v with | .bytes x _ => some (x.toList.map UInt8.toNat) | _ => none
  dflt := []
section
variable {prog : Program} {w : World} {A : Around} {E : Value → Shared → Prop} {s : Shared}
theorem oneLt_bytes {b c : Array UInt8} {t u : Tok} {Q : Bool → Shared → Prop} (h : Q (decide (b.toList.map UInt8.toNat < c.toList.map UInt8.toNat)) s) : wpAny (model prog w) A (oneLt' true (.bytes b t) (.bytes c u)) Q E s := by
  rw [oneLt'_eq]
  simp only [if_true]
  refine wpAny_bind (wpAny_cRoomFor_byValue rfl ?_)
  refine wpAny_bind (wpAny_callSpecialIfBound?_slot (typeIs_bytes s b t) slot_bytes_lt (call_gives slot_bytes_lt (typeIs_bytes s b t) entry_bytes_lt (args_bytes_lt_2 _ _) (gives_bytes_lt b c t u) ?_))
  refine wpAny_truthy_bool ?_
  rw [order_lt]
  exact h
theorem sortsAt_bytes {vs : List Value} (h : ∀ v ∈ vs, ∃ b t, v = .bytes b t) : SortsAt prog w A s bytKind vs := by
  refine ⟨fun v hv => ?_, oneType', fun E x y a b Q ha hb q => ?_, fun h2 E Q q => PySem.W.kas_kind (T := .type "bytes") h2 (fun v hv => ?_) rfl rfl q⟩
  · obtain ⟨b, t, rfl⟩ := h v hv
    exact ⟨_, rfl⟩
  · cases x <;> simp only [bytKind, reduceCtorEq, Option.some.injEq] at ha
    cases y <;> simp only [bytKind, reduceCtorEq, Option.some.injEq] at hb
    cases ha; cases hb
    exact oneLt_bytes q
  · obtain ⟨b, t, rfl⟩ := h v hv
    exact Looks.of_pure rfl
end
end DLC
set_option Elab.async false
set_option linter.all false
set_option maxRecDepth 100000
set_option maxHeartbeats 4000000
set_option autoImplicit false
namespace DL
open PySem L2 PyProof.Rows
def keyB : D → List Nat
  | .byt x => x.toList.map UInt8.toNat
  | _ => []
def leByt (a b : D) : Bool := !decide (keyB b < keyB a)
inductive SortBy : List D → (D → D → Bool) → Prop where
  | byt (bs : List (Array UInt8)) : SortBy (bs.map D.byt) leByt
  | py (xs : List D) (enc : D → PyData) : (∀ x ∈ xs, toPyX x = some (enc x)) → PySem.W.AllAlike (xs.map enc) → PySem.W.Sortable (xs.map enc) → (∀ x ∈ xs, (enc x).depth ≤ 32) → SortBy xs (PySem.W.dataLe false enc)
def dSorted (τ : DTE) : DTE := fun ρ M Q X => τ ρ M (fun d M1 => ∃ (xs : List D) (le : D → D → Bool), vw M1 d = .lst xs ∧ xs.length ≤ sizeLine ∧ SortBy xs le ∧ Q (.lst (xs.mergeSort le)) M1) X
theorem zip_sort {α β : Type} {le : β → β → Bool} {vs : List α} {xs : List β} (h : vs.length = xs.length) : ((vs.zip xs).mergeSort fun p q => le p.2 q.2).map (·.2) = xs.mergeSort le := by
  rw [List.map_mergeSort (s := le) (fun a _ b _ => rfl), List.map_snd_zip (by omega)]
section
variable {cl : ClW} {X : Cx} {W : WX} {e : Expr} {τ : DTE} {p pos : Pos} {k : Nat}
theorem zipR {K : PySem.W.Frag} {F : Hp} {vs : List V} {us : List Value} {xs : List D} (r : Vals vs us) (r2 : Reps K cl F vs xs) : PySem.W.EachIs (fun v (b : V × D) => RelV b.1 v ∧ Rep K cl F b.1 b.2 ∧ b.2 ∈ xs) us (vs.zip xs) := by
  have l1 := r.length
  have l2 := r2.length
  refine PySem.W.EachIs.of_zip (by rw [List.length_zip]; omega) fun pr hpr => ?_
  obtain ⟨jx, hj⟩ := List.mem_iff_getElem?.mp hpr
  obtain ⟨e1, e2⟩ := List.getElem?_zip_eq_some.mp hj
  obtain ⟨e3, e4⟩ := List.getElem?_zip_eq_some.mp e2
  obtain ⟨u, k1, k2⟩ := r.get e3
  rw [e1] at k1
  obtain ⟨v', k3, k4⟩ := r2.get e4
  rw [e3] at k3
  have a1 := Option.some.inj k1
  have a3 := Option.some.inj k3
  exact ⟨by rw [a1]; exact k2, by rw [a3]; exact k4, List.mem_of_getElem? e4⟩
theorem d_sorted (c : Cap X W k) (sm : SmOk X.K) (hu : X.A.units + 64 < cLine) (hg : Gl X "sorted") (hm : X.mg "sorted" = none) (he : DE cl X W e τ) (hs : starEach [e] X.env = (false, eval e X.env) :: starEach [] X.env := by rfl) : DE cl X W (.Call (.Name "sorted" p) [e] [] pos) (dSorted τ) := by
  refine ⟨⟨fun pins s σ H Q I ⟨F, ρ, M, Qd, Xd, g, sl, t, pq, w⟩ => ?_⟩⟩
  refine wpAny_Call_Name_kw (ld_blt I hg hm (by rfl) ?_ (by decide) (by decide))
  have arg : DA cl X W [e] (dCons τ dNil) := da_cons he da_nil hs
  refine PyProof.Rows.callWith_builtin1 (thn (arg.pa.run pos pins s σ H (fun vs H1 => ∃ F1 M1 v d, vs = [v] ∧ Same F F1 ∧ Good X.K cl F1 H1 M1 ∧ Rep X.K cl F1 v d ∧ ∃ (xs : List D) (le : D → D → Bool), vw M1 d = .lst xs ∧ xs.length ≤ sizeLine ∧ SortBy xs le ∧ Qd (.lst (xs.mergeSort le)) M1) I
    ⟨F, ρ, M, fun ds M1 => ∃ d, ds = [d] ∧ ∃ (xs : List D) (le : D → D → Bool), vw M1 d = .lst xs ∧ xs.length ≤ sizeLine ∧ SortBy xs le ∧ Qd (.lst (xs.mergeSort le)) M1, Xd, g, sl, ?_, fun vs H' F' ds M' sm' g' r ⟨d, ed, q⟩ => ?_, w⟩) fun us s1 ⟨vs, H1, I1, r1, F1, M1, v, d, ev, sm', g1, rd, xs, le, hv, hl, hk, q⟩ => ?_) hs rfl
  · have same : (fun (d : D) (M1 : Mem) => ∃ (xs : List D) (le : D → D → Bool), vw M1 d = .lst xs ∧ xs.length ≤ sizeLine ∧ SortBy xs le ∧ Qd (.lst (xs.mergeSort le)) M1) = (fun d M1 => ∃ d', [d] = [d'] ∧ ∃ (xs : List D) (le : D → D → Bool), vw M1 d' = .lst xs ∧ xs.length ≤ sizeLine ∧ SortBy xs le ∧ Qd (.lst (xs.mergeSort le)) M1) := by
      funext d M1
      simp
    unfold dSorted at t
    unfold dCons dNil
    rw [same] at t
    exact t
  · subst ed
    obtain ⟨v, ws, rfl, r1, r2⟩ := r.inv
    obtain rfl := r2.inv0
    exact ⟨F', M', v, d, rfl, sm', g', r1, q⟩
  · subst ev
    have hw := vw_ok g1 rd
    rw [hv] at hw
    obtain ⟨a, vs, rfl, h1, h2⟩ := hw.lst g1.sub
    obtain ⟨u, rfl, ru⟩ := vals1 r1
    obtain rfl : u = Value.ref a := ru
    obtain ⟨its, rvs, hil, hz⟩ := I1.list h1
    have lv := h2.length
    have li := rvs.length
    have zr := zipR rvs h2
    have fin : ∀ out : List Value, PySem.W.EachIs (fun v (b : V × D) => RelV b.1 v ∧ Rep X.K cl F1 b.1 b.2 ∧ b.2 ∈ xs) out ((vs.zip xs).mergeSort fun p q => le p.2 q.2) → EP X pins σ Q (.ref (s1.heap.objs.size + 1)) { s1 with heap := sortedAll s1.heap its out.toArray } := fun out hout => by
      obtain ⟨w1, w2⟩ := each_vals (K := X.K) (cl := cl) (F := F1) (fun v b z => ⟨z.1, z.2.1⟩) hout
      rw [zip_sort (by omega)] at w2
      have pm1 := List.mergeSort_perm (vs.zip xs) (fun p q => le p.2 q.2)
      have hl2 : (((vs.zip xs).mergeSort fun p q => le p.2 q.2).map (·.1)).length ≤ sizeLine := by
        rw [List.length_map, pm1.length_eq, List.length_zip]; omega
      obtain ⟨ep, he'⟩ := PyProof.Rows.sortedAll_at s1.heap its out.toArray
      refine ⟨.ref _, upd H1 (s1.heap.objs.size + 1) (.lst (((vs.zip xs).mergeSort fun p q => le p.2 q.2).map (·.1))), I1.laid (t' := s1.toks) (fun _ _ => PyProof.Rows.sortedAll_old) (Nat.le_succ _) ⟨hl2, out, ep, w1, by simpa using he'⟩, rfl, ?_⟩
      exact (pq.mono sm').newL g1 w2 q (I1.hok.fresh (Nat.le_succ _))
    cases hk with
    | byt bs =>
      have hb : ∀ v ∈ its, ∃ b t, v = Value.bytes b t := fun v hv => by
        obtain ⟨b, hb, r, r2, r3⟩ := zr.left v hv
        obtain ⟨x, hx, ex⟩ := List.mem_map.mp r3
        rw [← ex] at r2
        rw [r2.toByt] at r
        obtain ⟨t, rfl⟩ := r
        exact ⟨_, _, rfl⟩
      refine PySem.W.sorted_vals (κ := DLC.bytKind) hil.isList (DLC.sortsAt_bytes hb) (by omega) (fin _ ?_)
      have z := PySem.W.sortVals_each (κ := DLC.bytKind) (rev := false) (ks := its) (fun b : V × D => keyB b.2) zr ?_
      · exact z
      · refine (PySem.W.each_mem zr).mono fun v b ⟨⟨r, r2, r3⟩, _⟩ => ?_
        obtain ⟨x, hx, ex⟩ := List.mem_map.mp r3
        rw [← ex] at r2 ⊢
        rw [r2.toByt] at r
        obtain ⟨t, rfl⟩ := r
        rfl
    | py _ enc h1 h2 h3 h4 =>
      have hr : PySem.W.EachIs (fun v (b : V × D) => ∃ as, PySem.Reads s1.heap v (enc b.2) as) its (vs.zip xs) := zr.mono fun v b ⟨r, r2, r3⟩ => by
        obtain ⟨as, k1, _⟩ := reads_of I1 sm (r2.mono g1.sub) r (h1 _ r3)
        exact ⟨as, k1⟩
      have em : (vs.zip xs).map (fun b => enc b.2) = xs.map enc := by
        rw [show (fun b : V × D => enc b.2) = enc ∘ (·.2) from rfl, ← List.map_map, List.map_snd_zip (by omega)]
      refine PySem.W.sorted_data (enc := fun b : V × D => enc b.2) hil.isList zr hr (by rw [em]; exact h2) (by rw [em]; exact h3) (by rw [List.length_zip]; omega) (fun b hb => ?_) fun out ho heach => fin out ?_
      · have hb2 : b.2 ∈ xs := (List.of_mem_zip (show (b.1, b.2) ∈ vs.zip xs from hb)).2
        have := h4 _ hb2
        omega
      · exact heach
end
end DL
set_option Elab.async false
set_option linter.all false
set_option maxRecDepth 100000
set_option maxHeartbeats 4000000
set_option autoImplicit false
namespace DL
open PySem L2
open PySem.SeqAt
mutual
def eqY : Nat → D → D → Option Bool
  | _, .byt a, .byt b => some (a == b)
  | _, .byt _, .non => some false
  | _, .non, .byt _ => some false
  | n + 1, .lst xs, .lst ys => if xs.length = ys.length then eqYs n xs ys else some false
  | n + 1, .tup xs, .tup ys => eqYs n xs ys
  | n, d, e => if plX n d && plX n e then some (eqX d e) else none
def eqYs : Nat → List D → List D → Option Bool
  | _, [], [] => some true
  | n, x :: xs, y :: ys => match eqY n x y, eqYs n xs ys with
    | some a, some b => some (a && b)
    | _, _ => none
  | _, [], _ :: _ => some false
  | _, _ :: _, [] => some false
end
theorem eqYs_cons {n : Nat} {x y : D} {xs ys : List D} {b : Bool} (h : eqYs n (x :: xs) (y :: ys) = some b) : ∃ c e, eqY n x y = some c ∧ eqYs n xs ys = some e ∧ b = (c && e) := by
  rw [eqYs] at h
  cases h1 : eqY n x y with
  | none => rw [h1] at h; simp at h
  | some c =>
    cases h2 : eqYs n xs ys with
    | none => rw [h1, h2] at h; simp at h
    | some e => rw [h1, h2] at h; simp at h; exact ⟨c, e, rfl, rfl, h.symm⟩
theorem eqY_cases {n : Nat} {d e : D} {b : Bool} (h : eqY n d e = some b) :
    (∃ x y, d = .byt x ∧ e = .byt y ∧ b = (x == y)) ∨ (∃ x, d = .byt x ∧ e = .non ∧ b = false) ∨ (∃ x, d = .non ∧ e = .byt x ∧ b = false) ∨
    (∃ m xs ys, n = m + 1 ∧ d = .lst xs ∧ e = .lst ys ∧ ((xs.length = ys.length ∧ eqYs m xs ys = some b) ∨ (xs.length ≠ ys.length ∧ b = false))) ∨
    (∃ m xs ys, n = m + 1 ∧ d = .tup xs ∧ e = .tup ys ∧ eqYs m xs ys = some b) ∨ (plX n d = true ∧ plX n e = true ∧ b = eqX d e) := by
  rw [eqY.eq_def] at h
  split at h
  · cases h; exact .inl ⟨_, _, rfl, rfl, rfl⟩
  · cases h; exact .inr (.inl ⟨_, rfl, rfl, rfl⟩)
  · cases h; exact .inr (.inr (.inl ⟨_, rfl, rfl, rfl⟩))
  · refine .inr (.inr (.inr (.inl ⟨_, _, _, rfl, rfl, rfl, ?_⟩)))
    split at h
    · exact .inl ⟨by assumption, h⟩
    · cases h; exact .inr ⟨by assumption, rfl⟩
  · exact .inr (.inr (.inr (.inr (.inl ⟨_, _, _, rfl, rfl, rfl, h⟩))))
  · split at h
    · rename_i hp
      rw [Bool.and_eq_true] at hp
      cases h
      exact .inr (.inr (.inr (.inr (.inr ⟨hp.1, hp.2, rfl⟩))))
    · cases h
section
variable {X : Cx} {pins : List (Addr × Obj)} {σ : St} {H : Hp} {s : Shared} {cl : ClW}
theorem sameY (I : Inv X pins σ H s) : ∀ (n : Nat) (d e : D) (x : V) (v : Value) (b : Bool), RelV x v → Rep X.K cl H x d → Rep X.K cl H x e → eqY n d e = some b → b = true := by
  intro n
  induction n with
  | zero =>
    intro d e x v b rv r1 r2 h
    rcases eqY_cases h with ⟨a, c, rfl, rfl, rfl⟩ | ⟨a, rfl, rfl, rfl⟩ | ⟨a, rfl, rfl, rfl⟩ | ⟨m, _, _, hm, _⟩ | ⟨m, _, _, hm, _⟩ | ⟨p1, p2, rfl⟩
    · have := r1.toByt; rw [r2.toByt] at this; cases this; simp
    · have := r1.toByt; rw [r2.toNon] at this; cases this
    · have := r1.toNon; rw [r2.toByt] at this; cases this
    · cases hm
    · cases hm
    · rw [side_inj I 0 d e v (side_of I r1 p1 rv) (side_of I r2 p2 rv) p1 p2]
      exact eqX_refl 0 e p2
  | succ n ih =>
    intro d e x v b rv r1 r2 h
    rcases eqY_cases h with ⟨a, c, rfl, rfl, rfl⟩ | ⟨a, rfl, rfl, rfl⟩ | ⟨a, rfl, rfl, rfl⟩ | ⟨m, xs, ys, hm, rfl, rfl, h2⟩ | ⟨m, xs, ys, hm, rfl, rfl, h2⟩ | ⟨p1, p2, rfl⟩
    · have := r1.toByt; rw [r2.toByt] at this; cases this; simp
    · have := r1.toByt; rw [r2.toNon] at this; cases this
    · have := r1.toNon; rw [r2.toByt] at this; cases this
    · cases hm
      obtain ⟨a, vs, rfl, h3, h4⟩ := r1.toLst
      obtain ⟨a', vs', e1, h5, h6⟩ := r2.toLst
      cases e1
      obtain rfl := I.list_inj h3 h5
      rcases h2 with ⟨_, h2⟩ | ⟨hn, _⟩
      · obtain ⟨its, rv2, _, _⟩ := I.list h3
        have : ∀ {vs : List V} {us : List Value} {ds es : List D} {b : Bool}, Vals vs us → Reps X.K cl H vs ds → Reps X.K cl H vs es → eqYs n ds es = some b → b = true := by
          intro vs
          induction vs with
          | nil => intro us ds es b _ r q h; cases r; cases q; rw [eqYs] at h; cases h; rfl
          | cons v vs ihv =>
            intro us ds es b rr r q h
            cases rr with
            | cons rr1 rr2 =>
              cases r with
              | cons r1 r2 =>
                cases q with
                | cons q1 q2 =>
                  obtain ⟨c, f, k1, k2, rfl⟩ := eqYs_cons h
                  rw [ih _ _ _ _ _ rr1 r1 q1 k1, ihv rr2 r2 q2 k2]; rfl
        exact this rv2 h4 h6 h2
      · exact absurd (h4.length.symm.trans h6.length) hn
    · cases hm
      obtain ⟨a, vs, rfl, h3, h4⟩ := r1.toTup
      obtain ⟨a', vs', e1, h5, h6⟩ := r2.toTup
      cases e1
      obtain rfl := I.tuple_inj h3 h5
      obtain ⟨its, rv2, _, _⟩ := I.tuple h3
      have : ∀ {vs : List V} {us : List Value} {ds es : List D} {b : Bool}, Vals vs us → Reps X.K cl H vs ds → Reps X.K cl H vs es → eqYs n ds es = some b → b = true := by
        intro vs
        induction vs with
        | nil => intro us ds es b _ r q h; cases r; cases q; rw [eqYs] at h; cases h; rfl
        | cons v vs ihv =>
          intro us ds es b rr r q h
          cases rr with
          | cons rr1 rr2 =>
            cases r with
            | cons r1 r2 =>
              cases q with
              | cons q1 q2 =>
                obtain ⟨c, f, k1, k2, rfl⟩ := eqYs_cons h
                rw [ih _ _ _ _ _ rr1 r1 q1 k1, ihv rr2 r2 q2 k2]; rfl
      exact this rv2 h4 h6 h2
    · rw [side_inj I (n + 1) d e v (side_of I r1 p1 rv) (side_of I r2 p2 rv) p1 p2]
      exact eqX_refl (n + 1) e p2
theorem eqP_of_rcY {A : Around} {v u : Value} {x : V} {k : Bool} {d : D} (rv : RelV x v) (rd : Rep X.K cl H x d) (h : RcP X.prog X.w A s v u k) (hs : v = u → k = true) : EqP X.prog X.w A s v u k := fun E Q q => by
  unfold eqBool
  refine wpAny_holding (wpAny_ite_split (fun e => ?_) (fun _ => ?_))
  · have hv : v = u := by
      first
        | exact eq_of_beq e
        | skip
    have := hs hv
    subst this
    exact wpAny_bind (wpAny_rule (wpAny_pure q))
  · cases rd with
    | non => obtain rfl := (show v = Value.none from rv); exact wpAny_bind (h E _ (wpAny_truthy_bool q))
    | bl b => obtain rfl := (show v = Value.bool b from rv); exact wpAny_bind (h E _ (wpAny_truthy_bool q))
    | int i => obtain ⟨t, rfl⟩ := rv; exact wpAny_bind (h E _ (wpAny_truthy_bool q))
    | str i => obtain ⟨t, rfl⟩ := rv; exact wpAny_bind (h E _ (wpAny_truthy_bool q))
    | byt i => obtain ⟨t, rfl⟩ := rv; exact wpAny_bind (h E _ (wpAny_truthy_bool q))
    | ty n => obtain rfl := (show v = Value.type n from rv); exact wpAny_bind (h E _ (wpAny_truthy_bool q))
    | _ => obtain rfl := (show v = Value.ref _ from rv); exact wpAny_bind (h E _ (wpAny_truthy_bool q))
theorem eqL_Y {A : Around} {n : Nat} (ih : ∀ (d e : D) (x y : V) (v u : Value) (b : Bool), Rep X.K cl H x d → Rep X.K cl H y e → RelV x v → RelV y u → eqY n d e = some b → EqP X.prog X.w A s v u b) :
    ∀ {vs ws : List V} {us ts : List Value} {ds es : List D} {b : Bool}, Vals vs us → Reps X.K cl H vs ds → Vals ws ts → Reps X.K cl H ws es → eqYs n ds es = some b → ∃ bs : List Bool, EqL X.prog X.w A s (us.zip ts) bs ∧ bs.length = min ds.length es.length ∧ b = (bs.all id && ds.length == es.length)
  | _, _, _, _, _, _, b, .nil, .nil, .nil, .nil, h => by rw [eqYs] at h; cases h; exact ⟨[], .nil, rfl, rfl⟩
  | _, _, _, _, _, _, b, .nil, .nil, .cons _ _, .cons _ _, h => by rw [eqYs] at h; cases h; exact ⟨[], .nil, by simp, by simp⟩
  | _, _, _, _, _, _, b, .cons _ _, .cons _ _, .nil, .nil, h => by rw [eqYs] at h; cases h; exact ⟨[], by first | exact .nil | (rw [List.zip_nil_right]; exact .nil), by simp, by simp⟩
  | _, _, _, _, _, _, b, .cons a1 a2, .cons r1 r2, .cons c1 c2, .cons q1 q2, h => by
    obtain ⟨c, f, h1, h2, rfl⟩ := eqYs_cons h
    obtain ⟨bs, k1, k2, rfl⟩ := eqL_Y ih a2 r2 c2 q2 h2
    refine ⟨c :: bs, ?_, by simp [k2], ?_⟩
    · rw [List.zip_cons_cons]
      exact .cons (ih _ _ _ _ _ _ _ r1 q1 a1 c1 h1) k1
    · simp only [List.all_cons, id, Bool.and_assoc, List.length_cons]
      congr 2
      rw [Bool.eq_iff_iff]; simp
theorem rc_lstsY {A : Around} {a b : Addr} {us ts : List Value} {bs : List Bool} (h1 : s.heap.IsList a us.toArray) (k1 : s.heap.IsList b ts.toArray) (hl : us.length = ts.length) (L : EqL X.prog X.w A.in1 s (us.zip ts) bs) (hz : bs.length = us.length) (hA : A.units < cLine) : RcP X.prog X.w A s (.ref a) (.ref b) (bs.all id) := fun E Q r => by
  refine SeqAt.rcP_lists (e := fun j => bs.getD j false) h1 k1 (by simp; omega) hA (fun j j1 j2 => ?_) E Q ?_
  · simp at j1 j2
    obtain ⟨b', e1, e2⟩ := eqL_at L j (us[j], ts[j]) (by simp [List.getElem?_zip_eq_some, j1, j2])
    have : bs.getD j false = b' := by simp [List.getD, e1]
    simp only [this]
    simpa using e2
  · rw [range_all bs _ us.toArray.size (by simp; omega) (fun j hj => by simp at hj; rw [List.getElem?_eq_getElem (by omega)]; simp [List.getD, List.getElem?_eq_getElem (show j < bs.length by omega)])]
    exact r
theorem rcY (I : Inv X pins σ H s) : ∀ (n : Nat) (A : Around), A.units + n < cLine → ∀ (d e : D) (x y : V) (v u : Value) (b : Bool), Rep X.K cl H x d → Rep X.K cl H y e → RelV x v → RelV y u → eqY n d e = some b → RcP X.prog X.w A s v u b := by
  intro n
  induction n with
  | zero =>
    intro A hu d e x y v u b r1 r2 rv ru h
    have hA : A.units < cLine := by omega
    rcases eqY_cases h with ⟨a, c, rfl, rfl, rfl⟩ | ⟨a, rfl, rfl, rfl⟩ | ⟨a, rfl, rfl, rfl⟩ | ⟨m, _, _, hm, _⟩ | ⟨m, _, _, hm, _⟩ | ⟨p1, p2, rfl⟩
    · obtain rfl := r1.toByt; obtain rfl := r2.toByt
      obtain ⟨t, rfl⟩ := rv; obtain ⟨t2, rfl⟩ := ru
      exact fun E Q q => DLC.rc_bytes hA q
    · obtain rfl := r1.toByt; obtain rfl := r2.toNon
      obtain ⟨t, rfl⟩ := rv; cases (show u = Value.none from ru)
      exact fun E Q q => DLC.rc_bytes_none q
    · obtain rfl := r1.toNon; obtain rfl := r2.toByt
      obtain ⟨t, rfl⟩ := ru; cases (show v = Value.none from rv)
      exact fun E Q q => DLC.rc_none_bytes q
    · cases hm
    · cases hm
    · exact rcX I 0 A hu d e v u (side_of I r1 p1 rv) (side_of I r2 p2 ru) p1 p2
  | succ n ih =>
    intro A hu d e x y v u b r1 r2 rv ru h
    have hA : A.units < cLine := by omega
    have ihE : ∀ (d e : D) (x y : V) (v u : Value) (b : Bool), Rep X.K cl H x d → Rep X.K cl H y e → RelV x v → RelV y u → eqY n d e = some b → EqP X.prog X.w A.in1 s v u b := fun d e x y v u b r1 r2 rv ru h =>
      eqP_of_rcY rv r1 (ih A.in1 (by show A.units + 1 + n < cLine; omega) d e x y v u b r1 r2 rv ru h) fun z => by
        subst z
        obtain rfl := relV_inj rv ru
        exact sameY I n d e x v b rv r1 r2 h
    rcases eqY_cases h with ⟨a, c, rfl, rfl, rfl⟩ | ⟨a, rfl, rfl, rfl⟩ | ⟨a, rfl, rfl, rfl⟩ | ⟨m, xs, ys, hm, rfl, rfl, h2⟩ | ⟨m, xs, ys, hm, rfl, rfl, h2⟩ | ⟨p1, p2, rfl⟩
    · obtain rfl := r1.toByt; obtain rfl := r2.toByt
      obtain ⟨t, rfl⟩ := rv; obtain ⟨t2, rfl⟩ := ru
      exact fun E Q q => DLC.rc_bytes hA q
    · obtain rfl := r1.toByt; obtain rfl := r2.toNon
      obtain ⟨t, rfl⟩ := rv; cases (show u = Value.none from ru)
      exact fun E Q q => DLC.rc_bytes_none q
    · obtain rfl := r1.toNon; obtain rfl := r2.toByt
      obtain ⟨t, rfl⟩ := ru; cases (show v = Value.none from rv)
      exact fun E Q q => DLC.rc_none_bytes q
    · cases hm
      obtain ⟨a, vs, rfl, h3, h4⟩ := r1.toLst
      obtain ⟨a', ws, rfl, h5, h6⟩ := r2.toLst
      cases (show v = Value.ref a from rv)
      cases (show u = Value.ref a' from ru)
      obtain ⟨us, r3, p3, _⟩ := I.list h3
      obtain ⟨ts, r4, p4, _⟩ := I.list h5
      have l1 := r3.length
      have l2 := r4.length
      have l3 := h4.length
      have l4 := h6.length
      rcases h2 with ⟨hl, h2⟩ | ⟨hn, rfl⟩
      · obtain ⟨bs, L, hz, rfl⟩ := eqL_Y ihE r3 h4 r4 h6 h2
        have e : (bs.all id && xs.length == ys.length) = bs.all id := by simp [hl]
        rw [e]
        exact rc_lstsY p3.isList p4.isList (by omega) L (by omega) hA
      · exact .of (.lists_lengths p3.isList p4.isList (by simp; omega) hA)
    · cases hm
      obtain ⟨a, vs, rfl, h3, h4⟩ := r1.toTup
      obtain ⟨a', ws, rfl, h5, h6⟩ := r2.toTup
      cases (show v = Value.ref a from rv)
      cases (show u = Value.ref a' from ru)
      obtain ⟨us, r3, p3, _⟩ := I.tuple h3
      obtain ⟨ts, r4, p4, _⟩ := I.tuple h5
      have l1 := r3.length
      have l2 := r4.length
      have l3 := h4.length
      have l4 := h6.length
      obtain ⟨bs, L, hz, rfl⟩ := eqL_Y ihE r3 h4 r4 h6 h2
      have r := rcp_tups (A := A) bs p3 p4 hA L
      simp only [List.size_toArray] at r
      rw [← l1, ← l2, l3, l4] at r
      exact r
    · exact rcX I (n + 1) A hu d e v u (side_of I r1 p1 rv) (side_of I r2 p2 ru) p1 p2
@[simp] def bEqY : DB2 := fun d e _ M Q _ => ∃ d' e' n b, Dv M d d' ∧ Dv M e e' ∧ n ≤ 60 ∧ eqY n d' e' = some b ∧ Q (.bl b) M
@[simp] def bNeY : DB2 := fun d e _ M Q _ => ∃ d' e', Dv M d d' ∧ Dv M e e' ∧ ((∃ a b, d' = .byt a ∧ e' = .byt b ∧ Q (.bl (a != b)) M) ∨ (∃ a, d' = .byt a ∧ e' = .non ∧ Q (.bl true) M) ∨ (∃ a, d' = .non ∧ e' = .byt a ∧ Q (.bl true) M) ∨
  ∃ xs ys n b, d' = .lst xs ∧ e' = .lst ys ∧ n ≤ 60 ∧ eqY (n + 1) d' e' = some b ∧ Q (.bl (!b)) M)
theorem bin_neY {W : WX} (hu : X.A.units + 64 < cLine) : BinG cl X W (compareOp .NotEq) bNeY := fun pins s σ H F ρ M v u x y d e Q Qd Xd I rx ry g sl r1 r2 q p w => by
  obtain ⟨d', e', t1, t2, q⟩ := q
  have r1 := rep_deep g t1 r1
  have r2 := rep_deep g t2 r2
  have hA : X.A.units < cLine := by omega
  rcases q with ⟨a, b, rfl, rfl, q⟩ | ⟨a, rfl, rfl, q⟩ | ⟨a, rfl, rfl, q⟩ | ⟨xs, ys, n, b, rfl, rfl, hn, h, q⟩
  · obtain rfl := r1.toByt; obtain rfl := r2.toByt
    obtain ⟨t, rfl⟩ := rx; obtain ⟨t2, rfl⟩ := ry
    exact DLC.rcn_bytes hA ⟨.bl _, H, I, rfl, p.val g (.bl _) q⟩
  · obtain rfl := r1.toByt; obtain rfl := r2.toNon
    obtain ⟨t, rfl⟩ := rx; cases (show u = Value.none from ry)
    exact DLC.rcn_bytes_none ⟨.bl _, H, I, rfl, p.val g (.bl _) q⟩
  · obtain rfl := r1.toNon; obtain rfl := r2.toByt
    obtain ⟨t, rfl⟩ := ry; cases (show v = Value.none from rx)
    exact DLC.rcn_none_bytes ⟨.bl _, H, I, rfl, p.val g (.bl _) q⟩
  · obtain ⟨a, vs, rfl, h3, h4⟩ := r1.toLst
    obtain ⟨a', ws, rfl, h5, h6⟩ := r2.toLst
    cases (show v = Value.ref a from rx)
    cases (show u = Value.ref a' from ry)
    obtain ⟨us, r3, p3, _⟩ := I.list h3
    obtain ⟨ts, r4, p4, _⟩ := I.list h5
    have l1 := r3.length
    have l2 := r4.length
    have l3 := h4.length
    have l4 := h6.length
    have fin : EP X pins σ Q (.bool (!b)) s := ⟨.bl _, H, I, rfl, p.val g (.bl _) q⟩
    have ihE : ∀ (d e : D) (x y : V) (v u : Value) (b : Bool), Rep X.K cl H x d → Rep X.K cl H y e → RelV x v → RelV y u → eqY n d e = some b → EqP X.prog X.w X.A.in1 s v u b := fun d e x y v u b r1 r2 rv ru h =>
      eqP_of_rcY rv r1 (rcY I n X.A.in1 (by show X.A.units + 1 + n < cLine; omega) d e x y v u b r1 r2 rv ru h) fun z => by
        subst z
        obtain rfl := relV_inj rv ru
        exact sameY I n d e x v b rv r1 r2 h
    by_cases hl : xs.length = ys.length
    · have h2 : eqYs n xs ys = some b := by rw [eqY, if_pos hl] at h; exact h
      obtain ⟨bs, L, hz, rfl⟩ := eqL_Y ihE r3 h4 r4 h6 h2
      have e : (bs.all id && xs.length == ys.length) = bs.all id := by simp [hl]
      rw [e] at fin
      obtain ⟨⟨c1, d1, x1, s1⟩, ho, hc, m1, hd⟩ := id p3.isList
      obtain ⟨⟨c2, d2, x2, s2⟩, ho2, hc2, m2, hd2⟩ := id p4.isList
      simp only at hc hd hc2 hd2
      subst hc hd hc2 hd2
      exact wpAny_richCompare_same_room (op := .NotEq) ⟨_, ho, rfl⟩ ⟨_, ho2, rfl⟩ PySem.F.slot_list_ne (call_meetsIn PySem.F.slot_list_ne ⟨_, ho, rfl⟩ PySem.F.entry_list_ne (PySem.F.args_list_ne_2 _ _) (lst_ne a a' us.toArray ts.toArray m1 m2 d1 d2 s1 s2 (by simp; omega) bs)
        ⟨ho, ho2, L, show Value.bool _ ≠ Value.notImplemented ∧ EP X pins σ Q (.bool _) s from ⟨(fun z => nomatch z), fin⟩⟩) hA
    · have e : b = false := by rw [eqY, if_neg hl] at h; exact (Option.some.inj h).symm
      subst e
      exact RcNeAt.lists_lengths p3.isList p4.isList (by simp; omega) hA _ _ _ _ fin
end
end DL
set_option Elab.async false
set_option linter.all false
set_option maxRecDepth 100000
set_option maxHeartbeats 4000000
set_option autoImplicit false
namespace DL
open PySem L2 PyProof.Rows
theorem rgC2 {i j : Int} (h1 : -(2 ^ 60) ≤ i) (h2 : i < 2 ^ 60) (h3 : -(2 ^ 60) ≤ j) (h4 : j < 2 ^ 60) : RgC i j 2 ((j - i + 1) / 2).toNat := by
  have e : Builtin.Range.rangeSize i j 2 = ((j - i + 1) / 2).toNat := by
    unfold Builtin.Range.rangeSize
    rw [if_pos (by decide)]
    split <;> omega
  refine ⟨by decide, by decide, ?_, e⟩
  unfold Builtin.Range.small
  rw [e]
  simp only [Builtin.Range.rangeFitsLong, Bool.and_eq_true, Bool.or_eq_true, decide_eq_true_eq, beq_iff_eq, show (2 : Int) > 0 by decide, if_true]
  omega
def rgW (a c : Int) (n : Nat) : List V := (List.range n).map fun i => V.int (a + (i : Nat) * c)
theorem vals_rgW {a c : Int} {n : Nat} {acc : Array Value} (h : ItemsOf (fun i v => ∃ t, v = .int (a + i * c) t) acc n) : Vals (rgW a c n) acc.toList := by
  have e : acc.toList.length = n := by rw [Array.length_toList]; exact h.1
  unfold rgW
  rw [← e]
  exact vals_of_get acc.toList _ fun j u hj => h.2 j u (by rw [← hj, Array.getElem?_toList])
section
variable {X : Cx} {a b c : Expr} {ta : TA} {p1 p2 p3 p4 : Pos}
theorem pe_listRg3 (hc : X.calm = true) (hg : Gl X "list") (hm : X.mg "list" = none) (hg2 : Gl X "range") (hm2 : X.mg "range" = none) (ha : PA X [a, b, c] ta)
    (hs : starEach [a, b, c] X.env = (false, eval a X.env) :: starEach [b, c] X.env := by rfl) (hpl : (backTo p2 (starEach [b, c] X.env)).any (·.1) = false := by rfl)
    (na : starEach [.Call (.Name "range" p1) [a, b, c] [] p2] X.env = (false, eval (.Call (.Name "range" p1) [a, b, c] [] p2) X.env) :: starEach [] X.env := by rfl) :
    PE X (.Call (.Name "list" p3) [.Call (.Name "range" p1) [a, b, c] [] p2] [] p4) (fun σ H Q => ta σ H fun vs H1 => ∃ (i j k : Int) (n : Nat), vs = [.int i, .int j, .int k] ∧ RgC i j k n ∧ n ≤ 2 ^ 24 ∧ ∀ q, H1 q = none → Q (.ref q) (upd H1 q (.lst (rgW i k n)))) := by
  refine ⟨fun pins s σ H Q I h => ?_⟩
  refine Call_ (ld_blt I hg hm boot_list (PyProof.Rows.callWith_type1 (args_cons (Call_ (ld_blt I hg2 hm2 boot_range (PyProof.Rows.callWith_type1 (thn (ha.run p2 pins s σ H _ I h) fun us s1 ⟨vs, H1, I1, r1, q1⟩ => ?_) hs hpl))) na) na))
  obtain ⟨i, j, k, n, e, ⟨c0, c1, c2, c3⟩, hn, q⟩ := q1
  subst e
  cases r1 with
  | cons r rr =>
    cases rr with
    | cons r' rr =>
      cases rr with
      | cons r'' rr =>
        cases rr
        obtain ⟨t, rfl⟩ := r
        obtain ⟨t', rfl⟩ := r'
        obtain ⟨t'', rfl⟩ := r''
        refine call_range_3 c0 ?_ (.inl (PyProof.noPylong_small c1))
        have I2 : Inv X pins σ H1 { s1 with heap := s1.heap.push { cls := .type "range", data := .fields #[.int i t, .int j t', .int k t''] } } := I1.kept (t' := s1.toks) fun b o e => Heap.get?_push_of_some _ e
        refine args_nil (call_list_range (n := n) (I2.ok.hd hc) (IsRange.new ..) c2 c3 hn fun h' tk acc c' hk e' hi => ?_)
        have hl : (rgW i k n).length ≤ sizeLine := by unfold rgW; rw [List.length_map, List.length_range, sizeLine_eq]; omega
        refine ⟨.ref _, upd H1 _ (.lst (rgW i k n)), I2.laid hk (Nat.le_refl _) (show ObjOk X.prog X.w _ _ _ (.lst (rgW i k n)) from ⟨hl, acc.toList, c', vals_rgW hi, ?_⟩), rfl, q _ (I2.hok.fresh (Nat.le_refl _))⟩
        rw [Array.toArray_toList]; exact e'
end
def rgD (a c : Int) (n : Nat) : List D := (List.range n).map fun i => D.int (a + (i : Nat) * c)
@[simp] def dListRg3 (α : DTA) : DTE := fun ρ M Q X => α ρ M (fun ds M1 => ∃ (i j k : Int) (n : Nat), ds = [.int i, .int j, .int k] ∧ RgC i j k n ∧ n ≤ 2 ^ 24 ∧ Q (.lst (rgD i k n)) M1) X
@[simp] def iR3 (α : DTA) : DTI := fun ρ M R X => α ρ M (fun ds M1 => ∃ (i j k : Int) (n : Nat), ds = [.int i, .int j, .int k] ∧ RgC i j k n ∧ R (rgD i k n) M1) X
theorem reps_rg {K : PySem.W.Frag} {cl : ClW} {F : Hp} {a c : Int} {n : Nat} : Reps K cl F (rgW a c n) (rgD a c n) := by
  unfold rgW rgD
  induction List.range n with
  | nil => exact .nil
  | cons i l ih => exact .cons (.int _) ih
section
variable {cl : ClW} {X : Cx} {W : WX} {a b c : Expr} {α : DTA} {p1 p2 p3 p4 p pos : Pos}
theorem ints3 {K : PySem.W.Frag} {F : Hp} {vs : List V} {i j k : Int} (r : Reps K cl F vs [.int i, .int j, .int k]) : vs = [.int i, .int j, .int k] := by
  obtain ⟨v, ws, rfl, r1, r2⟩ := r.inv
  obtain ⟨v2, ws, rfl, r3, r4⟩ := r2.inv
  obtain ⟨v3, ws, rfl, r5, r6⟩ := r4.inv
  obtain rfl := r6.inv0
  rw [r1.toInt, r3.toInt, r5.toInt]
theorem d_listRg3 (hc : X.calm = true) (hg : Gl X "list") (hm : X.mg "list" = none) (hg2 : Gl X "range") (hm2 : X.mg "range" = none) (ha : DA cl X W [a, b, c] α)
    (hs : starEach [a, b, c] X.env = (false, eval a X.env) :: starEach [b, c] X.env := by rfl) (hpl : (backTo p2 (starEach [b, c] X.env)).any (·.1) = false := by rfl)
    (na : starEach [.Call (.Name "range" p1) [a, b, c] [] p2] X.env = (false, eval (.Call (.Name "range" p1) [a, b, c] [] p2) X.env) :: starEach [] X.env := by rfl) :
    DE cl X W (.Call (.Name "list" p3) [.Call (.Name "range" p1) [a, b, c] [] p2] [] p4) (dListRg3 α) :=
  ⟨pe_imp (pe_listRg3 hc hg hm hg2 hm2 ha.pa hs hpl na) fun σ H Q ⟨F, ρ, M, Qd, Xd, g, s, t, p, w⟩ => ⟨F, ρ, M, _, Xd, g, s, t, fun vs H' F' ds M' sm g' r ⟨i, j, k, n, e, h1, h2, q⟩ => by
    subst e
    exact ⟨i, j, k, n, ints3 r, h1, h2, fun b hb => (p.mono sm).newL g' reps_rg q hb⟩, w⟩⟩
end
end DL
set_option Elab.async false
set_option linter.all false
set_option maxRecDepth 100000
set_option maxHeartbeats 4000000
set_option autoImplicit false
namespace DL
open PySem L2 PyProof.Rows
theorem rgC1 {i j : Int} (h1 : -(2 ^ 60) ≤ i) (h2 : i < 2 ^ 60) (h3 : -(2 ^ 60) ≤ j) (h4 : j < 2 ^ 60) : RgC i j 1 (j - i).toNat := by
  have e : Builtin.Range.rangeSize i j 1 = (j - i).toNat := by
    rw [PySem.rangeSize_one]
    split <;> omega
  exact ⟨by decide, by decide, PySem.small_one (by omega) (by omega) (by omega) (by omega), e⟩
section
variable {X : Cx} {a b : Expr} {ta : TA} {p1 p2 p3 p4 : Pos}
theorem pe_listRg2 (hc : X.calm = true) (hg : Gl X "list") (hm : X.mg "list" = none) (hg2 : Gl X "range") (hm2 : X.mg "range" = none) (ha : PA X [a, b] ta)
    (hs : starEach [a, b] X.env = (false, eval a X.env) :: starEach [b] X.env := by rfl) (hpl : (backTo p2 (starEach [b] X.env)).any (·.1) = false := by rfl)
    (na : starEach [.Call (.Name "range" p1) [a, b] [] p2] X.env = (false, eval (.Call (.Name "range" p1) [a, b] [] p2) X.env) :: starEach [] X.env := by rfl) :
    PE X (.Call (.Name "list" p3) [.Call (.Name "range" p1) [a, b] [] p2] [] p4) (fun σ H Q => ta σ H fun vs H1 => ∃ (i j : Int) (n : Nat), vs = [.int i, .int j] ∧ RgC i j 1 n ∧ n ≤ 2 ^ 24 ∧ ∀ q, H1 q = none → Q (.ref q) (upd H1 q (.lst (rgW i 1 n)))) := by
  refine ⟨fun pins s σ H Q I h => ?_⟩
  refine Call_ (ld_blt I hg hm boot_list (PyProof.Rows.callWith_type1 (args_cons (Call_ (ld_blt I hg2 hm2 boot_range (PyProof.Rows.callWith_type1 (thn (ha.run p2 pins s σ H _ I h) fun us s1 ⟨vs, H1, I1, r1, q1⟩ => ?_) hs hpl))) na) na))
  obtain ⟨i, j, n, e, ⟨c0, c1, c2, c3⟩, hn, q⟩ := q1
  subst e
  cases r1 with
  | cons r rr =>
    cases rr with
    | cons r' rr =>
        cases rr
        obtain ⟨t, rfl⟩ := r
        obtain ⟨t', rfl⟩ := r'
        refine call_range_2 ?_
        have I2 : Inv X pins σ H1 { s1 with heap := s1.heap.push { cls := .type "range", data := .fields #[.int i t, .int j t', .int 1 s1.toks] }, toks := s1.toks + 1 } := I1.kept (t' := s1.toks + 1) fun b o e => Heap.get?_push_of_some _ e
        refine args_nil (call_list_range (n := n) (I2.ok.hd hc) (IsRange.new ..) c2 c3 hn fun h' tk acc c' hk e' hi => ?_)
        have hl : (rgW i 1 n).length ≤ sizeLine := by unfold rgW; rw [List.length_map, List.length_range, sizeLine_eq]; omega
        refine ⟨.ref _, upd H1 _ (.lst (rgW i 1 n)), I2.laid hk (Nat.le_refl _) (show ObjOk X.prog X.w _ _ _ (.lst (rgW i 1 n)) from ⟨hl, acc.toList, c', vals_rgW hi, ?_⟩), rfl, q _ (I2.hok.fresh (Nat.le_refl _))⟩
        rw [Array.toArray_toList]; exact e'
end
@[simp] def dListRg2 (α : DTA) : DTE := fun ρ M Q X => α ρ M (fun ds M1 => ∃ (i j : Int) (n : Nat), ds = [.int i, .int j] ∧ RgC i j 1 n ∧ n ≤ 2 ^ 24 ∧ Q (.lst (rgD i 1 n)) M1) X
section
variable {cl : ClW} {X : Cx} {W : WX} {a b : Expr} {α : DTA} {p1 p2 p3 p4 p pos : Pos}
theorem ints2 {K : PySem.W.Frag} {F : Hp} {vs : List V} {i j : Int} (r : Reps K cl F vs [.int i, .int j]) : vs = [.int i, .int j] := by
  obtain ⟨v, ws, rfl, r1, r2⟩ := r.inv
  obtain ⟨v2, ws, rfl, r3, r4⟩ := r2.inv
  obtain rfl := r4.inv0
  rw [r1.toInt, r3.toInt]
theorem d_listRg2 (hc : X.calm = true) (hg : Gl X "list") (hm : X.mg "list" = none) (hg2 : Gl X "range") (hm2 : X.mg "range" = none) (ha : DA cl X W [a, b] α)
    (hs : starEach [a, b] X.env = (false, eval a X.env) :: starEach [b] X.env := by rfl) (hpl : (backTo p2 (starEach [b] X.env)).any (·.1) = false := by rfl)
    (na : starEach [.Call (.Name "range" p1) [a, b] [] p2] X.env = (false, eval (.Call (.Name "range" p1) [a, b] [] p2) X.env) :: starEach [] X.env := by rfl) :
    DE cl X W (.Call (.Name "list" p3) [.Call (.Name "range" p1) [a, b] [] p2] [] p4) (dListRg2 α) :=
  ⟨pe_imp (pe_listRg2 hc hg hm hg2 hm2 ha.pa hs hpl na) fun σ H Q ⟨F, ρ, M, Qd, Xd, g, s, t, p, w⟩ => ⟨F, ρ, M, _, Xd, g, s, t, fun vs H' F' ds M' sm g' r ⟨i, j, n, e, h1, h2, q⟩ => by
    subst e
    exact ⟨i, j, n, ints2 r, h1, h2, fun b hb => (p.mono sm).newL g' reps_rg q hb⟩, w⟩⟩
end
end DL
set_option Elab.async false
set_option linter.all false
set_option maxRecDepth 100000
set_option maxHeartbeats 4000000
set_option autoImplicit true
namespace LawProof
open PySem L2 DL
def top (i : Nat) : Stmt := PySem.Challenge.pw_forestrows_k48_labels_between_long_ones.main.body.getD i (.Pass ⟨0, 0, 0, 0⟩)
def cl (K : PySem.W.Frag) : Nat → Addr
  | 17 => He.ga K "ForestError"
  | 30 => He.ga K "NoKey"
  | 31 => He.ga K "NoLabel"
  | _ => 0
abbrev clw (K : PySem.W.Frag) (P : Program) (w : World) : ClW := ⟨cl K, P, w⟩
abbrev s_is_integer : Stmt := top 6
abbrev s_is_sequence : Stmt := top 7
abbrev s_key_fault : Stmt := top 11
abbrev s_cut_key : Stmt := top 12
abbrev s_bytes_of : Stmt := top 13
abbrev s_is_label : Stmt := top 14
abbrev s_allowed : Stmt := top 15
abbrev s_longer : Stmt := top 16
abbrev s_found_between : Stmt := top 17
abbrev s_labels_between : Stmt := top 18
abbrev s__law_rng : Stmt := top 20
abbrev s__law_draw : Stmt := top 21
abbrev s__law_pick : Stmt := top 22
abbrev s__law_long : Stmt := top 23
abbrev s__law_beside : Stmt := top 24
abbrev s__law_due : Stmt := top 25
abbrev s_law : Stmt := top 26
abbrev s_NoKey___init__ : Stmt := inClass (top 3) 0
abbrev s_NoLabel___init__ : Stmt := inClass (top 4) 0
end LawProof
set_option Elab.async false
set_option linter.all false
set_option maxRecDepth 100000
set_option maxHeartbeats 4000000
set_option autoImplicit true
namespace LawProof
open PySem L2 DL
def d_is_integer : He.DefD := ⟨("is_integer", none), "is_integer", "is_integer", defArgs s_is_integer, defBody s_is_integer, defScope s_is_integer, [], []⟩
def d_is_sequence : He.DefD := ⟨("is_sequence", none), "is_sequence", "is_sequence", defArgs s_is_sequence, defBody s_is_sequence, defScope s_is_sequence, [], []⟩
def d_key_fault : He.DefD := ⟨("key_fault", none), "key_fault", "key_fault", defArgs s_key_fault, defBody s_key_fault, defScope s_key_fault, [], []⟩
def d_cut_key : He.DefD := ⟨("cut_key", none), "cut_key", "cut_key", defArgs s_cut_key, defBody s_cut_key, defScope s_cut_key, [], []⟩
def d_bytes_of : He.DefD := ⟨("bytes_of", none), "bytes_of", "bytes_of", defArgs s_bytes_of, defBody s_bytes_of, defScope s_bytes_of, [], []⟩
def d_is_label : He.DefD := ⟨("is_label", none), "is_label", "is_label", defArgs s_is_label, defBody s_is_label, defScope s_is_label, [], []⟩
def d_allowed : He.DefD := ⟨("allowed", none), "allowed", "allowed", defArgs s_allowed, defBody s_allowed, defScope s_allowed, [], []⟩
def d_longer : He.DefD := ⟨("longer", none), "longer", "longer", defArgs s_longer, defBody s_longer, defScope s_longer, [], []⟩
def d_found_between : He.DefD := ⟨("found_between", none), "found_between", "found_between", defArgs s_found_between, defBody s_found_between, defScope s_found_between, [], []⟩
def d_labels_between : He.DefD := ⟨("labels_between", none), "labels_between", "labels_between", defArgs s_labels_between, defBody s_labels_between, defScope s_labels_between, [], []⟩
def d__law_rng : He.DefD := ⟨("_law_rng", none), "_law_rng", "_law_rng", defArgs s__law_rng, defBody s__law_rng, defScope s__law_rng, [], []⟩
def d__law_draw : He.DefD := ⟨("_law_draw", none), "_law_draw", "_law_draw", defArgs s__law_draw, defBody s__law_draw, defScope s__law_draw, [], []⟩
def d__law_pick : He.DefD := ⟨("_law_pick", none), "_law_pick", "_law_pick", defArgs s__law_pick, defBody s__law_pick, defScope s__law_pick, [], []⟩
def d__law_long : He.DefD := ⟨("_law_long", none), "_law_long", "_law_long", defArgs s__law_long, defBody s__law_long, defScope s__law_long, [], []⟩
def d__law_beside : He.DefD := ⟨("_law_beside", none), "_law_beside", "_law_beside", defArgs s__law_beside, defBody s__law_beside, defScope s__law_beside, [], []⟩
def d__law_due : He.DefD := ⟨("_law_due", none), "_law_due", "_law_due", defArgs s__law_due, defBody s__law_due, defScope s__law_due, [], []⟩
def d_law : He.DefD := ⟨("law", none), "law", "law", defArgs s_law, defBody s_law, defScope s_law, [], []⟩
def d_NoKey____init__ : He.DefD := ⟨("NoKey", some "__init__"), "__init__", "NoKey.__init__", defArgs s_NoKey___init__, defBody s_NoKey___init__, defScope s_NoKey___init__, [], []⟩
def d_NoLabel____init__ : He.DefD := ⟨("NoLabel", some "__init__"), "__init__", "NoLabel.__init__", defArgs s_NoLabel___init__, defBody s_NoLabel___init__, defScope s_NoLabel___init__, [], []⟩
def fn : List He.DefD := [d_is_integer, d_is_sequence, d_key_fault, d_cut_key, d_bytes_of, d_is_label, d_allowed, d_longer, d_found_between, d_labels_between, d__law_rng, d__law_draw, d__law_pick, d__law_long, d__law_beside, d__law_due, d_law, d_NoKey____init__, d_NoLabel____init__]
def fa : List He.Fa := [.glo "is_integer", .glo "is_sequence", .glo "key_fault", .glo "cut_key", .glo "bytes_of", .glo "is_label", .glo "allowed", .glo "longer", .glo "found_between", .glo "labels_between", .glo "_law_rng", .glo "_law_draw", .glo "_law_pick", .glo "_law_long", .glo "_law_beside", .glo "_law_due", .glo "law", .glo "NoLabel", .glo "NoKey", .glo "ForestError", .free "isinstance", .free "int", .free "bool", .free "tuple", .free "list", .free "len", .free "enumerate", .free "bytes", .free "range", .free "max", .free "sorted", .free "abs", .int "MOST_BYTES" 1000, .int "MOST_LABELS" 200]
def ex (K : PySem.W.Frag) : Bool := oexB K (He.ga K "NoKey") && (xnB K (He.ga K "NoKey") (He.fAd K ("NoKey", some "__init__")) ["place"] && (smB K && (oexB K (He.ga K "NoLabel") && (xnB K (He.ga K "NoLabel") (He.fAd K ("NoLabel", some "__init__")) ["word"] && true))))
theorem ex_0 {K : PySem.W.Frag} (h : ex K = true) : oexB K (He.ga K "NoKey") = true := (He.ba h).1
theorem ex_1 {K : PySem.W.Frag} (h : ex K = true) : xnB K (He.ga K "NoKey") (He.fAd K ("NoKey", some "__init__")) ["place"] = true := (He.ba (He.ba h).2).1
theorem ex_2 {K : PySem.W.Frag} (h : ex K = true) : smB K = true := (He.ba (He.ba (He.ba h).2).2).1
theorem ex_3 {K : PySem.W.Frag} (h : ex K = true) : oexB K (He.ga K "NoLabel") = true := (He.ba (He.ba (He.ba (He.ba h).2).2).2).1
theorem ex_4 {K : PySem.W.Frag} (h : ex K = true) : xnB K (He.ga K "NoLabel") (He.fAd K ("NoLabel", some "__init__")) ["word"] = true := (He.ba (He.ba (He.ba (He.ba (He.ba h).2).2).2).2).1
abbrev R : PySem.W.OpenRow := PySem.W.OpenLaw.row PySem.Challenge.rw_forestrows_k48_labels_between_long_ones
abbrev hk : PySem.W.Hook := DL.hookR 4000 fa fn ex
abbrev ob (s : PySem.W.SharedT) : He.AlD × Bool := DL.obsR 4000 fa fn ex (HandSHeadRun.getT s)
theorem ob_eq (s : PySem.W.SharedT) : ob s = hk.obs s.abs := DL.obsR_eq (HandSHeadRun.getT_eq s)
def loose : List PySem.Str := (["_wall", "__name__", "ForestError", "NoKey", "NoLabel", "is_integer", "is_sequence", "MOST_BYTES", "MOST_LABELS", "key_fault", "cut_key", "bytes_of", "is_label", "allowed", "longer", "found_between", "labels_between", "_law_rng", "_law_draw", "_law_pick", "_law_long", "_law_beside", "_law_due"] : List PySem.Str)
abbrev vq : Program := PySem.W.view R.prog [26]
open PySem PySem.W PySem.Calls PyProof.Rows in
theorem run1 (w : World) (os : OsState) : (HandSHeadRun.endF (HandSHeadRun.stepQ (HandSHeadRun.denQ HandSHeadRun.tabQ) R.prog w) 20000 R.prog w os).map (fun s => (HandSHeadRun.looksF R.prog (boot_heap w.params) s.abs, HandSHeadRun.seenQ vq loose (importedModules R.prog.main.body) (fun s => PySem.W.xlAt vq [] s && PySem.W.recOk R.toRowW.records s) s.abs)) = some (true, PySem.W.openGood vq loose) := by
  kernel_rfl
theorem run2 (w : World) (os : OsState) : (HandSHeadRun.endF (HandSHeadRun.stepQ (HandSHeadRun.denQ HandSHeadRun.tabQ) R.prog w) 20000 R.prog w os).map (fun s => fa.all fun f => f.ok (He.frG (HandSHeadRun.getT s) (List.range 4000))) = some true := by
  kernel_rfl
theorem run3 (w : World) (os : OsState) : (HandSHeadRun.endF (HandSHeadRun.stepQ (HandSHeadRun.denQ HandSHeadRun.tabQ) R.prog w) 20000 R.prog w os).map (fun s => (fn.all fun d => d.ok (He.frG (HandSHeadRun.getT s) (List.range 4000)), fn.map fun d => He.fnW (He.frG (HandSHeadRun.getT s) (List.range 4000)) d.at_)) = some (true, fn.map He.DefD.val) := by
  kernel_rfl
theorem run4 (w : World) (os : OsState) : (HandSHeadRun.endF (HandSHeadRun.stepQ (HandSHeadRun.denQ HandSHeadRun.tabQ) R.prog w) 20000 R.prog w os).map (fun s => ex (He.frG (HandSHeadRun.getT s) (List.range 4000))) = some true := by
  kernel_rfl
theorem run (w : World) : HandSHeadRun.RunEq R vq hk ob 20000 loose w := DL.runR_of (run1 w) (run2 w) (run3 w) (run4 w)
end LawProof
set_option Elab.async false
set_option linter.all false
set_option maxRecDepth 100000
set_option maxHeartbeats 4000000
set_option autoImplicit false
namespace FL
open PySem L2 DL
def Lad : Int → List Int → Prop
  | _, [] => True
  | m, l :: r => 0 ≤ l ∧ l ≤ m + 1 ∧ Lad l r
def lastL : Int → List Int → Int
  | m, [] => m
  | _, l :: r => lastL l r
theorem Lad.mono {m n : Int} {ls : List Int} (h : Lad m ls) (k : m ≤ n) : Lad n ls := by
  cases ls with
  | nil => trivial
  | cons l r => exact ⟨h.1, by have := h.2.1; omega, h.2.2⟩
theorem lastL_append (a b : List Int) : ∀ m, lastL m (a ++ b) = lastL (lastL m a) b := by
  induction a with
  | nil => intro m; rfl
  | cons l r ih => intro m; exact ih l
theorem Lad.shift {ls : List Int} (c : Int) : ∀ {m : Int}, Lad m ls → (∀ l ∈ ls, 0 ≤ l + c) → Lad (m + c) (ls.map (· + c)) := by
  induction ls with
  | nil => intro m _ _; trivial
  | cons x r ih =>
    intro m h hc
    exact ⟨hc x (by simp), by have := h.2.1; show x + c ≤ m + c + 1; omega, ih h.2.2 fun l hl => hc l (by simp [hl])⟩
theorem LevOk.lad {ls : List Int} (h : LevOk ls) : Lad (-1) ls := by
  have key : ∀ (r a : List Int), ls = a ++ r → Lad (lastL (-1) a) r := by
    intro r
    induction r with
    | nil => intro a _; trivial
    | cons x r ih =>
      intro a e
      have hx : ls[a.length]? = some x := by rw [e]; simp
      obtain ⟨h0, h1, h2⟩ := h a.length x hx
      have hn := ih (a ++ [x]) (by rw [e]; simp)
      rw [lastL_append] at hn
      refine ⟨h0, ?_, hn⟩
      rcases List.eq_nil_or_concat a with rfl | ⟨a', y, rfl⟩
      · have := h1 rfl; show x ≤ -1 + 1; omega
      · obtain ⟨m, hm, hl⟩ := h2 a'.length (by simp)
        rw [e] at hm
        have em : m = y := by simpa using hm.symm
        rw [List.concat_eq_append, lastL_append]
        show x ≤ y + 1
        omega
  exact key ls [] rfl
theorem Lad.lev {ls : List Int} (h : Lad (-1) ls) : LevOk ls := by
  have key : ∀ (r a : List Int), LevOk a → Lad (lastL (-1) a) r → LevOk (a ++ r) := by
    intro r
    induction r with
    | nil => intro a ha _; simpa using ha
    | cons x r ih =>
      intro a ha hr
      have := ih (a ++ [x]) (ha.snoc hr.1 (fun e => by subst e; have := hr.1; have := hr.2.1; simp [lastL] at this; omega) fun m hm => by
        rcases List.eq_nil_or_concat a with rfl | ⟨a', y, rfl⟩
        · simp at hm
        · have e : y = m := by simpa using hm
          have h2 := hr.2.1
          rw [List.concat_eq_append, lastL_append] at h2
          have h2 : x ≤ y + 1 := h2
          omega) (by rw [lastL_append]; exact hr.2.2)
      simpa using this
  simpa using key ls [] (fun i l h => by simp at h) h
def blk (rs : List Row) : Option Nat → List Row
  | none => rs
  | some p => (rs.drop (p + 1)).take (kids (lvs rs) p)
end FL
set_option Elab.async false
set_option linter.all false
set_option maxRecDepth 100000
set_option maxHeartbeats 4000000
set_option autoImplicit false
namespace FL
open PySem L2 DL
def RV (r : Row) : Prop := NameOk r.nm ∧ -(10 ^ 30) ≤ r.va ∧ r.va ≤ 10 ^ 30
theorem RowsOk.rv {rs : List Row} (h : RowsOk rs) : ∀ r ∈ rs, RV r := fun r hr => ⟨h.names r hr, h.vals r hr⟩
theorem RowsOk.lad {rs : List Row} (h : RowsOk rs) : Lad (-1) (lvs rs) := LevOk.lad h.lev
structure TrOk (t : List Row) : Prop where
  lad : Lad (-1) (lvs t)
  rv : ∀ r ∈ t, RV r
section
variable {rs : List Row}
end
end FL
set_option Elab.async false
set_option linter.all false
set_option maxRecDepth 100000
set_option maxHeartbeats 4000000
set_option autoImplicit false
namespace FL
open PySem L2 DL
theorem updM_self {M : Mem} {a : Addr} {d : D} (h : M a = some d) : updM M a d = M := by
  funext b
  by_cases e : b = a
  · rw [e, updM_same, h]
  · rw [updM_ne e]
def nmOf : D → List Nat
  | .str z => z.cps.toList
  | _ => []
end FL
set_option Elab.async false
set_option linter.all false
set_option maxRecDepth 100000
set_option maxHeartbeats 4000000
set_option autoImplicit false
namespace FL
open PySem L2 DL
def iOf : D → Int
  | .int i => i
  | _ => 0
def itm (y : D) (i : Nat) : D := match seqs y with
  | some l => l.getD i .non
  | none => .non
def crossI (a b c d : Int) : Bool := (decide (a < c) && (decide (c < b) && decide (b < d))) || (decide (c < a) && (decide (a < d) && decide (d < b)))
structure SRow (m : Int) (y : D) : Prop where
  ex : ∃ n v a b, seqs y = some [strD n, .int v, .int a, .int b] ∧ NameOk n ∧ -(10 ^ 30) ≤ v ∧ v ≤ 10 ^ 30 ∧ 0 ≤ a ∧ a < m ∧ 0 ≤ b ∧ b < m ∧ a < b
def nmS (y : D) : List Nat := nmOf (itm y 0)
def vS (y : D) : Int := iOf (itm y 1)
def aS (y : D) : Int := iOf (itm y 2)
def bS (y : D) : Int := iOf (itm y 3)
theorem nm_strS (p : List Nat) : nmOf (strD p) = p := by simp [nmOf, strD, S]
theorem SRow.sq {m : Int} {y : D} (h : SRow m y) : seqs y = some [strD (nmS y), .int (vS y), .int (aS y), .int (bS y)] := by
  obtain ⟨n, v, a, b, e, _⟩ := h.ex
  have i : ∀ k, itm y k = [strD n, .int v, .int a, .int b].getD k .non := fun k => by unfold itm; rw [e]
  unfold nmS vS aS bS
  rw [i, i, i, i, e]
  simp [iOf, nm_strS]
theorem SRow.vw {m : Int} {y : D} (h : SRow m y) (M : Mem) : DL.vw M y = y := by
  rcases seqs_or h.sq with e | e <;> rw [e] <;> rfl
theorem lc_allF {j : Nat} {vs1 : List Nat} {τ : DTE} {a : Addr} {ρ : DL.Env} {f : D → D} : ∀ (ys acc : List D) (M : Mem) (R : Mem → Prop), (∀ y ∈ ys, ∀ (M1 : Mem) (T : DV), T (f y) M1 → τ ((wipeD ρ vs1).set j (some y)) M1 T noX) → M a = some (.lst acc) → acc.length + ys.length ≤ 16777216 → R (updM M a (.lst (acc ++ ys.map f))) →
    lcG (fun _ => True) (gN j) dYes τ vs1 a ys ρ M R := by
  intro ys
  induction ys with
  | nil => intro acc M R _ h _ q; rw [List.map_nil, List.append_nil, updM_self h] at q; exact ⟨trivial, q⟩
  | cons y ys ih =>
    intro acc M R st h hl q
    simp only [List.length_cons] at hl
    refine ⟨trivial, ?_⟩
    simp only [gN, dYes, if_true]
    refine st y (by simp) M _ ⟨acc, h, by rw [size_line]; omega, ih _ _ R (fun z hz => st z (by simp [hz])) updM_same (by simp; omega) ?_⟩
    rw [updM_updM, List.append_assoc]
    exact q
theorem lc2_map {α : Type} {ι1 : DTIg} {i j : Nat} {vs vs1 : List Nat} {τ : DTE} {a : Addr} {ρ : DL.Env} {M : Mem} {Q : DV} (g : α → D) (h : α → List D) (f : α → D → D) (l : List α) (hM : M a = none) (hl : (l.map h).flatten.length ≤ 16777216)
    (step : ∀ x ∈ l, ∀ (M1 : Mem) (R : (Mem → Prop) → List D → Mem → Prop), R (fun _ => True) (h x) M1 → ι1 ((wipeD ρ vs).set i (some (g x))) M1 R noX)
    (item : ∀ x ∈ l, ∀ y ∈ h x, ∀ (M1 : Mem) (T : DV), T (f x y) M1 → τ ((wipeD ((wipeD ρ vs).set i (some (g x))) vs1).set j (some y)) M1 T noX)
    (q : ∀ M', Keep M M' → Q (.lst (l.map fun x => (h x).map (f x)).flatten) M') : lc2G (fun _ => True) (gN i) dYes ι1 (gN j) dYes τ vs vs1 a (l.map g) ρ (updM M a (.lst [])) (endF a Q) := by
  have go : ∀ (r done : List α) (M1 : Mem), l = done ++ r → M1 a = some (.lst (done.map fun x => (h x).map (f x)).flatten) → Keep M M1 → lc2G (fun _ => True) (gN i) dYes ι1 (gN j) dYes τ vs vs1 a (r.map g) ρ M1 (endF a Q) := by
    intro r
    induction r with
    | nil =>
      intro done M1 e ha k
      rw [List.append_nil] at e
      subst e
      exact ⟨trivial, _, ha, q _ (k.delN hM)⟩
    | cons x r ih =>
      intro done M1 e ha k
      have hx : x ∈ l := by rw [e]; simp
      have e2 : l = (done ++ [x]) ++ r := by rw [e]; simp
      have hlen : ∀ d : List α, (d.map fun x => (h x).map (f x)).flatten.length = (d.map h).flatten.length := fun d => by
        induction d with
        | nil => rfl
        | cons y d ihd => simp only [List.map_cons, List.flatten_cons, List.length_append, List.length_map, ihd]
      refine ⟨trivial, ?_⟩
      simp only [gN, dYes, if_true]
      refine step x hx M1 _ ?_
      refine lc_allF (f := f x) _ _ _ _ (fun y hy M2 T hT => item x hx y hy M2 T hT) ha ?_ ?_
      · rw [hlen]
        have h2 : (l.map h).flatten.length = (done.map h).flatten.length + (h x).length + (r.map h).flatten.length := by rw [e]; simp [Nat.add_assoc]
        omega
      · refine ih (done ++ [x]) _ e2 ?_ (k.updN hM)
        rw [updM_same]
        simp
  exact go l [] _ rfl (by rw [updM_same]; rfl) (fun b c hb => by
    have z : b ≠ a := fun z => by rw [z, hM] at hb; cases hb
    rw [updM_ne z]; exact hb)
end FL
set_option Elab.async false
set_option linter.all false
set_option maxRecDepth 100000
set_option maxHeartbeats 4000000
set_option autoImplicit false
namespace FL
open PySem L2 DL
abbrev EPt := Nat × Option Nat
structure EndsP (ps : List EPt) (line : List Nat) (n : Nat) : Prop where
  asc : ∀ (i j : Nat) (p q : EPt), i < j → ps[i]? = some p → ps[j]? = some q → p.1 < q.1
  low : ∀ (i : Nat) (p : EPt), ps[i]? = some p → p.1 < n
  cl : ∀ (i : Nat) (p : EPt) (e : Nat), ps[i]? = some p → p.2 = some e → p.1 < e ∧ e < n
  nest : ∀ (i j : Nat) (p q : EPt) (e : Nat), i < j → ps[i]? = some p → ps[j]? = some q → p.2 = some e → e < q.1 ∨ ∃ e', q.2 = some e' ∧ e' < e
  opn : ∀ i, i ∈ line ↔ ∃ b, ps[i]? = some (b, none)
  lasc : line.Pairwise (· < ·)
  cnt : n + line.length = 2 * ps.length
theorem EndsP.nil : EndsP [] [] 0 := ⟨by simp, by simp, by simp, by simp, by simp, by simp, rfl⟩
theorem EndsP.new {ps : List EPt} {line : List Nat} {n : Nat} (h : EndsP ps line n) : EndsP (ps ++ [(n, none)]) (line ++ [ps.length]) (n + 1) := by
  have get : ∀ (k : Nat) (p : EPt), (ps ++ [(n, none)])[k]? = some p → (k < ps.length ∧ ps[k]? = some p) ∨ (k = ps.length ∧ p = (n, none)) := fun k p hk => by
    by_cases hl : k < ps.length
    · rw [List.getElem?_append_left hl] at hk
      exact .inl ⟨hl, hk⟩
    · rw [List.getElem?_append_right (by omega)] at hk
      have : k - ps.length = 0 := by
        by_cases z : k - ps.length = 0
        · exact z
        · rw [List.getElem?_eq_none (by simp; omega)] at hk; cases hk
      rw [this] at hk
      exact .inr ⟨by omega, (Option.some.inj hk).symm⟩
  have lo : ∀ i ∈ line, i < ps.length := fun i hi => by
    obtain ⟨b, hb⟩ := (h.opn i).mp hi
    exact (List.getElem?_eq_some_iff.mp hb).1
  refine ⟨?_, ?_, ?_, ?_, ?_, ?_, ?_⟩
  · intro i j p q hij hp hq
    rcases get i p hp with ⟨hi, hp⟩ | ⟨rfl, rfl⟩
    · rcases get j q hq with ⟨hj, hq⟩ | ⟨rfl, rfl⟩
      · exact h.asc i j p q hij hp hq
      · exact h.low i p hp
    · rcases get j q hq with ⟨hj, hq⟩ | ⟨rfl, rfl⟩ <;> omega
  · intro i p hp
    rcases get i p hp with ⟨hi, hp⟩ | ⟨rfl, rfl⟩
    · have := h.low i p hp; omega
    · simp
  · intro i p e hp he
    rcases get i p hp with ⟨hi, hp⟩ | ⟨rfl, rfl⟩
    · have := h.cl i p e hp he; omega
    · cases he
  · intro i j p q e hij hp hq he
    rcases get i p hp with ⟨hi, hp⟩ | ⟨rfl, rfl⟩
    · rcases get j q hq with ⟨hj, hq⟩ | ⟨rfl, rfl⟩
      · exact h.nest i j p q e hij hp hq he
      · exact .inl (h.cl i p e hp he).2
    · cases he
  · intro i
    constructor
    · intro hi
      rcases List.mem_append.mp hi with hi | hi
      · obtain ⟨b, hb⟩ := (h.opn i).mp hi
        exact ⟨b, by rw [List.getElem?_append_left (lo i hi)]; exact hb⟩
      · rw [List.mem_singleton.mp hi]
        exact ⟨n, by simp⟩
    · rintro ⟨b, hb⟩
      rcases get i _ hb with ⟨hi, hb⟩ | ⟨rfl, e⟩
      · exact List.mem_append_left _ ((h.opn i).mpr ⟨b, hb⟩)
      · simp
  · rw [List.pairwise_append]
    exact ⟨h.lasc, by simp, fun i hi j hj => by rw [List.mem_singleton.mp hj]; exact lo i hi⟩
  · have := h.cnt
    simp
    omega
structure EndsFin (es : List (Nat × Nat)) : Prop where
  in_ : ∀ (i : Nat) (p : Nat × Nat), es[i]? = some p → p.1 < p.2 ∧ p.2 < 2 * es.length
  two : ∀ (i j : Nat) (p q : Nat × Nat), i < j → es[i]? = some p → es[j]? = some q → p.1 < q.1 ∧ (p.2 < q.1 ∨ q.2 < p.2)
theorem EndsP.fin {ps : List EPt} {n : Nat} (h : EndsP ps [] n) : ∃ es : List (Nat × Nat), ps = es.map (fun p => (p.1, some p.2)) ∧ EndsFin es := by
  have all : ∀ p ∈ ps, ∃ e, p.2 = some e := fun p hp => by
    obtain ⟨i, hi, rfl⟩ := List.getElem_of_mem hp
    cases q : ps[i].2 with
    | some e => exact ⟨e, rfl⟩
    | none =>
      have : i ∈ ([] : List Nat) := (h.opn i).mpr ⟨ps[i].1, by rw [List.getElem?_eq_getElem hi, ← q]⟩
      cases this
  refine ⟨ps.map fun p => (p.1, p.2.getD 0), ?_, ?_⟩
  · rw [List.map_map]
    conv => lhs; rw [← List.map_id ps]
    refine List.map_congr_left fun p hp => ?_
    obtain ⟨e, he⟩ := all p hp
    simp only [id, Function.comp_apply, he, Option.getD_some]
    rw [← he]
  · have get : ∀ (i : Nat) (p : Nat × Nat), (ps.map fun p => (p.1, p.2.getD 0))[i]? = some p → ps[i]? = some (p.1, some p.2) := fun i p hp => by
      rw [List.getElem?_map] at hp
      obtain ⟨q, h1, h2⟩ := Option.map_eq_some_iff.mp hp
      obtain ⟨e, he⟩ := all q (List.mem_of_getElem? h1)
      rw [h1, ← h2]
      simp only [he, Option.getD_some]
      rw [← he]
    have hn : n = 2 * ps.length := by have := h.cnt; simpa using this
    refine ⟨fun i p hp => ?_, fun i j p q hij hp hq => ?_⟩
    · have := h.cl i _ p.2 (get i p hp) rfl
      simp only [List.length_map]
      rw [← hn]
      exact this
    · refine ⟨h.asc i j _ _ hij (get i p hp) (get j q hq), ?_⟩
      rcases h.nest i j _ _ p.2 hij (get i p hp) (get j q hq) rfl with h1 | ⟨e', h1, h2⟩
      · exact .inl h1
      · cases h1; exact .inr h2
def Apart (y z : D) : Prop := nmS y ≠ nmS z ∧ (aS y ≠ aS z ∧ aS y ≠ bS z ∧ bS y ≠ aS z ∧ bS y ≠ bS z) ∧ crossI (aS y) (bS y) (aS z) (bS z) = false
theorem Apart.symm {y z : D} (h : Apart y z) : Apart z y := by
  obtain ⟨h1, ⟨h2, h3, h4, h5⟩, h6⟩ := h
  refine ⟨Ne.symm h1, ⟨Ne.symm h2, Ne.symm h4, Ne.symm h3, Ne.symm h5⟩, ?_⟩
  unfold crossI at h6 ⊢
  rw [Bool.or_comm]
  exact h6
structure SpOk (m : Int) (ys : List D) : Prop where
  len : ys.length ≤ 60
  row : ∀ y ∈ ys, SRow m y
  pw : ys.Pairwise Apart
theorem SRow.mono {m k : Int} {y : D} (h : SRow m y) (l : m ≤ k) : SRow k y := by
  obtain ⟨n, v, a, b, h0, h1, h2, h3, h4, h5, h6, h7, h8⟩ := h.ex
  exact ⟨⟨n, v, a, b, h0, h1, h2, h3, h4, by omega, h6, by omega, h8⟩⟩
theorem SRow.pl {m : Int} {y : D} (h : SRow m y) : PlRow y := by
  obtain ⟨n, v, a, b, h0, h1, _⟩ := h.ex
  refine ⟨?_, fun l hl c hc => ?_⟩
  · rcases seqs_or h0 with rfl | rfl <;> exact pl_of rfl (by simp)
  · rw [h0] at hl
    cases hl
    simp at hc
    rcases hc with rfl | rfl | rfl | rfl
    · exact pl_nm h1
    · exact pl_of rfl (by simp)
    · exact pl_of rfl (by simp)
    · exact pl_of rfl (by simp)
theorem SRow.itm {m : Int} {y : D} (h : SRow m y) : itm y 0 = strD (nmS y) ∧ itm y 1 = .int (vS y) ∧ itm y 2 = .int (aS y) ∧ itm y 3 = .int (bS y) := by
  have e := h.sq
  refine ⟨?_, ?_, ?_, ?_⟩ <;> (unfold FL.itm; rw [e]; rfl)
theorem SRow.bd {m : Int} {y : D} (h : SRow m y) : NameOk (nmS y) ∧ -(10 ^ 30) ≤ vS y ∧ vS y ≤ 10 ^ 30 ∧ 0 ≤ aS y ∧ aS y < m ∧ 0 ≤ bS y ∧ bS y < m ∧ aS y < bS y := by
  obtain ⟨n, v, a, b, e, h1⟩ := h.ex
  have e2 := h.sq
  rw [e] at e2
  have e3 := Option.some.inj e2
  simp only [List.cons.injEq, D.int.injEq, and_true] at e3
  have e4 : n = nmS y := by
    have := congrArg nmOf e3.1
    rwa [nm_strS, nm_strS] at this
  rw [← e4, ← e3.2.1, ← e3.2.2.1, ← e3.2.2.2]
  exact h1
def NumsOk (N : List Int) (last : Int) : Prop := N.Pairwise (· < ·) ∧ ∀ x ∈ N, 0 ≤ x ∧ x ≤ last
theorem NumsOk.snoc {N : List Int} {last x : Int} (h : NumsOk N last) (l : last < x) (hx : 0 ≤ x) : NumsOk (N ++ [x]) x := by
  refine ⟨?_, fun y hy => ?_⟩
  · rw [List.pairwise_append]
    exact ⟨h.1, by simp, fun y hy z hz => by rw [List.mem_singleton.mp hz]; have := (h.2 y hy).2; omega⟩
  · rcases List.mem_append.mp hy with hy | hy
    · have := h.2 y hy; omega
    · rw [List.mem_singleton.mp hy]; omega
theorem NumsOk.lt {N : List Int} {last : Int} (h : NumsOk N last) {i j : Nat} (hij : i < j) (hj : j < N.length) : N.getD i 0 < N.getD j 0 := by
  have := List.pairwise_iff_getElem.mp h.1 i j (by omega) hj hij
  simpa [List.getD, hj, show i < N.length by omega] using this
theorem NumsOk.bd {N : List Int} {last : Int} (h : NumsOk N last) {i : Nat} (hi : i < N.length) : 0 ≤ N.getD i 0 ∧ N.getD i 0 ≤ last := by
  have := h.2 N[i] (List.getElem_mem hi)
  simpa [List.getD, hi] using this
def SH (k n : Nat) (d : D) : Prop := ∃ p, toPyX d = some p ∧ p.showable = true ∧ p.depth ≤ k ∧ p.shown.length ≤ n
theorem SH.mono {k n k' n' : Nat} {d : D} (h : SH k n d) (hk : k ≤ k') (hn : n ≤ n') : SH k' n' d := by
  obtain ⟨p, h1, h2, h3, h4⟩ := h
  exact ⟨p, h1, h2, by omega, by omega⟩
theorem sh_all {k n : Nat} : ∀ (ds : List D), (∀ d ∈ ds, SH k n d) → ∃ ps, toPyXs ds = some ps ∧ PyData.showableAll ps = true ∧ PyData.depthAll ps ≤ k ∧ (PyData.shownAll ps).length = ds.length ∧ ((PyData.shownAll ps).map (·.length)).sum ≤ ds.length * n
  | [], _ => ⟨[], by simp [toPyXs], by simp [PyData.showableAll], by simp [PyData.depthAll], by simp [PyData.shownAll], by simp [PyData.shownAll]⟩
  | d :: ds, h => by
    obtain ⟨p, h1, h2, h3, h4⟩ := h d (by simp)
    obtain ⟨ps, k1, k2, k3, k4, k5⟩ := sh_all ds fun e he => h e (by simp [he])
    refine ⟨p :: ps, by simp [toPyXs, h1, k1], by simp [PyData.showableAll, h2, k2], by simp only [PyData.depthAll]; omega, by simp [PyData.shownAll, k4], ?_⟩
    simp only [PyData.shownAll, List.map_cons, List.sum_cons, List.length_cons]
    rw [Nat.add_mul]
    omega
theorem sh_lst {k n : Nat} {ds : List D} (h : ∀ d ∈ ds, SH k n d) : SH (k + 1) (ds.length * n + 2 * ds.length + 3) (.lst ds) := by
  obtain ⟨ps, h1, h2, h3, h4, h5⟩ := sh_all ds h
  refine ⟨.list ps, by simp [toPyX, h1], by simpa [PyData.showable] using h2, by simp only [PyData.depth]; omega, ?_⟩
  have := listText_len_le (PyData.shownAll ps)
  simp only [PyData.shown]
  omega
theorem sh_tup {k n : Nat} {ds : List D} (h : ∀ d ∈ ds, SH k n d) : SH (k + 1) (ds.length * n + 2 * ds.length + 3) (.tup ds) := by
  obtain ⟨ps, h1, h2, h3, h4, h5⟩ := sh_all ds h
  refine ⟨.tuple ps, by simp [toPyX, h1], by simpa [PyData.showable] using h2, by simp only [PyData.depth]; omega, ?_⟩
  have := tupleText_len_le (PyData.shownAll ps)
  simp only [PyData.shown]
  omega
structure CelX (t : Nat) (c : D) : Prop where
  pl : Pl c
  sh : SH (t + 1) (10100 + 10 * t) c
  bd : ∀ i, c = .int i → -(10 ^ 31) - (t : Int) ≤ i ∧ i ≤ 10 ^ 31 + (t : Int)
theorem CelX.mono {t u : Nat} {c : D} (h : CelX t c) (l : t ≤ u) : CelX u c := ⟨h.pl, h.sh.mono (by omega) (by omega), fun i e => by have := h.bd i e; omega⟩
def RowX (t : Nat) (y : D) : Prop := (∃ l, (y = .lst l ∨ (y = .tup l ∧ l.length = 4)) ∧ l.length ≤ 5 ∧ ∀ c ∈ l, CelX t c) ∨ (seqs y = none ∧ CelX t y)
theorem RowX.mono {t u : Nat} {y : D} (h : RowX t y) (l : t ≤ u) : RowX u y := by
  rcases h with ⟨xs, h1, h2, h3⟩ | ⟨h1, h2⟩
  · exact .inl ⟨xs, h1, h2, fun c hc => (h3 c hc).mono l⟩
  · exact .inr ⟨h1, h2.mono l⟩
theorem RowX.sh {t : Nat} {y : D} (h : RowX t y) (ht : t ≤ 50) : SH (t + 2) 60000 y := by
  rcases h with ⟨xs, h1, h2, h3⟩ | ⟨h1, h2⟩
  · have h5 : xs.length * (10100 + 10 * t) ≤ 5 * (10100 + 10 * t) := Nat.mul_le_mul_right _ h2
    rcases h1 with rfl | ⟨rfl, _⟩
    · exact (sh_lst fun c hc => (h3 c hc).sh).mono (by omega) (by omega)
    · exact (sh_tup fun c hc => (h3 c hc).sh).mono (by omega) (by omega)
  · exact h2.sh.mono (by omega) (by omega)
theorem RowX.tup {t : Nat} {l : List D} (h : RowX t (.tup l)) : l.length = 4 ∧ ∀ c ∈ l, CelX t c := by
  rcases h with ⟨xs, h1, h2, h3⟩ | ⟨h1, h2⟩
  · rcases h1 with e | ⟨e, h4⟩
    · cases e
    · cases e; exact ⟨h4, h3⟩
  · cases h1
end FL
set_option Elab.async false
set_option linter.all false
set_option maxRecDepth 100000
set_option maxHeartbeats 4000000
set_option autoImplicit false
namespace FL
open PySem L2 DL
def bA (l : List Nat) : Array UInt8 := (l.map UInt8.ofNat).toArray
def bD (l : List Nat) : D := .byt (bA l)
def N8 (l : List Nat) : Prop := ∀ n ∈ l, n < 256
theorem N8.cons {a : Nat} {l : List Nat} : N8 (a :: l) ↔ a < 256 ∧ N8 l := by simp [N8]
theorem N8.nil : N8 [] := fun _ h => nomatch h
theorem N8.app {l m : List Nat} : N8 (l ++ m) ↔ N8 l ∧ N8 m := by
  constructor
  · intro h; exact ⟨fun n hn => h n (List.mem_append_left _ hn), fun n hn => h n (List.mem_append_right _ hn)⟩
  · rintro ⟨h1, h2⟩ n hn
    rcases List.mem_append.mp hn with z | z
    · exact h1 n z
    · exact h2 n z
theorem N8.take {l : List Nat} (h : N8 l) (k : Nat) : N8 (l.take k) := fun n hn => h n (List.mem_of_mem_take hn)
theorem N8.drop {l : List Nat} (h : N8 l) (k : Nat) : N8 (l.drop k) := fun n hn => h n (List.mem_of_mem_drop hn)
theorem N8.one {a : Nat} (h : a < 256) : N8 [a] := N8.cons.mpr ⟨h, N8.nil⟩
@[simp] theorem bA_size (l : List Nat) : (bA l).size = l.length := by simp [bA]
theorem u8_nat {n : Nat} (h : n < 256) : (UInt8.ofNat n).toNat = n := by rw [UInt8.toNat_ofNat']; exact Nat.mod_eq_of_lt h
theorem bA_nat {l : List Nat} (h : N8 l) : (bA l).toList.map UInt8.toNat = l := by
  unfold bA
  simp only [List.map_map]
  induction l with
  | nil => rfl
  | cons a l ih =>
    obtain ⟨h1, h2⟩ := N8.cons.mp h
    rw [List.map_cons, ih h2]
    congr 1
    exact u8_nat h1
theorem bA_inj {l m : List Nat} (h : N8 l) (k : N8 m) (e : bA l = bA m) : l = m := by rw [← bA_nat h, ← bA_nat k, e]
theorem bA_eq {l m : List Nat} (h : N8 l) (k : N8 m) : (bA l == bA m) = decide (l = m) := by
  rw [Bool.eq_iff_iff]
  simp only [beq_iff_eq, decide_eq_true_eq]
  exact ⟨bA_inj h k, fun e => by rw [e]⟩
theorem bA_app (l m : List Nat) : bA l ++ bA m = bA (l ++ m) := by simp [bA]
theorem byteArr_bA (l : List Nat) : byteArr (l.map fun (n : Nat) => (n : Int)) = bA l := by
  unfold byteArr bA
  rw [List.map_map]
  rfl
theorem pk_toN (l : List Nat) (k : Nat) : PySem.W.KBy.picked (bA l) none (some (k : Int)) = bA (l.take k) := by
  rw [PySem.W.KBc.picked_eq]
  show (((bA l).toList.drop 0).take (clipAt (bA l).size (k : Int) - 0)).toArray = bA (l.take k)
  rw [clipAt_nat, bA_size]
  unfold bA
  simp only [List.drop_zero, Nat.sub_zero, ← List.map_take]
  congr 2
  rw [List.take_eq_take_iff]
  omega
theorem pk_midN {l : List Nat} {i j : Nat} (hi : i ≤ l.length) (hj : j ≤ l.length) : PySem.W.KBy.picked (bA l) (some (i : Int)) (some (j : Int)) = bA ((l.drop i).take (j - i)) := by
  unfold bA
  rw [L2.pk_mid (by simpa using hi) (by simpa using hj)]
  simp only [← List.map_drop, ← List.map_take]
theorem slB_to (l : List Nat) (k : Nat) (h : l.length ≤ 16777216) : slB (bD l) none (some (k : Int)) = some (bD (l.take k)) := by
  show (if (bA l).size ≤ 16777216 then _ else _) = _
  rw [if_pos (by simpa using h), pk_toN]; rfl
theorem slB_mid {l : List Nat} {i j : Nat} (hi : i ≤ l.length) (hj : j ≤ l.length) (h : l.length ≤ 16777216) : slB (bD l) (some (i : Int)) (some (j : Int)) = some (bD ((l.drop i).take (j - i))) := by
  show (if (bA l).size ≤ 16777216 then _ else _) = _
  rw [if_pos (by simpa using h), pk_midN hi hj]; rfl
theorem bA_get {l : List Nat} {i a : Nat} (h : l[i]? = some a) : (bA l)[i]? = some (UInt8.ofNat a) := by simp [bA, h]
theorem ixB_nat {l : List Nat} {i a : Nat} (h : l[i]? = some a) (k : N8 l) (hl : l.length ≤ 16777216) : ixB (bD l) (.int (i : Int)) = some (.int (a : Int)) := by
  have hi : i < l.length := (List.getElem?_eq_some_iff.mp h).1
  have e : seqIndex? (i : Int) (bA l).size = some i := by
    have hn : ¬ (i : Int) < 0 := by omega
    simp [seqIndex?, hn, hi]
  show (if (bA l).size ≤ 16777216 then _ else _) = _
  rw [if_pos (by simpa using hl), e]
  simp only [Option.bind_some, bA_get h, Option.map_some]
  rw [u8_nat (k a (List.mem_of_getElem? h))]
theorem ixB_last {l : List Nat} {a : Nat} (h : l.getLast? = some a) (k : N8 l) (hl : l.length ≤ 16777216) : ixB (bD l) (.int (-1)) = some (.int (a : Int)) := by
  rw [List.getLast?_eq_getElem?] at h
  have hi : l.length - 1 < l.length := (List.getElem?_eq_some_iff.mp h).1
  have e : seqIndex? (-1) (bA l).size = some (l.length - 1) := by
    have h0 : (-1 : Int) < 0 := by decide
    have h1 : 0 ≤ (-1 : Int) + (l.length : Int) := by omega
    have h2 : (-1 : Int) + (l.length : Int) < (l.length : Int) := by omega
    simp only [seqIndex?, bA_size, if_pos h0, h1, h2, decide_true, Bool.and_self, if_true]
    congr 1
    omega
  show (if (bA l).size ≤ 16777216 then _ else _) = _
  rw [if_pos (by simpa using hl), e]
  simp only [Option.bind_some, bA_get h, Option.map_some]
  rw [u8_nat (k a (List.mem_of_getElem? h))]
theorem wkD_bD {l : List Nat} (h : N8 l) : wkD (bD l) = some (l.map fun (n : Nat) => D.int (n : Int)) := by
  show some ((bA l).toList.map fun c => D.int (c.toNat : Nat)) = _
  have e := bA_nat h
  rw [show ((bA l).toList.map fun c => D.int (c.toNat : Nat)) = ((bA l).toList.map UInt8.toNat).map fun (n : Nat) => D.int (n : Int) by rw [List.map_map]; rfl, e]
theorem lenF_bD {l : List Nat} (h : l.length ≤ 16777216) : lenF [bD l] = some (.int l.length) := by
  show (if (bA l).size ≤ sizeLine then _ else _) = _
  rw [if_pos (by rw [sizeLine_eq]; simpa using h), bA_size]
theorem order_bA {l m : List Nat} (h : N8 l) (k : N8 m) : (Builtin.Bytes.order (bA l).toList (bA m).toList == .lt) = decide (l < m) := by
  rw [DLC.order_lt, bA_nat h, bA_nat k]
theorem geX_bD {l m : List Nat} (h : N8 l) (k : N8 m) : geX (bD l) (bD m) = some (.bl (!decide (l < m))) := by
  show some (D.bl (Builtin.Bytes.order (bA l).toList (bA m).toList != .lt)) = _
  rw [bne, order_bA h k]
def Lab (l : List Nat) : Prop := ∃ p e, l = p ++ [e] ∧ (∀ x ∈ p, x % 2 = 1 ∧ x < 256) ∧ e % 2 = 0 ∧ 0 < e ∧ e < 256
theorem Lab.n8 {l : List Nat} (h : Lab l) : N8 l := by
  obtain ⟨p, e, rfl, h1, h2, h3, h4⟩ := h
  exact N8.app.mpr ⟨fun n hn => (h1 n hn).2, N8.one h4⟩
abbrev Op := Option (List Nat)
def opD : Op → D
  | none => .non
  | some l => bD l
def leastF (low : Op) (d : List Nat) (first : Nat) : Nat := match low with
  | some l => if l.take d.length = d then max first (l.getD d.length 0) else first
  | none => first
def mostF (high : Op) (d : List Nat) : Nat := match high with
  | some h => if h.take d.length = d then h.getD d.length 0 else 255
  | none => 255
def rgN (a m : Nat) : List Nat := (List.range ((m + 2 - a) / 2)).map fun i => a + 2 * i
theorem mem_rgN {a m x : Nat} : x ∈ rgN a m ↔ a ≤ x ∧ x ≤ m ∧ x % 2 = a % 2 := by
  unfold rgN
  simp only [List.mem_map, List.mem_range]
  constructor
  · rintro ⟨i, hi, rfl⟩; omega
  · rintro ⟨h1, h2, h3⟩
    exact ⟨(x - a) / 2, by omega, by omega⟩
theorem rgN_lt (a m : Nat) : (rgN a m).Pairwise (· < ·) := by
  unfold rgN
  rw [List.pairwise_map]
  exact List.pairwise_lt_range.imp fun {i j} h => by omega
theorem rgN_len (a m : Nat) : (rgN a m).length = (m + 2 - a) / 2 := by simp [rgN]
def allowedF (low high : Op) (d : List Nat) (first : Nat) : List Nat := rgN (leastF low d first + (leastF low d first - first) % 2) (mostF high d)
theorem leastF_ge (low : Op) (d : List Nat) (first : Nat) : first ≤ leastF low d first := by
  unfold leastF
  split
  · split
    · exact Nat.le_max_left _ _
    · exact Nat.le_refl _
  · exact Nat.le_refl _
theorem mem_allowed {low high : Op} {d : List Nat} {first x : Nat} : x ∈ allowedF low high d first ↔ leastF low d first ≤ x ∧ x ≤ mostF high d ∧ x % 2 = first % 2 := by
  unfold allowedF
  rw [mem_rgN]
  have := leastF_ge low d first
  omega
def longerF (low high : Op) (bs : List (List Nat)) (first : Nat) : List (List Nat) := (bs.map fun d => (allowedF low high d first).map fun n => d ++ [n]).flatten
theorem mem_longer {low high : Op} {bs : List (List Nat)} {first : Nat} {z : List Nat} : z ∈ longerF low high bs first ↔ ∃ d ∈ bs, ∃ x ∈ allowedF low high d first, z = d ++ [x] := by
  unfold longerF
  simp only [List.mem_flatten, List.mem_map]
  constructor
  · rintro ⟨_, ⟨d, hd, rfl⟩, hz⟩
    obtain ⟨x, hx, rfl⟩ := List.mem_map.mp hz
    exact ⟨d, hd, x, hx, rfl⟩
  · rintro ⟨d, hd, x, hx, rfl⟩
    exact ⟨_, ⟨d, hd, rfl⟩, List.mem_map_of_mem hx⟩
def newF (low high : Op) (bs : List (List Nat)) : List (List Nat) := (longerF low high bs 2).filter fun z => decide (some z ≠ low) && decide (some z ≠ high)
def begsF (low high : Op) : Nat → List (List Nat)
  | 0 => [[]]
  | k + 1 => longerF low high (begsF low high k) 1
def foundF (low high : Op) (count : Nat) : Nat → List (List Nat)
  | 0 => []
  | k + 1 => foundF low high count k ++ (newF low high (begsF low high k)).take (count - (foundF low high count k).length)
structure Pair (low high : Op) : Prop where
  lo : ∀ l, low = some l → Lab l
  hi : ∀ h, high = some h → Lab h
  lt : ∀ l h, low = some l → high = some h → l < h
def Tie (o : Op) (d : List Nat) : Prop := ∃ l, o = some l ∧ l.take d.length = d
theorem mostF_le {high : Op} (h : ∀ l, high = some l → Lab l) (d : List Nat) : mostF high d ≤ 255 := by
  unfold mostF
  split
  · rename_i l
    split
    · have h8 := (h l rfl).n8
      by_cases hi : d.length < l.length
      · have := h8 l[d.length] (List.getElem_mem _)
        rw [List.getD, List.getElem?_eq_getElem hi]
        simp; omega
      · rw [List.getD, List.getElem?_eq_none (by omega)]
        simp
    · exact Nat.le_refl _
  · exact Nat.le_refl _
theorem begs_mem {low high : Op} (P : Pair low high) : ∀ (k : Nat) (d : List Nat), d ∈ begsF low high k → d.length = k ∧ ∀ x ∈ d, x % 2 = 1 ∧ x < 256
  | 0, d, h => by rw [begsF, List.mem_singleton] at h; subst h; exact ⟨rfl, fun _ h => nomatch h⟩
  | k + 1, d, h => by
    rw [begsF, mem_longer] at h
    obtain ⟨d', hd, x, hx, rfl⟩ := h
    obtain ⟨h1, h2⟩ := begs_mem P k d' hd
    rw [mem_allowed] at hx
    refine ⟨by simp [h1], fun y hy => ?_⟩
    rcases List.mem_append.mp hy with z | z
    · exact h2 y z
    · rw [List.mem_singleton.mp z]
      have := mostF_le P.hi d'
      omega
theorem tie_short {o : Op} (h : ∀ l, o = some l → Lab l) {d l : List Nat} (hd : ∀ x ∈ d, x % 2 = 1) (ho : o = some l) (ht : l.take d.length = d) : d.length < l.length := by
  rcases Nat.lt_or_ge d.length l.length with z | z
  · exact z
  · obtain ⟨p, e, rfl, h1, h2, h3, h4⟩ := h l ho
    rw [List.take_of_length_le z] at ht
    have := hd e (by rw [← ht]; simp)
    omega
theorem app_lt {d d' s t : List Nat} (hl : d.length = d'.length) (h : d < d') : d ++ s < d' ++ t := by
  induction d generalizing d' with
  | nil => cases d' with
    | nil => exact absurd h (List.lt_irrefl _)
    | cons => simp at hl
  | cons a d ih =>
    cases d' with
    | nil => simp at hl
    | cons b d' =>
      rw [List.cons_lt_cons_iff] at h
      rw [List.cons_append, List.cons_append, List.cons_lt_cons_iff]
      rcases h with h | ⟨h, h2⟩
      · exact .inl h
      · exact .inr ⟨h, ih (by simpa using hl) h2⟩
theorem snoc_lt {d : List Nat} {x y : Nat} (h : x < y) : d ++ [x] < d ++ [y] := by
  induction d with
  | nil => simp [List.cons_lt_cons_iff, h]
  | cons a d ih => rw [List.cons_append, List.cons_append, List.cons_lt_cons_iff]; exact .inr ⟨rfl, ih⟩
theorem longer_lt {low high : Op} {bs : List (List Nat)} {first k : Nat} (hl : ∀ d ∈ bs, d.length = k) (h : bs.Pairwise (· < ·)) : (longerF low high bs first).Pairwise (· < ·) := by
  unfold longerF
  rw [List.pairwise_flatten]
  refine ⟨fun l hm => ?_, ?_⟩
  · obtain ⟨d, hd, rfl⟩ := List.mem_map.mp hm
    rw [List.pairwise_map]
    exact (rgN_lt _ _).imp fun {x y} hxy => snoc_lt hxy
  · rw [List.pairwise_map]
    refine List.Pairwise.imp_of_mem (fun {d d'} m1 m2 hd z hz y hy => ?_) h
    obtain ⟨x, _, rfl⟩ := List.mem_map.mp hz
    obtain ⟨x', _, rfl⟩ := List.mem_map.mp hy
    exact app_lt ((hl d m1).trans (hl d' m2).symm) hd
theorem begs_lt {low high : Op} (P : Pair low high) : ∀ k, (begsF low high k).Pairwise (· < ·)
  | 0 => List.pairwise_singleton _ _
  | k + 1 => longer_lt (fun d hd => (begs_mem P k d hd).1) (begs_lt P k)
theorem allowed_len {low high : Op} (h : ∀ l, high = some l → Lab l) {d : List Nat} {first : Nat} (hf : 1 ≤ first) : (allowedF low high d first).length ≤ 128 := by
  unfold allowedF
  rw [rgN_len]
  have := mostF_le h d
  have := leastF_ge low d first
  omega
theorem longer_len {low high : Op} (h : ∀ l, high = some l → Lab l) {bs : List (List Nat)} {first : Nat} (hf : 1 ≤ first) : (longerF low high bs first).length ≤ 128 * bs.length := by
  unfold longerF
  induction bs with
  | nil => simp
  | cons d bs ih =>
    rw [List.map_cons, List.flatten_cons, List.length_append, List.length_map, List.length_cons]
    have := allowed_len (low := low) h (d := d) hf
    omega
theorem leastF_free {low : Op} {d : List Nat} {first : Nat} (h : ¬ Tie low d) : leastF low d first = first := by
  unfold leastF
  split
  · rename_i l
    rw [if_neg (fun z => h ⟨l, rfl, z⟩)]
  · rfl
theorem mostF_free {high : Op} {d : List Nat} (h : ¬ Tie high d) : mostF high d = 255 := by
  unfold mostF
  split
  · rename_i l
    rw [if_neg (fun z => h ⟨l, rfl, z⟩)]
  · rfl
theorem leastF_tie {l d : List Nat} {first : Nat} (h : l.take d.length = d) : leastF (some l) d first = max first (l.getD d.length 0) := if_pos h
theorem mostF_tie {l d : List Nat} (h : l.take d.length = d) : mostF (some l) d = l.getD d.length 0 := if_pos h
theorem tie_up {o : Op} {d : List Nat} {x : Nat} (h : Tie o (d ++ [x])) : Tie o d := by
  obtain ⟨l, rfl, h⟩ := h
  refine ⟨l, rfl, ?_⟩
  have := congrArg (List.take d.length) h
  rw [List.take_take] at this
  simpa using this
theorem child {low high : Op} {k : Nat} {d : List Nat} {x : Nat} (hd : d ∈ begsF low high k) (h1 : leastF low d 1 ≤ x) (h2 : x ≤ mostF high d) (h3 : x % 2 = 1) : d ++ [x] ∈ begsF low high (k + 1) := by
  rw [begsF, mem_longer]
  exact ⟨d, hd, x, mem_allowed.mpr ⟨h1, h2, h3⟩, rfl⟩
theorem take_next {l : List Nat} {k x : Nat} (h : l[k]? = some x) : l.take (k + 1) = l.take k ++ [x] := by rw [List.take_add_one, h]; rfl
theorem lab_at {l : List Nat} (h : Lab l) {k : Nat} (hk : k + 1 < l.length) : ∃ x, l[k]? = some x ∧ x % 2 = 1 ∧ x < 256 := by
  obtain ⟨p, e, rfl, h1, _⟩ := h
  have hk2 : k < p.length := by simp at hk; omega
  refine ⟨p[k], by rw [List.getElem?_append_left hk2, List.getElem?_eq_getElem hk2], h1 _ (List.getElem_mem _)⟩
theorem low_on {low high : Op} {l : List Nat} (hL : Lab l) (hlow : low = some l) {k0 : Nat} (h0 : l.take k0 ∈ begsF low high k0) (hn : ¬ Tie high (l.take k0)) (hk0 : k0 < l.length) : ∀ k, k0 ≤ k → k < l.length → l.take k ∈ begsF low high k ∧ ¬ Tie high (l.take k) := by
  intro k hk
  obtain ⟨j, rfl⟩ := Nat.le.dest hk
  clear hk
  induction j with
  | zero => intro _; exact ⟨h0, hn⟩
  | succ j ih =>
    intro hlt
    have hk : k0 ≤ k0 + j := Nat.le_add_right _ _
    rw [← Nat.add_assoc] at hlt ⊢
    generalize k0 + j = k at ih hlt hk ⊢
    obtain ⟨h1, h2⟩ := ih (by omega)
    obtain ⟨x, hx, hx1, hx2⟩ := lab_at hL (k := k) (by omega)
    have hl : (l.take k).length = k := by rw [List.length_take]; omega
    rw [take_next hx]
    refine ⟨child h1 ?_ ?_ hx1, fun z => h2 (tie_up z)⟩
    · rw [hlow, leastF_tie (by rw [hl]), hl, List.getD, hx]
      simp; omega
    · rw [mostF_free h2]; omega
theorem high_on {low high : Op} {l : List Nat} (hL : Lab l) (hhigh : high = some l) {k0 : Nat} (h0 : l.take k0 ∈ begsF low high k0) (hn : ¬ Tie low (l.take k0)) (hk0 : k0 < l.length) : ∀ k, k0 ≤ k → k < l.length → l.take k ∈ begsF low high k ∧ ¬ Tie low (l.take k) := by
  intro k hk
  obtain ⟨j, rfl⟩ := Nat.le.dest hk
  clear hk
  induction j with
  | zero => intro _; exact ⟨h0, hn⟩
  | succ j ih =>
    intro hlt
    have hk : k0 ≤ k0 + j := Nat.le_add_right _ _
    rw [← Nat.add_assoc] at hlt ⊢
    generalize k0 + j = k at ih hlt hk ⊢
    obtain ⟨h1, h2⟩ := ih (by omega)
    obtain ⟨x, hx, hx1, hx2⟩ := lab_at hL (k := k) (by omega)
    have hl : (l.take k).length = k := by rw [List.length_take]; omega
    rw [take_next hx]
    refine ⟨child h1 ?_ ?_ hx1, fun z => h2 (tie_up z)⟩
    · rw [leastF_free h2]; omega
    · rw [hhigh, mostF_tie (by rw [hl]), hl, List.getD, hx]
      simp
def Free (low high : Op) (d : List Nat) : Prop := ¬ Tie low d ∧ ¬ Tie high d
theorem lab_end {l : List Nat} (h : Lab l) : ∃ p e, l = p ++ [e] ∧ l[p.length]? = some e ∧ l.take p.length = p ∧ e % 2 = 0 ∧ 0 < e ∧ e < 256 := by
  obtain ⟨p, e, rfl, h1, h2, h3, h4⟩ := h
  exact ⟨p, e, rfl, by simp, by simp, h2, h3, h4⟩
theorem free_low {low high : Op} {l : List Nat} (hL : Lab l) (hlow : low = some l) {k0 : Nat} (h0 : l.take k0 ∈ begsF low high k0) (hn : ¬ Tie high (l.take k0)) (hk0 : k0 < l.length) : ∃ d ∈ begsF low high l.length, Free low high d := by
  obtain ⟨p, e, rfl, h1, h2, h3, h4, h5⟩ := lab_end hL
  obtain ⟨k1, k2⟩ := low_on hL hlow h0 hn hk0 p.length (by simp at hk0; omega) (by simp)
  rw [h2] at k1 k2
  refine ⟨p ++ [e + 1], ?_, ?_, fun z => k2 (tie_up z)⟩
  · rw [List.length_append]
    refine child k1 ?_ (by rw [mostF_free k2]; omega) (by omega)
    rw [hlow, leastF_tie h2, List.getD, h1]
    simp; omega
  · rintro ⟨l', e', h'⟩
    rw [hlow] at e'
    cases e'
    rw [List.take_of_length_le (by simp)] at h'
    have := List.append_cancel_left h'
    simp at this
theorem free_high {low high : Op} {l : List Nat} (hL : Lab l) (hhigh : high = some l) {k0 : Nat} (h0 : l.take k0 ∈ begsF low high k0) (hn : ¬ Tie low (l.take k0)) (hk0 : k0 < l.length) : ∃ d ∈ begsF low high l.length, Free low high d := by
  obtain ⟨p, e, rfl, h1, h2, h3, h4, h5⟩ := lab_end hL
  obtain ⟨k1, k2⟩ := high_on hL hhigh h0 hn hk0 p.length (by simp at hk0; omega) (by simp)
  rw [h2] at k1 k2
  refine ⟨p ++ [1], ?_, fun z => k2 (tie_up z), ?_⟩
  · rw [List.length_append]
    refine child k1 (by rw [leastF_free k2]; omega) ?_ (by omega)
    rw [hhigh, mostF_tie h2, List.getD, h1]
    simp; omega
  · rintro ⟨l', e', h'⟩
    rw [hhigh] at e'
    cases e'
    rw [List.take_of_length_le (by simp)] at h'
    have := List.append_cancel_left h'
    simp at this
    omega
theorem lab_diff : ∀ {l h : List Nat}, Lab l → Lab h → l < h → ∃ p x y, l.take p = h.take p ∧ l[p]? = some x ∧ h[p]? = some y ∧ x < y := by
  intro l
  induction l with
  | nil => intro h ⟨p, e, h1, _⟩; simp at h1
  | cons a l ih =>
    intro h hl hh hlt
    cases h with
    | nil => obtain ⟨p, e, h1, _⟩ := hh; simp at h1
    | cons b h =>
      rw [List.cons_lt_cons_iff] at hlt
      rcases hlt with hlt | ⟨rfl, hlt⟩
      · exact ⟨0, a, b, rfl, rfl, rfl, hlt⟩
      · have cut : ∀ {a : Nat} {l : List Nat}, Lab (a :: l) → l = [] ∨ Lab l := fun {a l} ⟨p, e, h1, h2, h3⟩ => by
          cases p with
          | nil => left; simpa using (List.cons.inj h1).2
          | cons c p =>
            right
            exact ⟨p, e, (List.cons.inj h1).2, fun x hx => h2 x (List.mem_cons_of_mem _ hx), h3⟩
        have lone : ∀ {a : Nat} {l : List Nat}, Lab (a :: l) → (l = [] ↔ a % 2 = 0) := fun {a l} ⟨p, e, h1, h2, h3⟩ => by
          cases p with
          | nil =>
            have := List.cons.inj h1
            rw [this.1, this.2]
            exact ⟨fun _ => h3.1, fun _ => rfl⟩
          | cons c p =>
            have := List.cons.inj h1
            have h4 := (h2 c (by simp)).1
            rw [this.1, this.2]
            constructor
            · intro z; simp at z
            · intro z; omega
        rcases cut hl with rfl | h1
        · have h2 := (lone hl).mp rfl
          have := (lone hh).mpr h2
          subst this
          exact absurd hlt (List.lt_irrefl _)
        · rcases cut hh with rfl | h2
          · exact absurd hlt (by simp)
          · obtain ⟨p, x, y, e1, e2, e3, e4⟩ := ih h1 h2 hlt
            exact ⟨p + 1, x, y, by simp [e1], by simpa using e2, by simpa using e3, e4⟩
theorem free_some {low high : Op} (P : Pair low high) (n : Nat) (h1 : ∀ l, low = some l → l.length ≤ n) (h2 : ∀ l, high = some l → l.length ≤ n) : ∃ K, K ≤ n ∧ ∃ d ∈ begsF low high K, Free low high d := by
  have root : ([] : List Nat) ∈ begsF low high 0 := List.mem_singleton.mpr rfl
  cases hlo : low with
  | none =>
    subst hlo
    cases hhi : high with
    | none => subst hhi; exact ⟨0, Nat.zero_le _, [], List.mem_singleton.mpr rfl, (fun ⟨_, e, _⟩ => nomatch e), fun ⟨_, e, _⟩ => nomatch e⟩
    | some h =>
      rw [← hhi]
      have hL := P.hi h hhi
      have : 0 < h.length := by obtain ⟨p, e, rfl, _⟩ := hL; simp
      exact ⟨h.length, h2 h hhi, free_high hL hhi (k0 := 0) root (fun ⟨_, e, _⟩ => nomatch e) this⟩
  | some l =>
    rw [← hlo]
    have hL := P.lo l hlo
    have l0 : 0 < l.length := by obtain ⟨p, e, rfl, _⟩ := hL; simp
    cases hhi : high with
    | none =>
      rw [← hhi]
      exact ⟨l.length, h1 l hlo, free_low hL hlo (k0 := 0) root (fun ⟨_, e, _⟩ => by rw [hhi] at e; cases e) l0⟩
    | some h =>
      rw [← hhi]
      have hH := P.hi h hhi
      obtain ⟨p, x, y, e1, e2, e3, e4⟩ := lab_diff hL hH (P.lt l h hlo hhi)
      have pl : p < l.length := (List.getElem?_eq_some_iff.mp e2).1
      have ph : p < h.length := (List.getElem?_eq_some_iff.mp e3).1
      have on : ∀ k, k ≤ p → l.take k ∈ begsF low high k := by
        intro k
        induction k with
        | zero => intro _; exact root
        | succ k ih =>
          intro hk
          obtain ⟨z, hz, hz1, hz2⟩ := lab_at hL (k := k) (by omega)
          have eh : h[k]? = some z := by
            have := congrArg (fun t => t[k]?) e1
            simp only [List.getElem?_take, if_pos (show k < p by omega)] at this
            rw [← this]; exact hz
          have hl : (l.take k).length = k := by rw [List.length_take]; omega
          have et : h.take k = l.take k := by
            have := congrArg (List.take k) e1
            rw [List.take_take, List.take_take, Nat.min_eq_left (by omega)] at this
            exact this.symm
          rw [take_next hz]
          refine child (ih (by omega)) ?_ ?_ hz1
          · rw [hlo, leastF_tie (by rw [hl]), hl, List.getD, hz]
            simp; omega
          · rw [hhi, mostF_tie (by rw [hl]; exact et), hl, List.getD, eh]
            simp
      have hd := on p (Nat.le_refl _)
      have hlen : (l.take p).length = p := by rw [List.length_take]; omega
      have lst : leastF low (l.take p) 1 = max 1 x := by rw [hlo, leastF_tie (by rw [hlen]), hlen, List.getD, e2]; rfl
      have mst : mostF high (l.take p) = y := by rw [hhi, mostF_tie (by rw [hlen]; exact e1.symm), hlen, List.getD, e3]; rfl
      have hx8 := hL.n8 x (List.mem_of_getElem? e2)
      have hy8 := hH.n8 y (List.mem_of_getElem? e3)
      have nth : ∀ z, z ≠ y → ¬ Tie high (l.take p ++ [z]) := fun z hz ⟨h', e, t⟩ => by
        rw [hhi] at e
        cases e
        rw [List.length_append, hlen, List.length_singleton, take_next e3] at t
        have := (List.append_inj' t rfl).2
        simp at this
        exact hz this.symm
      have ntl : ∀ z, z ≠ x → ¬ Tie low (l.take p ++ [z]) := fun z hz ⟨h', e, t⟩ => by
        rw [hlo] at e
        cases e
        rw [List.length_append, hlen, List.length_singleton, take_next e2] at t
        have := (List.append_inj' t rfl).2
        simp at this
        exact hz this.symm
      by_cases ox : x % 2 = 1
      · have hp1 : p + 1 < l.length := by
          obtain ⟨q, e, rfl, k1, k2, k3, k4, k5⟩ := lab_end hL
          rcases Nat.lt_or_ge p q.length with z | z
          · simp; omega
          · have : p = q.length := by simp at pl; omega
            subst this
            rw [k1] at e2
            cases e2
            omega
        have c := child hd (x := x) (by rw [lst]; omega) (by rw [mst]; omega) ox
        have t := nth x (by omega)
        rw [← take_next e2] at c t
        exact ⟨l.length, h1 l hlo, free_low hL hlo c t hp1⟩
      · by_cases oy : y % 2 = 1
        · have hp1 : p + 1 < h.length := by
            obtain ⟨q, e, rfl, k1, k2, k3, k4, k5⟩ := lab_end hH
            rcases Nat.lt_or_ge p q.length with z | z
            · simp; omega
            · have : p = q.length := by simp at ph; omega
              subst this
              rw [k1] at e3
              cases e3
              omega
          have c := child hd (x := y) (by rw [lst]; omega) (by rw [mst]; omega) oy
          have t := ntl y (by omega)
          have e5 : l.take p ++ [y] = h.take (p + 1) := by rw [take_next e3, e1]
          rw [e5] at c t
          exact ⟨h.length, h2 h hhi, free_high hH hhi c t hp1⟩
        · refine ⟨p + 1, by have := h1 l hlo; omega, l.take p ++ [x + 1], child hd (by rw [lst]; omega) (by rw [mst]; omega) (by omega), ntl _ (by omega), nth _ (by omega)⟩
theorem new_free {low high : Op} {k : Nat} {d : List Nat} (hd : d ∈ begsF low high k) (hf : Free low high d) : 127 ≤ (newF low high (begsF low high k)).length := by
  have e : allowedF low high d 2 = rgN 2 255 := by unfold allowedF; rw [leastF_free hf.1, mostF_free hf.2]
  have hs : ((allowedF low high d 2).map fun n => d ++ [n]).Sublist (longerF low high (begsF low high k) 2) := List.sublist_flatten_of_mem (List.mem_map_of_mem hd)
  have hs2 := hs.filter (fun z => decide (some z ≠ low) && decide (some z ≠ high))
  have hall : (((allowedF low high d 2).map fun n => d ++ [n]).filter fun z => decide (some z ≠ low) && decide (some z ≠ high)) = (allowedF low high d 2).map fun n => d ++ [n] := by
    rw [List.filter_eq_self]
    intro z hz
    obtain ⟨x, _, rfl⟩ := List.mem_map.mp hz
    have n1 : some (d ++ [x]) ≠ low := fun q => hf.1 ⟨_, q.symm, by simp⟩
    have n2 : some (d ++ [x]) ≠ high := fun q => hf.2 ⟨_, q.symm, by simp⟩
    simp [n1, n2]
  rw [hall] at hs2
  have := hs2.length_le
  rw [List.length_map, e, rgN_len] at this
  exact this
theorem free_next {low high : Op} {k : Nat} {d : List Nat} (hd : d ∈ begsF low high k) (hf : Free low high d) : ∃ d' ∈ begsF low high (k + 1), Free low high d' :=
  ⟨d ++ [1], child hd (by rw [leastF_free hf.1]; omega) (by rw [mostF_free hf.2]; omega) rfl, fun z => hf.1 (tie_up z), fun z => hf.2 (tie_up z)⟩
theorem tied_two {low high : Op} {l : List (List Nat)} {k : Nat} (hl : ∀ d ∈ l, d.length = k) (h : l.Pairwise (· < ·)) (ht : ∀ d ∈ l, Tie low d ∨ Tie high d) : l.length ≤ 2 := by
  have key : ∀ d ∈ l, (∃ a, low = some a ∧ d = a.take k) ∨ (∃ a, high = some a ∧ d = a.take k) := fun d hd => by
    rcases ht d hd with ⟨a, e, t⟩ | ⟨a, e, t⟩
    · exact .inl ⟨a, e, by rw [← hl d hd]; exact t.symm⟩
    · exact .inr ⟨a, e, by rw [← hl d hd]; exact t.symm⟩
  match l, h, key with
  | [], _, _ => simp
  | [_], _, _ => simp
  | [_, _], _, _ => simp
  | x :: y :: z :: r, h, key =>
    exfalso
    have h1 := List.pairwise_cons.mp h
    have h2 := List.pairwise_cons.mp h1.2
    have xy := h1.1 y (by simp)
    have xz := h1.1 z (by simp)
    have yz := h2.1 z (by simp)
    have ne : ∀ {a b : List Nat}, a < b → a ≠ b := fun h e => by subst e; exact List.lt_irrefl _ h
    have kx := key x (by simp)
    have ky := key y (by simp)
    have kz := key z (by simp)
    rcases kx with ⟨a, ea, rfl⟩ | ⟨a, ea, rfl⟩ <;> rcases ky with ⟨b, eb, rfl⟩ | ⟨b, eb, rfl⟩ <;> rcases kz with ⟨c, ec, rfl⟩ | ⟨c, ec, rfl⟩ <;>
      first
        | (rw [ea] at eb; cases eb; exact ne xy rfl)
        | (rw [ea] at ec; cases ec; exact ne xz rfl)
        | (rw [eb] at ec; cases ec; exact ne yz rfl)
theorem found_len {low high : Op} {count : Nat} : ∀ k, (foundF low high count k).length ≤ count
  | 0 => Nat.zero_le _
  | k + 1 => by
    rw [foundF, List.length_append, List.length_take]
    have := found_len (low := low) (high := high) (count := count) k
    omega
theorem found_step {low high : Op} {count k m : Nat} (h : m ≤ (newF low high (begsF low high k)).length) : min count ((foundF low high count k).length + m) ≤ (foundF low high count (k + 1)).length := by
  rw [foundF, List.length_append, List.length_take]
  omega
theorem least_one {p : Nat → Prop} : ∀ n, p n → ∃ m, m ≤ n ∧ p m ∧ ∀ k, k < m → ¬ p k := by
  classical
  intro n
  induction n using Nat.strongRecOn with
  | _ n ih =>
    intro h
    by_cases e : ∃ k, k < n ∧ p k
    · obtain ⟨k, hk, hp⟩ := e
      obtain ⟨m, h1, h2⟩ := ih k hk hp
      exact ⟨m, by omega, h2⟩
    · exact ⟨n, Nat.le_refl _, h, fun k hk hp => e ⟨k, hk, hp⟩⟩
theorem fb_ends {low high : Op} (P : Pair low high) {n : Nat} (h1 : ∀ l, low = some l → l.length ≤ n) (h2 : ∀ l, high = some l → l.length ≤ n) {count : Nat} (hc : count ≤ 200) :
    ∃ N, N ≤ n + 2 ∧ count ≤ (foundF low high count N).length ∧ ∀ k, k < N → (begsF low high k).length ≤ 32768 := by
  classical
  obtain ⟨K0, hK0, hf0⟩ := free_some P n h1 h2
  obtain ⟨K, hle, hm, hmin0⟩ := least_one (p := fun K => ∃ d ∈ begsF low high K, Free low high d) K0 hf0
  have hmin : ∀ k, k < K → ∀ d ∈ begsF low high k, Tie low d ∨ Tie high d := fun k hk d hd => by
    have := hmin0 k hk
    by_cases t1 : Tie low d
    · exact .inl t1
    · by_cases t2 : Tie high d
      · exact .inr t2
      · exact absurd ⟨d, hd, t1, t2⟩ this
  obtain ⟨d, hd, hf⟩ := hm
  obtain ⟨d', hd', hf'⟩ := free_next hd hf
  have s1 := found_step (count := count) (new_free hd hf)
  have s2 := found_step (count := count) (new_free hd' hf')
  have small : ∀ k, k < K → (begsF low high k).length ≤ 2 := fun k hk => tied_two (fun d hd => (begs_mem P k d hd).1) (begs_lt P k) (hmin k hk)
  have atK : (begsF low high K).length ≤ 256 := by
    cases K with
    | zero => simp [begsF]
    | succ k =>
      have := longer_len (low := low) P.hi (bs := begsF low high k) (first := 1) (Nat.le_refl _)
      have := small k (by omega)
      rw [begsF]
      omega
  refine ⟨K + 1 + 1, by omega, by omega, fun k hk => ?_⟩
  by_cases h3 : k < K
  · have := small k h3; omega
  · by_cases h4 : k = K
    · subst h4; omega
    · have : k = K + 1 := by omega
      subst this
      have := longer_len (low := low) P.hi (bs := begsF low high K) (first := 1) (Nat.le_refl _)
      rw [begsF]
      omega
end FL
set_option Elab.async false
set_option linter.all false
set_option maxRecDepth 100000
set_option maxHeartbeats 4000000
set_option autoImplicit false
namespace DL
open PySem L2 PySem.W
end DL
set_option Elab.async false
set_option linter.all false
set_option maxRecDepth 100000
set_option maxHeartbeats 4000000
set_option autoImplicit false
namespace FL
open PySem L2 DL
theorem asc_eq : ∀ {l m : List Nat}, l.Pairwise (· < ·) → m.Pairwise (· < ·) → (∀ x, x ∈ l ↔ x ∈ m) → l = m
  | [], [], _, _, _ => rfl
  | [], b :: m, _, _, h => absurd ((h b).mpr (by simp)) (by simp)
  | a :: l, [], _, _, h => absurd ((h a).mp (by simp)) (by simp)
  | a :: l, b :: m, h1, h2, h => by
    obtain ⟨a1, a2⟩ := List.pairwise_cons.mp h1
    obtain ⟨b1, b2⟩ := List.pairwise_cons.mp h2
    have e : a = b := by
      have ha := (h a).mp (by simp)
      have hb := (h b).mpr (by simp)
      rcases List.mem_cons.mp ha with z | z
      · exact z
      · rcases List.mem_cons.mp hb with w | w
        · exact w.symm
        · have := b1 a z
          have := a1 b w
          omega
    subst e
    rw [asc_eq a2 b2 fun x => ?_]
    constructor
    · intro hx
      have := a1 x hx
      rcases List.mem_cons.mp ((h x).mp (List.mem_cons_of_mem _ hx)) with z | z
      · omega
      · exact z
    · intro hx
      have := b1 x hx
      rcases List.mem_cons.mp ((h x).mpr (List.mem_cons_of_mem _ hx)) with z | z
      · omega
      · exact z
theorem pre_lt (p : List Nat) {a b : List Nat} : p ++ a < p ++ b ↔ a < b := by
  induction p with
  | nil => exact Iff.rfl
  | cons c p ih => rw [List.cons_append, List.cons_append, List.cons_lt_cons_iff]; simp [ih]
def Und (a b : List Nat) : Prop := ∃ p x s y t, a = p ++ x :: s ∧ b = p ++ y :: t ∧ x < y
theorem Und.lt {a b : List Nat} (h : Und a b) : a < b := by
  obtain ⟨p, x, s, y, t, rfl, rfl, h⟩ := h
  rw [pre_lt, List.cons_lt_cons_iff]
  exact .inl h
theorem Und.r {a b : List Nat} (h : Und a b) (u : List Nat) : Und a (b ++ u) := by
  obtain ⟨p, x, s, y, t, rfl, rfl, h⟩ := h
  exact ⟨p, x, s, y, t ++ u, rfl, by simp, h⟩
theorem Und.l {a b : List Nat} (h : Und a b) (u : List Nat) : Und (a ++ u) b := by
  obtain ⟨p, x, s, y, t, rfl, rfl, h⟩ := h
  exact ⟨p, x, s ++ u, y, t, by simp, rfl, h⟩
section
variable {low high : Op}
variable {k x : Nat} {d : List Nat}
def totF (low high : Op) : Nat → List (List Nat)
  | 0 => []
  | k + 1 => totF low high k ++ newF low high (begsF low high k)
theorem found_tot {count : Nat} : ∀ k, foundF low high count k = (totF low high k).take count
  | 0 => by simp [foundF, totF]
  | k + 1 => by
    rw [foundF, totF, found_tot k, List.take_append]
    congr 2
    rw [List.length_take]
    omega
theorem found_fix {count : Nat} : ∀ {k j : Nat}, count ≤ (foundF low high count k).length → count ≤ (foundF low high count j).length → foundF low high count k = foundF low high count j := by
  have stop : ∀ {k : Nat}, count ≤ (foundF low high count k).length → ∀ j, foundF low high count (k + j) = foundF low high count k := fun {k} h j => by
    induction j with
    | zero => rfl
    | succ j ih =>
      rw [← Nat.add_assoc, foundF, ih, Nat.sub_eq_zero_of_le h]
      simp
  intro k j hk hj
  rcases Nat.le_total k j with z | z
  · have := stop hk (j - k)
    rw [show k + (j - k) = j by omega] at this
    exact this.symm
  · have := stop hj (k - j)
    rw [show j + (k - j) = k by omega] at this
    exact this
end
end FL
set_option Elab.async false
set_option linter.all false
set_option maxRecDepth 100000
set_option maxHeartbeats 4000000
set_option autoImplicit false
namespace FL
open PySem L2 DL
section
variable {low high : Op}
theorem newF_app (a b : List (List Nat)) : newF low high (a ++ b) = newF low high a ++ newF low high b := by
  unfold newF longerF
  rw [List.map_append, List.flatten_append, List.filter_append]
theorem newF_cons (d : List Nat) (b : List (List Nat)) : newF low high (d :: b) = newF low high [d] ++ newF low high b := newF_app [d] b
theorem newF_free {d : List Nat} (hf : Free low high d) : (newF low high [d]).length = 127 := by
  have e : allowedF low high d 2 = rgN 2 255 := by unfold allowedF; rw [leastF_free hf.1, mostF_free hf.2]
  have e2 : longerF low high [d] 2 = (allowedF low high d 2).map fun n => d ++ [n] := by simp [longerF]
  have hall : (((allowedF low high d 2).map fun n => d ++ [n]).filter fun z => decide (some z ≠ low) && decide (some z ≠ high)) = (allowedF low high d 2).map fun n => d ++ [n] := by
    rw [List.filter_eq_self]
    intro z hz
    obtain ⟨x, _, rfl⟩ := List.mem_map.mp hz
    have n1 : some (d ++ [x]) ≠ low := fun q => hf.1 ⟨_, q.symm, by simp⟩
    have n2 : some (d ++ [x]) ≠ high := fun q => hf.2 ⟨_, q.symm, by simp⟩
    simp [n1, n2]
  unfold newF
  rw [e2, hall, List.length_map, e, rgN_len]
theorem new_many : ∀ (bs : List (List Nat)), ∃ ts : List (List Nat), ts.Sublist bs ∧ (∀ d ∈ ts, Tie low d ∨ Tie high d) ∧ 127 * (bs.length - ts.length) ≤ (newF low high bs).length
  | [] => ⟨[], .slnil, (fun _ h => nomatch h), Nat.zero_le _⟩
  | d :: bs => by
    obtain ⟨ts, h1, h2, h3⟩ := new_many bs
    have hl := h1.length_le
    by_cases hf : Free low high d
    · refine ⟨ts, h1.cons d, h2, ?_⟩
      rw [newF_cons, List.length_append, newF_free hf, List.length_cons]
      omega
    · refine ⟨d :: ts, h1.cons_cons d, fun x hx => ?_, ?_⟩
      · rcases List.mem_cons.mp hx with rfl | hx
        · by_cases t1 : Tie low x
          · exact .inl t1
          · by_cases t2 : Tie high x
            · exact .inr t2
            · exact absurd ⟨t1, t2⟩ hf
        · exact h2 x hx
      · rw [newF_cons, List.length_append, List.length_cons, List.length_cons]
        omega
theorem six_enough (P : Pair low high) {k : Nat} (h : 7 ≤ (begsF low high k).length) : 254 ≤ (newF low high ((begsF low high k).take 6)).length := by
  obtain ⟨ts, h1, h2, h3⟩ := new_many (low := low) (high := high) ((begsF low high k).take 6)
  have hl : ts.length ≤ 2 := tied_two (k := k) (fun d hd => (begs_mem P k d (List.mem_of_mem_take (h1.mem hd))).1) (((begs_lt P k).sublist (List.take_sublist _ _)).sublist h1) h2
  rw [List.length_take] at h3
  omega
theorem six_take {count k : Nat} (hc : count ≤ 200) (P : Pair low high) (h : 7 ≤ (begsF low high k).length) :
    (totF low high k ++ newF low high ((begsF low high k).take 6)).take count = foundF low high count (k + 1) ∧ count ≤ (foundF low high count (k + 1)).length := by
  have h6 := six_enough P h
  have e : newF low high (begsF low high k) = newF low high ((begsF low high k).take 6) ++ newF low high ((begsF low high k).drop 6) := by
    rw [← newF_app, List.take_append_drop]
  refine ⟨?_, ?_⟩
  · rw [found_tot, totF, e, ← List.append_assoc]
    exact (List.take_append_of_le_length (by rw [List.length_append]; omega)).symm
  · rw [found_tot, totF, e, List.length_take, List.length_append, List.length_append]
    omega
inductive Wk (low high : Op) (count N k : Nat) : List (List Nat) → List (List Nat) → Prop
  | all : k ≤ N → (begsF low high k).length ≤ 6 → Wk low high count N k (begsF low high k) (totF low high k)
  | six : k ≤ N → 7 ≤ (begsF low high k).length → Wk low high count N k ((begsF low high k).take 6) (totF low high k)
  | fin (j : Nat) (bs fs : List (List Nat)) : fs.take count = foundF low high count j → count ≤ (foundF low high count j).length → Wk low high count N k bs fs
theorem Wk.len {count N k : Nat} {bs fs : List (List Nat)} (h : Wk low high count N k bs fs) (hlt : fs.length < count) : bs.length ≤ 6 := by
  cases h with
  | all _ h => exact h
  | six _ h => rw [List.length_take]; omega
  | fin j _ _ h1 h2 =>
    rw [← h1, List.length_take] at h2
    omega
theorem Wk.mem {count N k : Nat} {bs fs : List (List Nat)} (P : Pair low high) (h : Wk low high count N k bs fs) (hlt : fs.length < count) : ∀ d ∈ bs, d ∈ begsF low high k := by
  cases h with
  | all _ h => exact fun d hd => hd
  | six _ h => exact fun d hd => List.mem_of_mem_take hd
  | fin j _ _ h1 h2 =>
    rw [← h1, List.length_take] at h2
    omega
theorem Wk.step {count N k : Nat} {bs fs : List (List Nat)} (P : Pair low high) (hc : count ≤ 200) (hN : count ≤ (foundF low high count N).length) (h : Wk low high count N k bs fs) (hlt : fs.length < count) :
    Wk low high count N (k + 1) ((longerF low high bs 1).take 6) (fs ++ newF low high bs) := by
  have stop : ∀ {k : Nat}, N ≤ k → count ≤ (totF low high k).length := fun {k} hk => by
    have : ∀ j, (totF low high N).length ≤ (totF low high (N + j)).length := fun j => by
      induction j with
      | zero => exact Nat.le_refl _
      | succ j ih => rw [← Nat.add_assoc, totF, List.length_append]; omega
    have h2 := this (k - N)
    rw [show N + (k - N) = k by omega] at h2
    rw [found_tot, List.length_take] at hN
    omega
  cases h with
  | all hk h =>
    have hk' : k < N := by
      rcases Nat.lt_or_ge k N with z | z
      · exact z
      · have := stop z; omega
    show Wk low high count N (k + 1) ((begsF low high (k + 1)).take 6) (totF low high (k + 1))
    by_cases h6 : (begsF low high (k + 1)).length ≤ 6
    · rw [List.take_of_length_le h6]
      exact .all hk' h6
    · exact .six hk' (by omega)
  | six hk h =>
    obtain ⟨e1, e2⟩ := six_take hc P h
    exact .fin (k + 1) _ _ e1 e2
  | fin j _ _ h1 h2 =>
    rw [← h1, List.length_take] at h2
    omega
theorem Wk.done {count N k : Nat} {bs fs : List (List Nat)} (h : Wk low high count N k bs fs) (hge : count ≤ fs.length) : ∃ j, fs.take count = foundF low high count j ∧ count ≤ (foundF low high count j).length := by
  cases h with
  | all hk h => exact ⟨k, (found_tot k).symm, by rw [found_tot, List.length_take]; omega⟩
  | six hk h => exact ⟨k, (found_tot k).symm, by rw [found_tot, List.length_take]; omega⟩
  | fin j _ _ h1 h2 => exact ⟨j, h1, h2⟩
theorem Wk.far {count N k : Nat} {bs fs : List (List Nat)} (h : Wk low high count N k bs fs) (hk : N < k) : count ≤ fs.length := by
  cases h with
  | all h _ => omega
  | six h _ => omega
  | fin j _ _ h1 h2 =>
    rw [← h1, List.length_take] at h2
    omega
def rgA (a m : Nat) : List Nat := (List.range (m + 1 - a)).map fun i => a + i
theorem mem_rgA {a m x : Nat} : x ∈ rgA a m ↔ a ≤ x ∧ x ≤ m := by
  simp only [rgA, List.mem_map, List.mem_range]
  constructor
  · rintro ⟨i, h, rfl⟩; omega
  · rintro ⟨h1, h2⟩; exact ⟨x - a, by omega, by omega⟩
theorem rgA_lt (a m : Nat) : (rgA a m).Pairwise (· < ·) := by
  rw [rgA, List.pairwise_map]
  exact List.Pairwise.imp (fun h => Nat.add_lt_add_left h a) List.pairwise_lt_range
theorem rgA_len (a m : Nat) : (rgA a m).length = m + 1 - a := by simp [rgA]
def lowN (low : Op) (d : List Nat) : Nat := match low with
  | some l => if l.take d.length = d then l.getD d.length 0 else 0
  | none => 0
theorem even_all (d : List Nat) : (rgA (max 1 (lowN low d)) (mostF high d)).filter (fun n => n % 2 == 0) = allowedF low high d 2 := by
  refine asc_eq ((rgA_lt _ _).sublist (List.filter_sublist)) (by unfold allowedF; exact rgN_lt _ _) fun x => ?_
  rw [List.mem_filter, mem_rgA, mem_allowed, beq_iff_eq]
  have : leastF low d 2 = max 2 (lowN low d) := by
    unfold leastF lowN
    cases low with
    | none => rfl
    | some l => by_cases h : l.take d.length = d <;> simp [h]
  omega
theorem odd_all (d : List Nat) : (rgA (max 1 (lowN low d)) (mostF high d)).filter (fun n => n % 2 == 1) = allowedF low high d 1 := by
  refine asc_eq ((rgA_lt _ _).sublist (List.filter_sublist)) (by unfold allowedF; exact rgN_lt _ _) fun x => ?_
  rw [List.mem_filter, mem_rgA, mem_allowed, beq_iff_eq]
  have : leastF low d 1 = max 1 (lowN low d) := by
    unfold leastF lowN
    cases low with
    | none => rfl
    | some l => by_cases h : l.take d.length = d <;> simp [h]
  omega
end
end FL
set_option Elab.async false
set_option linter.all false
set_option maxRecDepth 100000
set_option maxHeartbeats 4000000
set_option autoImplicit true
namespace LawProof
open PySem L2 DL FL
theorem enN_at {l : List Nat} {f : Nat → D} {c : Nat} {done rest : List D} {x : D} (h : ((l.map f).zipIdx.map fun p => D.tup [.int ((p.2 + c : Nat)), p.1]) = done ++ x :: rest) : ∃ a, l[done.length]? = some a ∧ x = .tup [.int ((done.length + c : Nat)), f a] := by
  have e := congrArg (fun t => t[done.length]?) h
  simp only [List.getElem?_map, List.getElem?_zipIdx, List.getElem?_append_right (Nat.le_refl _), Nat.sub_self, List.getElem?_cons_zero] at e
  cases h1 : l[done.length]? with
  | none => rw [h1] at e; simp at e
  | some a => rw [h1] at e; simp at e; exact ⟨a, rfl, by rw [← e]; simp⟩
theorem enN_len {l : List Nat} {f : Nat → D} {c : Nat} : ((l.map f).zipIdx.map fun p => D.tup [.int ((p.2 + c : Nat)), p.1]).length = l.length := by simp
theorem idxOf_first : ∀ (l : List Nat) (j : Nat), l[j]? = some 0 → (∀ i, i < j → l[i]? ≠ some 0) → l.idxOf 0 = j
  | [], _, h, _ => by simp at h
  | a :: l, 0, h, _ => by simp at h; subst h; simp
  | a :: l, j + 1, h, k => by
    have h0 : a ≠ 0 := fun z => k 0 (by omega) (by simp [z])
    rw [List.idxOf_cons, show (a == 0) = false by simpa using h0]
    simp only [Bool.false_eq_true, if_false, cond_false]
    rw [idxOf_first l j (by simpa using h) fun i hi => by have := k (i + 1) (by omega); simpa using this]
def kfD (l : List Nat) : D := match l.getLast? with
  | none => .int (-1)
  | some e => if 0 ∈ l then .int (l.idxOf 0 : Nat) else if e % 2 = 1 then .int (l.length : Nat) else .non
def cutK : List Nat → List Nat → List (List Nat)
  | _, [] => []
  | acc, a :: r => if a % 2 = 0 then (acc ++ [a]) :: cutK [] r else cutK (acc ++ [a]) r
theorem isiB (M : Mem) (d : D) {n : String} (h : tyName (vw M d) = some n) : isiF ([d, .ty "bytes"].map (vw M)) = some (.bl (n == "bytes")) := by
  have hn := tyName_mem h
  simp [isiF, h]
  simp [tyNames] at hn
  rcases hn with rfl | rfl | rfl | rfl | rfl | rfl | rfl | rfl <;> simp [tyNames, isTy]
def sp_is_integer : SpD := fun ds M Q _ => ∃ d n, ds = [d] ∧ tyName (vw M d) = some n ∧ Q (.bl (n == "int")) M
abbrev N_is_integer : List Str := ["thing"]
def t_is_integer : DTS := (dRet (dAndV (dCB isiF (dCons (dVar 0) (dCons (dC (.ty "int")) dNil))) (dNotV (dCB isiF (dCons (dVar 0) (dCons (dC (.ty "bool")) dNil))))))
theorem pure_is_integer : ∀ ds M Q E, sp_is_integer ds M Q E → ds.length = 1 ∧ t_is_integer (dEnds Q E) (startD N_is_integer ds) M := by
  rintro ds M Q E ⟨d, n, rfl, h, q⟩
  refine ⟨rfl, ?_⟩
  have hn := tyName_mem h
  simp [t_is_integer, isiF, h]
  simp [tyNames] at hn
  rcases hn with rfl | rfl | rfl | rfl | rfl | rfl | rfl | rfl <;> simpa [tyNames, isTy] using q
def sp_is_sequence : SpD := fun ds M Q _ => ∃ d n, ds = [d] ∧ tyName (vw M d) = some n ∧ Q (.bl (n == "list" || n == "tuple")) M
abbrev N_is_sequence : List Str := ["thing"]
def t_is_sequence : DTS := (dRet (dCB isiF (dCons (dVar 0) (dCons (dTup (dCons (dC (.ty "list")) (dCons (dC (.ty "tuple")) dNil))) dNil))))
theorem pure_is_sequence : ∀ ds M Q E, sp_is_sequence ds M Q E → ds.length = 1 ∧ t_is_sequence (dEnds Q E) (startD N_is_sequence ds) M := by
  rintro ds M Q E ⟨d, n, rfl, h, q⟩
  refine ⟨rfl, ?_⟩
  have hn := tyName_mem h
  simp [t_is_sequence, isiF, h]
  simp [tyNames] at hn
  rcases hn with rfl | rfl | rfl | rfl | rfl | rfl | rfl | rfl <;> simpa [tyNames, isTy] using q
def sp_key_fault : SpD := fun ds M Q _ => ∃ d, ds = [d] ∧ ((∃ l, d = bD l ∧ N8 l ∧ l.length ≤ 1000000 ∧ Q (kfD l) M) ∨ (∃ n, tyName (vw M d) = some n ∧ n ≠ "bytes" ∧ Q (.int (-1)) M))
abbrev N_key_fault : List Str := ["key", "place", "number"]
def l_key_fault_1 : DTS := (dIf (dTest (dOp eqD (dVar 2) (dC (.int 0)))) (dRet (dVar 1)) dNext)
def l_key_fault_2 : DTS := (dSeq (dFor (iEnN 0 (dVar 0)) (gT 2 (gsCons (gN 1) (gsCons (gN 2) gsNil))) l_key_fault_1)
    (dRet (dIfE (dTest (dOp eqD (dOp modD (dCB intF (dCons (dOp ixB (dVar 0) (dUn negD (dC (.int 1)))) dNil)) (dC (.int 2))) (dC (.int 1)))) (dCB lenF (dCons (dVar 0) dNil)) (dC .non))))
def t_key_fault : DTS := (dSeq (dIf (dOr (dNot (dTest (dCB isiF (dCons (dVar 0) (dCons (dC (.ty "bytes")) dNil))))) (dTest (dOp eqD (dCB lenF (dCons (dVar 0) dNil)) (dC (.int 0))))) (dRet (dUn negD (dC (.int 1)))) dNext)
    l_key_fault_2)
theorem kf_loop {l : List Nat} {M : Mem} {Q : DV} {E : DEK} {o1 o2 : Option D} (h8 : N8 l) (hl : l.length ≤ 1000000) (hne : l ≠ []) (q : Q (kfD l) M) : l_key_fault_2 (dEnds Q E) [some (bD l), o1, o2] M := by
  obtain ⟨e, he⟩ : ∃ e, l.getLast? = some e := by
    cases h : l.getLast? with
    | none => exact absurd (List.getLast?_eq_none_iff.mp h) hne
    | some e => exact ⟨e, rfl⟩
  unfold kfD at q
  rw [he] at q
  simp only at q
  refine ⟨_, rfl, _, wkD_bD h8, ?_⟩
  refine forD_run _ (fun done ρ M1 => M1 = M ∧ (∃ o1 o2, ρ = [some (bD l), o1, o2]) ∧ ∀ j, j < done.length → l[j]? ≠ some 0) ?_ ?_ ⟨rfl, ⟨o1, o2, rfl⟩, fun j hj => absurd hj (by simp)⟩
  · rintro done x rest ρ M1 Nx hx ⟨rfl, ⟨o1, o2, rfl⟩, hz⟩ nx
    obtain ⟨a, ha, rfl⟩ := enN_at hx
    refine ⟨_, .inl rfl, rfl, _, _, rfl, _, _, rfl, rfl, ?_⟩
    refine ⟨_, rfl, .bl ((a : Int) == 0), rfl, _, rfl, ?_⟩
    by_cases h0 : a = 0
    · subst h0
      have hm : 0 ∈ l := List.mem_of_getElem? ha
      rw [if_pos hm] at q
      have hi : l.idxOf 0 = done.length := idxOf_first l _ ha (fun i hi => hz i hi)
      rw [hi] at q
      exact ⟨_, rfl, q⟩
    · have : ((a : Int) == 0) = false := by rw [beq_eq_false_iff_ne]; omega
      rw [this]
      refine nx _ _ ⟨rfl, ⟨_, _, rfl⟩, fun j hj => ?_⟩
      simp at hj
      rcases Nat.lt_or_ge j done.length with z | z
      · exact hz j z
      · have : j = done.length := by omega
        subst this
        rw [ha]
        intro z
        exact h0 (Option.some.inj z)
  · rintro ρ M1 ⟨rfl, ⟨o1, o2, rfl⟩, hz⟩
    have hn : 0 ∉ l := fun hm => by
      obtain ⟨j, hj, e⟩ := List.mem_iff_getElem.mp hm
      exact hz j (by rw [enN_len]; exact hj) (by rw [List.getElem?_eq_getElem hj, e])
    rw [if_neg hn] at q
    refine ⟨_, rfl, _, rfl, _, ixB_last he h8 (by omega), _, rfl, _, modD_int (by decide), .bl (((e : Int) % 2) == 1), rfl, _, rfl, ?_⟩
    by_cases ho : e % 2 = 1
    · rw [if_pos ho] at q
      have : (((e : Int) % 2) == 1) = true := by rw [beq_iff_eq]; omega
      rw [this]
      exact ⟨_, rfl, _, lenF_bD (by omega), q⟩
    · rw [if_neg ho] at q
      have : (((e : Int) % 2) == 1) = false := by rw [beq_eq_false_iff_ne]; omega
      rw [this]
      exact q
theorem pure_key_fault : ∀ ds M Q E, sp_key_fault ds M Q E → ds.length = 1 ∧ t_key_fault (dEnds Q E) (startD N_key_fault ds) M := by
  rintro ds M Q E ⟨d, rfl, ⟨l, rfl, h8, hl, q⟩ | ⟨n, hn, hb, q⟩⟩
  · refine ⟨rfl, ?_⟩
    refine ⟨_, rfl, _, isiB M (bD l) (n := "bytes") rfl, _, rfl, ?_⟩
    simp only [beq_self_eq_true, Bool.not_true, Bool.false_eq_true, if_false]
    refine ⟨_, rfl, _, lenF_bD (by omega), .bl ((l.length : Int) == 0), rfl, _, rfl, ?_⟩
    by_cases h0 : l = []
    · subst h0
      exact ⟨_, rfl, q⟩
    · have : ((l.length : Int) == 0) = false := by
        rw [beq_eq_false_iff_ne]
        have := List.length_pos_iff.mpr h0
        omega
      rw [this]
      exact kf_loop h8 hl h0 q
  · refine ⟨rfl, ?_⟩
    refine ⟨_, rfl, _, isiB M d hn, _, rfl, ?_⟩
    have : (n == "bytes") = false := by simpa using hb
    rw [this]
    exact ⟨_, rfl, q⟩
def sp_cut_key : SpD := fun ds M Q _ => ∃ l, ds = [bD l] ∧ N8 l ∧ l.length ≤ 1000000 ∧ Q (.lst ((cutK [] l).map bD)) M
abbrev N_cut_key : List Str := ["key", "found", "begin", "place", "number"]
def l_cut_key_1 : DTS := (dSeq (dDrop (dBM "list" φApp (dVar 1) (dCons (dSl slB (dVar 0) (dPart (dVar 2)) (dPart (dOp addD (dVar 3) (dC (.int 1))))) dNil)))
    (dAsg (dOp addD (dVar 3) (dC (.int 1))) (gN 2)))
def l_cut_key_2 : DTS := (dIf (dTest (dOp eqD (dOp modD (dCB intF (dCons (dVar 4) dNil)) (dC (.int 2))) (dC (.int 0)))) l_cut_key_1 dNext)
def l_cut_key_3 : DTS := (dSeq (dFor (iEnN 0 (dVar 0)) (gT 2 (gsCons (gN 3) (gsCons (gN 4) gsNil))) l_cut_key_2)
    (dRet (dFrz (dVar 1))))
def t_cut_key : DTS := (dSeq (dPar 1 2 (dCons (dLstM dNil) (dCons (dC (.int 0)) dNil)))
    l_cut_key_3)
theorem ck_loop {l : List Nat} {M : Mem} {r : Addr} {Q : DV} {E : DEK} {o3 o4 : Option D} (h8 : N8 l) (hl : l.length ≤ 1000000) (hr : M r = none) (q : Q (.lst ((cutK [] l).map bD)) M) : l_cut_key_3 (dEnds Q E) [some (bD l), some (.ref r), some (.int 0), o3, o4] (updM M r (.lst [])) := by
  refine ⟨_, rfl, _, wkD_bD h8, ?_⟩
  refine forD_run _ (fun done ρ M1 => ∃ (F : List (List Nat)) (b : Nat) (o3 o4 : Option D), ρ = [some (bD l), some (.ref r), some (.int (b : Nat)), o3, o4] ∧ M1 = updM M r (.lst (F.map bD)) ∧ b ≤ done.length ∧ done.length ≤ l.length ∧ F.length ≤ done.length ∧
    F ++ cutK ((l.drop b).take (done.length - b)) (l.drop done.length) = cutK [] l) ?_ ?_ ⟨[], 0, o3, o4, rfl, rfl, Nat.le_refl _, Nat.zero_le _, Nat.zero_le _, by simp⟩
  · rintro done x rest ρ M1 Nx hx ⟨F, b, o3, o4, rfl, rfl, hb, hd, hF, he⟩ nx
    obtain ⟨a, ha, rfl⟩ := enN_at hx
    have hi : done.length < l.length := (List.getElem?_eq_some_iff.mp ha).1
    have e1 : l.drop done.length = a :: l.drop (done.length + 1) := by
      rw [List.drop_eq_getElem_cons hi, (List.getElem?_eq_some_iff.mp ha).2]
    have e2 : (l.drop b).take (done.length - b) ++ [a] = (l.drop b).take (done.length + 1 - b) := by
      rw [show done.length + 1 - b = (done.length - b) + 1 by omega, List.take_add_one, List.getElem?_drop, show b + (done.length - b) = done.length by omega, ha]
      rfl
    rw [e1, cutK, e2] at he
    refine ⟨_, .inl rfl, rfl, _, _, rfl, _, _, rfl, rfl, ?_⟩
    refine ⟨_, rfl, _, rfl, _, modD_int (by decide), .bl (((a : Int) % 2) == 0), rfl, _, rfl, ?_⟩
    by_cases h0 : a % 2 = 0
    · rw [if_pos h0] at he
      have : (((a : Int) % 2) == 0) = true := by rw [beq_iff_eq]; omega
      rw [this]
      have es : slB (bD l) (some ((b : Nat) : Int)) (some (((done.length + 1 : Nat)) : Int)) = some (bD ((l.drop b).take (done.length + 1 - b))) := slB_mid (by omega) (by omega) (by omega)
      refine ⟨_, rfl, by rw [vw_upd]; rfl, _, rfl, _, rfl, _, rfl, _, rfl, .int (((done.length + 0 : Nat) : Int) + 1), rfl, _, rfl, _, (by rw [show (((done.length + 0 : Nat) : Int) + 1) = ((done.length + 1 : Nat) : Int) by omega]; exact es), ?_⟩
      refine ⟨r, F.map bD, _, rfl, rfl, updM_same, by simp; omega, ?_⟩
      refine ⟨_, rfl, .int (((done.length + 0 : Nat) : Int) + 1), rfl, ?_⟩
      refine nx _ _ ⟨F ++ [(l.drop b).take (done.length + 1 - b)], done.length + 1, some (.int ((done.length + 0 : Nat) : Int)), some (.int (a : Int)), rfl, ?_, ?_, ?_, ?_, ?_⟩
      · rw [updM_updM]; simp
      · simp
      · simp; omega
      · simp; omega
      · simp only [List.length_append, List.length_singleton, Nat.sub_self, List.take_zero]
        rw [List.append_assoc, List.singleton_append]
        exact he
    · rw [if_neg h0] at he
      have : (((a : Int) % 2) == 0) = false := by rw [beq_eq_false_iff_ne]; omega
      rw [this]
      refine nx _ _ ⟨F, b, _, _, rfl, rfl, by simp; omega, by simp; omega, by simp; omega, ?_⟩
      simpa using he
  · rintro ρ M1 ⟨F, b, o3, o4, rfl, rfl, hb, hd, hF, he⟩
    rw [enN_len, List.drop_length] at he
    have hF2 : F = cutK [] l := by rw [← he]; simp [cutK]
    subst hF2
    refine ⟨_, rfl, ?_⟩
    show frz (.ref r) _ _
    simp only [frz, updM_same]
    rw [delM_updM hr]
    exact q
theorem pure_cut_key : ∀ ds M Q E, sp_cut_key ds M Q E → ds.length = 1 ∧ t_cut_key (dEnds Q E) (startD N_cut_key ds) M := by
  rintro ds M Q E ⟨l, rfl, h8, hl, q⟩
  exact ⟨rfl, by simp, fun r hr => ⟨_, _, rfl, ck_loop h8 hl hr q⟩⟩
def nD (n : Nat) : D := .int (n : Int)
def okB : D → Bool
  | .int i => decide (0 ≤ i) && decide (i ≤ 255)
  | _ => false
def Ty (d : D) : Prop := ∃ n, tyName d = some n
theorem Ty.vw {d : D} (h : Ty d) (M : Mem) : vw M d = d := by obtain ⟨n, h⟩ := h; cases d <;> first | rfl | cases h
theorem ty_nD (n : Nat) : Ty (nD n) := ⟨_, rfl⟩
theorem okB_nD {n : Nat} (h : n < 256) : okB (nD n) = true := by simp [okB, nD]; omega
def sp_bytes_of : SpD := fun ds M Q E => ∃ d, ds = [d] ∧
  ((∃ l, seqs d = some (l.map nD) ∧ N8 l ∧ l.length ≤ 1000000 ∧ Q (bD l) M) ∨
   (∃ (xs : List D) (j : Nat) (y : D), seqs d = some xs ∧ xs.length ≤ 1000000 ∧ (∀ x ∈ xs, Ty x) ∧ xs[j]? = some y ∧ okB y = false ∧ (∀ i x, i < j → xs[i]? = some x → okB x = true) ∧ E 30 ["place"] [.int (j : Nat)] M) ∨
   (∃ n, tyName (vw M d) = some n ∧ n ≠ "list" ∧ n ≠ "tuple" ∧ E 30 ["place"] [.int (-1)] M))
abbrev N_bytes_of : List Str := ["numbers", "place", "number"]
def l_bytes_of_1 : DTS := (dIf (dOr (dNot (dTest (dCall sp_is_integer [] (dCons (dVar 2) dNil)))) (dNot (dTest (dChain leD leD (dC (.int 0)) (dVar 2) (dC (.int 255)))))) (dRaise 30 ["place"] (dCons (dVar 1) dNil)) dNext)
def l_bytes_of_2 : DTS := (dSeq (dFor (iEnT (dVar 0)) (gT 2 (gsCons (gN 1) (gsCons (gN 2) gsNil))) l_bytes_of_1)
    (dRet (dCB bytesF (dCons (dVar 0) dNil))))
def t_bytes_of : DTS := (dSeq (dIf (dNot (dTest (dCall sp_is_sequence [] (dCons (dVar 0) dNil)))) (dRaise 30 ["place"] (dCons (dUn negD (dC (.int 1))) dNil)) dNext)
    l_bytes_of_2)
theorem bo_en {xs : List D} {done rest : List D} {x : D} (h : (xs.zipIdx.map fun p => D.tup [.int (p.2 : Nat), p.1]) = done ++ x :: rest) : ∃ a, xs[done.length]? = some a ∧ x = .tup [.int (done.length : Nat), a] := by
  have e := congrArg (fun t => t[done.length]?) h
  simp only [List.getElem?_map, List.getElem?_zipIdx, List.getElem?_append_right (Nat.le_refl _), Nat.sub_self, List.getElem?_cons_zero] at e
  cases h1 : xs[done.length]? with
  | none => rw [h1] at e; simp at e
  | some a => rw [h1] at e; simp at e; exact ⟨a, rfl, by rw [← e]⟩
theorem bo_item {x : D} {ρ : DL.Env} {M : Mem} {E : DEnds} (h : Ty x) (h2 : ρ[2]? = some (some x)) (q1 : okB x = true → E.nx ρ M) (q2 : okB x = false → ∃ p, ρ[1]? = some (some p) ∧ E.ex 30 ["place"] [p] ρ M) : l_bytes_of_1 E ρ M := by
  obtain ⟨n, hn⟩ := h
  refine ⟨_, h2, x, n, rfl, by rw [Ty.vw ⟨n, hn⟩]; exact hn, _, rfl, ?_⟩
  by_cases hi : n = "int"
  · subst hi
    obtain ⟨i, rfl⟩ : ∃ i, x = .int i := by cases x <;> simp [tyName] at hn ⊢
    refine ⟨_, h2, decide (0 ≤ i), rfl, ?_⟩
    by_cases h0 : 0 ≤ i
    · rw [decide_eq_true h0]
      refine ⟨.bl (decide (i ≤ 255)), rfl, _, rfl, ?_⟩
      by_cases h1 : i ≤ 255
      · rw [decide_eq_true h1]
        exact q1 (by simp [okB, h0, h1])
      · rw [decide_eq_false h1]
        obtain ⟨p, e, k⟩ := q2 (by simp [okB, h0, h1])
        exact ⟨_, e, rfl, k⟩
    · rw [decide_eq_false h0]
      obtain ⟨p, e, k⟩ := q2 (by simp [okB, h0])
      exact ⟨_, rfl, _, e, rfl, k⟩
  · have : (n == "int") = false := by simpa using hi
    rw [this]
    obtain ⟨p, e, k⟩ := q2 (by cases x <;> first | rfl | (simp [tyName] at hn; exact absurd hn.symm hi))
    exact ⟨_, e, rfl, k⟩
theorem natsOk : ∀ (l : List Nat), N8 l → intsOf (l.map nD) = some (l.map fun (n : Nat) => (n : Int))
  | [], _ => rfl
  | a :: l, h => by
    rw [List.map_cons, show nD a = .int (a : Int) from rfl, intsOf_cons, natsOk l (N8.cons.mp h).2]; rfl
theorem bytesF_nD {d : D} {l : List Nat} (hd : seqs d = some (l.map nD)) (h : N8 l) : bytesF [d] = some (bD l) := by
  have e := natsOk l h
  have k : is8 (l.map fun (n : Nat) => (n : Int)) = true := is8_iff.mpr fun n hn => by
    obtain ⟨m, hm, rfl⟩ := List.mem_map.mp hn
    have := h m hm
    omega
  cases d with
  | lst xs => cases hd; show (intsOf _).bind _ = _; rw [e]; simp only [Option.bind_some]; rw [if_pos k, byteArr_bA]; rfl
  | tup xs => cases hd; show (intsOf _).bind _ = _; rw [e]; simp only [Option.bind_some]; rw [if_pos k, byteArr_bA]; rfl
  | _ => cases hd
theorem seqs_vw {d : D} {xs : List D} (h : seqs d = some xs) (M : Mem) : vw M d = d := by cases d <;> first | rfl | cases h
theorem seqs_isq {d : D} {xs : List D} (h : seqs d = some xs) : ∃ n, tyName d = some n ∧ (n == "list" || n == "tuple") = true := by
  cases d with
  | lst => exact ⟨_, rfl, rfl⟩
  | tup => exact ⟨_, rfl, rfl⟩
  | _ => cases h
theorem pure_bytes_of : ∀ ds M Q E, sp_bytes_of ds M Q E → ds.length = 1 ∧ t_bytes_of (dEnds Q E) (startD N_bytes_of ds) M := by
  rintro ds M Q E ⟨d, rfl, ⟨l, hd, h8, hl, q⟩ | ⟨xs, j, y, hd, hl, ht, hj, hy, hb, q⟩ | ⟨n, hn, n1, n2, q⟩⟩
  · refine ⟨rfl, ?_⟩
    obtain ⟨n, hn, hs⟩ := seqs_isq hd
    refine ⟨_, rfl, d, n, rfl, by rw [seqs_vw hd]; exact hn, _, rfl, ?_⟩
    rw [hs]
    refine ⟨_, rfl, _, seqs_en hd, ?_⟩
    refine forD_run _ (fun done ρ M1 => M1 = M ∧ ∃ o1 o2, ρ = [some d, o1, o2]) ?_ ?_ ⟨rfl, _, _, rfl⟩
    · rintro done x rest ρ M1 Nx hx ⟨rfl, o1, o2, rfl⟩ nx
      obtain ⟨a, ha, rfl⟩ := bo_en hx
      obtain ⟨m, hm, rfl⟩ := List.mem_map.mp (List.mem_of_getElem? ha)
      refine ⟨_, .inl rfl, rfl, _, _, rfl, _, _, rfl, rfl, ?_⟩
      refine bo_item (ty_nD m) rfl (fun _ => nx _ _ ⟨rfl, _, _, rfl⟩) fun h => ?_
      rw [okB_nD (h8 m hm)] at h
      cases h
    · rintro ρ M1 ⟨rfl, o1, o2, rfl⟩
      exact ⟨_, rfl, _, by rw [List.map_cons, List.map_nil, seqs_vw hd]; exact bytesF_nD hd h8, q⟩
  · refine ⟨rfl, ?_⟩
    obtain ⟨n, hn, hs⟩ := seqs_isq hd
    refine ⟨_, rfl, d, n, rfl, by rw [seqs_vw hd]; exact hn, _, rfl, ?_⟩
    rw [hs]
    refine ⟨_, rfl, _, seqs_en hd, ?_⟩
    have hjl : j < xs.length := (List.getElem?_eq_some_iff.mp hj).1
    refine forD_run _ (fun done ρ M1 => M1 = M ∧ done.length ≤ j ∧ ∃ o1 o2, ρ = [some d, o1, o2]) ?_ ?_ ⟨rfl, Nat.zero_le _, _, _, rfl⟩
    · rintro done x rest ρ M1 Nx hx ⟨rfl, hdj, o1, o2, rfl⟩ nx
      obtain ⟨a, ha, rfl⟩ := bo_en hx
      refine ⟨_, .inl rfl, rfl, _, _, rfl, _, _, rfl, rfl, ?_⟩
      refine bo_item (ht a (List.mem_of_getElem? ha)) rfl (fun ho => nx _ _ ⟨rfl, ?_, _, _, rfl⟩) fun h => ⟨_, rfl, ?_⟩
      · rcases Nat.lt_or_ge done.length j with z | z
        · simp; omega
        · have : done.length = j := by omega
          rw [this, hj] at ha
          cases ha
          rw [hy] at ho
          cases ho
      · rcases Nat.lt_or_ge done.length j with z | z
        · rw [hb _ _ z ha] at h
          cases h
        · have : done.length = j := by omega
          rw [this]
          exact q
    · rintro ρ M1 ⟨rfl, hdj, _⟩
      simp at hdj
      omega
  · refine ⟨rfl, ?_⟩
    refine ⟨_, rfl, d, n, rfl, hn, _, rfl, ?_⟩
    have : (n == "list" || n == "tuple") = false := by simp [n1, n2]
    rw [this]
    exact ⟨_, rfl, rfl, q⟩
def labB (l : List Nat) : Bool := (match kfD l with | .non => true | _ => false) && (cutK [] l).length == 1
def sp_is_label : SpD := fun ds M Q _ => ∃ d, ds = [d] ∧ ((∃ l, d = bD l ∧ N8 l ∧ l.length ≤ 1000000 ∧ Q (.bl (labB l)) M) ∨ (∃ n, tyName (vw M d) = some n ∧ n ≠ "bytes" ∧ Q (.bl false) M))
abbrev N_is_label : List Str := ["thing"]
def t_is_label : DTS := (dRet (dAndV (dOp isNonD (dCall sp_key_fault [] (dCons (dVar 0) dNil)) (dC .non)) (dOp eqD (dCB lenF (dCons (dCall sp_cut_key [] (dCons (dVar 0) dNil)) dNil)) (dC (.int 1)))))
theorem kfD_or (l : List Nat) : kfD l = .non ∨ ∃ i, kfD l = .int i := by
  unfold kfD
  split
  · exact .inr ⟨_, rfl⟩
  · split
    · exact .inr ⟨_, rfl⟩
    · split
      · exact .inr ⟨_, rfl⟩
      · exact .inl rfl
theorem pure_is_label : ∀ ds M Q E, sp_is_label ds M Q E → ds.length = 1 ∧ t_is_label (dEnds Q E) (startD N_is_label ds) M := by
  rintro ds M Q E ⟨d, rfl, ⟨l, rfl, h8, hl, q⟩ | ⟨n, hn, hb, q⟩⟩
  · refine ⟨rfl, _, rfl, _, rfl, .inl ⟨l, rfl, h8, hl, ?_⟩⟩
    unfold labB at q
    rcases kfD_or l with e | ⟨i, e⟩
    · rw [e] at q ⊢
      refine ⟨.bl true, rfl, true, rfl, ?_⟩
      exact ⟨_, rfl, l, rfl, h8, hl, _, rfl, .bl (((((cutK [] l).map bD).length : Nat) : Int) == 1), rfl, by
        have : ((((((cutK [] l).map bD).length : Nat) : Int) == 1)) = ((cutK [] l).length == 1) := by rw [Bool.eq_iff_iff]; simp; omega
        rw [this]; simpa using q⟩
    · rw [e] at q ⊢
      exact ⟨.bl false, rfl, false, rfl, q⟩
  · exact ⟨rfl, _, rfl, _, rfl, .inr ⟨n, hn, hb, .bl false, rfl, false, rfl, q⟩⟩
def EndOk (o : Op) (d : List Nat) : Prop := ∀ l, o = some l → N8 l ∧ l.length ≤ 1000000 ∧ (l.take d.length = d → d.length < l.length)
def sp_allowed : SpD := fun ds M Q _ => ∃ (low high : Op) (d : List Nat) (first : Nat), ds = [opD low, opD high, bD d, .int (first : Nat)] ∧ N8 d ∧ d.length ≤ 1000000 ∧ first ≤ 255 ∧ EndOk low d ∧ EndOk high d ∧ Q (.lst ((allowedF low high d first).map nD)) M
abbrev N_allowed : List Str := ["low", "high", "done", "first", "least", "most"]
def l_allowed_1 : DTS := (dSeq (dIf (dAnd (dTest (dOp notNonD (dVar 1) (dC .non))) (dTest (dOp eqD (dSl slB (dVar 1) dNoPart (dPart (dCB lenF (dCons (dVar 2) dNil)))) (dVar 2)))) (dAsg (dOp ixB (dVar 1) (dCB lenF (dCons (dVar 2) dNil))) (gN 5)) dNext)
    (dRet (dListRg3 (dCons (dOp addD (dVar 4) (dOp modD (dCB intF (dCons (dOp subD (dVar 4) (dVar 3)) dNil)) (dC (.int 2)))) (dCons (dOp addD (dVar 5) (dC (.int 1))) (dCons (dC (.int 2)) dNil))))))
def l_allowed_2 : DTS := (dSeq (dIf (dAnd (dTest (dOp notNonD (dVar 0) (dC .non))) (dTest (dOp eqD (dSl slB (dVar 0) dNoPart (dPart (dCB lenF (dCons (dVar 2) dNil)))) (dVar 2)))) (dAsg (dCB maxF (dCons (dVar 3) (dCons (dOp ixB (dVar 0) (dCB lenF (dCons (dVar 2) dNil))) dNil))) (gN 4)) dNext)
    l_allowed_1)
def t_allowed : DTS := (dSeq (dPar 4 5 (dCons (dVar 3) (dCons (dC (.int 255)) dNil)))
    l_allowed_2)
section
variable {low high : Op} {d : List Nat} {first : Nat} {M : Mem} {Q : DV} {E : DEK}
theorem al_0 {a m : Nat} (h1 : first ≤ a) (ha : a ≤ 300) (hm : m ≤ 300) (q : Q (.lst ((rgN (a + (a - first) % 2) m).map nD)) M) : dRet (dListRg3 (dCons (dOp addD (dVar 4) (dOp modD (dCB intF (dCons (dOp subD (dVar 4) (dVar 3)) dNil)) (dC (.int 2)))) (dCons (dOp addD (dVar 5) (dC (.int 1))) (dCons (dC (.int 2)) dNil)))) (dEnds Q E) [some (opD low), some (opD high), some (bD d), some (.int (first : Nat)), some (.int (a : Nat)), some (.int (m : Nat))] M := by
  refine ⟨_, rfl, _, rfl, _, rfl, .int ((a : Int) - (first : Int)), rfl, _, rfl, _, modD_int (by decide), .int ((a : Int) + ((a : Int) - (first : Int)) % 2), rfl, _, rfl, .int ((m : Int) + 1), rfl, _, _, _, _, rfl, rgC2 (by omega) (by omega) (by omega) (by omega), by omega, ?_⟩
  have e : rgD ((a : Int) + ((a : Int) - (first : Int)) % 2) 2 (((m : Int) + 1 - ((a : Int) + ((a : Int) - (first : Int)) % 2) + 1) / 2).toNat = (rgN (a + (a - first) % 2) m).map nD := by
    unfold rgD rgN
    rw [List.map_map]
    have en : (((m : Int) + 1 - ((a : Int) + ((a : Int) - (first : Int)) % 2) + 1) / 2).toNat = (m + 2 - (a + (a - first) % 2)) / 2 := by omega
    rw [en]
    refine List.map_congr_left fun i _ => ?_
    show D.int _ = D.int _
    congr 1
    simp only [Function.comp]
    omega
  rw [e]
  exact q
theorem tie_eq {o : List Nat} (h8 : N8 o) (hd : N8 d) (hl : o.length ≤ 1000000) : ∃ z, slB (vw M (bD o)) none (some ((d.length : Nat) : Int)) = some z ∧ eqD (vw M z) (vw M (bD d)) = some (.bl (decide (o.take d.length = d))) := by
  refine ⟨_, slB_to o d.length (by omega), ?_⟩
  show some (D.bl (bA (o.take d.length) == bA d)) = _
  rw [bA_eq (h8.take _) hd]
theorem al_1 {a : Nat} {m0 : Option D} (h8 : N8 d) (hl : d.length ≤ 1000000) (hH : EndOk high d) (h1 : first ≤ a) (ha : a ≤ 300) (h5 : m0 = some (.int 255)) (q : Q (.lst ((rgN (a + (a - first) % 2) (mostF high d)).map nD)) M) : l_allowed_1 (dEnds Q E) [some (opD low), some (opD high), some (bD d), some (.int (first : Nat)), some (.int (a : Nat)), m0] M := by
  subst h5
  cases high with
  | none =>
    refine ⟨_, rfl, .bl false, rfl, _, rfl, ?_⟩
    exact al_0 (m := 255) h1 ha (by omega) q
  | some o =>
    obtain ⟨k8, kl, kt⟩ := hH o rfl
    refine ⟨_, rfl, .bl true, rfl, _, rfl, ?_⟩
    obtain ⟨z, z1, z2⟩ := tie_eq (M := M) (d := d) k8 h8 kl
    refine ⟨_, rfl, _, rfl, _, lenF_bD (by omega), _, rfl, z, z1, _, rfl, _, z2, _, rfl, ?_⟩
    by_cases ht : o.take d.length = d
    · rw [decide_eq_true ht]
      have hlt := kt ht
      have hg : o[d.length]? = some o[d.length] := List.getElem?_eq_getElem hlt
      have hm : mostF (some o) d = o[d.length] := by rw [mostF_tie ht, List.getD, hg]; rfl
      rw [hm] at q
      refine ⟨_, rfl, _, rfl, _, lenF_bD (by omega), _, ixB_nat hg k8 (by omega), ?_⟩
      have := k8 _ (List.getElem_mem hlt)
      exact al_0 (m := o[d.length]) h1 ha (by omega) q
    · rw [decide_eq_false ht]
      have hm : mostF (some o) d = 255 := if_neg ht
      rw [hm] at q
      exact al_0 (m := 255) h1 ha (by omega) q
theorem al_2 {m0 : Option D} (h8 : N8 d) (hl : d.length ≤ 1000000) (hf : first ≤ 255) (hL : EndOk low d) (hH : EndOk high d) (h5 : m0 = some (.int 255)) (q : Q (.lst ((allowedF low high d first).map nD)) M) : l_allowed_2 (dEnds Q E) [some (opD low), some (opD high), some (bD d), some (.int (first : Nat)), some (.int (first : Nat)), m0] M := by
  cases low with
  | none =>
    refine ⟨_, rfl, .bl false, rfl, _, rfl, ?_⟩
    exact al_1 (low := none) (a := first) h8 hl hH (Nat.le_refl _) (by omega) h5 q
  | some o =>
    obtain ⟨k8, kl, kt⟩ := hL o rfl
    refine ⟨_, rfl, .bl true, rfl, _, rfl, ?_⟩
    obtain ⟨z, z1, z2⟩ := tie_eq (M := M) (d := d) k8 h8 kl
    refine ⟨_, rfl, _, rfl, _, lenF_bD (by omega), _, rfl, z, z1, _, rfl, _, z2, _, rfl, ?_⟩
    unfold allowedF at q
    by_cases ht : o.take d.length = d
    · rw [decide_eq_true ht]
      have hlt := kt ht
      have hg : o[d.length]? = some o[d.length] := List.getElem?_eq_getElem hlt
      have hm : leastF (some o) d first = max first o[d.length] := by rw [leastF_tie ht, List.getD, hg]; rfl
      rw [hm] at q
      have h9 := k8 _ (List.getElem_mem hlt)
      refine ⟨_, rfl, _, rfl, _, rfl, _, lenF_bD (by omega), _, ixB_nat hg k8 (by omega), _, maxF_2, ?_⟩
      have e : (if (o[d.length] : Int) > (first : Int) then (o[d.length] : Int) else (first : Int)) = ((max first o[d.length] : Nat) : Int) := by split <;> omega
      rw [e]
      exact al_1 (low := some o) (a := max first o[d.length]) h8 hl hH (by omega) (by omega) h5 q
    · rw [decide_eq_false ht]
      have hm : leastF (some o) d first = first := if_neg ht
      rw [hm] at q
      exact al_1 (low := some o) (a := first) h8 hl hH (Nat.le_refl _) (by omega) h5 q
end
theorem pure_allowed : ∀ ds M Q E, sp_allowed ds M Q E → ds.length = 4 ∧ t_allowed (dEnds Q E) (startD N_allowed ds) M := by
  rintro ds M Q E ⟨low, high, d, first, rfl, h8, hl, hf, hL, hH, q⟩
  exact ⟨rfl, _, rfl, _, _, rfl, al_2 h8 hl hf hL hH rfl q⟩
def sp_longer : SpD := fun ds M Q _ => ∃ (low high : Op) (bs : List (List Nat)) (first : Nat), ds = [opD low, opD high, .lst (bs.map bD), .int (first : Nat)] ∧ (∀ d ∈ bs, N8 d ∧ d.length ≤ 100000 ∧ EndOk low d ∧ EndOk high d) ∧ first ≤ 255 ∧ (∀ h, high = some h → N8 h) ∧ (longerF low high bs first).length ≤ 16777216 ∧
  ∀ M', Keep M M' → Q (.lst ((longerF low high bs first).map bD)) M'
abbrev N_longer : List Str := ["low", "high", "beginnings", "first", "done", "number"]
def t_longer : DTS := (dRet (dLc2 (iG (iS (dVar 2))) (gN 4) dYes (iG (iS (dCall sp_allowed [] (dCons (dVar 0) (dCons (dVar 1) (dCons (dVar 4) (dCons (dVar 3) dNil))))))) (gN 5) dYes (dOp addD (dVar 4) (dCB bytesF (dCons (dLst (dCons (dVar 5) dNil)) dNil))) [4, 5] [5]))
theorem most_8 {high : Op} (h : ∀ l, high = some l → N8 l) (d : List Nat) : mostF high d ≤ 255 := by
  unfold mostF
  split
  · rename_i l
    split
    · have h8 := h l rfl
      by_cases hi : d.length < l.length
      · have := h8 l[d.length] (List.getElem_mem _)
        rw [List.getD, List.getElem?_eq_getElem hi]
        simp; omega
      · rw [List.getD, List.getElem?_eq_none (by omega)]
        simp
    · exact Nat.le_refl _
  · exact Nat.le_refl _
theorem pure_longer : ∀ ds M Q E, sp_longer ds M Q E → ds.length = 4 ∧ t_longer (dEnds Q E) (startD N_longer ds) M := by
  rintro ds M Q E ⟨low, high, bs, first, rfl, hb, hf, hh, hl, q⟩
  refine ⟨rfl, _, rfl, _, rfl, fun a ha => ?_⟩
  refine lc2_map bD (fun d => (allowedF low high d first).map nD) (fun d y => match y with | .int n => bD (d ++ [n.toNat]) | _ => .non) bs ha ?_ (fun d hd M1 R hR => ?_) (fun d hd y hy M1 T hT => ?_) fun M' k => ?_
  · refine Nat.le_trans (Nat.le_of_eq ?_) hl
    unfold longerF
    simp only [List.length_flatten, List.map_map]
    congr 1
    exact List.map_congr_left fun d _ => by simp
  · obtain ⟨h8, hdl, e1, e2⟩ := hb d hd
    exact ⟨_, rfl, _, rfl, _, rfl, _, rfl, low, high, d, first, rfl, h8, by omega, hf, e1, e2, _, rfl, hR⟩
  · obtain ⟨n, hn, rfl⟩ := List.mem_map.mp hy
    obtain ⟨h8, hdl, e1, e2⟩ := hb d hd
    have h9 := most_8 hh d
    have hn2 : n < 256 := by have := (mem_allowed.mp hn).2.1; omega
    refine ⟨_, rfl, _, rfl, by simp, _, bytesF_nD (l := [n]) rfl (N8.one hn2), _, ?_, hT⟩
    show (if (bA d).size + (bA [n]).size ≤ 16777216 then some (D.byt (bA d ++ bA [n])) else none) = _
    rw [if_pos (by simp; omega), bA_app]
    simp [nD, bD]
  · have e : (bs.map fun x => ((allowedF low high x first).map nD).map fun y => match y with | .int n => bD (x ++ [n.toNat]) | _ => .non).flatten = (longerF low high bs first).map bD := by
      unfold longerF
      rw [List.map_flatten, List.map_map]
      congr 1
      refine List.map_congr_left fun d _ => ?_
      simp only [List.map_map, Function.comp]
      refine List.map_congr_left fun n _ => ?_
      simp [nD]
    rw [e]
    exact q _ k
end LawProof
set_option Elab.async false
set_option linter.all false
set_option maxRecDepth 100000
set_option maxHeartbeats 4000000
set_option autoImplicit true
namespace LawProof
open PySem L2 DL FL
def sp_found_between : SpD := fun ds M Q _ => ∃ (low high : Op) (count N : Nat), ds = [opD low, opD high, .int (count : Nat)] ∧ Pair low high ∧ (∀ l, low = some l → l.length ≤ 1000000) ∧ (∀ l, high = some l → l.length ≤ 1000000) ∧ count ≤ 100000 ∧ N ≤ 90000 ∧
  count ≤ (foundF low high count N).length ∧ (∀ k, k < N → (begsF low high k).length ≤ 32768) ∧ ∀ M', Keep M M' → Q (.lst (((foundF low high count N).map bD).mergeSort leByt)) M'
abbrev N_found_between : List Str := ["low", "high", "count", "found", "beginnings", "labels", "label"]
def l_found_between_1 : DTS := (dSeq (dDrop (dBM "list" φExt (dVar 3) (dCons (dSl slD (dVar 5) dNoPart (dPart (dOp subD (dVar 2) (dCB lenF (dCons (dVar 3) dNil))))) dNil)))
    (dAsg (dCall sp_longer [] (dCons (dVar 0) (dCons (dVar 1) (dCons (dVar 4) (dCons (dC (.int 1)) dNil))))) (gN 4)))
def l_found_between_2 : DTS := (dSeq (dAsg (dLc (iS (dCall sp_longer [] (dCons (dVar 0) (dCons (dVar 1) (dCons (dVar 4) (dCons (dC (.int 2)) dNil)))))) (gN 6) (dAnd (dTest (dBin bNeY (dVar 6) (dVar 0))) (dTest (dBin bNeY (dVar 6) (dVar 1)))) (dVar 6) [6]) (gN 5))
    l_found_between_1)
def l_found_between_3 : DTS := (dSeq (dWhile (dTest (dOp ltD (dCB lenF (dCons (dVar 3) dNil)) (dVar 2))) l_found_between_2)
    (dRet (dSorted (dVar 3))))
def t_found_between : DTS := (dSeq (dPar 3 4 (dCons (dLstM dNil) (dCons (dLst (dCons (dC (.byt #[])) dNil)) dNil)))
    l_found_between_3)
theorem found_stop {low high : Op} {count k : Nat} (h : count ≤ (foundF low high count k).length) : ∀ j, foundF low high count (k + j) = foundF low high count k
  | 0 => rfl
  | j + 1 => by
    rw [← Nat.add_assoc, foundF, found_stop h j, Nat.sub_eq_zero_of_le h]
    simp
theorem pair_end {low high : Op} (P : Pair low high) (h1 : ∀ l, low = some l → l.length ≤ 1000000) (h2 : ∀ l, high = some l → l.length ≤ 1000000) {k : Nat} (hk : k ≤ 90000) : ∀ d ∈ begsF low high k, N8 d ∧ d.length ≤ 100000 ∧ EndOk low d ∧ EndOk high d := fun d hd => by
  obtain ⟨e1, e2⟩ := begs_mem P k d hd
  exact ⟨fun n hn => (e2 n hn).2, by omega, fun l hl => ⟨(P.lo l hl).n8, h1 l hl, fun t => tie_short P.lo (fun x hx => (e2 x hx).1) hl t⟩, fun l hl => ⟨(P.hi l hl).n8, h2 l hl, fun t => tie_short P.hi (fun x hx => (e2 x hx).1) hl t⟩⟩
def newD (low high : Op) : D → Option D
  | .byt b => if some (b.toList.map UInt8.toNat) ≠ low ∧ some (b.toList.map UInt8.toNat) ≠ high then some (.byt b) else none
  | _ => none
theorem newD_bD {low high : Op} {z : List Nat} (h : N8 z) : newD low high (bD z) = if some z ≠ low ∧ some z ≠ high then some (bD z) else none := by
  show (if some ((bA z).toList.map UInt8.toNat) ≠ low ∧ some ((bA z).toList.map UInt8.toNat) ≠ high then some (D.byt (bA z)) else none) = _
  rw [bA_nat h]; rfl
theorem newD_all {low high : Op} : ∀ (l : List (List Nat)), (∀ z ∈ l, N8 z) → (l.map bD).filterMap (newD low high) = (l.filter fun z => decide (some z ≠ low) && decide (some z ≠ high)).map bD
  | [], _ => rfl
  | z :: l, h => by
    rw [List.map_cons, List.filterMap_cons, newD_bD (h z (by simp)), newD_all l fun y hy => h y (List.mem_cons_of_mem _ hy)]
    by_cases c : some z ≠ low ∧ some z ≠ high
    · rw [if_pos c, List.filter_cons_of_pos (by simp [c.1, c.2])]; rfl
    · rw [if_neg c, List.filter_cons_of_neg (by simp only [Bool.and_eq_true, decide_eq_true_eq]; exact c)]
theorem ne_end {o : Op} {z : List Nat} {ρ : DL.Env} {M : Mem} {R : DV} {X : DX} (h8 : N8 z) (ho : ∀ l, o = some l → N8 l) (q : R (.bl (decide (some z ≠ o))) M) : bNeY (bD z) (opD o) ρ M R X := by
  cases o with
  | none =>
    refine ⟨_, _, .same _, .same _, .inr (.inl ⟨_, rfl, rfl, ?_⟩)⟩
    simpa using q
  | some l =>
    refine ⟨_, _, .same _, .same _, .inl ⟨_, _, rfl, rfl, ?_⟩⟩
    have e : (bA z != bA l) = decide (some z ≠ some l) := by rw [bne, bA_eq h8 (ho l rfl)]; simp
    rw [e]
    exact q
section
variable {low high : Op} {count k : Nat} {M M1 : Mem} {r : Addr} {E : DEnds} {o5 o6 : Option D}
theorem fb_1 {N : List (List Nat)} (P : Pair low high) (h1 : ∀ l, low = some l → l.length ≤ 1000000) (h2 : ∀ l, high = some l → l.length ≤ 1000000) (hk : k ≤ 90000) (hb : (begsF low high k).length ≤ 32768) (hc : count ≤ 100000) (hlt : (foundF low high count k).length < count) (hn : N = newF low high (begsF low high k))
    (hr : M1 r = some (.lst ((foundF low high count k).map bD)))
    (q : ∀ M', M' r = some (.lst ((foundF low high count (k + 1)).map bD)) → (∀ b d, b ≠ r → M1 b = some d → M' b = some d) → E.nx [some (opD low), some (opD high), some (.int (count : Nat)), some (.ref r), some (.lst ((begsF low high (k + 1)).map bD)), some (.lst (N.map bD)), o6] M') :
    l_found_between_1 E [some (opD low), some (opD high), some (.int (count : Nat)), some (.ref r), some (.lst ((begsF low high k).map bD)), some (.lst (N.map bD)), o6] M1 := by
  have vr : vw M1 (.ref r) = .lst ((foundF low high count k).map bD) := by show (M1 r).getD _ = _; rw [hr]; rfl
  refine ⟨_, rfl, by rw [vr]; rfl, _, rfl, _, rfl, _, rfl, .int ((foundF low high count k).length : Nat), ?_, .int ((count : Int) - ((foundF low high count k).length : Nat)), rfl, _, rfl, _, rfl, ?_⟩
  · rw [List.map_cons, vr]; simp
  have ec : (count : Int) - ((foundF low high count k).length : Nat) = ((count - (foundF low high count k).length : Nat) : Int) := by omega
  rw [ec, cutD_to, ← List.map_take]
  have fl := found_len (low := low) (high := high) (count := count) k
  refine ⟨r, _, _, _, rfl, rfl, rfl, hr, ?_, ?_⟩
  · rw [size_line, List.length_map, List.length_map, List.length_take]; omega
  rw [← List.map_append]
  have ef : foundF low high count k ++ N.take (count - (foundF low high count k).length) = foundF low high count (k + 1) := by rw [foundF, hn]
  rw [ef]
  refine ⟨_, rfl, _, rfl, _, rfl, low, high, begsF low high k, 1, rfl, pair_end P h1 h2 hk, by omega, fun h hh => (P.hi h hh).n8, ?_, fun M' kp => ?_⟩
  · have := longer_len (low := low) P.hi (bs := begsF low high k) (first := 1) (Nat.le_refl _)
    omega
  · exact q M' (kp _ _ updM_same) fun b d hb hd => kp _ _ (by rw [updM_ne hb]; exact hd)
theorem fb_2 (P : Pair low high) (h1 : ∀ l, low = some l → l.length ≤ 1000000) (h2 : ∀ l, high = some l → l.length ≤ 1000000) (hk : k ≤ 90000) (hb : (begsF low high k).length ≤ 32768) (hc : count ≤ 100000) (hlt : (foundF low high count k).length < count)
    (hr : M1 r = some (.lst ((foundF low high count k).map bD)))
    (q : ∀ o5 o6 M', M' r = some (.lst ((foundF low high count (k + 1)).map bD)) → (∀ b d, b ≠ r → M1 b = some d → M' b = some d) → E.nx [some (opD low), some (opD high), some (.int (count : Nat)), some (.ref r), some (.lst ((begsF low high (k + 1)).map bD)), o5, o6] M') :
    l_found_between_2 E [some (opD low), some (opD high), some (.int (count : Nat)), some (.ref r), some (.lst ((begsF low high k).map bD)), o5, o6] M1 := by
  have hl := longer_len (low := low) P.hi (bs := begsF low high k) (first := 2) (by omega)
  refine ⟨_, rfl, _, rfl, _, rfl, low, high, begsF low high k, 2, rfl, pair_end P h1 h2 hk, by omega, fun h hh => (P.hi h hh).n8, by omega, fun M2 kp => ?_⟩
  refine ⟨_, rfl, fun a ha => ?_⟩
  have n8 : ∀ z ∈ longerF low high (begsF low high k) 2, N8 z := fun z hz => by
    obtain ⟨d, hd, x, hx, rfl⟩ := mem_longer.mp hz
    obtain ⟨e1, e2⟩ := begs_mem P k d hd
    have := (mem_allowed.mp hx).2.1
    have := mostF_le P.hi d
    exact N8.app.mpr ⟨fun n hn => (e2 n hn).2, N8.one (by omega)⟩
  refine lcD_fn (newD low high) _ (by simp; omega) ha (fun x hx M3 T _ hT => ?_) ?_
  · obtain ⟨z, hz, rfl⟩ := List.mem_map.mp hx
    rw [newD_bD (n8 z hz)] at hT
    refine ⟨_, rfl, _, rfl, ne_end (n8 z hz) (fun l hl => (P.lo l hl).n8) ⟨_, rfl, ?_⟩⟩
    by_cases c1 : some z ≠ low
    · rw [decide_eq_true c1]
      refine ⟨_, rfl, _, rfl, ne_end (n8 z hz) (fun l hl => (P.hi l hl).n8) ⟨_, rfl, ?_⟩⟩
      by_cases c2 : some z ≠ high
      · rw [decide_eq_true c2]
        rw [if_pos ⟨c1, c2⟩] at hT
        exact ⟨_, rfl, hT⟩
      · rw [decide_eq_false c2]
        rw [if_neg (fun z => c2 z.2)] at hT
        exact hT
    · rw [decide_eq_false c1]
      rw [if_neg (fun z => c1 z.1)] at hT
      exact hT
  · rw [newD_all _ n8]
    exact fb_1 P h1 h2 hk hb hc hlt rfl (kp _ _ hr) fun M' e1 e2 => q _ _ M' e1 fun b d hbr hd => e2 b d hbr (kp _ _ hd)
end
theorem pure_found_between : ∀ ds M Q E, sp_found_between ds M Q E → ds.length = 3 ∧ t_found_between (dEnds Q E) (startD N_found_between ds) M := by
  rintro ds M Q E ⟨low, high, count, N, rfl, P, h1, h2, hc, hN, hf, hb, q⟩
  refine ⟨rfl, by simp, fun r hr => ⟨by simp, _, _, rfl, ?_⟩⟩
  refine ⟨fun m ρ M1 => ∃ (k : Nat) (o5 o6 : Option D), m = N - k ∧ k ≤ N ∧ ρ = [some (opD low), some (opD high), some (.int (count : Nat)), some (.ref r), some (.lst ((begsF low high k).map bD)), o5, o6] ∧ M1 r = some (.lst ((foundF low high count k).map bD)) ∧ Keep M M1, ⟨N, 0, none, none, rfl, Nat.zero_le _, rfl, updM_same, Keep.new hr⟩, ?_⟩
  rintro m ρ M1 ⟨k, o5, o6, rfl, hk, rfl, hM, kp⟩
  have vr : vw M1 (.ref r) = .lst ((foundF low high count k).map bD) := by show (M1 r).getD _ = _; rw [hM]; rfl
  refine ⟨_, rfl, .int ((foundF low high count k).length : Nat), by rw [List.map_cons, vr]; simp, _, rfl, .bl (decide (((foundF low high count k).length : Int) < (count : Int))), rfl, _, rfl, ?_⟩
  by_cases hlt : (foundF low high count k).length < count
  · have hkN : k < N := by
      rcases Nat.lt_or_ge k N with z | z
      · exact z
      · have : k = N := by omega
        subst this
        omega
    rw [decide_eq_true (by omega)]
    refine ⟨fun ρ' M' => ∃ o5 o6, ρ' = [some (opD low), some (opD high), some (.int (count : Nat)), some (.ref r), some (.lst ((begsF low high (k + 1)).map bD)), o5, o6] ∧ M' r = some (.lst ((foundF low high count (k + 1)).map bD)) ∧ Keep M M', ?_, ?_⟩
    · rintro ρ' M' ⟨o5, o6, rfl, e1, e2⟩
      exact ⟨N - (k + 1), by omega, k + 1, o5, o6, rfl, by omega, rfl, e1, e2⟩
    · refine fb_2 P h1 h2 (by omega) (hb k hkN) hc hlt hM fun o5 o6 M' e1 e2 => ⟨o5, o6, rfl, e1, fun b d hbd => e2 b d (fun z => ?_) (kp _ _ hbd)⟩
      rw [z, hr] at hbd
      cases hbd
  · rw [decide_eq_false (by omega)]
    have es : foundF low high count N = foundF low high count k := by
      have := found_stop (Nat.le_of_not_lt hlt) (N - k)
      rw [show k + (N - k) = N by omega] at this
      exact this
    rw [es] at q
    refine ⟨_, rfl, _, leByt, vr, ?_, (by have z := SortBy.byt ((foundF low high count k).map bA); rw [List.map_map] at z; exact z), q _ kp⟩
    rw [size_line, List.length_map]
    have := found_len (low := low) (high := high) (count := count) k
    omega
theorem cutK_count : ∀ (l acc : List Nat), (cutK acc l).length = l.countP fun n => n % 2 == 0
  | [], _ => rfl
  | a :: l, acc => by
    rw [cutK, List.countP_cons]
    by_cases h : a % 2 = 0
    · rw [if_pos h, List.length_cons, cutK_count l []]; simp [h]
    · rw [if_neg h, cutK_count l]; simp [h]
theorem labB_iff {l : List Nat} (h8 : N8 l) : labB l = true ↔ Lab l := by
  unfold labB
  rw [Bool.and_eq_true, beq_iff_eq, cutK_count]
  constructor
  · rintro ⟨h1, h2⟩
    unfold kfD at h1
    cases hg : l.getLast? with
    | none => rw [hg] at h1; simp at h1
    | some e =>
      rw [hg] at h1
      simp only at h1
      obtain ⟨p, rfl⟩ := List.getLast?_eq_some_iff.mp hg
      by_cases hz : 0 ∈ p ++ [e]
      · rw [if_pos hz] at h1; simp at h1
      · rw [if_neg hz] at h1
        by_cases ho : e % 2 = 1
        · rw [if_pos ho] at h1; simp at h1
        · have he0 : e ≠ 0 := fun z => hz (by simp [z])
          rw [List.countP_append] at h2
          have h3 : [e].countP (fun n => n % 2 == 0) = 1 := by simp; omega
          have h4 : p.countP (fun n => n % 2 == 0) = 0 := by omega
          rw [List.countP_eq_zero] at h4
          have h5 := N8.app.mp h8
          refine ⟨p, e, rfl, fun x hx => ⟨?_, h5.1 x hx⟩, by omega, by omega, h5.2 e (by simp)⟩
          have := h4 x hx
          simp at this
          omega
  · rintro ⟨p, e, rfl, h1, h2, h3, h4⟩
    constructor
    · unfold kfD
      have hg : (p ++ [e]).getLast? = some e := by simp
      rw [hg]
      have hz : 0 ∉ p ++ [e] := fun z => by
        rcases List.mem_append.mp z with z | z
        · have := (h1 0 z).1; omega
        · rw [List.mem_singleton] at z; omega
      simp only
      rw [if_neg hz, if_neg (by omega)]
    · rw [List.countP_append]
      have h5 : p.countP (fun n => n % 2 == 0) = 0 := by
        rw [List.countP_eq_zero]
        intro x hx
        have := (h1 x hx).1
        simp; omega
      have h6 : [e].countP (fun n => n % 2 == 0) = 1 := by simp; omega
      omega
def LabN (x : D) (o : Op) : Prop := x = opD o ∧ ∀ l, o = some l → Lab l ∧ l.length ≤ 1000
def LabNo (x : D) : Prop := (∃ l, x = bD l ∧ N8 l ∧ l.length ≤ 1000000 ∧ ¬ (Lab l ∧ l.length ≤ 1000)) ∨ ∃ n, tyName x = some n ∧ n ≠ "bytes" ∧ n ≠ "NoneType"
def cntB : D → Bool
  | .int i => decide (0 ≤ i) && decide (i ≤ 200)
  | _ => false
def sp_labels_between : SpD := fun ds M Q E => ∃ x y c, ds = [x, y, c] ∧
  ((LabNo x ∧ E 31 ["word"] [.str "low"] M) ∨ ∃ low, LabN x low ∧ ((LabNo y ∧ E 31 ["word"] [.str "high"] M) ∨ ∃ high, LabN y high ∧
    ((∃ l h, low = some l ∧ high = some h ∧ ¬ l < h ∧ E 31 ["word"] [.str "order"] M) ∨ ((∀ l h, low = some l → high = some h → l < h) ∧
      ((Ty c ∧ cntB c = false ∧ E 31 ["word"] [.str "count"] M) ∨ ∃ k : Nat, c = .int (k : Nat) ∧ k ≤ 200 ∧ ∀ N M', N ≤ 1002 → k ≤ (foundF low high k N).length → (∀ j, j < N → (begsF low high j).length ≤ 32768) → Keep M M' → Q (.lst (((foundF low high k N).map bD).mergeSort leByt)) M')))))
abbrev N_labels_between : List Str := ["low", "high", "count", "word", "label"]
def l_labels_between_1 : DTS := (dSeq (dIf (dOr (dNot (dTest (dCall sp_is_integer [] (dCons (dVar 2) dNil)))) (dNot (dTest (dChain leD leD (dC (.int 0)) (dVar 2) (dC (.int 200)))))) (dRaise 31 ["word"] (dCons (dC (.str "count")) dNil)) dNext)
    (dRet (dCall sp_found_between [] (dCons (dVar 0) (dCons (dVar 1) (dCons (dVar 2) dNil))))))
def l_labels_between_2 : DTS := (dSeq (dIf (dAnd (dTest (dOp notNonD (dVar 0) (dC .non))) (dAnd (dTest (dOp notNonD (dVar 1) (dC .non))) (dTest (dOp geX (dVar 0) (dVar 1))))) (dRaise 31 ["word"] (dCons (dC (.str "order")) dNil)) dNext)
    l_labels_between_1)
def l_labels_between_3 : DTS := (dIf (dAnd (dTest (dOp notNonD (dVar 4) (dC .non))) (dOr (dNot (dTest (dCall sp_is_label [] (dCons (dVar 4) dNil)))) (dTest (dOp gtD (dCB lenF (dCons (dVar 4) dNil)) (dC (.int 1000)))))) (dRaise 31 ["word"] (dCons (dVar 3) dNil)) dNext)
def t_labels_between : DTS := (dSeq (dFor (iS (dTup (dCons (dTup (dCons (dC (.str "low")) (dCons (dVar 0) dNil))) (dCons (dTup (dCons (dC (.str "high")) (dCons (dVar 1) dNil))) dNil)))) (gT 2 (gsCons (gN 3) (gsCons (gN 4) gsNil))) l_labels_between_3)
    l_labels_between_2)
section
variable {x y c : D} {M : Mem} {Q : DV} {E : DEK} {o3 o4 : Option D}
theorem lb_item {z : D} {ρ : DL.Env} {En : DEnds} {w : D} (h3 : ρ[3]? = some (some w)) (h4 : ρ[4]? = some (some z)) (q1 : ∀ o, LabN z o → En.nx ρ M) (q2 : LabNo z → En.ex 31 ["word"] [w] ρ M) (hz : LabNo z ∨ ∃ o, LabN z o) : l_labels_between_3 En ρ M := by
  rcases hz with hz | ⟨o, rfl, hz⟩
  · have k := q2 hz
    rcases hz with ⟨l, rfl, h8, hl, hn⟩ | ⟨n, hn, n1, n2⟩
    · refine ⟨_, h4, .bl true, rfl, _, rfl, ?_⟩
      refine ⟨_, h4, _, rfl, .inl ⟨l, rfl, h8, hl, _, rfl, ?_⟩⟩
      by_cases hb : labB l = true
      · rw [hb]
        refine ⟨_, h4, _, lenF_bD (by omega), .bl (decide ((1000 : Int) < (l.length : Int))), rfl, _, rfl, ?_⟩
        have : ¬ l.length ≤ 1000 := fun z => hn ⟨(labB_iff h8).mp hb, z⟩
        rw [decide_eq_true (by omega)]
        exact ⟨_, h3, rfl, k⟩
      · rw [Bool.not_eq_true] at hb
        rw [hb]
        exact ⟨_, h3, rfl, k⟩
    · have vz : vw M z = z := Ty.vw ⟨n, hn⟩ M
      have nn : notNonD (vw M z) (vw M .non) = some (.bl true) := by
        rw [vz]
        cases z <;> first | rfl | (simp [tyName] at hn; exact absurd hn.symm n2)
      refine ⟨_, h4, _, nn, _, rfl, ?_⟩
      refine ⟨_, h4, _, rfl, .inr ⟨n, by rw [vz]; exact hn, n1, _, rfl, ?_⟩⟩
      exact ⟨_, h3, rfl, k⟩
  · have k := q1 o ⟨rfl, hz⟩
    cases o with
    | none => exact ⟨_, h4, .bl false, rfl, _, rfl, k⟩
    | some l =>
      obtain ⟨hL, hl⟩ := hz l rfl
      refine ⟨_, h4, .bl true, rfl, _, rfl, ?_⟩
      refine ⟨_, h4, _, rfl, .inl ⟨l, rfl, hL.n8, by omega, _, rfl, ?_⟩⟩
      rw [(labB_iff hL.n8).mpr hL]
      refine ⟨_, h4, _, lenF_bD (by omega), .bl (decide ((1000 : Int) < (l.length : Int))), rfl, _, rfl, ?_⟩
      rw [decide_eq_false (by omega)]
      exact k
theorem lb_1 {low high : Op} {o3 o4 : Option D} (h1 : ∀ l, low = some l → Lab l ∧ l.length ≤ 1000) (h2 : ∀ l, high = some l → Lab l ∧ l.length ≤ 1000) (hlt : ∀ l h, low = some l → high = some h → l < h)
    (q : (Ty c ∧ cntB c = false ∧ E 31 ["word"] [.str "count"] M) ∨ ∃ k : Nat, c = .int (k : Nat) ∧ k ≤ 200 ∧ ∀ N M', N ≤ 1002 → k ≤ (foundF low high k N).length → (∀ j, j < N → (begsF low high j).length ≤ 32768) → Keep M M' → Q (.lst (((foundF low high k N).map bD).mergeSort leByt)) M') :
    l_labels_between_1 (dEnds Q E) [some (opD low), some (opD high), some c, o3, o4] M := by
  rcases q with ⟨⟨n, hn⟩, hc, q⟩ | ⟨k, rfl, hk, q⟩
  · refine ⟨_, rfl, c, n, rfl, by rw [Ty.vw ⟨n, hn⟩]; exact hn, _, rfl, ?_⟩
    by_cases hi : n = "int"
    · subst hi
      obtain ⟨i, rfl⟩ : ∃ i, c = .int i := by cases c <;> simp [tyName] at hn ⊢
      simp only [cntB, Bool.and_eq_false_iff, decide_eq_false_iff_not] at hc
      refine ⟨_, rfl, decide (0 ≤ i), rfl, ?_⟩
      by_cases h0 : 0 ≤ i
      · rw [decide_eq_true h0]
        refine ⟨.bl (decide (i ≤ 200)), rfl, _, rfl, ?_⟩
        rw [decide_eq_false (by omega)]
        exact ⟨rfl, q⟩
      · rw [decide_eq_false h0]
        exact ⟨_, rfl, rfl, q⟩
    · have : (n == "int") = false := by simpa using hi
      rw [this]
      exact ⟨rfl, q⟩
  · refine ⟨_, rfl, _, "int", rfl, rfl, _, rfl, ?_⟩
    refine ⟨_, rfl, decide ((0 : Int) ≤ (k : Int)), rfl, ?_⟩
    rw [decide_eq_true (by omega)]
    refine ⟨.bl (decide ((k : Int) ≤ 200)), rfl, _, rfl, ?_⟩
    rw [decide_eq_true (by omega)]
    have P : Pair low high := ⟨fun l h => (h1 l h).1, fun l h => (h2 l h).1, hlt⟩
    obtain ⟨N, hN, hf, hb⟩ := fb_ends P (n := 1000) (fun l h => (h1 l h).2) (fun l h => (h2 l h).2) hk
    exact ⟨_, rfl, _, rfl, _, rfl, low, high, k, N, rfl, P, fun l h => by have := (h1 l h).2; omega, fun l h => by have := (h2 l h).2; omega, by omega, by omega, hf, hb, fun M' kp => q N M' hN hf hb kp⟩
theorem lb_2 {low high : Op} {o3 o4 : Option D} (h1 : ∀ l, low = some l → Lab l ∧ l.length ≤ 1000) (h2 : ∀ l, high = some l → Lab l ∧ l.length ≤ 1000)
    (q : (∃ l h, low = some l ∧ high = some h ∧ ¬ l < h ∧ E 31 ["word"] [.str "order"] M) ∨ ((∀ l h, low = some l → high = some h → l < h) ∧
      ((Ty c ∧ cntB c = false ∧ E 31 ["word"] [.str "count"] M) ∨ ∃ k : Nat, c = .int (k : Nat) ∧ k ≤ 200 ∧ ∀ N M', N ≤ 1002 → k ≤ (foundF low high k N).length → (∀ j, j < N → (begsF low high j).length ≤ 32768) → Keep M M' → Q (.lst (((foundF low high k N).map bD).mergeSort leByt)) M'))) :
    l_labels_between_2 (dEnds Q E) [some (opD low), some (opD high), some c, o3, o4] M := by
  cases hlo : low with
  | none =>
    subst hlo
    rcases q with ⟨l, h, e, _⟩ | ⟨hlt, q⟩
    · cases e
    · exact ⟨_, rfl, .bl false, rfl, _, rfl, lb_1 (low := none) h1 h2 hlt q⟩
  | some l =>
    cases hhi : high with
    | none =>
      subst hlo hhi
      rcases q with ⟨l', h, _, e, _⟩ | ⟨hlt, q⟩
      · cases e
      · exact ⟨_, rfl, .bl true, rfl, _, rfl, _, rfl, .bl false, rfl, _, rfl, lb_1 (low := some l) (high := none) h1 h2 hlt q⟩
    | some h =>
      subst hlo hhi
      refine ⟨_, rfl, .bl true, rfl, _, rfl, _, rfl, .bl true, rfl, _, rfl, _, rfl, _, rfl, _, geX_bD (h1 l rfl).1.n8 (h2 h rfl).1.n8, _, rfl, ?_⟩
      rcases q with ⟨l', h', e1, e2, hn, q⟩ | ⟨hlt, q⟩
      · cases e1; cases e2
        rw [decide_eq_false hn]
        exact ⟨rfl, q⟩
      · rw [decide_eq_true (hlt l h rfl rfl)]
        exact lb_1 (low := some l) (high := some h) h1 h2 hlt q
end
theorem pure_labels_between : ∀ ds M Q E, sp_labels_between ds M Q E → ds.length = 3 ∧ t_labels_between (dEnds Q E) (startD N_labels_between ds) M := by
  rintro ds M Q E ⟨x, y, c, rfl, q⟩
  refine ⟨rfl, ?_⟩
  refine ⟨_, rfl, by simp, _, rfl, by simp, by simp, _, rfl, ?_⟩
  have hx : LabNo x ∨ ∃ o, LabN x o := by
    rcases q with ⟨h, _⟩ | ⟨o, h, _⟩
    · exact .inl h
    · exact .inr ⟨o, h⟩
  have no : ∀ {z o}, LabNo z → LabN z o → False := fun {z o} h ⟨e, k⟩ => by
    rcases h with ⟨l, rfl, h8, hl, hn⟩ | ⟨n, hn, n1, n2⟩
    · cases o with
      | none => cases e
      | some l' =>
        have := bA_inj h8 (k l' rfl).1.n8 (D.byt.inj e)
        subst this
        exact hn (k l rfl)
    · subst e
      cases o with
      | none => cases hn; exact n2 rfl
      | some l' => cases hn; exact n1 rfl
  refine ⟨_, .inl rfl, rfl, _, _, rfl, _, _, rfl, rfl, ?_⟩
  refine lb_item rfl rfl (fun o ho => ?_) (fun h => ?_) hx
  · rcases q with ⟨h, _⟩ | ⟨low, hlow, q⟩
    · exact (no h ho).elim
    · have hy : LabNo y ∨ ∃ o, LabN y o := by
        rcases q with ⟨h, _⟩ | ⟨o, h, _⟩
        · exact .inl h
        · exact .inr ⟨o, h⟩
      refine ⟨_, .inl rfl, rfl, _, _, rfl, _, _, rfl, rfl, ?_⟩
      refine lb_item rfl rfl (fun o' ho' => ?_) (fun h => ?_) hy
      · rcases q with ⟨h, _⟩ | ⟨high, hhigh, q⟩
        · exact (no h ho').elim
        · obtain ⟨rfl, k1⟩ := hlow
          obtain ⟨rfl, k2⟩ := hhigh
          exact lb_2 k1 k2 q
      · rcases q with ⟨_, q⟩ | ⟨high, hhigh, q⟩
        · exact q
        · exact (no h hhigh).elim
  · rcases q with ⟨_, q⟩ | ⟨low, hlow, q⟩
    · exact q
    · exact (no h hlow).elim
end LawProof
set_option Elab.async false
set_option linter.all false
set_option maxRecDepth 100000
set_option maxHeartbeats 4000000
set_option autoImplicit true
namespace LawProof
open PySem L2 DL FL
def sp__law_rng : SpD := fun ds M Q _ => ∃ i : Int, ds = [.int i] ∧ ∀ r M', M r = none → Rn M' r → (∀ b, b ≠ r → M' b = M b) → Q (.ref r) M'
abbrev N__law_rng : List Str := ["_law_cell"]
def t__law_rng : DTS := (dRet (dLstM (dCons (dCB absF (dCons (dVar 0) dNil)) (dCons (dOp modD (dCB intF (dCons (dVar 0) dNil)) (dC (.int 2147483629))) (dCons (dC (.int 0)) dNil)))))
theorem pure__law_rng : ∀ ds M Q E, sp__law_rng ds M Q E → ds.length = 1 ∧ t__law_rng (dEnds Q E) (startD N__law_rng ds) M := by
  rintro ds M Q E ⟨i, rfl, q⟩
  refine ⟨rfl, ?_⟩
  simp (disch := first | (simp; done) | omega) [t__law_rng, dLstM]
  refine fun r hr => q r _ hr ⟨_, _, _, updM_same, ?_, ?_, ?_, ?_⟩ (fun b hb => updM_ne hb) <;> first | omega | (split <;> omega)
def sp__law_draw : SpD := fun ds M Q _ => ∃ (r : Addr) (n : Int), ds = [.ref r, .int n] ∧ Rn M r ∧ 0 < n ∧ n ≤ 10 ^ 30 ∧ ∀ k M', 0 ≤ k → k < n → RTo M M' r → Q (.int k) M'
abbrev N__law_draw : List Str := ["_law_rng_here", "_law_limit", "_law_digit", "_law_mixed"]
def t__law_draw : DTS := (dSeq (dIf (dTest (dOp geD (dOp ixA (dVar 0) (dC (.int 0))) (dOp powD (dC (.int 10)) (dC (.int 18))))) (dSeq (dAsg (dOp modD (dCB intF (dCons (dOp ixA (dVar 0) (dC (.int 0))) dNil)) (dVar 1)) (gN 2))
    (dSeq (dAsg (dOp fdivD (dOp ixA (dVar 0) (dC (.int 0))) (dVar 1)) (gSubL (dVar 0) (dC (.int 0))))
    (dRet (dVar 2)))) dNext)
    (dSeq (dAsg (dOp addD (dOp ixA (dVar 0) (dC (.int 2))) (dC (.int 1))) (gSubL (dVar 0) (dC (.int 2))))
    (dSeq (dAsg (dOp modD (dCB intF (dCons (dOp mulD (dOp addD (dOp addD (dOp ixA (dVar 0) (dC (.int 1))) (dOp mulD (dC (.int 7919)) (dOp ixA (dVar 0) (dC (.int 2))))) (dC (.int 1))) (dC (.int 48271))) dNil)) (dC (.int 2147483647))) (gN 3))
    (dSeq (dAsg (dOp modD (dCB intF (dCons (dOp mulD (dVar 3) (dOp addD (dOp fdivD (dVar 3) (dC (.int 1013))) (dC (.int 69621)))) dNil)) (dC (.int 2147483587))) (gN 3))
    (dRet (dOp modD (dCB intF (dCons (dOp modD (dCB intF (dCons (dOp addD (dOp fdivD (dVar 3) (dC (.int 7))) (dOp mulD (dOp modD (dCB intF (dCons (dVar 3) dNil)) (dC (.int 7919))) (dC (.int 40692)))) dNil)) (dC (.int 2147483399))) dNil)) (dVar 1)))))))
theorem pure__law_draw : ∀ ds M Q E, sp__law_draw ds M Q E → ds.length = 2 ∧ t__law_draw (dEnds Q E) (startD N__law_draw ds) M := by
  rintro ds M Q E ⟨r, n, rfl, ⟨a, b, c, hM, ha, hb, hb2, hc⟩, hn, hn2, q⟩
  refine ⟨rfl, ?_⟩
  by_cases ha2 : 1000000000000000000 ≤ a
  · simp (disch := first | (simp; done) | omega) [t__law_draw, vw_ref hM, ha2, hM, ixN]
    exact q _ _ (Int.emod_nonneg _ (by omega)) (Int.emod_lt_of_pos _ hn) (.put (Int.ediv_nonneg ha (by omega)) hb hb2 hc)
  · simp (disch := first | (simp; done) | omega) [t__law_draw, vw_ref hM, ha2, hM, ixN]
    exact q _ _ (Int.emod_nonneg _ (by omega)) (Int.emod_lt_of_pos _ hn) (.put ha hb hb2 (by omega))
def sp__law_pick : SpD := fun ds M Q _ => ∃ (r : Addr) (d : D) (xs : List D), ds = [.ref r, d] ∧ SeqOf d xs ∧ Rn M r ∧ xs ≠ [] ∧ xs.length < 1000 ∧ ∀ x M', x ∈ xs → RTo M M' r → Q x M'
abbrev N__law_pick : List Str := ["_law_rng_here", "_law_items"]
def t__law_pick : DTS := (dRet (dOp ixA (dVar 1) (dCall sp__law_draw [] (dCons (dVar 0) (dCons (dCB lenF (dCons (dVar 1) dNil)) dNil)))))
theorem pure__law_pick : ∀ ds M Q E, sp__law_pick ds M Q E → ds.length = 2 ∧ t__law_pick (dEnds Q E) (startD N__law_pick ds) M := by
  rintro ds M Q E ⟨r, d, xs, rfl, hd, hr, h0, h1, q⟩
  have hl : 0 < xs.length := List.length_pos_iff.mpr h0
  refine ⟨rfl, ?_⟩
  simp only [t__law_pick, dRet, dOp, dVar, dCall, dCons, dCB, dNil]
  refine ⟨_, rfl, _, rfl, _, rfl, _, by simpa [hd.vw] using hd.len, r, _, rfl, hr, by omega, by omega, fun k M' k0 k1 hM => ⟨xs[k.toNat]'(by omega), ?_, ?_⟩⟩
  · rw [hd.vw, vw_int, hd.ix, atI_at k0 k1, List.getElem?_eq_getElem]
  · exact q _ _ (List.getElem_mem _) hM
def lD (l : List Nat) : D := .lst (l.map nD)
def leN (a b : List Nat) : Bool := decide (a ≤ b)
def olD : Op → D
  | none => .non
  | some l => lD l
def sp__law_long : SpD := fun ds M Q _ => ∃ r, ds = [.ref r] ∧ Rn M r ∧ ∀ l M', Lab l → l.length ≤ 1000 → RTo M M' r → Q (lD l) M'
abbrev N__law_long : List Str := ["_law_rng_here", "_law_many", "_law_number"]
def l__law_long_1 : DTS := (dSeq (dAsg (dCall sp__law_pick [] (dCons (dVar 0) (dCons (dLst (dCons (dC (.int 1)) (dCons (dC (.int 255)) (dCons (dC (.int 253)) (dCons (dC (.int 7)) dNil))))) dNil))) (gN 2))
    (dRet (dOp addD (dBin bRepD (dLstM (dCons (dVar 2) dNil)) (dVar 1)) (dLst (dCons (dCall sp__law_pick [] (dCons (dVar 0) (dCons (dLst (dCons (dC (.int 2)) (dCons (dC (.int 4)) (dCons (dC (.int 128)) (dCons (dC (.int 252)) (dCons (dC (.int 254)) dNil)))))) dNil))) dNil)))))
def t__law_long : DTS := (dSeq (dAsg (dCall sp__law_pick [] (dCons (dVar 0) (dCons (dLst (dCons (dC (.int 0)) (dCons (dC (.int 1)) (dCons (dC (.int 3)) (dCons (dC (.int 20)) (dCons (dC (.int 200)) (dCons (dC (.int 999)) dNil))))))) dNil))) (gN 1))
    l__law_long_1)
theorem pickL {r : Addr} {xs : List D} {M : Mem} {Q : DV} {E : DEK} (hr : Rn M r) (h0 : xs ≠ []) (h1 : xs.length < 1000) (q : ∀ x M', x ∈ xs → RTo M M' r → Q x M') : sp__law_pick [.ref r, .lst xs] M Q E := ⟨r, _, xs, rfl, .inl rfl, hr, h0, h1, q⟩
theorem rep_flat (k n : Nat) : (List.replicate k [D.int (n : Int)]).flatten = (List.replicate k n).map nD := by
  induction k with
  | zero => rfl
  | succ k ih => rw [List.replicate_succ, List.flatten_cons, ih, List.replicate_succ]; rfl
theorem pick_n {r : Addr} {M : Mem} {Q : DV} {E : DEK} (ns : List Nat) (hr : Rn M r) (h0 : ns ≠ []) (h1 : ns.length < 1000) (q : ∀ n M', n ∈ ns → RTo M M' r → Q (nD n) M') : sp__law_pick [.ref r, .lst (ns.map nD)] M Q E :=
  pickL hr (by simpa using h0) (by simpa using h1) fun x M' hx t => by
    obtain ⟨n, hn, rfl⟩ := List.mem_map.mp hx
    exact q n M' hn t
theorem pure__law_long : ∀ ds M Q E, sp__law_long ds M Q E → ds.length = 1 ∧ t__law_long (dEnds Q E) (startD N__law_long ds) M := by
  rintro ds M Q E ⟨r, rfl, hr, q⟩
  refine ⟨rfl, ?_⟩
  refine ⟨_, rfl, by simp, pick_n (E := E) [0, 1, 3, 20, 200, 999] hr (by simp) (by simp) fun k M1 hk t1 => ?_⟩
  refine ⟨_, rfl, by simp, pick_n (E := E) [1, 255, 253, 7] t1.ok (by simp) (by simp) fun n M2 hn t2 => ?_⟩
  have hk' : k ≤ 999 := by
    simp only [List.mem_cons, List.not_mem_nil, or_false] at hk
    omega
  have hn' : n % 2 = 1 ∧ n < 256 := by
    simp only [List.mem_cons, List.not_mem_nil, or_false] at hn
    omega
  refine ⟨_, rfl, by simp, fun a ha => ⟨_, rfl, a, _, (k : Int), rfl, updM_same, rfl, by omega, by omega, by simp; omega, ?_⟩⟩
  rw [delM_updM ha]
  refine ⟨_, rfl, by simp, pick_n (E := E) [2, 4, 128, 252, 254] (t1.trans t2).ok (by simp) (by simp) fun e M3 he t3 => ?_⟩
  have he' : e % 2 = 0 ∧ 0 < e ∧ e < 256 := by
    simp only [List.mem_cons, List.not_mem_nil, or_false] at he
    omega
  refine ⟨by simp, ?_⟩
  have := q (List.replicate k n ++ [e]) M3 ⟨_, e, rfl, fun x hx => by rw [List.eq_of_mem_replicate hx]; exact hn', he'⟩ (by simp; omega) ((t1.trans t2).trans t3)
  refine ⟨_, (show addD _ _ = some (lD (List.replicate k n ++ [e])) from ?_), this⟩
  rw [Int.toNat_natCast]
  show addD (.lst (List.replicate k [D.int (n : Int)]).flatten) _ = _
  rw [rep_flat, vw_lst, addD_lst (by simp; omega)]
  simp [lD]
def sp__law_beside : SpD := fun ds M Q _ => ∃ r l, ds = [.ref r, lD l] ∧ Lab l ∧ l.length ≤ 1000 ∧ Rn M r ∧ ∀ l' M', Lab l' → l'.length ≤ 1000 → RTo M M' r → Q (lD l') M'
abbrev N__law_beside : List Str := ["_law_rng_here", "_law_label", "_law_at", "_law_number", "_law_more"]
def l__law_beside_1 : DTS := (dSeq (dAsg (dBin bRepD (dLstM (dCons (dCall sp__law_pick [] (dCons (dVar 0) (dCons (dLst (dCons (dC (.int 1)) (dCons (dC (.int 255)) (dCons (dC (.int 3)) dNil)))) dNil))) dNil)) (dCall sp__law_pick [] (dCons (dVar 0) (dCons (dLst (dCons (dC (.int 0)) (dCons (dC (.int 0)) (dCons (dC (.int 1)) (dCons (dC (.int 2)) (dCons (dC (.int 12)) dNil)))))) dNil)))) (gN 4))
    (dRet (dOp addD (dSl slD (dOp addD (dOp addD (dSl slD (dVar 1) dNoPart (dPart (dVar 2))) (dLst (dCons (dVar 3) dNil))) (dVar 4)) dNoPart (dPart (dC (.int 999)))) (dLst (dCons (dCall sp__law_pick [] (dCons (dVar 0) (dCons (dLst (dCons (dC (.int 2)) (dCons (dC (.int 254)) (dCons (dC (.int 4)) dNil)))) dNil))) dNil)))))
def l__law_beside_2 : DTS := (dSeq (dIf (dTest (dOp eqD (dOp modD (dCB intF (dCons (dVar 3) dNil)) (dC (.int 2))) (dC (.int 0)))) (dRet (dOp addD (dSl slD (dVar 1) dNoPart (dPart (dVar 2))) (dLst (dCons (dVar 3) dNil)))) dNext)
    l__law_beside_1)
def l__law_beside_3 : DTS := (dSeq (dIf (dNot (dTest (dChain leD leD (dC (.int 1)) (dVar 3) (dC (.int 255))))) (dRet (dOp addD (dSl slD (dOp addD (dSl slD (dVar 1) dNoPart (dPart (dVar 2))) (dLst (dCons (dCall sp__law_pick [] (dCons (dVar 0) (dCons (dLst (dCons (dC (.int 1)) (dCons (dC (.int 255)) dNil))) dNil))) dNil))) dNoPart (dPart (dC (.int 999)))) (dLst (dCons (dCall sp__law_pick [] (dCons (dVar 0) (dCons (dLst (dCons (dC (.int 2)) (dCons (dC (.int 254)) dNil))) dNil))) dNil)))) dNext)
    l__law_beside_2)
def l__law_beside_4 : DTS := (dSeq (dAsg (dOp addD (dOp ixA (dVar 1) (dVar 2)) (dCall sp__law_pick [] (dCons (dVar 0) (dCons (dLst (dCons (dC (.int 1)) (dCons (dUn negD (dC (.int 1))) (dCons (dC (.int 2)) (dCons (dUn negD (dC (.int 2))) (dCons (dC (.int 3)) dNil)))))) dNil)))) (gN 3))
    l__law_beside_3)
def t__law_beside : DTS := (dSeq (dAsg (dCall sp__law_pick [] (dCons (dVar 0) (dCons (dLst (dCons (dOp subD (dCB lenF (dCons (dVar 1) dNil)) (dC (.int 1))) (dCons (dOp subD (dCB lenF (dCons (dVar 1) dNil)) (dC (.int 1))) (dCons (dCall sp__law_draw [] (dCons (dVar 0) (dCons (dCB lenF (dCons (dVar 1) dNil)) dNil))) dNil)))) dNil))) (gN 2))
    l__law_beside_4)
theorem lab_of {p : List Nat} {e : Nat} (hp : ∀ x ∈ p, x % 2 = 1 ∧ x < 256) (h1 : e % 2 = 0) (h2 : 0 < e) (h3 : e < 256) : Lab (p ++ [e]) := ⟨p, e, rfl, hp, h1, h2, h3⟩
theorem lab_take {l : List Nat} (h : Lab l) {k : Nat} (hk : k < l.length) : ∀ x ∈ l.take k, x % 2 = 1 ∧ x < 256 := by
  obtain ⟨p, e, rfl, h1, h2⟩ := h
  intro x hx
  rw [List.take_append_of_le_length (by simp at hk; omega)] at hx
  exact h1 x (List.mem_of_mem_take hx)
section
variable {r : Addr} {l : List Nat} {k : Nat} {z : Int} {M : Mem} {Q : DV} {E : DEK} {o4 : Option D}
theorem lbs_3 (hL : Lab l) (hl : l.length ≤ 1000) (hr : Rn M r) (hk : k < l.length) (q : ∀ l' M', Lab l' → l'.length ≤ 1000 → RTo M M' r → Q (lD l') M') :
    l__law_beside_3 (dEnds Q E) [some (.ref r), some (lD l), some (.int (k : Nat)), some (.int z), o4] M := by
  have ht' : ∀ {M : Mem} {K : DV} {X : DX} {y o4 : Option D}, K (.lst ((l.take k).map nD)) M → dSl slD (dVar 1) dNoPart (dPart (dVar 2)) [some (.ref r), some (lD l), some (.int (k : Nat)), y, o4] M K X := fun {M K X y o4} hK =>
    ⟨_, rfl, _, rfl, _, rfl, .lst (cutD (l.map nD) none (some (k : Int))), rfl, by rw [cutD_to, ← List.map_take]; exact hK⟩
  have ht : ∀ {K : DV} {X : DX} {y : Option D}, K (.lst ((l.take k).map nD)) M → dSl slD (dVar 1) dNoPart (dPart (dVar 2)) [some (.ref r), some (lD l), some (.int (k : Nat)), y, o4] M K X := fun {K X y} hK => ht' hK
  have htl : (l.take k).length ≤ 999 := by rw [List.length_take]; omega
  have htk := lab_take hL hk
  have bad : (dRet (dOp addD (dSl slD (dOp addD (dSl slD (dVar 1) dNoPart (dPart (dVar 2))) (dLst (dCons (dCall sp__law_pick [] (dCons (dVar 0) (dCons (dLst (dCons (dC (.int 1)) (dCons (dC (.int 255)) dNil))) dNil))) dNil))) dNoPart (dPart (dC (.int 999)))) (dLst (dCons (dCall sp__law_pick [] (dCons (dVar 0) (dCons (dLst (dCons (dC (.int 2)) (dCons (dC (.int 254)) dNil))) dNil))) dNil)))) (dEnds Q E) [some (.ref r), some (lD l), some (.int (k : Nat)), some (.int z), o4] M := by
    refine ht ?_
    refine ⟨_, rfl, by simp, pick_n (E := E) [1, 255] hr (by simp) (by simp) fun n M1 hn t1 => ?_⟩
    have hn' : n % 2 = 1 ∧ n < 256 := by
      simp only [List.mem_cons, List.not_mem_nil, or_false] at hn
      omega
    refine ⟨by simp, _, addD_lst (by simp; omega), ?_⟩
    have e1 : (l.take k).map nD ++ [nD n] = (l.take k ++ [n]).map nD := by simp
    rw [e1]
    refine ⟨_, rfl, .lst (((l.take k ++ [n]).take 999).map nD), by rw [List.map_take, ← cutD_to]; rfl, ?_⟩
    refine ⟨_, rfl, by simp, pick_n (E := E) [2, 254] t1.ok (by simp) (by simp) fun e M2 he t2 => ?_⟩
    have he' : e % 2 = 0 ∧ 0 < e ∧ e < 256 := by
      simp only [List.mem_cons, List.not_mem_nil, or_false] at he
      omega
    refine ⟨by simp, _, addD_lst (by simp; omega), ?_⟩
    have hp : ∀ x ∈ l.take k ++ [n], x % 2 = 1 ∧ x < 256 := fun x hx => by
      rcases List.mem_append.mp hx with h | h
      · exact htk x h
      · rw [List.mem_singleton.mp h]; exact hn'
    have := q ((l.take k ++ [n]).take 999 ++ [e]) M2 (lab_of (fun x hx => hp x (List.mem_of_mem_take hx)) he'.1 he'.2.1 he'.2.2) (by simp; omega) (t1.trans t2)
    simpa [lD] using this
  refine ⟨_, rfl, decide ((1 : Int) ≤ z), rfl, ?_⟩
  by_cases h1 : (1 : Int) ≤ z
  · rw [decide_eq_true h1]
    refine ⟨.bl (decide (z ≤ 255)), rfl, _, rfl, ?_⟩
    by_cases h2 : z ≤ 255
    · rw [decide_eq_true h2]
      obtain ⟨n, rfl⟩ : ∃ n : Nat, z = (n : Int) := ⟨z.toNat, by omega⟩
      refine ⟨_, rfl, .int (n : Int), rfl, _, modD_int (by decide), .bl (((n : Int) % 2) == 0), rfl, _, rfl, ?_⟩
      by_cases h3 : n % 2 = 0
      · have : (((n : Int) % 2) == 0) = true := by rw [beq_iff_eq]; omega
        rw [this]
        refine ht ⟨_, rfl, by simp, _, addD_lst (by simp; omega), ?_⟩
        have := q (l.take k ++ [n]) M (lab_of htk h3 (by omega) (by omega)) (by simp; omega) (RTo.refl hr)
        simpa [lD, nD] using this
      · have : (((n : Int) % 2) == 0) = false := by rw [beq_eq_false_iff_ne]; omega
        rw [this]
        refine ⟨_, rfl, by simp, pick_n (E := E) [1, 255, 3] hr (by simp) (by simp) fun m M1 hm t1 => ?_⟩
        have hm' : m % 2 = 1 ∧ m < 256 := by
          simp only [List.mem_cons, List.not_mem_nil, or_false] at hm
          omega
        refine ⟨by simp, fun a ha => ?_⟩
        have har : a ≠ r := fun e => by
          obtain ⟨_, _, _, e1, _⟩ := t1.ok
          rw [← e, ha] at e1
          cases e1
        have u1 := (RTo.refl t1.ok).upd (d := .lst [nD m]) ha har
        refine ⟨_, rfl, by simp, pick_n (E := E) [0, 0, 1, 2, 12] u1.ok (by simp) (by simp) fun c M2 hc t2 => ?_⟩
        have hc' : c ≤ 12 := by
          simp only [List.mem_cons, List.not_mem_nil, or_false] at hc
          omega
        have u2 := t1.trans ((u1.trans t2).del ha har)
        refine ⟨a, _, (c : Int), rfl, t2.keep1 updM_same har, rfl, by omega, by omega, by simp; omega, ?_⟩
        rw [Int.toNat_natCast, show [nD m] = [D.int (m : Int)] from rfl, rep_flat]
        refine ht' ?_
        refine ⟨_, rfl, by simp, _, addD_lst (by simp; omega), ?_⟩
        have e1 : (l.take k).map nD ++ [nD n] = (l.take k ++ [n]).map nD := by simp
        rw [show D.int (n : Int) = nD n from rfl, e1]
        refine ⟨_, rfl, .lst (((l.take k ++ [n]) ++ List.replicate c m).map nD), (by have z := addD_lst (xs := (l.take k ++ [n]).map nD) (ys := (List.replicate c m).map nD) (by rw [List.length_map, List.length_map, List.length_append, List.length_take, List.length_replicate, List.length_singleton]; omega); rw [← List.map_append] at z; exact z), ?_⟩
        refine ⟨_, rfl, .lst ((((l.take k ++ [n]) ++ List.replicate c m).take 999).map nD), by rw [List.map_take, ← cutD_to]; rfl, ?_⟩
        refine ⟨_, rfl, by simp, pick_n (E := E) [2, 254, 4] u2.ok (by simp) (by simp) fun e M3 he t3 => ?_⟩
        have he' : e % 2 = 0 ∧ 0 < e ∧ e < 256 := by
          simp only [List.mem_cons, List.not_mem_nil, or_false] at he
          omega
        refine ⟨by simp, _, addD_lst (by simp; omega), ?_⟩
        have hp : ∀ x ∈ (l.take k ++ [n]) ++ List.replicate c m, x % 2 = 1 ∧ x < 256 := fun x hx => by
          rcases List.mem_append.mp hx with h | h
          · rcases List.mem_append.mp h with h | h
            · exact htk x h
            · rw [List.mem_singleton.mp h]; omega
          · rw [List.eq_of_mem_replicate h]; exact hm'
        have := q (((l.take k ++ [n]) ++ List.replicate c m).take 999 ++ [e]) M3 (lab_of (fun x hx => hp x (List.mem_of_mem_take hx)) he'.1 he'.2.1 he'.2.2) (by simp; omega) (u2.trans t3)
        simpa [lD] using this
    · rw [decide_eq_false h2]
      exact bad
  · rw [decide_eq_false h1]
    exact ⟨_, rfl, bad⟩
theorem pure__law_beside : ∀ ds M Q E, sp__law_beside ds M Q E → ds.length = 2 ∧ t__law_beside (dEnds Q E) (startD N__law_beside ds) M := by
  rintro ds M Q E ⟨r, l, rfl, hL, hl, hr, q⟩
  have l0 : 0 < l.length := by obtain ⟨p, e, rfl, _⟩ := hL; simp
  have len : ∀ (M : Mem), lenF ([lD l].map (vw M)) = some (.int (l.length : Nat)) := fun M => by simp [lD, lenF]
  refine ⟨rfl, ?_⟩
  have last : subD (.int (l.length : Nat)) (.int 1) = some (.int ((l.length - 1 : Nat) : Int)) := by
    show some (D.int _) = _
    congr 2; omega
  refine ⟨_, rfl, _, rfl, _, len _, _, last, _, rfl, _, len _, _, last, _, rfl, _, rfl, _, len _, r, _, rfl, hr, by omega, by omega, fun k M1 k0 k1 t1 => ?_⟩
  obtain ⟨k, rfl⟩ : ∃ n : Nat, k = (n : Int) := ⟨k.toNat, by omega⟩
  refine ⟨by simp, pick_n (E := E) [l.length - 1, l.length - 1, k] t1.ok (by simp) (by simp) fun i M2 hi t2 => ?_⟩
  have hi' : i < l.length := by
    simp only [List.mem_cons, List.not_mem_nil, or_false] at hi
    omega
  refine ⟨_, rfl, _, rfl, .int (l[i] : Nat), ?_, ?_⟩
  · show atI (l.map nD) (i : Int) = _
    rw [atI_at (by omega) (by simpa using hi'), Int.toNat_natCast, List.getElem?_map, List.getElem?_eq_getElem hi']
    rfl
  refine ⟨_, rfl, .int (-1), rfl, .int (-2), rfl, by simp, pickL (E := E) (t1.trans t2).ok (by simp) (by simp) fun d M3 hd t3 => ?_⟩
  obtain ⟨j, rfl⟩ : ∃ j : Int, d = .int j := by
    simp only [List.mem_cons, List.not_mem_nil, or_false] at hd
    rcases hd with rfl | rfl | rfl | rfl | rfl <;> exact ⟨_, rfl⟩
  have t := (t1.trans t2).trans t3
  exact ⟨_, rfl, lbs_3 hL hl t.ok hi' fun l' M' a b c => q l' M' a b (t.trans c)⟩
end
end LawProof
set_option Elab.async false
set_option linter.all false
set_option maxRecDepth 100000
set_option maxHeartbeats 4000000
set_option autoImplicit true
namespace LawProof
open PySem L2 DL FL
theorem ints_nD (l : List Nat) : intsOf (l.map nD) = some (l.map fun (n : Nat) => (n : Int)) := by
  induction l with
  | nil => rfl
  | cons a l ih => rw [List.map_cons, show nD a = .int (a : Int) from rfl, intsOf_cons, ih]; rfl
theorem cast_lt : ∀ {a b : List Nat}, (a.map fun (n : Nat) => (n : Int)) < (b.map fun (n : Nat) => (n : Int)) ↔ a < b
  | [], [] => by simp
  | [], _ :: _ => by simp
  | _ :: _, [] => by simp
  | x :: a, y :: b => by
    rw [List.map_cons, List.map_cons, List.cons_lt_cons_iff, List.cons_lt_cons_iff, cast_lt]
    constructor
    · rintro (h | ⟨h1, h2⟩)
      · exact .inl (by omega)
      · exact .inr ⟨by omega, h2⟩
    · rintro (h | ⟨h1, h2⟩)
      · exact .inl (by omega)
      · exact .inr ⟨by omega, h2⟩
def deL : D → List Nat
  | .lst xs => ((intsOf xs).getD []).map Int.toNat
  | _ => []
theorem deL_lD (l : List Nat) : deL (lD l) = l := by
  show ((intsOf (l.map nD)).getD []).map Int.toNat = l
  rw [ints_nD, Option.getD_some, List.map_map]
  exact (List.map_congr_left fun x _ => Int.toNat_natCast x).trans (List.map_id l)
def keepD (p : List Nat → Bool) (x : D) : Option D := if p (deL x) then some x else none
theorem keepD_map (p : List Nat → Bool) (zs : List (List Nat)) : (zs.map lD).filterMap (keepD p) = (zs.filter p).map lD := by
  induction zs with
  | nil => rfl
  | cons z zs ih =>
    rw [List.map_cons, List.filterMap_cons, List.filter_cons, keepD, deL_lD]
    by_cases h : p z = true
    · rw [if_pos h, if_pos h, ih]; rfl
    · rw [if_neg h, if_neg h, ih]
section
variable {i j : Nat} {ρ : DL.Env} {M : Mem} {o : Op} {z : List Nat} {T : Bool → Mem → Prop} {X : DX}
end
def encL (d : D) : PyData := .list (((deL d).map fun (n : Nat) => (n : Int)).map .int)
theorem encL_lD (l : List Nat) : encL (lD l) = .list ((l.map fun (n : Nat) => (n : Int)).map .int) := by unfold encL; rw [deL_lD]
theorem pyX_ints (l : List Nat) : toPyX (lD l) = some (encL (lD l)) := by
  rw [encL_lD]
  have : toPyXs (l.map nD) = some ((l.map fun (n : Nat) => (n : Int)).map PyData.int) := by
    induction l with
    | nil => rfl
    | cons a l ih =>
      rw [List.map_cons, toPyXs, ih]
      rfl
  show (toPyXs (l.map nD)).map PyData.list = _
  rw [this]; rfl
theorem sort_lists (ls : List (List Nat)) : SortBy (ls.map lD) (PySem.W.dataLe false encL) := by
  refine .py _ encL (fun x hx => ?_) ?_ ?_ (fun x hx => ?_)
  · obtain ⟨l, _, rfl⟩ := List.mem_map.mp hx
    exact pyX_ints l
  · exact PySem.W.AllAlike.of fun x y => by simp only [encL, PySem.W.alike]; exact PySem.W.alike_ints _ _
  · exact PySem.W.Sortable.others fun x => ⟨by simp [encL], by simp [encL]⟩
  · simp only [encL, PyData.depth]
    rw [PySem.W.depth_ints]
    omega
theorem encL_le (a b : List Nat) : PySem.W.dataLe false encL (lD a) (lD b) = leN a b := by
  have e : PySem.W.dataLe false encL = fun p q => decide (((deL p).map fun (n : Nat) => (n : Int)) ≤ ((deL q).map fun (n : Nat) => (n : Int))) := PySem.W.dataLe_rows fun d => (deL d).map fun (n : Nat) => (n : Int)
  rw [e]
  simp only [deL_lD]
  unfold leN
  rw [Bool.eq_iff_iff, decide_eq_true_eq, decide_eq_true_eq, ← List.not_lt, ← List.not_lt, cast_lt]
theorem sorted_lists (ls : List (List Nat)) : (ls.map lD).mergeSort (PySem.W.dataLe false encL) = (ls.mergeSort leN).map lD :=
  (List.map_mergeSort fun a _ b _ => (encL_le a b).symm).symm
theorem byt_le {a b : List Nat} (h : N8 a) (k : N8 b) : leByt (bD a) (bD b) = leN a b := by
  have e : ∀ {l : List Nat}, N8 l → keyB (bD l) = l := fun h => bA_nat h
  unfold leByt leN
  rw [e h, e k, Bool.eq_iff_iff, Bool.not_eq_true', decide_eq_false_iff_not, decide_eq_true_eq, List.not_lt]
theorem sorted_bytes {ls : List (List Nat)} (h : ∀ l ∈ ls, N8 l) : (ls.map bD).mergeSort leByt = (ls.mergeSort leN).map bD :=
  (List.map_mergeSort fun a ha b hb => (byt_le (h a ha) (h b hb)).symm).symm
theorem map_at {α : Type} {l : List α} {f : α → D} {done rest : List D} {x : D} (h : l.map f = done ++ x :: rest) : ∃ a, l[done.length]? = some a ∧ x = f a := by
  have e := congrArg (fun t => t[done.length]?) h
  simp only [List.getElem?_map, List.getElem?_append_right (Nat.le_refl _), Nat.sub_self, List.getElem?_cons_zero] at e
  cases h1 : l[done.length]? with
  | none => rw [h1] at e; simp at e
  | some a => rw [h1] at e; simp at e; exact ⟨a, rfl, e.symm⟩
theorem eqTs_nD : ∀ (l m : List Nat), eqTs (l.map nD) (m.map nD) = decide (l = m)
  | [], [] => by simp [eqTs]
  | [], _ :: _ => by simp [eqTs]
  | _ :: _, [] => by simp [eqTs]
  | a :: l, b :: m => by
    rw [List.map_cons, List.map_cons, eqTs, eqTs_nD l m]
    show ((a : Int) == (b : Int) && decide (l = m)) = _
    rw [Bool.eq_iff_iff]
    simp
    intro _
    omega
theorem eq_lD (M : Mem) (a b : List Nat) : eqD (vw M (lD a)) (vw M (lD b)) = some (.bl (decide (a = b))) := by
  have := eqD_lst' (n := 3) (m := 3) (xs := a.map nD) (ys := b.map nD) (plDs_map fun _ _ => rfl) (plDs_map fun _ _ => rfl)
  rw [eqTs_nD] at this
  exact this
theorem eqYs_byt (n : Nat) : ∀ zs : List (List Nat), eqYs n (zs.map bD) (zs.map bD) = some true
  | [] => by rw [List.map_nil, eqYs]
  | z :: zs => by
    rw [List.map_cons, eqYs, eqYs_byt n zs]
    have : eqY n (bD z) (bD z) = some true := by
      show eqY n (.byt (bA z)) (.byt (bA z)) = _
      rw [eqY]; simp
    rw [this]; rfl
theorem eqY_byt (zs : List (List Nat)) : eqY 1 (.lst (zs.map bD)) (.lst (zs.map bD)) = some true := by
  rw [eqY, if_pos rfl, eqYs_byt]
def PairS (low high : Op) : Prop := Pair low high ∧ (∀ l, low = some l → l.length ≤ 1000) ∧ ∀ h, high = some h → h.length ≤ 1000
theorem pair_sub {low high low' high' : Op} (P : PairS low high) (h1 : low' = low ∨ low' = none) (h2 : high' = high ∨ high' = none) : PairS low' high' := by
  obtain ⟨⟨a, b, c⟩, d, e⟩ := P
  refine ⟨⟨fun l h => ?_, fun l h => ?_, fun l h k1 k2 => ?_⟩, fun l h => ?_, fun l h => ?_⟩
  · rcases h1 with rfl | rfl
    · exact a l h
    · cases h
  · rcases h2 with rfl | rfl
    · exact b l h
    · cases h
  · rcases h1 with rfl | rfl
    · rcases h2 with rfl | rfl
      · exact c l h k1 k2
      · cases k2
    · cases k1
  · rcases h1 with rfl | rfl
    · exact d l h
    · cases h
  · rcases h2 with rfl | rfl
    · exact e l h
    · cases h
theorem olD_of {o : Op} {x : D} (h : x = olD o ∨ x = .non) : ∃ o', x = olD o' ∧ (o' = o ∨ o' = none) := by
  rcases h with rfl | rfl
  · exact ⟨o, rfl, .inl rfl⟩
  · exact ⟨none, rfl, .inr rfl⟩
theorem tot_n8 {low high : Op} (P : Pair low high) : ∀ (k : Nat), ∀ z ∈ totF low high k, N8 z ∧ z.length ≤ k
  | 0, z, hz => by cases hz
  | k + 1, z, hz => by
    rw [totF] at hz
    rcases List.mem_append.mp hz with h | h
    · have := tot_n8 P k z h
      exact ⟨this.1, by omega⟩
    · obtain ⟨d, hd, x, hx, rfl⟩ := mem_longer.mp (List.mem_filter.mp h).1
      have := (mem_allowed.mp hx).2.1
      have := mostF_le P.hi d
      obtain ⟨e1, e2⟩ := begs_mem P k d hd
      exact ⟨N8.app.mpr ⟨fun n hn => (e2 n hn).2, N8.one (by omega)⟩, by simp; omega⟩
theorem found_n8 {low high : Op} (P : Pair low high) {count k : Nat} : ∀ z ∈ foundF low high count k, N8 z ∧ z.length ≤ k := fun z hz => by
  rw [found_tot] at hz
  exact tot_n8 P k z (List.mem_of_mem_take hz)
def sp__law_due : SpD := fun ds M Q _ => ∃ low high, ∃ count : Nat, ds = [olD low, olD high, .int (count : Int)] ∧ PairS low high ∧ count ≤ 200 ∧
  ∀ k M', Keep M M' → count ≤ (foundF low high count k).length → Q (.lst (((foundF low high count k).mergeSort leN).map lD)) M'
abbrev N__law_due : List Str := ["_law_low", "_law_high", "_law_count", "_law_found", "_law_beginnings", "_law_length", "_law_labels", "_law_later", "_law_ahead", "_law_least", "_law_limit", "_law_numbers", "_law_one", "_law_number"]
def l__law_due_1 : DTS := (dSeq (dDrop (dBM "list" φExt (dVar 3) (dCons (dLcG (iSG (dVar 6)) (gN 12) (dAnd (dTest (dOp neD (dVar 12) (dVar 0))) (dTest (dOp neD (dVar 12) (dVar 1)))) (dVar 12) [12]) dNil)))
    (dAsg (dSl slD (dVar 7) dNoPart (dPart (dC (.int 6)))) (gN 4)))
def l__law_due_2 : DTS := (dSeq (dDrop (dBM "list" φExt (dVar 6) (dCons (dLc (iS (dVar 11)) (gN 13) (dTest (dOp eqD (dOp modD (dCB intF (dCons (dVar 13) dNil)) (dC (.int 2))) (dC (.int 0)))) (dOp addD (dVar 8) (dLst (dCons (dVar 13) dNil))) [13]) dNil)))
    (dDrop (dBM "list" φExt (dVar 7) (dCons (dLc (iS (dVar 11)) (gN 13) (dTest (dOp eqD (dOp modD (dCB intF (dCons (dVar 13) dNil)) (dC (.int 2))) (dC (.int 1)))) (dOp addD (dVar 8) (dLst (dCons (dVar 13) dNil))) [13]) dNil))))
def l__law_due_3 : DTS := (dSeq (dAsg (dListRg2 (dCons (dCB maxF (dCons (dC (.int 1)) (dCons (dVar 9) dNil))) (dCons (dOp addD (dVar 10) (dC (.int 1))) dNil))) (gN 11))
    l__law_due_2)
def l__law_due_4 : DTS := (dSeq (dAsg (dIfE (dAnd (dTest (dOp notNonD (dVar 1) (dC .non))) (dTest (dOp eqD (dSl slD (dVar 1) dNoPart (dPart (dVar 5))) (dVar 8)))) (dOp ixA (dVar 1) (dVar 5)) (dC (.int 255))) (gN 10))
    l__law_due_3)
def l__law_due_5 : DTS := (dSeq (dAsg (dIfE (dAnd (dTest (dOp notNonD (dVar 0) (dC .non))) (dTest (dOp eqD (dSl slD (dVar 0) dNoPart (dPart (dVar 5))) (dVar 8)))) (dOp ixA (dVar 0) (dVar 5)) (dC (.int 0))) (gN 9))
    l__law_due_4)
def l__law_due_6 : DTS := (dSeq (dFor (iS (dCB lstF (dCons (dVar 4) dNil))) (gN 8) l__law_due_5)
    l__law_due_1)
def l__law_due_7 : DTS := (dSeq (dPar 6 7 (dCons (dLstM dNil) (dCons (dLstM dNil) dNil)))
    l__law_due_6)
def l__law_due_8 : DTS := (dSeq (dIf (dTest (dOp geD (dCB lenF (dCons (dVar 3) dNil)) (dVar 2))) dBrk dNext)
    l__law_due_7)
def l__law_due_9 : DTS := (dSeq (dFor (iR1 (dC (.int 1010))) (gN 5) l__law_due_8)
    (dRet (dSorted (dSl slD (dVar 3) dNoPart (dPart (dVar 2))))))
def t__law_due : DTS := (dSeq (dPar 3 4 (dCons (dLstM dNil) (dCons (dLst (dCons (dLst dNil) dNil)) dNil)))
    l__law_due_9)
def evF (d : List Nat) (c : Int) (x : D) : Option D := match x with
  | .int i => if i % 2 == c then some (.lst (d.map nD ++ [.int i])) else none
  | _ => none
theorem evF_map (d : List Nat) (c : Nat) : ∀ l : List Nat, (l.map nD).filterMap (evF d (c : Int)) = ((l.filter fun n => n % 2 == c).map fun n => d ++ [n]).map lD
  | [] => rfl
  | n :: l => by
    have e : evF d (c : Int) (nD n) = if n % 2 = c then some (lD (d ++ [n])) else none := by
      show (if ((n : Int) % 2 == (c : Int)) = true then _ else _) = _
      have : ((n : Int) % 2 == (c : Int)) = decide (n % 2 = c) := by rw [Bool.eq_iff_iff, beq_iff_eq, decide_eq_true_eq]; omega
      rw [this]
      by_cases h : n % 2 = c <;> simp [h, lD, nD]
    rw [List.map_cons, List.filterMap_cons, evF_map d c l, List.filter_cons, e]
    by_cases h : n % 2 = c <;> simp [h]
theorem keep_upd {M0 M : Mem} {a : Addr} {d : D} (k : Keep M0 M) (h : M0 a = none) : Keep M0 (updM M a d) := fun c e hc => by
  have : c ≠ a := fun z => by rw [z, h] at hc; cases hc
  rw [updM_ne this]; exact k c e hc
theorem rgD_rgA (a m : Nat) : rgD (a : Int) 1 ((m : Int) + 1 - (a : Int)).toNat = (rgA a m).map nD := by
  unfold rgD rgA
  rw [List.map_map, show ((m : Int) + 1 - (a : Int)).toNat = m + 1 - a by omega]
  refine List.map_congr_left fun i _ => ?_
  show D.int ((a : Int) + (i : Int) * 1) = D.int ((a + i : Nat) : Int)
  congr 1
  omega
theorem longer_snoc {low high : Op} (bs : List (List Nat)) (d : List Nat) (f : Nat) : longerF low high (bs ++ [d]) f = longerF low high bs f ++ (allowedF low high d f).map fun n => d ++ [n] := by
  simp [longerF]
theorem lim_c {o : Op} {d : List Nat} {k i v : Nat} {z : Int} {ρ : DL.Env} {M : Mem} {T : DV} {X : DX} (hi : ρ[i]? = some (some (olD o))) (h5 : ρ[5]? = some (some (.int (k : Int)))) (h8 : ρ[8]? = some (some (lD d))) (hd : d.length = k) (ho : ∀ l, o = some l → Lab l) (hod : ∀ x ∈ d, x % 2 = 1)
    (hv1 : (∀ l, o = some l → l.take d.length ≠ d) → (v : Int) = z) (hv2 : ∀ l, o = some l → l.take d.length = d → v = l.getD d.length 0) (q : T (.int (v : Int)) M) :
    dIfE (dAnd (dTest (dOp notNonD (dVar i) (dC .non))) (dTest (dOp eqD (dSl slD (dVar i) dNoPart (dPart (dVar 5))) (dVar 8)))) (dOp ixA (dVar i) (dVar 5)) (dC (.int z)) ρ M T X := by
  subst hd
  cases o with
  | none =>
    rw [hv1 (fun _ e => nomatch e)] at q
    exact ⟨_, hi, .bl false, rfl, _, rfl, q⟩
  | some l =>
    have vs : slD (vw M (olD (some l))) none (some (d.length : Int)) = some (lD (l.take d.length)) := by
      show some (D.lst (cutD (l.map nD) none (some _))) = _
      rw [cutD_to, ← List.map_take]; rfl
    refine ⟨_, hi, .bl true, rfl, _, rfl, ?_⟩
    refine ⟨_, hi, _, h5, _, rfl, _, vs, _, h8, _, eq_lD M _ _, _, rfl, ?_⟩
    by_cases h : l.take d.length = d
    · rw [decide_eq_true h]
      have hk := tie_short ho hod rfl h
      rw [hv2 l rfl h] at q
      refine ⟨_, hi, _, h5, .int (l.getD d.length 0 : Nat), ?_, q⟩
      show atI (l.map nD) (d.length : Int) = _
      rw [atI_at (by omega) (by simpa using hk), Int.toNat_natCast, List.getElem?_map, List.getElem?_eq_getElem hk, List.getD, List.getElem?_eq_getElem hk]
      rfl
    · rw [decide_eq_false h]
      rw [hv1 (fun l' e => by cases e; exact h)] at q
      exact q
section
variable {low high : Op} {count k : Nat} {r a b : Addr} {M M0 : Mem} {En : DEnds} {v4 : D} {o8 o9 o10 o11 o12 o13 : Option D} {T : DV} {X : DX}
abbrev ldE (low high : Op) (count : Nat) (r : Addr) (v4 : D) (k : Nat) (a b : Addr) (o8 o9 o10 o11 o12 o13 : Option D) : DL.Env := [some (olD low), some (olD high), some (.int (count : Int)), some (.ref r), some v4, some (.int (k : Int)), some (.ref a), some (.ref b), o8, o9, o10, o11, o12, o13]
theorem lc_par (c : Int) {l d : List Nat} (hl : l.length ≤ 1000) (hd : d.length ≤ 2000) (q : T (.lst ((l.map nD).filterMap (evF d c))) M) :
    dLc (iS (dVar 11)) (gN 13) (dTest (dOp eqD (dOp modD (dCB intF (dCons (dVar 13) dNil)) (dC (.int 2))) (dC (.int c)))) (dOp addD (dVar 8) (dLst (dCons (dVar 13) dNil))) [13] (ldE low high count r v4 k a b (some (lD d)) o9 o10 (some (.lst (l.map nD))) o12 o13) M T X := by
  refine ⟨_, rfl, _, rfl, fun p hp => ?_⟩
  refine lcD_fn (evF d c) _ (by simp; omega) hp (fun x hx M1 T _ hT => ?_) q
  obtain ⟨n, hn, rfl⟩ := List.mem_map.mp hx
  refine ⟨_, rfl, .int (n : Int), rfl, _, modD_int (by decide), .bl (((n : Int) % 2) == c), rfl, _, rfl, ?_⟩
  replace hT : T (if ((n : Int) % 2 == c) = true then some (.lst (d.map nD ++ [nD n])) else none) M1 := hT
  by_cases h : ((n : Int) % 2 == c) = true
  · rw [h] at hT ⊢
    exact ⟨_, rfl, _, rfl, by simp, _, addD_lst (by simp; omega), hT⟩
  · rw [Bool.not_eq_true] at h
    rw [h] at hT ⊢
    exact hT
theorem ld_5 {d : List Nat} {A B : List (List Nat)} (P : PairS low high) (hd : d.length = k) (hk : k ≤ 1010) (hod : ∀ x ∈ d, x % 2 = 1 ∧ x < 256) (hA : A.length ≤ 3000) (hB : B.length ≤ 3000) (hab : a ≠ b) (ha : M a = some (.lst (A.map lD))) (hb : M b = some (.lst (B.map lD)))
    (q : ∀ o9 o10 o11 o12 o13, En.nx (ldE low high count r v4 k a b (some (lD d)) o9 o10 o11 o12 o13) (updM (updM M a (.lst ((A ++ (allowedF low high d 2).map fun n => d ++ [n]).map lD))) b (.lst ((B ++ (allowedF low high d 1).map fun n => d ++ [n]).map lD)))) :
    l__law_due_5 En (ldE low high count r v4 k a b (some (lD d)) o9 o10 o11 o12 o13) M := by
  have hodd : ∀ x ∈ d, x % 2 = 1 := fun x hx => (hod x hx).1
  refine lim_c (o := low) (v := lowN low d) rfl rfl rfl hd P.1.lo hodd (fun h => ?_) (fun l e h => ?_) ?_
  · unfold lowN
    cases low with
    | none => rfl
    | some l => show ((if _ then _ else _ : Nat) : Int) = 0; rw [if_neg (h l rfl)]; rfl
  · subst e
    exact if_pos h
  show l__law_due_4 En (ldE low high count r v4 k a b (some (lD d)) (some (.int (lowN low d : Nat))) o10 o11 o12 o13) M
  refine lim_c (o := high) (v := mostF high d) rfl rfl rfl hd P.1.hi hodd (fun h => ?_) (fun l e h => ?_) ?_
  · unfold mostF
    cases high with
    | none => rfl
    | some l => show ((if _ then _ else _ : Nat) : Int) = 255; rw [if_neg (h l rfl)]; rfl
  · subst e
    exact if_pos h
  show l__law_due_3 En (ldE low high count r v4 k a b (some (lD d)) (some (.int (lowN low d : Nat))) (some (.int (mostF high d : Nat))) o11 o12 o13) M
  have hm : mostF high d ≤ 255 := mostF_le P.1.hi d
  have hlo : lowN low d ≤ 255 := by
    unfold lowN
    split
    · rename_i l
      split
      · have h8 := (P.1.lo l rfl).n8
        by_cases hi : d.length < l.length
        · have := h8 l[d.length] (List.getElem_mem _)
          rw [List.getD, List.getElem?_eq_getElem hi]
          simp; omega
        · rw [List.getD, List.getElem?_eq_none (by omega)]
          simp
      · omega
    · omega
  have hmx : maxF [.int 1, .int (lowN low d : Nat)] = some (.int (max 1 (lowN low d) : Nat)) := by
    show some (D.int (if _ > _ then _ else _)) = _
    congr 2
    split <;> omega
  refine ⟨_, rfl, _, hmx, _, rfl, .int ((mostF high d : Int) + 1), rfl, _, _, _, rfl, rgC1 (by omega) (by omega) (by omega) (by omega), by omega, ?_⟩
  rw [rgD_rgA]
  show l__law_due_2 En (ldE low high count r v4 k a b (some (lD d)) (some (.int (lowN low d : Nat))) (some (.int (mostF high d : Nat))) (some (.lst ((rgA (max 1 (lowN low d)) (mostF high d)).map nD))) o12 o13) M
  have hl : (rgA (max 1 (lowN low d)) (mostF high d)).length ≤ 1000 := by rw [rgA_len]; omega
  have e0 : ((rgA (max 1 (lowN low d)) (mostF high d)).map nD).filterMap (evF d 0) = ((allowedF low high d 2).map fun n => d ++ [n]).map lD := by
    have := evF_map d 0 (rgA (max 1 (lowN low d)) (mostF high d))
    rw [even_all] at this
    exact this
  have e1 : ((rgA (max 1 (lowN low d)) (mostF high d)).map nD).filterMap (evF d 1) = ((allowedF low high d 1).map fun n => d ++ [n]).map lD := by
    have := evF_map d 1 (rgA (max 1 (lowN low d)) (mostF high d))
    rw [odd_all] at this
    exact this
  have n2 := allowed_len (low := low) P.1.hi (d := d) (first := 2) (by omega)
  have n1 := allowed_len (low := low) P.1.hi (d := d) (first := 1) (by omega)
  have va : vw M (.ref a) = .lst (A.map lD) := vw_ref ha
  refine ⟨_, rfl, by rw [va]; rfl, ?_⟩
  refine lc_par 0 hl (by omega) ?_
  rw [e0]
  refine ⟨a, A.map lD, _, _, rfl, rfl, rfl, ha, ?_, ?_⟩
  · rw [size_line, List.length_map, List.length_map, List.length_map]; omega
  rw [← List.map_append]
  have vb : vw (updM M a (.lst ((A ++ (allowedF low high d 2).map fun n => d ++ [n]).map lD))) (.ref b) = .lst (B.map lD) := vw_ref (by rw [updM_ne (Ne.symm hab)]; exact hb)
  refine ⟨_, rfl, by rw [vb]; rfl, ?_⟩
  refine lc_par 1 hl (by omega) ?_
  rw [e1]
  refine ⟨b, B.map lD, _, _, rfl, rfl, rfl, by rw [updM_ne (Ne.symm hab)]; exact hb, ?_, ?_⟩
  · rw [size_line, List.length_map, List.length_map, List.length_map]; omega
  rw [← List.map_append]
  exact q _ _ _ _ _
theorem ne_olD (M : Mem) (z : List Nat) (o : Op) : neD (vw M (lD z)) (vw M (olD o)) = some (.bl (decide (some z ≠ o))) := by
  cases o with
  | none =>
    have hp : plDs 3 (z.map nD) = true := plDs_map fun _ _ => rfl
    show (eqP (.lst (z.map nD)) .non).map (fun b => D.bl !b) = _
    rw [eqP_pl (n := 4) (m := 1) (by simpa [plD] using hp) (by simp [plD])]
    simp [eqT]
  | some l =>
    have := neD_lst' (n := 3) (m := 3) (xs := z.map nD) (ys := l.map nD) (plDs_map fun _ _ => rfl) (plDs_map fun _ _ => rfl)
    rw [eqTs_nD] at this
    refine this.trans ?_
    congr 2
    rw [Bool.eq_iff_iff]
    simp
theorem ld_7 {bs fs : List (List Nat)} (P : PairS low high) (hbs : ∀ d ∈ bs, d.length = k ∧ ∀ x ∈ d, x % 2 = 1 ∧ x < 256) (hn : bs.length ≤ 6) (hk : k ≤ 1010) (hr : M r = some (.lst (fs.map lD))) (hfs : fs.length ≤ 200) (K : Keep M0 M) (h0 : M0 r = none) {o6 o7 : Option D}
    (q : ∀ a b o8 o9 o10 o11 o12 o13 M', Keep M0 M' → M' r = some (.lst ((fs ++ newF low high bs).map lD)) → En.nx (ldE low high count r (.lst (((longerF low high bs 1).take 6).map lD)) k a b o8 o9 o10 o11 o12 o13) M') :
    l__law_due_7 En [some (olD low), some (olD high), some (.int (count : Int)), some (.ref r), some (.lst (bs.map lD)), some (.int (k : Int)), o6, o7, o8, o9, o10, o11, o12, o13] M := by
  refine ⟨by simp, fun a ha => ⟨by simp, fun b hb => ⟨_, _, rfl, ?_⟩⟩⟩
  have har : a ≠ r := fun z => by rw [z, hr] at ha; cases ha
  have hba : b ≠ a := fun z => by rw [z, updM_same] at hb; cases hb
  have hb' : M b = none := by rw [updM_ne hba] at hb; exact hb
  have hbr : b ≠ r := fun z => by rw [z, hr] at hb'; cases hb'
  have fr : ∀ {c : Addr}, M c = none → M0 c = none := fun {c} hc => by
    cases h : M0 c with
    | none => rfl
    | some d => have := K c d h; rw [hc] at this; cases this
  show l__law_due_6 En (ldE low high count r (.lst (bs.map lD)) k a b o8 o9 o10 o11 o12 o13) (updM (updM M a (.lst [])) b (.lst []))
  refine ⟨_, rfl, .lst (bs.map lD), rfl, _, rfl, ?_⟩
  have ln : ∀ (j f : Nat), 1 ≤ f → (longerF low high (bs.take j) f).length ≤ 768 := fun j f hf => by
    have := longer_len (low := low) P.1.hi (bs := bs.take j) (first := f) hf
    rw [List.length_take] at this
    omega
  refine forD_run _ (fun done ρ M1 => (∃ o8 o9 o10 o11 o12 o13, ρ = ldE low high count r (.lst (bs.map lD)) k a b o8 o9 o10 o11 o12 o13) ∧ M1 a = some (.lst ((longerF low high (bs.take done.length) 2).map lD)) ∧ M1 b = some (.lst ((longerF low high (bs.take done.length) 1).map lD)) ∧
    ∀ c, c ≠ a → c ≠ b → M1 c = M c) ?_ ?_ ⟨⟨_, _, _, _, _, _, rfl⟩, ?_, updM_same, fun c h1 h2 => by rw [updM_ne h2, updM_ne h1]⟩
  · rintro done x rest ρ M1 Nx hx ⟨⟨o8, o9, o10, o11, o12, o13, rfl⟩, h1, h2, h3⟩ nx
    obtain ⟨d, hd, rfl⟩ := map_at hx
    obtain ⟨hd1, hd2⟩ := hbs d (List.mem_of_getElem? hd)
    have et : bs.take (done.length + 1) = bs.take done.length ++ [d] := by rw [List.take_add_one, hd]; rfl
    have l1 := ln done.length 1 (by omega)
    have l2 := ln done.length 2 (by omega)
    refine ld_5 P hd1 hk hd2 (by omega) (by omega) (Ne.symm hba) h1 h2 fun o9 o10 o11 o12 o13 => nx _ _ ⟨⟨_, _, _, _, _, _, rfl⟩, ?_, ?_, fun c c1 c2 => by rw [updM_ne c2, updM_ne c1]; exact h3 c c1 c2⟩
    · rw [updM_ne (Ne.symm hba), updM_same, List.length_append, List.length_singleton, et, longer_snoc]
    · rw [updM_same, List.length_append, List.length_singleton, et, longer_snoc]
  · rintro ρ M1 ⟨⟨o8, o9, o10, o11, o12, o13, rfl⟩, h1, h2, h3⟩
    rw [List.length_map, List.take_length] at h1 h2
    have l2 := ln bs.length 2 (by omega)
    rw [List.take_length] at l2
    have hr1 : M1 r = some (.lst (fs.map lD)) := by rw [h3 r (Ne.symm har) (Ne.symm hbr)]; exact hr
    have vr : vw M1 (.ref r) = .lst (fs.map lD) := vw_ref hr1
    have va : vw M1 (.ref a) = .lst ((longerF low high bs 2).map lD) := vw_ref h1
    have vb : vw (updM M1 r (.lst ((fs ++ newF low high bs).map lD))) (.ref b) = .lst ((longerF low high bs 1).map lD) := vw_ref (by rw [updM_ne hbr]; exact h2)
    have kp : Keep M0 M1 := fun c d hc => by
      have c1 : c ≠ a := fun z => by rw [z, fr ha] at hc; cases hc
      have c2 : c ≠ b := fun z => by rw [z, fr hb'] at hc; cases hc
      rw [h3 c c1 c2]; exact K c d hc
    have nl : (newF low high bs).length ≤ (longerF low high bs 2).length := List.length_filter_le _ _
    refine ⟨_, rfl, by rw [vr]; rfl, _, rfl, (longerF low high bs 2).map lD, by rw [va]; rfl, fun p hp => ?_⟩
    have hpa : p ≠ a := fun z => by rw [z, h1] at hp; cases hp
    refine lcG_fn (keepD fun e => decide (some e ≠ low) && decide (some e ≠ high)) _ (by simp; omega) hp (fun M2 h => by rw [vw_ref (by rw [h a (Ne.symm hpa)]; exact h1)]; rfl) (fun x hx M2 T _ hT => ?_) ?_
    · obtain ⟨z, hz, rfl⟩ := List.mem_map.mp hx
      unfold keepD at hT
      rw [deL_lD] at hT
      replace hT : T (if (decide (some z ≠ low) && decide (some z ≠ high)) = true then some (lD z) else none) M2 := hT
      refine ⟨_, rfl, _, rfl, _, ne_olD _ _ _, _, rfl, ?_⟩
      by_cases h : some z ≠ low
      · rw [decide_eq_true h] at hT ⊢
        refine ⟨_, rfl, _, rfl, _, ne_olD _ _ _, _, rfl, ?_⟩
        by_cases h' : some z ≠ high
        · rw [decide_eq_true h'] at hT ⊢
          exact ⟨_, rfl, hT⟩
        · rw [decide_eq_false h'] at hT ⊢
          exact hT
      · rw [decide_eq_false h] at hT ⊢
        exact hT
    · rw [keepD_map]
      refine ⟨r, fs.map lD, _, _, rfl, rfl, rfl, hr1, ?_, ?_⟩
      · rw [size_line, List.length_map, List.length_map]
        show fs.length + (newF low high bs).length ≤ _
        omega
      rw [← List.map_append]
      refine ⟨_, rfl, _, rfl, .lst (((longerF low high bs 1).take 6).map lD), ?_, ?_⟩
      · show slD (vw (updM M1 r (.lst ((fs ++ newF low high bs).map lD))) (.ref b)) none (some 6) = _
        rw [vb]
        show some (D.lst (cutD _ none (some ((6 : Nat) : Int)))) = _
        rw [cutD_to, ← List.map_take]
      · exact q _ _ _ _ _ _ _ _ _ (keep_upd kp h0) updM_same
  · rw [updM_ne (Ne.symm hba), updM_same]; rfl
end
theorem pure__law_due : ∀ ds M Q E, sp__law_due ds M Q E → ds.length = 3 ∧ t__law_due (dEnds Q E) (startD N__law_due ds) M := by
  rintro ds M Q E ⟨low, high, count, rfl, P, hc, q⟩
  refine ⟨rfl, by simp, fun r hr => ⟨by simp, by simp, _, _, rfl, ?_⟩⟩
  obtain ⟨N, hN, hf, _⟩ := fb_ends P.1 P.2.1 P.2.2 hc
  have tail : ∀ {bs fs : List (List Nat)} {k : Nat} {M1 : Mem} {o4 o5 o6 o7 o8 o9 o10 o11 o12 o13 : Option D}, Wk low high count N k bs fs → count ≤ fs.length → fs.length ≤ 100000 → M1 r = some (.lst (fs.map lD)) → Keep M M1 →
      (dRet (dSorted (dSl slD (dVar 3) dNoPart (dPart (dVar 2))))) (dEnds Q E) [some (olD low), some (olD high), some (.int (count : Int)), some (.ref r), o4, o5, o6, o7, o8, o9, o10, o11, o12, o13] M1 := fun {bs fs k M1 _ _ _ _ _ _ _ _ _ _} w hge hle h1 kp => by
    obtain ⟨j, e1, e2⟩ := w.done hge
    have vr : vw M1 (.ref r) = .lst (fs.map lD) := vw_ref h1
    refine ⟨_, rfl, _, rfl, _, rfl, .lst ((fs.take count).map lD), ?_, ?_⟩
    · rw [vr]
      show some (D.lst (cutD _ none (some (count : Int)))) = _
      rw [cutD_to, List.map_take]
    · refine ⟨_, _, rfl, ?_, sort_lists _, ?_⟩
      · rw [size_line, List.length_map, List.length_take]; omega
      · rw [sorted_lists, e1]
        exact q j M1 kp e2
  refine ⟨1010, rfl, by omega, by omega, ?_⟩
  refine forD_run _ (fun done ρ M1 => ∃ bs fs o5 o6 o7 o8 o9 o10 o11 o12 o13, Wk low high count N done.length bs fs ∧ ρ = [some (olD low), some (olD high), some (.int (count : Int)), some (.ref r), some (.lst (bs.map lD)), o5, o6, o7, o8, o9, o10, o11, o12, o13] ∧ M1 r = some (.lst (fs.map lD)) ∧ fs.length ≤ 1000 ∧ Keep M M1) ?_ ?_
    ⟨_, _, _, _, _, _, _, _, _, _, _, Wk.all (Nat.zero_le _) (by simp [begsF]), rfl, updM_same, by simp [totF], keep_upd (Keep.refl M) hr⟩
  · rintro done x rest ρ M1 Nx hx ⟨bs, fs, o5, o6, o7, o8, o9, o10, o11, o12, o13, w, rfl, h1, hl, kp⟩ nx
    obtain ⟨hd, rfl⟩ := range_at hx
    have hd' : done.length < 1010 := hd
    have vr : vw M1 (.ref r) = .lst (fs.map lD) := vw_ref h1
    refine ⟨_, rfl, .int (fs.length : Nat), by rw [List.map_cons, vr]; simp, _, rfl, .bl (decide ((count : Int) ≤ (fs.length : Nat))), rfl, _, rfl, ?_⟩
    by_cases hc2 : count ≤ fs.length
    · rw [decide_eq_true (by omega)]
      exact tail w hc2 (by omega) h1 kp
    · rw [decide_eq_false (by omega)]
      refine ld_7 P (fun d hd => ?_) (w.len (by omega)) (by omega) h1 (by omega) kp hr fun a b o8 o9 o10 o11 o12 o13 M' k2 h2 => nx _ _ ⟨_, _, _, _, _, _, _, _, _, _, _, ?_, rfl, h2, ?_, k2⟩
      · exact begs_mem P.1 _ d (w.mem P.1 (by omega) d hd)
      · rw [List.length_append, List.length_singleton]
        exact w.step P.1 hc hf (by omega)
      · have nl : (newF low high bs).length ≤ (longerF low high bs 2).length := List.length_filter_le _ _
        have := longer_len (low := low) P.1.hi (bs := bs) (first := 2) (by omega)
        have := w.len (by omega : fs.length < count)
        rw [List.length_append]
        omega
  · rintro ρ M1 ⟨bs, fs, o5, o6, o7, o8, o9, o10, o11, o12, o13, w, rfl, h1, hl, kp⟩
    have := w.far (by simp; omega)
    exact tail w this (by omega) h1 kp
end LawProof
set_option Elab.async false
set_option linter.all false
set_option maxRecDepth 100000
set_option maxHeartbeats 4000000
set_option autoImplicit true
namespace LawProof
open PySem L2 DL FL
def sp_law : SpD := fun ds M Q _ => ∃ ns : List Int, ds = [.lst (ns.map D.int)] ∧ ns.length ≤ 63 ∧ ∀ M', Q (.bl true) M'
abbrev N_law : List Str := ["_law_script", "_law_cell", "_law_rng_here", "_law_turn", "_law_low", "_law_high", "_law_pair", "_law_count", "_law_due_here", "_law_one"]
def l_law_1 : DTS := (dSeq (dAsg (dLc (iS (dCall sp__law_due [] (dCons (dOp ixA (dVar 6) (dC (.int 0))) (dCons (dOp ixA (dVar 6) (dC (.int 1))) (dCons (dVar 7) dNil))))) (gN 9) dYes (dCall sp_bytes_of [] (dCons (dVar 9) dNil)) [9]) (gN 8))
    (dIf (dTest (dBin bNeY (dCall sp_labels_between [] (dCons (dVar 4) (dCons (dVar 5) (dCons (dVar 7) dNil)))) (dVar 8))) (dRet (dC (.bl false))) dNext))
def l_law_2 : DTS := (dSeq (dAsg (dLc (iS (dVar 6)) (gN 9) dYes (dIfE (dTest (dOp isNonD (dVar 9) (dC .non))) (dC .non) (dCall sp_bytes_of [] (dCons (dVar 9) dNil))) [9]) (gT 2 (gsCons (gN 4) (gsCons (gN 5) gsNil))))
    l_law_1)
def l_law_3 : DTS := (dSeq (dAsg (dCall sp__law_pick [] (dCons (dVar 2) (dCons (dLst (dCons (dC (.int 0)) (dCons (dC (.int 1)) (dCons (dC (.int 2)) (dCons (dC (.int 60)) (dCons (dC (.int 127)) (dCons (dC (.int 128)) (dCons (dC (.int 200)) dNil)))))))) dNil))) (gN 7))
    l_law_2)
def l_law_4 : DTS := (dSeq (dAsg (dLc (iS (dVar 6)) (gN 9) dYes (dCall sp__law_pick [] (dCons (dVar 2) (dCons (dLst (dCons (dVar 9) (dCons (dVar 9) (dCons (dVar 9) (dCons (dC .non) dNil))))) dNil))) [9]) (gN 6))
    l_law_3)
def l_law_5 : DTS := (dSeq (dAsg (dIfE (dTest (dOp eqD (dVar 4) (dVar 5))) (dLst (dCons (dC .non) (dCons (dC .non) dNil))) (dSorted (dLst (dCons (dVar 4) (dCons (dVar 5) dNil))))) (gN 6))
    l_law_4)
def l_law_6 : DTS := (dSeq (dAsg (dCall sp__law_pick [] (dCons (dVar 2) (dCons (dLst (dCons (dCall sp__law_beside [] (dCons (dVar 2) (dCons (dVar 4) dNil))) (dCons (dCall sp__law_beside [] (dCons (dVar 2) (dCons (dVar 4) dNil))) (dCons (dCall sp__law_long [] (dCons (dVar 2) dNil)) dNil)))) dNil))) (gN 5))
    l_law_5)
def l_law_7 : DTS := (dSeq (dAsg (dCall sp__law_long [] (dCons (dVar 2) dNil)) (gN 4))
    l_law_6)
def l_law_8 : DTS := (dSeq (dAsg (dCall sp__law_rng [] (dCons (dVar 1) dNil)) (gN 2))
    (dFor (iR1 (dC (.int 3))) (gN 3) l_law_7))
def t_law : DTS := (dSeq (dFor (iS (dSl slD (dOp addD (dVar 0) (dLst (dCons (dC (.int 0)) dNil))) dNoPart (dPart (dC (.int 3))))) (gN 1) l_law_8)
    (dRet (dC (.bl true))))
section
variable {r : Addr} {M : Mem} {Q : DV} {E : DEK} {s cell : D} {low high : Op} {count : Nat} {En : DEnds} {o3 o4 o5 o6 o7 o8 o9 : Option D}
abbrev lwE (s cell : D) (r : Addr) (o3 o4 o5 o6 o7 o8 o9 : Option D) : DL.Env := [some s, some cell, some (.ref r), o3, o4, o5, o6, o7, o8, o9]
theorem lbs_c {τx τy τc : DTE} {ρ : DL.Env} {M1 : Mem} {T : DV} {X : DX} (P : PairS low high) (hc : count ≤ 200) (q : ∀ N M', Keep M1 M' → N ≤ 1002 → count ≤ (foundF low high count N).length → T (.lst (((foundF low high count N).mergeSort leN).map bD)) M')
    (ha : ∀ K : List D → Mem → Prop, K [opD low, opD high, .int (count : Int)] M1 → dCons τx (dCons τy (dCons τc dNil)) ρ M K X) : dCall sp_labels_between [] (dCons τx (dCons τy (dCons τc dNil))) ρ M T X :=
  ha _ (show sp_labels_between [opD low, opD high, .int (count : Int)] M1 T (fun c ns es M2 => X c ns es ρ M2) from by
    refine ⟨_, _, _, rfl, .inr ⟨low, ⟨rfl, fun l h => ⟨P.1.lo l h, P.2.1 l h⟩⟩, .inr ⟨high, ⟨rfl, fun l h => ⟨P.1.hi l h, P.2.2 l h⟩⟩, .inr ⟨P.1.lt, .inr ⟨count, rfl, hc, fun N M' hN hf _ kp => ?_⟩⟩⟩⟩⟩
    rw [sorted_bytes fun z hz => (found_n8 P.1 z hz).1]
    exact q N M' kp hN hf)
theorem law_1 (P : PairS low high) (hc : count ≤ 200) (q : ∀ o8 o9 M', Keep M M' → En.nx (lwE s cell r o3 (some (opD low)) (some (opD high)) (some (.lst [olD low, olD high])) (some (.int (count : Int))) o8 o9) M') :
    l_law_1 En (lwE s cell r o3 (some (opD low)) (some (opD high)) (some (.lst [olD low, olD high])) (some (.int (count : Int))) o8 o9) M := by
  refine ⟨_, rfl, _, rfl, _, rfl, _, rfl, _, rfl, ?_⟩
  refine ⟨low, high, count, rfl, P, hc, fun k M1 k1 hk => ⟨_, rfl, fun a ha => ?_⟩⟩
  have fl := found_len (low := low) (high := high) (count := count) k
  have e2 : (((foundF low high count k).mergeSort leN).map lD).filterMap (fun x => some (bD (deL x))) = ((foundF low high count k).mergeSort leN).map bD := by
    rw [List.filterMap_map]
    show ((foundF low high count k).mergeSort leN).filterMap (some ∘ fun z => bD (deL (lD z))) = _
    rw [List.filterMap_eq_map]
    exact List.map_congr_left fun z _ => by rw [deL_lD]
  refine lcD_fn (fun x => some (bD (deL x))) _ (by simp; omega) ha (fun x hx M2 T _ hT => ?_) ?_
  · obtain ⟨z, hz, rfl⟩ := List.mem_map.mp hx
    rw [deL_lD] at hT
    have hz' : z ∈ foundF low high count k := List.mem_mergeSort.mp hz
    have hzl := (found_n8 P.1 z hz').2
    have fk : ∃ N, N ≤ 1002 ∧ count ≤ (foundF low high count N).length := by
      obtain ⟨N, h1, h2, _⟩ := fb_ends P.1 P.2.1 P.2.2 hc
      exact ⟨N, h1, h2⟩
    obtain ⟨N, hN1, hN2⟩ := fk
    rw [found_fix hk hN2] at hz'
    exact ⟨_, rfl, _, rfl, .inl ⟨z, rfl, (found_n8 P.1 z hz').1, by have := (found_n8 P.1 z hz').2; omega, hT⟩⟩
  rw [e2]
  refine lbs_c (τx := dVar 4) (τy := dVar 5) (τc := dVar 7) (ρ := lwE s cell r o3 (some (opD low)) (some (opD high)) (some (.lst [olD low, olD high])) (some (.int (count : Int))) (some (.lst (((foundF low high count k).mergeSort leN).map bD))) o9) (M1 := M1) P hc (fun N M2 k2 hN hf => ?_) fun K k => ⟨_, rfl, _, rfl, _, rfl, k⟩
  rw [found_fix hf hk]
  refine ⟨_, rfl, ?_⟩
  exact ⟨_, _, .same _, .same _, .inr (.inr (.inr ⟨_, _, 0, true, rfl, rfl, by omega, eqY_byt _, _, rfl, q _ _ _ (k1.trans k2)⟩))⟩
def toB : D → D
  | .non => .non
  | x => bD (deL x)
theorem toB_olD (o : Op) : toB (olD o) = opD o := by
  cases o with
  | none => rfl
  | some l => show bD (deL (lD l)) = bD l; rw [deL_lD]
theorem law_2 (P : PairS low high) (hc : count ≤ 200) (q : ∀ o4 o5 o8 o9 M', Keep M M' → En.nx (lwE s cell r o3 o4 o5 (some (.lst [olD low, olD high])) (some (.int (count : Int))) o8 o9) M') :
    l_law_2 En (lwE s cell r o3 o4 o5 (some (.lst [olD low, olD high])) (some (.int (count : Int))) o8 o9) M := by
  refine ⟨_, rfl, _, rfl, fun a ha => ?_⟩
  refine lcD_fn (fun x => some (toB x)) _ (by simp) ha (fun x hx M2 T _ hT => ?_) ?_
  · have : ∃ o, x = olD o ∧ (o = low ∨ o = high) := by
      simp only [List.mem_cons, List.not_mem_nil, or_false] at hx
      rcases hx with rfl | rfl
      · exact ⟨_, rfl, .inl rfl⟩
      · exact ⟨_, rfl, .inr rfl⟩
    obtain ⟨o, rfl, ho⟩ := this
    rw [toB_olD] at hT
    cases o with
    | none => exact ⟨_, rfl, .bl true, rfl, _, rfl, hT⟩
    | some l =>
      have hl : N8 l ∧ l.length ≤ 1000 := by
        rcases ho with h | h
        · exact ⟨(P.1.lo l h.symm).n8, P.2.1 l h.symm⟩
        · exact ⟨(P.1.hi l h.symm).n8, P.2.2 l h.symm⟩
      exact ⟨_, rfl, .bl false, rfl, _, rfl, _, rfl, _, rfl, .inl ⟨l, rfl, hl.1, by omega, hT⟩⟩
  · simp only [List.filterMap_cons, List.filterMap_nil, toB_olD]
    exact ⟨_, .inr rfl, rfl, _, _, rfl, _, _, rfl, rfl, law_1 P hc fun o8 o9 M' k => q _ _ _ _ M' k⟩
theorem law_4 (P : PairS low high) (hr : Rn M r) (q : ∀ o4 o5 o6 o7 o8 o9 M', RTo M M' r → En.nx (lwE s cell r o3 o4 o5 o6 o7 o8 o9) M') :
    l_law_4 En (lwE s cell r o3 o4 o5 (some (.lst [olD low, olD high])) o7 o8 o9) M := by
  refine ⟨_, rfl, _, rfl, fun a ha => ?_⟩
  have har : a ≠ r := fun z => hr.ne ha z.symm
  have u0 : RTo M (updM M a (.lst [])) r := (RTo.refl hr).upd ha har
  refine ⟨_, rfl, _, rfl, _, rfl, _, rfl, by simp, pickL (E := fun _ _ _ _ => True) u0.ok (by simp) (by simp) fun x M1 hx t1 => ⟨_, t1.keep1 updM_same har, by simp, ?_⟩⟩
  have u1 : RTo M (updM M1 a (.lst ([] ++ [x]))) r := (u0.trans t1).upd ha har
  refine ⟨_, rfl, _, rfl, _, rfl, _, rfl, by simp, pickL (E := fun _ _ _ _ => True) u1.ok (by simp) (by simp) fun y M2 hy t2 => ⟨_, t2.keep1 updM_same har, by simp, ?_⟩⟩
  refine ⟨_, updM_same, ?_⟩
  have u2 : RTo M (delM (updM M2 a (.lst ([] ++ [x] ++ [y]))) a) r := ((u1.trans t2).upd ha har).del ha har
  obtain ⟨lo, rfl, h1⟩ := olD_of (o := low) (x := x) (by
    simp only [List.mem_cons, List.not_mem_nil, or_false] at hx
    rcases hx with h | h | h | h
    · exact .inl h
    · exact .inl h
    · exact .inl h
    · exact .inr h)
  obtain ⟨hi, rfl, h2⟩ := olD_of (o := high) (x := y) (by
    simp only [List.mem_cons, List.not_mem_nil, or_false] at hy
    rcases hy with h | h | h | h
    · exact .inl h
    · exact .inl h
    · exact .inl h
    · exact .inr h)
  show l_law_3 En (lwE s cell r o3 o4 o5 (some (.lst [olD lo, olD hi])) o7 o8 o9) _
  refine ⟨_, rfl, by simp, pick_n (E := fun _ _ _ _ => True) [0, 1, 2, 60, 127, 128, 200] u2.ok (by simp) (by simp) fun n M3 hn t3 => ?_⟩
  have hn' : n ≤ 200 := by
    simp only [List.mem_cons, List.not_mem_nil, or_false] at hn
    omega
  exact law_2 (count := n) (pair_sub P h1 h2) hn' fun o4 o5 o8 o9 M' k => q _ _ _ _ _ _ M' ((u2.trans t3).and k)
theorem two_sorted {a b : List Nat} (h : a ≠ b) : (a < b ∧ [a, b].mergeSort leN = [a, b]) ∨ (b < a ∧ [a, b].mergeSort leN = [b, a]) := by
  have e : [a, b].mergeSort leN = if leN a b then [a, b] else [b, a] := by
    simp [List.mergeSort, List.MergeSort.Internal.splitInTwo, List.merge]
  rw [e]
  unfold leN
  by_cases hab : a < b
  · exact .inl ⟨hab, by rw [decide_eq_true (List.le_of_lt hab)]; rfl⟩
  · have hba : b < a := by
      rcases List.le_iff_lt_or_eq.mp (List.not_lt.mp hab) with z | z
      · exact z
      · exact absurd z.symm h
    exact .inr ⟨hba, by rw [decide_eq_false (List.not_le.mpr hba)]; rfl⟩
theorem law_5 {a b : List Nat} (ha : Lab a) (hb : Lab b) (hal : a.length ≤ 1000) (hbl : b.length ≤ 1000) (hr : Rn M r) (q : ∀ o4 o5 o6 o7 o8 o9 M', RTo M M' r → En.nx (lwE s cell r o3 o4 o5 o6 o7 o8 o9) M') :
    l_law_5 En (lwE s cell r o3 (some (lD a)) (some (lD b)) o6 o7 o8 o9) M := by
  refine ⟨_, rfl, _, rfl, _, eq_lD _ a b, _, rfl, ?_⟩
  have mk : ∀ {a b : List Nat}, Lab a → Lab b → a.length ≤ 1000 → b.length ≤ 1000 → a < b → PairS (some a) (some b) := fun ha hb k1 k2 h =>
    ⟨⟨fun l e => by cases e; exact ha, fun l e => by cases e; exact hb, fun l m e1 e2 => by cases e1; cases e2; exact h⟩, fun l e => by cases e; omega, fun l e => by cases e; omega⟩
  by_cases h : a = b
  · rw [decide_eq_true h]
    exact ⟨by simp, law_4 (low := none) (high := none) ⟨⟨(fun _ e => nomatch e), (fun _ e => nomatch e), (fun _ _ e _ => nomatch e)⟩, (fun _ e => nomatch e), (fun _ e => nomatch e)⟩ hr q⟩
  · rw [decide_eq_false h]
    refine ⟨_, rfl, _, rfl, by simp, _, _, rfl, by simp, sort_lists [a, b], ?_⟩
    rw [show [lD a, lD b] = [a, b].map lD from rfl, sorted_lists]
    rcases two_sorted h with ⟨h1, e⟩ | ⟨h1, e⟩
    · rw [e]
      exact law_4 (low := some a) (high := some b) (mk ha hb hal hbl h1) hr q
    · rw [e]
      exact law_4 (low := some b) (high := some a) (mk hb ha hbl hal h1) hr q
theorem law_7 (hr : Rn M r) (q : ∀ o4 o5 o6 o7 o8 o9 M', RTo M M' r → En.nx (lwE s cell r o3 o4 o5 o6 o7 o8 o9) M') :
    l_law_7 En (lwE s cell r o3 o4 o5 o6 o7 o8 o9) M := by
  refine ⟨_, rfl, r, rfl, hr, fun a M1 ha hal t1 => ?_⟩
  show l_law_6 En (lwE s cell r o3 (some (lD a)) o5 o6 o7 o8 o9) M1
  refine ⟨_, rfl, _, rfl, _, rfl, r, a, rfl, ha, hal, t1.ok, fun b1 M2 hb1 hl1 t2 => ?_⟩
  refine ⟨_, rfl, _, rfl, r, a, rfl, ha, hal, t2.ok, fun b2 M3 hb2 hl2 t3 => ?_⟩
  refine ⟨_, rfl, r, rfl, t3.ok, fun b3 M4 hb3 hl3 t4 => ?_⟩
  refine ⟨by simp, pickL (E := fun _ _ _ _ => True) t4.ok (by simp) (by simp) fun x M5 hx t5 => ?_⟩
  obtain ⟨b, rfl, hb, hbl⟩ : ∃ b, x = lD b ∧ Lab b ∧ b.length ≤ 1000 := by
    simp only [List.mem_cons, List.not_mem_nil, or_false] at hx
    rcases hx with rfl | rfl | rfl
    · exact ⟨_, rfl, hb1, by omega⟩
    · exact ⟨_, rfl, hb2, by omega⟩
    · exact ⟨_, rfl, hb3, by omega⟩
  have t := (((t1.trans t2).trans t3).trans t4).trans t5
  exact law_5 ha hb (by omega) hbl t.ok fun o4 o5 o6 o7 o8 o9 M' k => q _ _ _ _ _ _ M' (t.trans k)
theorem law_8 {i : Int} {o2 : Option D} (q : ∀ r o3 o4 o5 o6 o7 o8 o9 M', En.nx (lwE s (.int i) r o3 o4 o5 o6 o7 o8 o9) M') :
    l_law_8 En [some s, some (.int i), o2, o3, o4, o5, o6, o7, o8, o9] M := by
  refine ⟨_, rfl, i, rfl, fun r M1 hr0 hr _ => ?_⟩
  refine ⟨3, rfl, by omega, by omega, ?_⟩
  refine forD_run _ (fun done ρ M2 => Rn M2 r ∧ ∃ o3 o4 o5 o6 o7 o8 o9, ρ = lwE s (.int i) r o3 o4 o5 o6 o7 o8 o9) ?_ ?_ ⟨hr, _, _, _, _, _, _, _, rfl⟩
  · rintro done x rest ρ M2 Nx hx ⟨hr2, o3, o4, o5, o6, o7, o8, o9, rfl⟩ nx
    exact law_7 hr2 fun o4 o5 o6 o7 o8 o9 M' t => nx _ _ ⟨t.ok, _, _, _, _, _, _, _, rfl⟩
  · rintro ρ M2 ⟨hr2, o3, o4, o5, o6, o7, o8, o9, rfl⟩
    exact q _ _ _ _ _ _ _ _ _
end
theorem pure_law : ∀ ds M Q E, sp_law ds M Q E → ds.length = 1 ∧ t_law (dEnds Q E) (startD N_law ds) M := by
  rintro ds M Q E ⟨ns, rfl, hl, q⟩
  refine ⟨rfl, ?_⟩
  refine ⟨_, rfl, by simp, _, cells_add ns hl, _, rfl, _, rfl, _, rfl, ?_⟩
  refine forD_run _ (fun done ρ M1 => ∃ o1 o2 o3 o4 o5 o6 o7 o8 o9, ρ = [some (.lst (ns.map D.int)), o1, o2, o3, o4, o5, o6, o7, o8, o9]) ?_ ?_ ⟨_, _, _, _, _, _, _, _, _, rfl⟩
  · rintro done x rest ρ M1 Nx hx ⟨o1, o2, o3, o4, o5, o6, o7, o8, o9, rfl⟩ nx
    have hm : x ∈ cutD (ns.map D.int ++ [D.int 0]) none (some 3) := by rw [hx]; simp
    obtain ⟨i, rfl⟩ := cells_int ns 3 x hm
    exact law_8 fun r o3 o4 o5 o6 o7 o8 o9 M' => nx _ _ ⟨_, _, _, _, _, _, _, _, _, rfl⟩
  · rintro ρ M1 ⟨o1, o2, o3, o4, o5, o6, o7, o8, o9, rfl⟩
    exact q M1
theorem law_sp : ∀ (ns : List Int) (M : Mem) (Qd : DV) (Ed : DEK), ns.length ≤ 63 → (∀ M', Qd (.bl true) M') → sp_law [.lst (ns.map D.int)] M Qd Ed := fun ns M Qd Ed hl q => ⟨ns, rfl, hl, q⟩
end LawProof
set_option Elab.async false
set_option linter.all false
set_option maxRecDepth 100000
set_option maxHeartbeats 4000000
set_option autoImplicit true
namespace LawProof
open PySem L2 DL
theorem sc_is_integer : FnScope N_is_integer ["thing"] (defScope s_is_integer) := ⟨rfl, rfl, rfl, by decide +kernel, rfl, by decide +kernel, by decide +kernel⟩
theorem hb_is_integer : HBind "is_integer" "is_integer" (defArgs s_is_integer) (defBody s_is_integer) (defScope s_is_integer) ["thing"] := fun _ _ _ _ _ _ us hl => match us, hl with | [_], _ => rfl
theorem sc_is_sequence : FnScope N_is_sequence ["thing"] (defScope s_is_sequence) := ⟨rfl, rfl, rfl, by decide +kernel, rfl, by decide +kernel, by decide +kernel⟩
theorem hb_is_sequence : HBind "is_sequence" "is_sequence" (defArgs s_is_sequence) (defBody s_is_sequence) (defScope s_is_sequence) ["thing"] := fun _ _ _ _ _ _ us hl => match us, hl with | [_], _ => rfl
theorem sc_key_fault : FnScope N_key_fault ["key"] (defScope s_key_fault) := ⟨rfl, rfl, rfl, by decide +kernel, rfl, by decide +kernel, by decide +kernel⟩
theorem hb_key_fault : HBind "key_fault" "key_fault" (defArgs s_key_fault) (defBody s_key_fault) (defScope s_key_fault) ["key"] := fun _ _ _ _ _ _ us hl => match us, hl with | [_], _ => rfl
theorem sc_cut_key : FnScope N_cut_key ["key"] (defScope s_cut_key) := ⟨rfl, rfl, rfl, by decide +kernel, rfl, by decide +kernel, by decide +kernel⟩
theorem hb_cut_key : HBind "cut_key" "cut_key" (defArgs s_cut_key) (defBody s_cut_key) (defScope s_cut_key) ["key"] := fun _ _ _ _ _ _ us hl => match us, hl with | [_], _ => rfl
theorem sc_bytes_of : FnScope N_bytes_of ["numbers"] (defScope s_bytes_of) := ⟨rfl, rfl, rfl, by decide +kernel, rfl, by decide +kernel, by decide +kernel⟩
theorem hb_bytes_of : HBind "bytes_of" "bytes_of" (defArgs s_bytes_of) (defBody s_bytes_of) (defScope s_bytes_of) ["numbers"] := fun _ _ _ _ _ _ us hl => match us, hl with | [_], _ => rfl
theorem sc_is_label : FnScope N_is_label ["thing"] (defScope s_is_label) := ⟨rfl, rfl, rfl, by decide +kernel, rfl, by decide +kernel, by decide +kernel⟩
theorem hb_is_label : HBind "is_label" "is_label" (defArgs s_is_label) (defBody s_is_label) (defScope s_is_label) ["thing"] := fun _ _ _ _ _ _ us hl => match us, hl with | [_], _ => rfl
theorem sc_allowed : FnScope N_allowed ["low", "high", "done", "first"] (defScope s_allowed) := ⟨rfl, rfl, rfl, by decide +kernel, rfl, by decide +kernel, by decide +kernel⟩
theorem hb_allowed : HBind "allowed" "allowed" (defArgs s_allowed) (defBody s_allowed) (defScope s_allowed) ["low", "high", "done", "first"] := fun _ _ _ _ _ _ us hl => match us, hl with | [_, _, _, _], _ => rfl
theorem sc_longer : FnScope N_longer ["low", "high", "beginnings", "first"] (defScope s_longer) := ⟨rfl, rfl, rfl, by decide +kernel, rfl, by decide +kernel, by decide +kernel⟩
theorem hb_longer : HBind "longer" "longer" (defArgs s_longer) (defBody s_longer) (defScope s_longer) ["low", "high", "beginnings", "first"] := fun _ _ _ _ _ _ us hl => match us, hl with | [_, _, _, _], _ => rfl
theorem sc_found_between : FnScope N_found_between ["low", "high", "count"] (defScope s_found_between) := ⟨rfl, rfl, rfl, by decide +kernel, rfl, by decide +kernel, by decide +kernel⟩
theorem hb_found_between : HBind "found_between" "found_between" (defArgs s_found_between) (defBody s_found_between) (defScope s_found_between) ["low", "high", "count"] := fun _ _ _ _ _ _ us hl => match us, hl with | [_, _, _], _ => rfl
theorem sc_labels_between : FnScope N_labels_between ["low", "high", "count"] (defScope s_labels_between) := ⟨rfl, rfl, rfl, by decide +kernel, rfl, by decide +kernel, by decide +kernel⟩
theorem hb_labels_between : HBind "labels_between" "labels_between" (defArgs s_labels_between) (defBody s_labels_between) (defScope s_labels_between) ["low", "high", "count"] := fun _ _ _ _ _ _ us hl => match us, hl with | [_, _, _], _ => rfl
theorem sc__law_rng : FnScope N__law_rng ["_law_cell"] (defScope s__law_rng) := ⟨rfl, rfl, rfl, by decide +kernel, rfl, by decide +kernel, by decide +kernel⟩
theorem hb__law_rng : HBind "_law_rng" "_law_rng" (defArgs s__law_rng) (defBody s__law_rng) (defScope s__law_rng) ["_law_cell"] := fun _ _ _ _ _ _ us hl => match us, hl with | [_], _ => rfl
theorem sc__law_draw : FnScope N__law_draw ["_law_rng_here", "_law_limit"] (defScope s__law_draw) := ⟨rfl, rfl, rfl, by decide +kernel, rfl, by decide +kernel, by decide +kernel⟩
theorem hb__law_draw : HBind "_law_draw" "_law_draw" (defArgs s__law_draw) (defBody s__law_draw) (defScope s__law_draw) ["_law_rng_here", "_law_limit"] := fun _ _ _ _ _ _ us hl => match us, hl with | [_, _], _ => rfl
theorem sc__law_pick : FnScope N__law_pick ["_law_rng_here", "_law_items"] (defScope s__law_pick) := ⟨rfl, rfl, rfl, by decide +kernel, rfl, by decide +kernel, by decide +kernel⟩
theorem hb__law_pick : HBind "_law_pick" "_law_pick" (defArgs s__law_pick) (defBody s__law_pick) (defScope s__law_pick) ["_law_rng_here", "_law_items"] := fun _ _ _ _ _ _ us hl => match us, hl with | [_, _], _ => rfl
theorem sc__law_long : FnScope N__law_long ["_law_rng_here"] (defScope s__law_long) := ⟨rfl, rfl, rfl, by decide +kernel, rfl, by decide +kernel, by decide +kernel⟩
theorem hb__law_long : HBind "_law_long" "_law_long" (defArgs s__law_long) (defBody s__law_long) (defScope s__law_long) ["_law_rng_here"] := fun _ _ _ _ _ _ us hl => match us, hl with | [_], _ => rfl
theorem sc__law_beside : FnScope N__law_beside ["_law_rng_here", "_law_label"] (defScope s__law_beside) := ⟨rfl, rfl, rfl, by decide +kernel, rfl, by decide +kernel, by decide +kernel⟩
theorem hb__law_beside : HBind "_law_beside" "_law_beside" (defArgs s__law_beside) (defBody s__law_beside) (defScope s__law_beside) ["_law_rng_here", "_law_label"] := fun _ _ _ _ _ _ us hl => match us, hl with | [_, _], _ => rfl
theorem sc__law_due : FnScope N__law_due ["_law_low", "_law_high", "_law_count"] (defScope s__law_due) := ⟨rfl, rfl, rfl, by decide +kernel, rfl, by decide +kernel, by decide +kernel⟩
theorem hb__law_due : HBind "_law_due" "_law_due" (defArgs s__law_due) (defBody s__law_due) (defScope s__law_due) ["_law_low", "_law_high", "_law_count"] := fun _ _ _ _ _ _ us hl => match us, hl with | [_, _, _], _ => rfl
theorem sc_law : FnScope N_law ["_law_script"] (defScope s_law) := ⟨rfl, rfl, rfl, by decide +kernel, rfl, by decide +kernel, by decide +kernel⟩
theorem hb_law : HBind "law" "law" (defArgs s_law) (defBody s_law) (defScope s_law) ["_law_script"] := fun _ _ _ _ _ _ us hl => match us, hl with | [_], _ => rfl
theorem hb_NoKey___init__ : HBind "__init__" "NoKey.__init__" (defArgs s_NoKey___init__) (defBody s_NoKey___init__) (defScope s_NoKey___init__) ["self", "place"] := fun _ _ _ _ _ _ us hl => match us, hl with | [_, _], _ => rfl
theorem hb_NoLabel___init__ : HBind "__init__" "NoLabel.__init__" (defArgs s_NoLabel___init__) (defBody s_NoLabel___init__) (defScope s_NoLabel___init__) ["self", "word"] := fun _ _ _ _ _ _ us hl => match us, hl with | [_, _], _ => rfl
structure Tx (K : PySem.W.Frag) (mg : Str → Option Value) : Prop where
  f_is_integer : ∃ fd, FunD K "is_integer" "is_integer" (defArgs s_is_integer) (defBody s_is_integer) (defScope s_is_integer) [] [] (He.fAd K ("is_integer", none)) fd
  f_is_sequence : ∃ fd, FunD K "is_sequence" "is_sequence" (defArgs s_is_sequence) (defBody s_is_sequence) (defScope s_is_sequence) [] [] (He.fAd K ("is_sequence", none)) fd
  f_key_fault : ∃ fd, FunD K "key_fault" "key_fault" (defArgs s_key_fault) (defBody s_key_fault) (defScope s_key_fault) [] [] (He.fAd K ("key_fault", none)) fd
  f_cut_key : ∃ fd, FunD K "cut_key" "cut_key" (defArgs s_cut_key) (defBody s_cut_key) (defScope s_cut_key) [] [] (He.fAd K ("cut_key", none)) fd
  f_bytes_of : ∃ fd, FunD K "bytes_of" "bytes_of" (defArgs s_bytes_of) (defBody s_bytes_of) (defScope s_bytes_of) [] [] (He.fAd K ("bytes_of", none)) fd
  f_is_label : ∃ fd, FunD K "is_label" "is_label" (defArgs s_is_label) (defBody s_is_label) (defScope s_is_label) [] [] (He.fAd K ("is_label", none)) fd
  f_allowed : ∃ fd, FunD K "allowed" "allowed" (defArgs s_allowed) (defBody s_allowed) (defScope s_allowed) [] [] (He.fAd K ("allowed", none)) fd
  f_longer : ∃ fd, FunD K "longer" "longer" (defArgs s_longer) (defBody s_longer) (defScope s_longer) [] [] (He.fAd K ("longer", none)) fd
  f_found_between : ∃ fd, FunD K "found_between" "found_between" (defArgs s_found_between) (defBody s_found_between) (defScope s_found_between) [] [] (He.fAd K ("found_between", none)) fd
  f_labels_between : ∃ fd, FunD K "labels_between" "labels_between" (defArgs s_labels_between) (defBody s_labels_between) (defScope s_labels_between) [] [] (He.fAd K ("labels_between", none)) fd
  f__law_rng : ∃ fd, FunD K "_law_rng" "_law_rng" (defArgs s__law_rng) (defBody s__law_rng) (defScope s__law_rng) [] [] (He.fAd K ("_law_rng", none)) fd
  f__law_draw : ∃ fd, FunD K "_law_draw" "_law_draw" (defArgs s__law_draw) (defBody s__law_draw) (defScope s__law_draw) [] [] (He.fAd K ("_law_draw", none)) fd
  f__law_pick : ∃ fd, FunD K "_law_pick" "_law_pick" (defArgs s__law_pick) (defBody s__law_pick) (defScope s__law_pick) [] [] (He.fAd K ("_law_pick", none)) fd
  f__law_long : ∃ fd, FunD K "_law_long" "_law_long" (defArgs s__law_long) (defBody s__law_long) (defScope s__law_long) [] [] (He.fAd K ("_law_long", none)) fd
  f__law_beside : ∃ fd, FunD K "_law_beside" "_law_beside" (defArgs s__law_beside) (defBody s__law_beside) (defScope s__law_beside) [] [] (He.fAd K ("_law_beside", none)) fd
  f__law_due : ∃ fd, FunD K "_law_due" "_law_due" (defArgs s__law_due) (defBody s__law_due) (defScope s__law_due) [] [] (He.fAd K ("_law_due", none)) fd
  f_law : ∃ fd, FunD K "law" "law" (defArgs s_law) (defBody s_law) (defScope s_law) [] [] (He.fAd K ("law", none)) fd
  f_NoKey____init__ : ∃ fd, FunD K "__init__" "NoKey.__init__" (defArgs s_NoKey___init__) (defBody s_NoKey___init__) (defScope s_NoKey___init__) [] [] (He.fAd K ("NoKey", some "__init__")) fd
  f_NoLabel____init__ : ∃ fd, FunD K "__init__" "NoLabel.__init__" (defArgs s_NoLabel___init__) (defBody s_NoLabel___init__) (defScope s_NoLabel___init__) [] [] (He.fAd K ("NoLabel", some "__init__")) fd
  g_is_integer : mg "is_integer" = some (.ref (He.fAd K ("is_integer", none)))
  g_is_sequence : mg "is_sequence" = some (.ref (He.fAd K ("is_sequence", none)))
  g_key_fault : mg "key_fault" = some (.ref (He.fAd K ("key_fault", none)))
  g_cut_key : mg "cut_key" = some (.ref (He.fAd K ("cut_key", none)))
  g_bytes_of : mg "bytes_of" = some (.ref (He.fAd K ("bytes_of", none)))
  g_is_label : mg "is_label" = some (.ref (He.fAd K ("is_label", none)))
  g_allowed : mg "allowed" = some (.ref (He.fAd K ("allowed", none)))
  g_longer : mg "longer" = some (.ref (He.fAd K ("longer", none)))
  g_found_between : mg "found_between" = some (.ref (He.fAd K ("found_between", none)))
  g_labels_between : mg "labels_between" = some (.ref (He.fAd K ("labels_between", none)))
  g__law_rng : mg "_law_rng" = some (.ref (He.fAd K ("_law_rng", none)))
  g__law_draw : mg "_law_draw" = some (.ref (He.fAd K ("_law_draw", none)))
  g__law_pick : mg "_law_pick" = some (.ref (He.fAd K ("_law_pick", none)))
  g__law_long : mg "_law_long" = some (.ref (He.fAd K ("_law_long", none)))
  g__law_beside : mg "_law_beside" = some (.ref (He.fAd K ("_law_beside", none)))
  g__law_due : mg "_law_due" = some (.ref (He.fAd K ("_law_due", none)))
  g_law : mg "law" = some (.ref (He.fAd K ("law", none)))
  g_NoLabel : mg "NoLabel" = some (.ref (He.ga K "NoLabel"))
  g_NoKey : mg "NoKey" = some (.ref (He.ga K "NoKey"))
  g_ForestError : mg "ForestError" = some (.ref (He.ga K "ForestError"))
  oex_NoKey : OexC K (He.ga K "NoKey")
  xn_NoKey : xnB K (He.ga K "NoKey") (He.fAd K ("NoKey", some "__init__")) ["place"] = true
  sm : SmOk K
  oex_NoLabel : OexC K (He.ga K "NoLabel")
  xn_NoLabel : xnB K (He.ga K "NoLabel") (He.fAd K ("NoLabel", some "__init__")) ["word"] = true
  b_isinstance : mg "isinstance" = none
  b_int : mg "int" = none
  b_bool : mg "bool" = none
  b_tuple : mg "tuple" = none
  b_list : mg "list" = none
  b_len : mg "len" = none
  b_enumerate : mg "enumerate" = none
  b_bytes : mg "bytes" = none
  b_range : mg "range" = none
  b_max : mg "max" = none
  b_sorted : mg "sorted" = none
  b_abs : mg "abs" = none
  c_MOST_BYTES : ∃ t, mg "MOST_BYTES" = some (.int 1000 t)
  c_MOST_LABELS : ∃ t, mg "MOST_LABELS" = some (.int 200 t)
section
variable {P : Program} {w : World} {K : PySem.W.Frag} {mg : Str → Option Value} {base : Heap}
theorem x_NoKey (T : Tx K mg) : ExcK P w K mg base "NoKey" (cl K 30) ["place"] := by
  obtain ⟨fd, F⟩ := T.f_NoKey____init__
  have z := xnB_ok T.xn_NoKey
  exact ⟨T.oex_NoKey, T.g_NoKey, He.fAd K ("NoKey", some "__init__"), fd, ["self", "place"], z.1, z.2.1, xinit1 T.oex_NoKey (z.2.2 "place" (by simp)) F ⟨rfl, rfl, rfl, by decide +kernel, rfl, by decide +kernel, by decide +kernel⟩, F.bindsN hb_NoKey___init__⟩
theorem x_NoLabel (T : Tx K mg) : ExcK P w K mg base "NoLabel" (cl K 31) ["word"] := by
  obtain ⟨fd, F⟩ := T.f_NoLabel____init__
  have z := xnB_ok T.xn_NoLabel
  exact ⟨T.oex_NoLabel, T.g_NoLabel, He.fAd K ("NoLabel", some "__init__"), fd, ["self", "word"], z.1, z.2.1, xinit1 T.oex_NoLabel (z.2.2 "word" (by simp)) F ⟨rfl, rfl, rfl, by decide +kernel, rfl, by decide +kernel, by decide +kernel⟩, F.bindsN hb_NoLabel___init__⟩
theorem core_is_integer (T : Tx K mg) {f : Addr} (F : ∃ fd, FunD K "is_integer" "is_integer" (defArgs s_is_integer) (defBody s_is_integer) (defScope s_is_integer) [] [] f fd) : FnC (clw K P w) P w K mg base 1 "is_integer" "is_integer" (defArgs s_is_integer) (defBody s_is_integer) (defScope s_is_integer) f ["thing"] sp_is_integer := by
  refine fnC_of (k := 0) (t := t_is_integer) F sc_is_integer (fun cdv A outer s H E c => ?_) pure_is_integer
  exact (dss_one (ds_ret (d_andV (d_callB (call_isi.or (call_isiT.or call_isiK)) lc_isi rfl T.b_isinstance (by decide +kernel) (da_cons (d_var 0) (da_cons (d_ty rfl T.b_int (by decide +kernel)) da_nil))) (d_one (d_notV (d_callB (call_isi.or (call_isiT.or call_isiK)) lc_isi rfl T.b_isinstance (by decide +kernel) (da_cons (d_var 0) (da_cons (d_ty rfl T.b_bool (by decide +kernel)) da_nil))))))))
theorem core_is_sequence (T : Tx K mg) {f : Addr} (F : ∃ fd, FunD K "is_sequence" "is_sequence" (defArgs s_is_sequence) (defBody s_is_sequence) (defScope s_is_sequence) [] [] f fd) : FnC (clw K P w) P w K mg base 1 "is_sequence" "is_sequence" (defArgs s_is_sequence) (defBody s_is_sequence) (defScope s_is_sequence) f ["thing"] sp_is_sequence := by
  refine fnC_of (k := 0) (t := t_is_sequence) F sc_is_sequence (fun cdv A outer s H E c => ?_) pure_is_sequence
  exact (dss_one (ds_ret (d_callB (call_isi.or (call_isiT.or call_isiK)) lc_isi rfl T.b_isinstance (by decide +kernel) (da_cons (d_var 0) (da_cons (d_tup (da_cons (d_ty rfl T.b_list (by decide +kernel)) (da_cons (d_ty rfl T.b_tuple (by decide +kernel)) da_nil))) da_nil)))))
theorem core_key_fault (T : Tx K mg) {f : Addr} (F : ∃ fd, FunD K "key_fault" "key_fault" (defArgs s_key_fault) (defBody s_key_fault) (defScope s_key_fault) [] [] f fd) : FnC (clw K P w) P w K mg base 1 "key_fault" "key_fault" (defArgs s_key_fault) (defBody s_key_fault) (defScope s_key_fault) f ["key"] sp_key_fault := by
  refine fnC_of (k := 0) (t := t_key_fault) F sc_key_fault (fun cdv A outer s H E c => ?_) pure_key_fault
  exact (dss_cons (ds_if (DW.dt (dw_or (d_tnot (d_val (d_callB (call_isi.or (call_isiT.or call_isiK)) lc_isi rfl T.b_isinstance (by decide +kernel) (da_cons (d_var 0) (da_cons (d_ty rfl T.b_bytes (by decide +kernel)) da_nil))))) (dw_or1 (d_tcmp (op_eqA c.hr.room.units) lop_eq (d_callB call_len lc_len rfl T.b_len PySem.boot_len (da_cons (d_var 0) da_nil)) d_int (nomark _))))) (dss_one (ds_ret (d_un un_neg lun_neg d_int))) dss_nil)
      (dss_cons (ds_for c.po c.calm (di_enumW rfl T.b_enumerate (d_var 0)) (dg_tup c.calm (dgs_cons (dg_name 1 sc_key_fault.nd) (dgs_cons (dg_name 2 sc_key_fault.nd) dgs_nil))) (dss_one (ds_if (d_tcmp (op_eqA c.hr.room.units) lop_eq (d_var 2) d_int (nomark _)) (dss_one (ds_ret (d_var 1))) dss_nil)))
      (dss_one (ds_ret (d_ifE (d_tcmp (op_eqA c.hr.room.units) lop_eq (d_op op_mod lop_mod (d_callTy call_int1 lc_int rfl T.b_int (by decide +kernel) (da_cons (d_ixB (d_var 0) (d_un un_neg lun_neg d_int)) da_nil)) d_int) d_int (nomark _)) (d_callB call_len lc_len rfl T.b_len PySem.boot_len (da_cons (d_var 0) da_nil)) d_non)))))
theorem core_cut_key (T : Tx K mg) {f : Addr} (F : ∃ fd, FunD K "cut_key" "cut_key" (defArgs s_cut_key) (defBody s_cut_key) (defScope s_cut_key) [] [] f fd) : FnC (clw K P w) P w K mg base 1 "cut_key" "cut_key" (defArgs s_cut_key) (defBody s_cut_key) (defScope s_cut_key) f ["key"] sp_cut_key := by
  refine fnC_of (k := 0) (t := t_cut_key) F sc_cut_key (fun cdv A outer s H E c => ?_) pure_cut_key
  exact (dss_cons (ds_par (i := 1) (j := 2) c.calm sc_cut_key.nd (da_cons (d_lstM da_nil) (da_cons d_int da_nil)))
      (dss_cons (ds_for c.po c.calm (di_enumW rfl T.b_enumerate (d_var 0)) (dg_tup c.calm (dgs_cons (dg_name 3 sc_cut_key.nd) (dgs_cons (dg_name 4 sc_cut_key.nd) dgs_nil))) (dss_one (ds_if (d_tcmp (op_eqA c.hr.room.units) lop_eq (d_op op_mod lop_mod (d_callTy call_int1 lc_int rfl T.b_int (by decide +kernel) (da_cons (d_var 4) da_nil)) d_int) d_int (nomark _)) (dss_cons (ds_expr (d_bm PySem.F.plainAttrs_list PySem.F.slot_list_append PySem.F.type_list_append mt_append lm_app (d_var 1) (da_cons (d_sliceB (d_var 0) (do_some (d_var 2)) (do_some (d_op op_addAll lop_add (d_var 3) d_int))) da_nil)))
      (dss_one (ds_set 2 sc_cut_key.nd (d_op op_addAll lop_add (d_var 3) d_int)))) dss_nil)))
      (dss_one (ds_ret (d_frz (d_var 1))))))
theorem core_bytes_of (T : Tx K mg) {f : Addr} (F : ∃ fd, FunD K "bytes_of" "bytes_of" (defArgs s_bytes_of) (defBody s_bytes_of) (defScope s_bytes_of) [] [] f fd) : FnC (clw K P w) P w K mg base 3 "bytes_of" "bytes_of" (defArgs s_bytes_of) (defBody s_bytes_of) (defScope s_bytes_of) f ["numbers"] sp_bytes_of := by
  have G0 : FnB (clw K P w) P w K mg base 1 "is_integer" ["thing"] sp_is_integer := (core_is_integer T T.f_is_integer).fn T.g_is_integer hb_is_integer
  have G1 : FnB (clw K P w) P w K mg base 1 "is_sequence" ["thing"] sp_is_sequence := (core_is_sequence T T.f_is_sequence).fn T.g_is_sequence hb_is_sequence
  refine fnC_of (k := 2) (t := t_bytes_of) F sc_bytes_of (fun cdv A outer s H E c => ?_) pure_bytes_of
  exact (dss_cons (ds_if (d_tnot (d_val (d_fn c G1 (by decide) rfl (da_cons (d_var 0) da_nil)))) (dss_one (ds_raise c (by decide) (x_NoKey T) (by decide) rfl (da_cons (d_un un_neg lun_neg d_int) da_nil))) dss_nil)
      (dss_cons (ds_for c.po c.calm (di_enumT rfl T.b_enumerate (d_var 0)) (dg_tup c.calm (dgs_cons (dg_name 1 sc_bytes_of.nd) (dgs_cons (dg_name 2 sc_bytes_of.nd) dgs_nil))) (dss_one (ds_if (DW.dt (dw_or (d_tnot (d_val (d_fn c G0 (by decide) rfl (da_cons (d_var 2) da_nil)))) (dw_or1 (d_tnot (d_tchain op_le op_le (lop_cmp _) (lop_cmp _) d_int (d_var 2) d_int))))) (dss_one (ds_raise c (by decide) (x_NoKey T) (by decide) rfl (da_cons (d_var 1) da_nil))) dss_nil)))
      (dss_one (ds_ret (d_callTy (call_bytesA c.calm) lc_bytes rfl T.b_bytes (by decide +kernel) (da_cons (d_var 0) da_nil))))))
theorem core_is_label (T : Tx K mg) {f : Addr} (F : ∃ fd, FunD K "is_label" "is_label" (defArgs s_is_label) (defBody s_is_label) (defScope s_is_label) [] [] f fd) : FnC (clw K P w) P w K mg base 2 "is_label" "is_label" (defArgs s_is_label) (defBody s_is_label) (defScope s_is_label) f ["thing"] sp_is_label := by
  have G0 : FnB (clw K P w) P w K mg base 1 "key_fault" ["key"] sp_key_fault := (core_key_fault T T.f_key_fault).fn T.g_key_fault hb_key_fault
  have G1 : FnB (clw K P w) P w K mg base 1 "cut_key" ["key"] sp_cut_key := (core_cut_key T T.f_cut_key).fn T.g_cut_key hb_cut_key
  refine fnC_of (k := 1) (t := t_is_label) F sc_is_label (fun cdv A outer s H E c => ?_) pure_is_label
  exact (dss_one (ds_ret (d_andV (d_cmp op_isN lop_isN (d_fn c G0 (by decide) rfl (da_cons (d_var 0) da_nil)) d_non (nomark _)) (d_one (d_cmp (op_eqA c.hr.room.units) lop_eq (d_callB call_len lc_len rfl T.b_len PySem.boot_len (da_cons (d_fn c G1 (by decide) rfl (da_cons (d_var 0) da_nil)) da_nil)) d_int (nomark _))))))
theorem core_allowed (T : Tx K mg) {f : Addr} (F : ∃ fd, FunD K "allowed" "allowed" (defArgs s_allowed) (defBody s_allowed) (defScope s_allowed) [] [] f fd) : FnC (clw K P w) P w K mg base 1 "allowed" "allowed" (defArgs s_allowed) (defBody s_allowed) (defScope s_allowed) f ["low", "high", "done", "first"] sp_allowed := by
  refine fnC_of (k := 0) (t := t_allowed) F sc_allowed (fun cdv A outer s H E c => ?_) pure_allowed
  exact (dss_cons (ds_par (i := 4) (j := 5) c.calm sc_allowed.nd (da_cons (d_var 3) (da_cons d_int da_nil)))
      (dss_cons (ds_if (DW.dt (dw_and (d_tcmp op_notN lop_notN (d_var 0) d_non (nomark _)) (dw_and1 (d_tcmp (op_eqA c.hr.room.units) lop_eq (d_sliceB (d_var 0) do_none (do_some (d_callB call_len lc_len rfl T.b_len PySem.boot_len (da_cons (d_var 2) da_nil)))) (d_var 2) (nomark _))))) (dss_one (ds_set 4 sc_allowed.nd (d_callB ((cr_max c.calm).or (call_max2 c.calm)) lc_max rfl T.b_max (by decide +kernel) (da_cons (d_var 3) (da_cons (d_ixB (d_var 0) (d_callB call_len lc_len rfl T.b_len PySem.boot_len (da_cons (d_var 2) da_nil))) da_nil))))) dss_nil)
      (dss_cons (ds_if (DW.dt (dw_and (d_tcmp op_notN lop_notN (d_var 1) d_non (nomark _)) (dw_and1 (d_tcmp (op_eqA c.hr.room.units) lop_eq (d_sliceB (d_var 1) do_none (do_some (d_callB call_len lc_len rfl T.b_len PySem.boot_len (da_cons (d_var 2) da_nil)))) (d_var 2) (nomark _))))) (dss_one (ds_set 5 sc_allowed.nd (d_ixB (d_var 1) (d_callB call_len lc_len rfl T.b_len PySem.boot_len (da_cons (d_var 2) da_nil))))) dss_nil)
      (dss_one (ds_ret (d_listRg3 c.calm rfl T.b_list rfl T.b_range (da_cons (d_op op_addAll lop_add (d_var 4) (d_op op_mod lop_mod (d_callTy call_int1 lc_int rfl T.b_int (by decide +kernel) (da_cons (d_op op_sub lop_sub (d_var 4) (d_var 3)) da_nil)) d_int)) (da_cons (d_op op_addAll lop_add (d_var 5) d_int) (da_cons d_int da_nil)))))))))
theorem core_longer (T : Tx K mg) {f : Addr} (F : ∃ fd, FunD K "longer" "longer" (defArgs s_longer) (defBody s_longer) (defScope s_longer) [] [] f fd) : FnC (clw K P w) P w K mg base 2 "longer" "longer" (defArgs s_longer) (defBody s_longer) (defScope s_longer) f ["low", "high", "beginnings", "first"] sp_longer := by
  have G0 : FnB (clw K P w) P w K mg base 1 "allowed" ["low", "high", "done", "first"] sp_allowed := (core_allowed T T.f_allowed).fn T.g_allowed hb_allowed
  refine fnC_of (k := 1) (t := t_longer) F sc_longer (fun cdv A outer s H E c => ?_) pure_longer
  exact (dss_one (ds_ret (d_lc2 (own := [("done", 4), ("number", 5)]) [5] c.calm sc_longer.nd (di_g (di_seq (d_var 2))) (blkOk_by (own := [("done", 4), ("number", 5)]) (N := N_longer) (sc := defScope s_longer) (by decide +kernel)) (fun _ _ _ _ _ => (dg_name 4 sc_longer.nd)) (fun _ _ _ _ _ => dts_nil) (fun _ _ _ _ _ => (di_g (di_seq (d_fn c.blk G0 (by decide) rfl (da_cons (d_var 0) (da_cons (d_var 1) (da_cons (d_var 4) (da_cons (d_var 3) da_nil)))))))) (fun _ _ _ _ _ => (dg_name 5 sc_longer.nd)) (fun _ _ _ _ _ => dts_nil) (fun _ _ _ _ _ => (d_op op_addAll lop_add (d_var 4) (d_callTy (call_bytesA c.blk.calm) lc_bytes rfl T.b_bytes (by decide +kernel) (da_cons (d_lst (da_cons (d_var 5) da_nil)) da_nil)))))))
theorem core_found_between (T : Tx K mg) {f : Addr} (F : ∃ fd, FunD K "found_between" "found_between" (defArgs s_found_between) (defBody s_found_between) (defScope s_found_between) [] [] f fd) : FnC (clw K P w) P w K mg base 3 "found_between" "found_between" (defArgs s_found_between) (defBody s_found_between) (defScope s_found_between) f ["low", "high", "count"] sp_found_between := by
  have G0 : FnB (clw K P w) P w K mg base 2 "longer" ["low", "high", "beginnings", "first"] sp_longer := (core_longer T T.f_longer).fn T.g_longer hb_longer
  refine fnC_of (k := 2) (t := t_found_between) F sc_found_between (fun cdv A outer s H E c => ?_) pure_found_between
  exact (dss_cons (ds_par (i := 3) (j := 4) c.calm sc_found_between.nd (da_cons (d_lstM da_nil) (da_cons (d_lst (da_cons d_byt da_nil)) da_nil)))
      (dss_cons (ds_while c.po (d_tcmp op_lt (lop_cmp _) (d_callB call_len lc_len rfl T.b_len PySem.boot_len (da_cons (d_var 3) da_nil)) (d_var 2) (nomark _)) (dss_cons (ds_setLc (own := [("label", 6)]) 5 c.calm sc_found_between.nd (di_seq (d_fn c G0 (by decide) rfl (da_cons (d_var 0) (da_cons (d_var 1) (da_cons (d_var 4) (da_cons d_int da_nil)))))) (blkOk_by (own := [("label", 6)]) (N := N_found_between) (sc := defScope s_found_between) (by decide +kernel)) (fun _ _ _ _ _ => (dg_name 6 sc_found_between.nd)) (fun _ _ _ _ _ => (dts_one (DW.dt (dw_and (d_tcmpG (bin_neY c.blk.hr.room.units) (d_var 6) (d_var 0) (nomark _)) (dw_and1 (d_tcmpG (bin_neY c.blk.hr.room.units) (d_var 6) (d_var 1) (nomark _))))))) (fun _ _ _ _ _ => (d_var 6)))
      (dss_cons (ds_expr (d_bm PySem.F.plainAttrs_list PySem.F.slot_list_extend PySem.F.type_list_extend mt_extS lm_ext (d_var 3) (da_cons (d_slice (d_var 5) do_none (do_some (d_op op_sub lop_sub (d_var 2) (d_callB call_len lc_len rfl T.b_len PySem.boot_len (da_cons (d_var 3) da_nil))))) da_nil)))
      (dss_one (ds_set 4 sc_found_between.nd (d_fn c G0 (by decide) rfl (da_cons (d_var 0) (da_cons (d_var 1) (da_cons (d_var 4) (da_cons d_int da_nil))))))))))
      (dss_one (ds_ret (d_sorted c T.sm c.hr.room.units rfl T.b_sorted (d_var 3))))))
theorem core_labels_between (T : Tx K mg) {f : Addr} (F : ∃ fd, FunD K "labels_between" "labels_between" (defArgs s_labels_between) (defBody s_labels_between) (defScope s_labels_between) [] [] f fd) : FnC (clw K P w) P w K mg base 4 "labels_between" "labels_between" (defArgs s_labels_between) (defBody s_labels_between) (defScope s_labels_between) f ["low", "high", "count"] sp_labels_between := by
  have G0 : FnB (clw K P w) P w K mg base 3 "found_between" ["low", "high", "count"] sp_found_between := (core_found_between T T.f_found_between).fn T.g_found_between hb_found_between
  have G1 : FnB (clw K P w) P w K mg base 1 "is_integer" ["thing"] sp_is_integer := (core_is_integer T T.f_is_integer).fn T.g_is_integer hb_is_integer
  have G2 : FnB (clw K P w) P w K mg base 2 "is_label" ["thing"] sp_is_label := (core_is_label T T.f_is_label).fn T.g_is_label hb_is_label
  refine fnC_of (k := 3) (t := t_labels_between) F sc_labels_between (fun cdv A outer s H E c => ?_) pure_labels_between
  exact (dss_cons (ds_for c.po c.calm (di_seq (d_tup (da_cons (d_tup (da_cons d_str (da_cons (d_var 0) da_nil))) (da_cons (d_tup (da_cons d_str (da_cons (d_var 1) da_nil))) da_nil)))) (dg_tup c.calm (dgs_cons (dg_name 3 sc_labels_between.nd) (dgs_cons (dg_name 4 sc_labels_between.nd) dgs_nil))) (dss_one (ds_if (DW.dt (dw_and (d_tcmp op_notN lop_notN (d_var 4) d_non (nomark _)) (dw_and1 (DW.dt (dw_or (d_tnot (d_val (d_fn c G2 (by decide) rfl (da_cons (d_var 4) da_nil)))) (dw_or1 (d_tcmp op_gt (lop_cmp _) (d_callB call_len lc_len rfl T.b_len PySem.boot_len (da_cons (d_var 4) da_nil)) (d_globI rfl T.c_MOST_BYTES) (nomark _)))))))) (dss_one (ds_raise c (by decide) (x_NoLabel T) (by decide) rfl (da_cons (d_var 3) da_nil))) dss_nil)))
      (dss_cons (ds_if (DW.dt (dw_and (d_tcmp op_notN lop_notN (d_var 0) d_non (nomark _)) (dw_and (d_tcmp op_notN lop_notN (d_var 1) d_non (nomark _)) (dw_and1 (d_tcmp op_geX (lop_cmpX _ _) (d_var 0) (d_var 1) (nomark _)))))) (dss_one (ds_raise c (by decide) (x_NoLabel T) (by decide) rfl (da_cons d_str da_nil))) dss_nil)
      (dss_cons (ds_if (DW.dt (dw_or (d_tnot (d_val (d_fn c G1 (by decide) rfl (da_cons (d_var 2) da_nil)))) (dw_or1 (d_tnot (d_tchain op_le op_le (lop_cmp _) (lop_cmp _) d_int (d_var 2) (d_globI rfl T.c_MOST_LABELS)))))) (dss_one (ds_raise c (by decide) (x_NoLabel T) (by decide) rfl (da_cons d_str da_nil))) dss_nil)
      (dss_one (ds_ret (d_fn c G0 (by decide) rfl (da_cons (d_var 0) (da_cons (d_var 1) (da_cons (d_var 2) da_nil)))))))))
theorem core__law_rng (T : Tx K mg) {f : Addr} (F : ∃ fd, FunD K "_law_rng" "_law_rng" (defArgs s__law_rng) (defBody s__law_rng) (defScope s__law_rng) [] [] f fd) : FnC (clw K P w) P w K mg base 1 "_law_rng" "_law_rng" (defArgs s__law_rng) (defBody s__law_rng) (defScope s__law_rng) f ["_law_cell"] sp__law_rng := by
  refine fnC_of (k := 0) (t := t__law_rng) F sc__law_rng (fun cdv A outer s H E c => ?_) pure__law_rng
  exact (dss_one (ds_ret (d_lstM (da_cons (d_callB call_abs lc_abs rfl T.b_abs (by decide +kernel) (da_cons (d_var 0) da_nil)) (da_cons (d_op op_mod lop_mod (d_callTy call_int1 lc_int rfl T.b_int (by decide +kernel) (da_cons (d_var 0) da_nil)) d_int) (da_cons d_int da_nil))))))
theorem core__law_draw (T : Tx K mg) {f : Addr} (F : ∃ fd, FunD K "_law_draw" "_law_draw" (defArgs s__law_draw) (defBody s__law_draw) (defScope s__law_draw) [] [] f fd) : FnC (clw K P w) P w K mg base 1 "_law_draw" "_law_draw" (defArgs s__law_draw) (defBody s__law_draw) (defScope s__law_draw) f ["_law_rng_here", "_law_limit"] sp__law_draw := by
  refine fnC_of (k := 0) (t := t__law_draw) F sc__law_draw (fun cdv A outer s H E c => ?_) pure__law_draw
  exact (dss_cons (ds_if (d_tcmp op_ge (lop_cmp _) (d_ixA (RoomG.u1 c.hr) (d_var 0) d_int) (d_op op_pow lop_pow d_int d_int) (nomark _)) (dss_cons (ds_set 2 sc__law_draw.nd (d_op op_mod lop_mod (d_callTy call_int1 lc_int rfl T.b_int (by decide +kernel) (da_cons (d_ixA (RoomG.u1 c.hr) (d_var 0) d_int) da_nil)) (d_var 1)))
      (dss_cons (ds_asg (d_op op_fdivW lop_fdiv (d_ixA (RoomG.u1 c.hr) (d_var 0) d_int) (d_var 1)) (dg_subL (d_var 0) d_int))
      (dss_one (ds_ret (d_var 2))))) dss_nil)
      (dss_cons (ds_asg (d_op op_addAll lop_add (d_ixA (RoomG.u1 c.hr) (d_var 0) d_int) d_int) (dg_subL (d_var 0) d_int))
      (dss_cons (ds_set 3 sc__law_draw.nd (d_op op_mod lop_mod (d_callTy call_int1 lc_int rfl T.b_int (by decide +kernel) (da_cons (d_op op_mul lop_mul (d_op op_addAll lop_add (d_op op_addAll lop_add (d_ixA (RoomG.u1 c.hr) (d_var 0) d_int) (d_op op_mul lop_mul d_int (d_ixA (RoomG.u1 c.hr) (d_var 0) d_int))) d_int) d_int) da_nil)) d_int))
      (dss_cons (ds_set 3 sc__law_draw.nd (d_op op_mod lop_mod (d_callTy call_int1 lc_int rfl T.b_int (by decide +kernel) (da_cons (d_op op_mul lop_mul (d_var 3) (d_op op_addAll lop_add (d_op op_fdivW lop_fdiv (d_var 3) d_int) d_int)) da_nil)) d_int))
      (dss_one (ds_ret (d_op op_mod lop_mod (d_callTy call_int1 lc_int rfl T.b_int (by decide +kernel) (da_cons (d_op op_mod lop_mod (d_callTy call_int1 lc_int rfl T.b_int (by decide +kernel) (da_cons (d_op op_addAll lop_add (d_op op_fdivW lop_fdiv (d_var 3) d_int) (d_op op_mul lop_mul (d_op op_mod lop_mod (d_callTy call_int1 lc_int rfl T.b_int (by decide +kernel) (da_cons (d_var 3) da_nil)) d_int) d_int)) da_nil)) d_int) da_nil)) (d_var 1))))))))
theorem core__law_pick (T : Tx K mg) {f : Addr} (F : ∃ fd, FunD K "_law_pick" "_law_pick" (defArgs s__law_pick) (defBody s__law_pick) (defScope s__law_pick) [] [] f fd) : FnC (clw K P w) P w K mg base 2 "_law_pick" "_law_pick" (defArgs s__law_pick) (defBody s__law_pick) (defScope s__law_pick) f ["_law_rng_here", "_law_items"] sp__law_pick := by
  have G0 : FnB (clw K P w) P w K mg base 1 "_law_draw" ["_law_rng_here", "_law_limit"] sp__law_draw := (core__law_draw T T.f__law_draw).fn T.g__law_draw hb__law_draw
  refine fnC_of (k := 1) (t := t__law_pick) F sc__law_pick (fun cdv A outer s H E c => ?_) pure__law_pick
  exact (dss_one (ds_ret (d_ixA (RoomG.u1 c.hr) (d_var 1) (d_fn c G0 (by decide) rfl (da_cons (d_var 0) (da_cons (d_callB call_len lc_len rfl T.b_len PySem.boot_len (da_cons (d_var 1) da_nil)) da_nil))))))
theorem core__law_long (T : Tx K mg) {f : Addr} (F : ∃ fd, FunD K "_law_long" "_law_long" (defArgs s__law_long) (defBody s__law_long) (defScope s__law_long) [] [] f fd) : FnC (clw K P w) P w K mg base 3 "_law_long" "_law_long" (defArgs s__law_long) (defBody s__law_long) (defScope s__law_long) f ["_law_rng_here"] sp__law_long := by
  have G0 : FnB (clw K P w) P w K mg base 2 "_law_pick" ["_law_rng_here", "_law_items"] sp__law_pick := (core__law_pick T T.f__law_pick).fn T.g__law_pick hb__law_pick
  refine fnC_of (k := 2) (t := t__law_long) F sc__law_long (fun cdv A outer s H E c => ?_) pure__law_long
  exact (dss_cons (ds_set 1 sc__law_long.nd (d_fn c G0 (by decide) rfl (da_cons (d_var 0) (da_cons (d_lst (da_cons d_int (da_cons d_int (da_cons d_int (da_cons d_int (da_cons d_int (da_cons d_int da_nil))))))) da_nil))))
      (dss_cons (ds_set 2 sc__law_long.nd (d_fn c G0 (by decide) rfl (da_cons (d_var 0) (da_cons (d_lst (da_cons d_int (da_cons d_int (da_cons d_int (da_cons d_int da_nil))))) da_nil))))
      (dss_one (ds_ret (d_op op_addAll lop_add (d_bin bin_repD (d_lstM (da_cons (d_var 2) da_nil)) (d_var 1)) (d_lst (da_cons (d_fn c G0 (by decide) rfl (da_cons (d_var 0) (da_cons (d_lst (da_cons d_int (da_cons d_int (da_cons d_int (da_cons d_int (da_cons d_int da_nil)))))) da_nil))) da_nil)))))))
theorem core__law_beside (T : Tx K mg) {f : Addr} (F : ∃ fd, FunD K "_law_beside" "_law_beside" (defArgs s__law_beside) (defBody s__law_beside) (defScope s__law_beside) [] [] f fd) : FnC (clw K P w) P w K mg base 3 "_law_beside" "_law_beside" (defArgs s__law_beside) (defBody s__law_beside) (defScope s__law_beside) f ["_law_rng_here", "_law_label"] sp__law_beside := by
  have G0 : FnB (clw K P w) P w K mg base 2 "_law_pick" ["_law_rng_here", "_law_items"] sp__law_pick := (core__law_pick T T.f__law_pick).fn T.g__law_pick hb__law_pick
  have G1 : FnB (clw K P w) P w K mg base 1 "_law_draw" ["_law_rng_here", "_law_limit"] sp__law_draw := (core__law_draw T T.f__law_draw).fn T.g__law_draw hb__law_draw
  refine fnC_of (k := 2) (t := t__law_beside) F sc__law_beside (fun cdv A outer s H E c => ?_) pure__law_beside
  exact (dss_cons (ds_set 2 sc__law_beside.nd (d_fn c G0 (by decide) rfl (da_cons (d_var 0) (da_cons (d_lst (da_cons (d_op op_sub lop_sub (d_callB call_len lc_len rfl T.b_len PySem.boot_len (da_cons (d_var 1) da_nil)) d_int) (da_cons (d_op op_sub lop_sub (d_callB call_len lc_len rfl T.b_len PySem.boot_len (da_cons (d_var 1) da_nil)) d_int) (da_cons (d_fn c G1 (by decide) rfl (da_cons (d_var 0) (da_cons (d_callB call_len lc_len rfl T.b_len PySem.boot_len (da_cons (d_var 1) da_nil)) da_nil))) da_nil)))) da_nil))))
      (dss_cons (ds_set 3 sc__law_beside.nd (d_op op_addAll lop_add (d_ixA (RoomG.u1 c.hr) (d_var 1) (d_var 2)) (d_fn c G0 (by decide) rfl (da_cons (d_var 0) (da_cons (d_lst (da_cons d_int (da_cons (d_un un_neg lun_neg d_int) (da_cons d_int (da_cons (d_un un_neg lun_neg d_int) (da_cons d_int da_nil)))))) da_nil)))))
      (dss_cons (ds_if (d_tnot (d_tchain op_le op_le (lop_cmp _) (lop_cmp _) d_int (d_var 3) d_int)) (dss_one (ds_ret (d_op op_addAll lop_add (d_slice (d_op op_addAll lop_add (d_slice (d_var 1) do_none (do_some (d_var 2))) (d_lst (da_cons (d_fn c G0 (by decide) rfl (da_cons (d_var 0) (da_cons (d_lst (da_cons d_int (da_cons d_int da_nil))) da_nil))) da_nil))) do_none (do_some d_int)) (d_lst (da_cons (d_fn c G0 (by decide) rfl (da_cons (d_var 0) (da_cons (d_lst (da_cons d_int (da_cons d_int da_nil))) da_nil))) da_nil))))) dss_nil)
      (dss_cons (ds_if (d_tcmp (op_eqA c.hr.room.units) lop_eq (d_op op_mod lop_mod (d_callTy call_int1 lc_int rfl T.b_int (by decide +kernel) (da_cons (d_var 3) da_nil)) d_int) d_int (nomark _)) (dss_one (ds_ret (d_op op_addAll lop_add (d_slice (d_var 1) do_none (do_some (d_var 2))) (d_lst (da_cons (d_var 3) da_nil))))) dss_nil)
      (dss_cons (ds_set 4 sc__law_beside.nd (d_bin bin_repD (d_lstM (da_cons (d_fn c G0 (by decide) rfl (da_cons (d_var 0) (da_cons (d_lst (da_cons d_int (da_cons d_int (da_cons d_int da_nil)))) da_nil))) da_nil)) (d_fn c G0 (by decide) rfl (da_cons (d_var 0) (da_cons (d_lst (da_cons d_int (da_cons d_int (da_cons d_int (da_cons d_int (da_cons d_int da_nil)))))) da_nil)))))
      (dss_one (ds_ret (d_op op_addAll lop_add (d_slice (d_op op_addAll lop_add (d_op op_addAll lop_add (d_slice (d_var 1) do_none (do_some (d_var 2))) (d_lst (da_cons (d_var 3) da_nil))) (d_var 4)) do_none (do_some d_int)) (d_lst (da_cons (d_fn c G0 (by decide) rfl (da_cons (d_var 0) (da_cons (d_lst (da_cons d_int (da_cons d_int (da_cons d_int da_nil)))) da_nil))) da_nil))))))))))
theorem core__law_due (T : Tx K mg) {f : Addr} (F : ∃ fd, FunD K "_law_due" "_law_due" (defArgs s__law_due) (defBody s__law_due) (defScope s__law_due) [] [] f fd) : FnC (clw K P w) P w K mg base 1 "_law_due" "_law_due" (defArgs s__law_due) (defBody s__law_due) (defScope s__law_due) f ["_law_low", "_law_high", "_law_count"] sp__law_due := by
  refine fnC_of (k := 0) (t := t__law_due) F sc__law_due (fun cdv A outer s H E c => ?_) pure__law_due
  exact (dss_cons (ds_par (i := 3) (j := 4) c.calm sc__law_due.nd (da_cons (d_lstM da_nil) (da_cons (d_lst (da_cons (d_lst da_nil) da_nil)) da_nil)))
      (dss_cons (ds_for c.po c.calm (di_range1 rfl T.b_range d_int) (dg_name 5 sc__law_due.nd) (dss_cons (ds_if (d_tcmp op_ge (lop_cmp _) (d_callB call_len lc_len rfl T.b_len PySem.boot_len (da_cons (d_var 3) da_nil)) (d_var 2) (nomark _)) (dss_one ds_break) dss_nil)
      (dss_cons (ds_par (i := 6) (j := 7) c.calm sc__law_due.nd (da_cons (d_lstM da_nil) (da_cons (d_lstM da_nil) da_nil)))
      (dss_cons (ds_for c.po c.calm (di_seq (d_callTy call_list_of lc_lst rfl T.b_list (by decide +kernel) (da_cons (d_var 4) da_nil))) (dg_name 8 sc__law_due.nd) (dss_cons (ds_set 9 sc__law_due.nd (d_ifE (DW.dt (dw_and (d_tcmp op_notN lop_notN (d_var 0) d_non (nomark _)) (dw_and1 (d_tcmp (op_eqA c.hr.room.units) lop_eq (d_slice (d_var 0) do_none (do_some (d_var 5))) (d_var 8) (nomark _))))) (d_ixA (RoomG.u1 c.hr) (d_var 0) (d_var 5)) d_int))
      (dss_cons (ds_set 10 sc__law_due.nd (d_ifE (DW.dt (dw_and (d_tcmp op_notN lop_notN (d_var 1) d_non (nomark _)) (dw_and1 (d_tcmp (op_eqA c.hr.room.units) lop_eq (d_slice (d_var 1) do_none (do_some (d_var 5))) (d_var 8) (nomark _))))) (d_ixA (RoomG.u1 c.hr) (d_var 1) (d_var 5)) d_int))
      (dss_cons (ds_set 11 sc__law_due.nd (d_listRg2 c.calm rfl T.b_list rfl T.b_range (da_cons (d_callB ((cr_max c.calm).or (call_max2 c.calm)) lc_max rfl T.b_max (by decide +kernel) (da_cons d_int (da_cons (d_var 9) da_nil))) (da_cons (d_op op_addAll lop_add (d_var 10) d_int) da_nil))))
      (dss_cons (ds_expr (d_bm PySem.F.plainAttrs_list PySem.F.slot_list_extend PySem.F.type_list_extend mt_extS lm_ext (d_var 6) (da_cons (d_lc (own := [("_law_number", 13)]) c.calm sc__law_due.nd (di_seq (d_var 11)) (blkOk_by (own := [("_law_number", 13)]) (N := N__law_due) (sc := defScope s__law_due) (by decide +kernel)) (fun _ _ _ _ _ => (dg_name 13 sc__law_due.nd)) (fun _ _ _ _ _ => (dts_one (d_tcmp (op_eqA c.blk.hr.room.units) lop_eq (d_op op_mod lop_mod (d_callTy call_int1 lc_int rfl T.b_int (by decide +kernel) (da_cons (d_var 13) da_nil)) d_int) d_int (nomark _)))) (fun _ _ _ _ _ => (d_op op_addAll lop_add (d_var 8) (d_lst (da_cons (d_var 13) da_nil))))) da_nil)))
      (dss_one (ds_expr (d_bm PySem.F.plainAttrs_list PySem.F.slot_list_extend PySem.F.type_list_extend mt_extS lm_ext (d_var 7) (da_cons (d_lc (own := [("_law_number", 13)]) c.calm sc__law_due.nd (di_seq (d_var 11)) (blkOk_by (own := [("_law_number", 13)]) (N := N__law_due) (sc := defScope s__law_due) (by decide +kernel)) (fun _ _ _ _ _ => (dg_name 13 sc__law_due.nd)) (fun _ _ _ _ _ => (dts_one (d_tcmp (op_eqA c.blk.hr.room.units) lop_eq (d_op op_mod lop_mod (d_callTy call_int1 lc_int rfl T.b_int (by decide +kernel) (da_cons (d_var 13) da_nil)) d_int) d_int (nomark _)))) (fun _ _ _ _ _ => (d_op op_addAll lop_add (d_var 8) (d_lst (da_cons (d_var 13) da_nil))))) da_nil)))))))))
      (dss_cons (ds_expr (d_bm PySem.F.plainAttrs_list PySem.F.slot_list_extend PySem.F.type_list_extend mt_extS lm_ext (d_var 3) (da_cons (d_lcG (own := [("_law_one", 12)]) c.calm sc__law_due.nd (di_seqG (d_var 6)) (blkOk_by (own := [("_law_one", 12)]) (N := N__law_due) (sc := defScope s__law_due) (by decide +kernel)) (fun _ _ _ _ _ => (dg_name 12 sc__law_due.nd)) (fun _ _ _ _ _ => (dts_one (DW.dt (dw_and (d_tcmp (op_neA c.blk.hr.room.units) lop_ne (d_var 12) (d_var 0) (nomark _)) (dw_and1 (d_tcmp (op_neA c.blk.hr.room.units) lop_ne (d_var 12) (d_var 1) (nomark _))))))) (fun _ _ _ _ _ => (d_var 12))) da_nil)))
      (dss_one (ds_set 4 sc__law_due.nd (d_slice (d_var 7) do_none (do_some d_int)))))))))
      (dss_one (ds_ret (d_sorted c T.sm c.hr.room.units rfl T.b_sorted (d_slice (d_var 3) do_none (do_some (d_var 2))))))))
theorem core_law (T : Tx K mg) {f : Addr} (F : ∃ fd, FunD K "law" "law" (defArgs s_law) (defBody s_law) (defScope s_law) [] [] f fd) : FnC (clw K P w) P w K mg base 5 "law" "law" (defArgs s_law) (defBody s_law) (defScope s_law) f ["_law_script"] sp_law := by
  have G0 : FnB (clw K P w) P w K mg base 4 "labels_between" ["low", "high", "count"] sp_labels_between := (core_labels_between T T.f_labels_between).fn T.g_labels_between hb_labels_between
  have G1 : FnB (clw K P w) P w K mg base 1 "_law_due" ["_law_low", "_law_high", "_law_count"] sp__law_due := (core__law_due T T.f__law_due).fn T.g__law_due hb__law_due
  have G2 : FnB (clw K P w) P w K mg base 3 "bytes_of" ["numbers"] sp_bytes_of := (core_bytes_of T T.f_bytes_of).fn T.g_bytes_of hb_bytes_of
  have G3 : FnB (clw K P w) P w K mg base 2 "_law_pick" ["_law_rng_here", "_law_items"] sp__law_pick := (core__law_pick T T.f__law_pick).fn T.g__law_pick hb__law_pick
  have G4 : FnB (clw K P w) P w K mg base 3 "_law_long" ["_law_rng_here"] sp__law_long := (core__law_long T T.f__law_long).fn T.g__law_long hb__law_long
  have G5 : FnB (clw K P w) P w K mg base 3 "_law_beside" ["_law_rng_here", "_law_label"] sp__law_beside := (core__law_beside T T.f__law_beside).fn T.g__law_beside hb__law_beside
  have G6 : FnB (clw K P w) P w K mg base 1 "_law_rng" ["_law_cell"] sp__law_rng := (core__law_rng T T.f__law_rng).fn T.g__law_rng hb__law_rng
  refine fnC_of (k := 4) (t := t_law) F sc_law (fun cdv A outer s H E c => ?_) pure_law
  exact (dss_cons (ds_for c.po c.calm (di_seq (d_slice (d_op op_addAll lop_add (d_var 0) (d_lst (da_cons d_int da_nil))) do_none (do_some d_int))) (dg_name 1 sc_law.nd) (dss_cons (ds_set 2 sc_law.nd (d_fn c G6 (by decide) rfl (da_cons (d_var 1) da_nil)))
      (dss_one (ds_for c.po c.calm (di_range1 rfl T.b_range d_int) (dg_name 3 sc_law.nd) (dss_cons (ds_set 4 sc_law.nd (d_fn c G4 (by decide) rfl (da_cons (d_var 2) da_nil)))
      (dss_cons (ds_set 5 sc_law.nd (d_fn c G3 (by decide) rfl (da_cons (d_var 2) (da_cons (d_lst (da_cons (d_fn c G5 (by decide) rfl (da_cons (d_var 2) (da_cons (d_var 4) da_nil))) (da_cons (d_fn c G5 (by decide) rfl (da_cons (d_var 2) (da_cons (d_var 4) da_nil))) (da_cons (d_fn c G4 (by decide) rfl (da_cons (d_var 2) da_nil)) da_nil)))) da_nil))))
      (dss_cons (ds_set 6 sc_law.nd (d_ifE (d_tcmp (op_eqA c.hr.room.units) lop_eq (d_var 4) (d_var 5) (nomark _)) (d_lst (da_cons d_non (da_cons d_non da_nil))) (d_sorted c T.sm c.hr.room.units rfl T.b_sorted (d_lst (da_cons (d_var 4) (da_cons (d_var 5) da_nil))))))
      (dss_cons (ds_setLc (own := [("_law_one", 9)]) 6 c.calm sc_law.nd (di_seq (d_var 6)) (blkOk_by (own := [("_law_one", 9)]) (N := N_law) (sc := defScope s_law) (by decide +kernel)) (fun _ _ _ _ _ => (dg_name 9 sc_law.nd)) (fun _ _ _ _ _ => dts_nil) (fun _ _ _ _ _ => (d_fn c.blk G3 (by decide) rfl (da_cons (d_var 2) (da_cons (d_lst (da_cons (d_var 9) (da_cons (d_var 9) (da_cons (d_var 9) (da_cons d_non da_nil))))) da_nil)))))
      (dss_cons (ds_set 7 sc_law.nd (d_fn c G3 (by decide) rfl (da_cons (d_var 2) (da_cons (d_lst (da_cons d_int (da_cons d_int (da_cons d_int (da_cons d_int (da_cons d_int (da_cons d_int (da_cons d_int da_nil)))))))) da_nil))))
      (dss_cons (ds_asg (d_lc (own := [("_law_one", 9)]) c.calm sc_law.nd (di_seq (d_var 6)) (blkOk_by (own := [("_law_one", 9)]) (N := N_law) (sc := defScope s_law) (by decide +kernel)) (fun _ _ _ _ _ => (dg_name 9 sc_law.nd)) (fun _ _ _ _ _ => dts_nil) (fun _ _ _ _ _ => (d_ifE (d_tcmp op_isN lop_isN (d_var 9) d_non (nomark _)) d_non (d_fn c.blk G2 (by decide) rfl (da_cons (d_var 9) da_nil))))) (dg_tup c.calm (dgs_cons (dg_name 4 sc_law.nd) (dgs_cons (dg_name 5 sc_law.nd) dgs_nil))))
      (dss_cons (ds_setLc (own := [("_law_one", 9)]) 8 c.calm sc_law.nd (di_seq (d_fn c G1 (by decide) rfl (da_cons (d_ixA (RoomG.u1 c.hr) (d_var 6) d_int) (da_cons (d_ixA (RoomG.u1 c.hr) (d_var 6) d_int) (da_cons (d_var 7) da_nil))))) (blkOk_by (own := [("_law_one", 9)]) (N := N_law) (sc := defScope s_law) (by decide +kernel)) (fun _ _ _ _ _ => (dg_name 9 sc_law.nd)) (fun _ _ _ _ _ => dts_nil) (fun _ _ _ _ _ => (d_fn c.blk G2 (by decide) rfl (da_cons (d_var 9) da_nil))))
      (dss_one (ds_if (d_tcmpG (bin_neY c.hr.room.units) (d_fn c G0 (by decide) rfl (da_cons (d_var 4) (da_cons (d_var 5) (da_cons (d_var 7) da_nil)))) (d_var 8) (nomark _)) (dss_one (ds_ret d_bl)) dss_nil)))))))))))))
      (dss_one (ds_ret d_bl)))
end
end LawProof
set_option Elab.async false
set_option linter.all false
set_option maxRecDepth 100000
set_option maxHeartbeats 4000000
set_option autoImplicit true
namespace LawProof
open PySem L2 DL
theorem tx_of {K : PySem.W.Frag} {h : Heap} {mg : Str → Option Value} (X : K.In h) (G : h.Ns mainGlobals mg) (c : He.SaysD fa fn K) (e : ex K = true) : Tx K mg :=
  { f_is_integer := c.def_ 0 (d := d_is_integer) rfl,
    f_is_sequence := c.def_ 1 (d := d_is_sequence) rfl,
    f_key_fault := c.def_ 2 (d := d_key_fault) rfl,
    f_cut_key := c.def_ 3 (d := d_cut_key) rfl,
    f_bytes_of := c.def_ 4 (d := d_bytes_of) rfl,
    f_is_label := c.def_ 5 (d := d_is_label) rfl,
    f_allowed := c.def_ 6 (d := d_allowed) rfl,
    f_longer := c.def_ 7 (d := d_longer) rfl,
    f_found_between := c.def_ 8 (d := d_found_between) rfl,
    f_labels_between := c.def_ 9 (d := d_labels_between) rfl,
    f__law_rng := c.def_ 10 (d := d__law_rng) rfl,
    f__law_draw := c.def_ 11 (d := d__law_draw) rfl,
    f__law_pick := c.def_ 12 (d := d__law_pick) rfl,
    f__law_long := c.def_ 13 (d := d__law_long) rfl,
    f__law_beside := c.def_ 14 (d := d__law_beside) rfl,
    f__law_due := c.def_ 15 (d := d__law_due) rfl,
    f_law := c.def_ 16 (d := d_law) rfl,
    f_NoKey____init__ := c.def_ 17 (d := d_NoKey____init__) rfl,
    f_NoLabel____init__ := c.def_ 18 (d := d_NoLabel____init__) rfl,
    g_is_integer := He.glo_ok X G (c.fact 0 (f := .glo "is_integer") rfl),
    g_is_sequence := He.glo_ok X G (c.fact 1 (f := .glo "is_sequence") rfl),
    g_key_fault := He.glo_ok X G (c.fact 2 (f := .glo "key_fault") rfl),
    g_cut_key := He.glo_ok X G (c.fact 3 (f := .glo "cut_key") rfl),
    g_bytes_of := He.glo_ok X G (c.fact 4 (f := .glo "bytes_of") rfl),
    g_is_label := He.glo_ok X G (c.fact 5 (f := .glo "is_label") rfl),
    g_allowed := He.glo_ok X G (c.fact 6 (f := .glo "allowed") rfl),
    g_longer := He.glo_ok X G (c.fact 7 (f := .glo "longer") rfl),
    g_found_between := He.glo_ok X G (c.fact 8 (f := .glo "found_between") rfl),
    g_labels_between := He.glo_ok X G (c.fact 9 (f := .glo "labels_between") rfl),
    g__law_rng := He.glo_ok X G (c.fact 10 (f := .glo "_law_rng") rfl),
    g__law_draw := He.glo_ok X G (c.fact 11 (f := .glo "_law_draw") rfl),
    g__law_pick := He.glo_ok X G (c.fact 12 (f := .glo "_law_pick") rfl),
    g__law_long := He.glo_ok X G (c.fact 13 (f := .glo "_law_long") rfl),
    g__law_beside := He.glo_ok X G (c.fact 14 (f := .glo "_law_beside") rfl),
    g__law_due := He.glo_ok X G (c.fact 15 (f := .glo "_law_due") rfl),
    g_law := He.glo_ok X G (c.fact 16 (f := .glo "law") rfl),
    g_NoLabel := He.glo_ok X G (c.fact 17 (f := .glo "NoLabel") rfl),
    g_NoKey := He.glo_ok X G (c.fact 18 (f := .glo "NoKey") rfl),
    g_ForestError := He.glo_ok X G (c.fact 19 (f := .glo "ForestError") rfl),
    oex_NoKey := oexB_ok (ex_0 e),
    xn_NoKey := ex_1 e,
    sm := smB_ok (ex_2 e),
    oex_NoLabel := oexB_ok (ex_3 e),
    xn_NoLabel := ex_4 e,
    b_isinstance := He.free_ok X G (c.fact 20 (f := .free "isinstance") rfl),
    b_int := He.free_ok X G (c.fact 21 (f := .free "int") rfl),
    b_bool := He.free_ok X G (c.fact 22 (f := .free "bool") rfl),
    b_tuple := He.free_ok X G (c.fact 23 (f := .free "tuple") rfl),
    b_list := He.free_ok X G (c.fact 24 (f := .free "list") rfl),
    b_len := He.free_ok X G (c.fact 25 (f := .free "len") rfl),
    b_enumerate := He.free_ok X G (c.fact 26 (f := .free "enumerate") rfl),
    b_bytes := He.free_ok X G (c.fact 27 (f := .free "bytes") rfl),
    b_range := He.free_ok X G (c.fact 28 (f := .free "range") rfl),
    b_max := He.free_ok X G (c.fact 29 (f := .free "max") rfl),
    b_sorted := He.free_ok X G (c.fact 30 (f := .free "sorted") rfl),
    b_abs := He.free_ok X G (c.fact 31 (f := .free "abs") rfl),
    c_MOST_BYTES := He.int_ok X G (c.fact 32 (f := .int "MOST_BYTES" 1000) rfl),
    c_MOST_LABELS := He.int_ok X G (c.fact 33 (f := .int "MOST_LABELS" 200) rfl) }
end LawProof
open PySem PySem.W PySem.Calls PyProof.Rows
set_option maxRecDepth 100000 in
set_option maxHeartbeats 0 in
theorem PySem.Challenge.cw_forestrows_k48_labels_between_long_ones_holds : PySem.Challenge.rw_forestrows_k48_labels_between_long_ones.Holds := by
  w_on; o_law
  refine HandSHeadRun.head_any (r := OpenLaw.row PySem.Challenge.rw_forestrows_k48_labels_between_long_ones) (q := view (OpenLaw.row PySem.Challenge.rw_forestrows_k48_labels_between_long_ones).prog [26]) (H := LawProof.hk) (ob := LawProof.ob) (M := 20000) (loose := LawProof.loose) (d := HandSHeadRun.topDef (OpenLaw.row PySem.Challenge.rw_forestrows_k48_labels_between_long_ones).prog 26) (kwd := []) LawProof.ob_eq
    (by kernel_rfl) (fun s => by kernel_rfl) LawProof.run (by kernel_rfl) (by kernel_rfl) (by kernel_rfl) (by rfl) (by first | assumption | decide +kernel) (by decide +kernel) ⟨rfl, rfl, rfl, rfl, rfl, by decide +kernel⟩ ?hw ?hc
  case hw => w_witness2
  case hc =>
    refine DL.walk_D (l := PySem.Challenge.rw_forestrows_k48_labels_between_long_ones) (n := 63) (k := 5) (x := "_law_script") rfl (by decide) (by kernel_rfl) ⟨⟨rfl, by decide, by decide⟩, rfl⟩ ?F
    intro w mg fa h Y G hmg0
    obtain ⟨K, KX, c⟩ := Y
    have T := LawProof.tx_of KX G c.1 c.2
    have hmg : mg ("law" : PySem.Str) = some (.ref fa) := by
      have e : (HandSHeadRun.topDef (OpenLaw.row PySem.Challenge.rw_forestrows_k48_labels_between_long_ones).prog 26).name = ("law" : PySem.Str) := by kernel_rfl
      rw [← e]
      exact hmg0
    have e := hmg.symm.trans T.g_law
    cases e
    refine ⟨LawProof.clw K PySem.Challenge.rw_forestrows_k48_labels_between_long_ones.prog w, K, LawProof.sp_law, rfl, KX, LawProof.law_sp, fun base _ _ => ?_⟩
    obtain ⟨f, fd2, h1, h2, h3, h4⟩ := (LawProof.core_law (P := PySem.Challenge.rw_forestrows_k48_labels_between_long_ones.prog) (w := w) (base := base) T T.f_law).fn T.g_law LawProof.hb_law
    have e1 := h1.symm.trans T.g_law
    cases e1
    exact ⟨fd2, h3, h4⟩
