import PyProof.Rows.All
import Wide.All
import OpenK.AllK
import Wide.FinOn
import HandS.ForMost
import HandS.ForExc
import HandS.IsInst
import HandS.Flow
import HandS.Wide
import HandS.Lambda
import HandS.ExcInit
import HandS.NoneIn
import KE.KDictKeyed
import HandS.TupAny
import HandS.Style
import HandS.Defaults
import HandS.RaiseMore
import HandS.Head0
import HandS.Head1
import HandS.Head2
import HandS.HeadEnd
import HandS.HeadHook1
import HandS.HeadHook2
import KE.DataEq
import HandS.HeadHook3
import HandS.HeadHook4
import HandS.Text
import HandS.Zip
import HandS.ClsMeth
import HandS.Dict
import HandS.DictComp
import HandS.Bytes
import HandS.OwnEq
import PyProof.InstNe
import HandS.ExcField
import HandS.TryMany
import KE.GoesEnum
import HandS.ExcIs
import HandS.Conv
import HandS.ListEq
import HandS.DictEq
import HandS.BytesMake
import HandS.More
import HandS.SortKw
import KE.SortKeyHeap
import KE.SortData
import KE.KSortKey
import HandS.FStr
import HandS.Codes
import HandS.Star
import HandS.EndTab
import HandS.NestedK
import PyProof.FactsBase
import PyProof.TableTree
import PyProof.FactsTree
import PyProof.PlainAttrs
import KE.GoesMore
import Wide.BytesRules
import PyProof.EqAt
import PyProof.EqKinds
import PyProof.NeKinds
import PyProof.FactsAll.subtypes_3
import PyProof.FactsAll.subtypes_6
import KE.GoesEnumKw
import KE.GoesZip
import HandS.ExcValue
import KE.KSortAsk
import HandS.Iter
import KE.LtData
import KE.KDflt
import HandS.Flt
import HandS.Property
import HandS.HeadNt
import KE.KDictPairs
import PyProof.MeetsDictList
import KE.KStateDown
import Lean
import KE.KBytesCut
import PyProof.DictRoadsH
import PyProof.DictMoreH
import PyProof.DictItems
import PyProof.AutoIntOps
import OpenK.KMeth
import PySem.Challenge.RW_forestrows_k66_largest_parts_of_key_rows
set_option Elab.async false
set_option linter.all false
set_option maxRecDepth 100000
set_option maxHeartbeats 2000000
namespace DL
open PySem L2
inductive D where
  | non | bl (b : Bool) | int (i : Int) | str (x : Str) | byt (b : Array UInt8) | ty (n : String) | ref (a : Addr)
  | lst (xs : List D) | tup (xs : List D)
  | dK (ks : List Key) (ds : List D) | dT (ep : Nat) (ks : List (List (Option Key))) (ds : List D)
  | obj (c : Nat) (ns : List Str) (ds : List D)
  | cls (c : Nat)
  | exc (a dd : Addr) (c : Nat) (ns : List Str) (ds : List D)
  | xob (c : Nat) (ns : List Str) (ds : List D)
  | thk (f c : Addr) (q : Str) (vs : List V) (ds : List D)
  | dN (ep : Nat) (ks : List (Option Key)) (ds : List D)
structure ClW where
  f : Nat -> Addr
  p : Program
  w : World
instance : CoeFun ClW (fun _ => Nat -> Addr) := ⟨ClW.f⟩
instance : Coe ClW (Nat -> Addr) := ⟨ClW.f⟩
abbrev Mem := Addr -> Option D
abbrev Env := List (Option D)
def updM (M : Mem) (a : Addr) (d : D) : Mem := fun b => if b = a then some d else M b
def delM (M : Mem) (a : Addr) : Mem := fun b => if b = a then none else M b
theorem updM_same {M : Mem} {a : Addr} {d : D} : updM M a d a = some d := if_pos rfl
theorem updM_ne {M : Mem} {a b : Addr} {d : D} (h : b ≠ a) : updM M a d b = M b := if_neg h
theorem delM_same {M : Mem} {a : Addr} : delM M a a = none := if_pos rfl
theorem delM_ne {M : Mem} {a b : Addr} (h : b ≠ a) : delM M a b = M b := if_neg h
theorem updM_updM {M : Mem} {a : Addr} {d e : D} : updM (updM M a d) a e = updM M a e := by
  funext b; unfold updM; split <;> rfl
theorem delM_updM {M : Mem} {a : Addr} {d : D} (h : M a = none) : delM (updM M a d) a = M := by
  funext b
  by_cases e : b = a
  · subst e; rw [delM_same, h]
  · rw [delM_ne e, updM_ne e]
def SqT1 (K : PySem.W.Frag) (F : Hp) (a : Addr) (vs : List V) : Prop := F a = some (.tup vs) \/
  ∃ (o : Obj) (its : Array Value) (n : Nat), K.lookup a = some o /\ o.cls = .type "tuple" /\ o.data = .seq its n /\ its.size <= sizeLine /\ Vals vs its.toList
theorem SqT1.of {K : PySem.W.Frag} {F : Hp} {a : Addr} {vs : List V} (h : F a = some (.tup vs)) : SqT1 K F a vs := .inl h
theorem SqT1.sq {K : PySem.W.Frag} {F : Hp} {a : Addr} {vs : List V} (h : SqT1 K F a vs) : SqT K F a vs := h.elim (fun h => .inl (.inl h)) .inr
theorem SqT1.mono {K : PySem.W.Frag} {F F' : Hp} {a : Addr} {vs : List V} (s : Same F F') (h : SqT1 K F a vs) : SqT1 K F' a vs := h.imp (s _ _) id
def NDict (P : Program) (w : World) (a : Addr) (ep : Nat) (kvs : List (Option Key × V)) : Heap -> Prop := fun h =>
  kvs.length <= sizeLine /\ (a == sysModules) = false /\ ∃ vs, KV kvs vs /\ Heap.DictAt (noneKind P w) h a vs ep
theorem nd_ne_code {P : Program} {w : World} {a c : Addr} {ep : Nat} {kvs : List (Option Key × V)} {q : Str} : HO.ext (NDict P w a ep kvs) ≠ LamX.CodeO c q := fun e => by
  unfold LamX.CodeO at e
  have e' := HO.ext.inj e
  let ob : Obj := { cls := .type "function", data := .fields #[.none, .str q 0] }
  let h : Heap := { objs := Array.replicate (c + 1) ob }
  have hg : ∀ b, h.get? b = if b < c + 1 then some ob else none := fun b => by
    unfold Heap.get?
    by_cases hb : b < c + 1
    · have : h.objs[b]? = some ob := by simp [h, hb]
      rw [this, if_pos hb]
    · have : h.objs[b]? = none := by simp only [h]; rw [Array.getElem?_eq_none]; rw [Array.size_replicate]; exact Nat.not_lt.mp hb
      rw [this, if_neg hb]
  have hc : NDict P w a ep kvs h := by
    rw [e']
    exact ⟨ob, _, 0, by rw [hg, if_pos (Nat.lt_succ_self c)], rfl, rfl⟩
  obtain ⟨_, _, vs, _, o, es, ho, _, hd, _⟩ := hc
  rw [hg] at ho
  split at ho
  · cases ho; cases hd
  · cases ho
abbrev ndO (P : Program) (w : World) (a : Addr) (ep : Nat) (kvs : List (Option Key × V)) : HO := .ext (NDict P w a ep kvs)
def nkV : Option Key -> V
  | none => .non
  | some (.inl i) => .int i
  | some (.inr x) => .str x
def leafOf : Option Key -> Leaf
  | none => .none
  | some (.inl i) => .num i
  | some (.inr x) => .text x
inductive TV : List (List (Option Key) × Addr × V) -> List (List Leaf × Addr × Value) -> Prop
  | nil : TV [] []
  | cons {k : List (Option Key)} {b : Addr} {v : V} {u : Value} {ts : List (List (Option Key) × Addr × V)} {xs : List (List Leaf × Addr × Value)} : RelV v u -> TV ts xs -> TV ((k, b, v) :: ts) ((k.map leafOf, b, u) :: xs)
def TDict (P : Program) (w : World) (a : Addr) (ep : Nat) (ts : List (List (Option Key) × Addr × V)) : Heap -> Prop := fun h =>
  ts.length <= sizeLine /\ (a == sysModules) = false /\ ∃ xs, TV ts xs /\ ∃ o es, h.get? a = some o /\ o.ExactDict /\ o.data = .dict es ep /\ es.toList = xs.map (entryOfKey (tupleKind (leafKind P w))) /\ (xs.map (·.1)).Nodup
theorem td_ne_code {P : Program} {w : World} {a c : Addr} {ep : Nat} {ts : List (List (Option Key) × Addr × V)} {q : Str} : HO.ext (TDict P w a ep ts) ≠ LamX.CodeO c q := fun e => by
  unfold LamX.CodeO at e
  have e' := HO.ext.inj e
  let ob : Obj := { cls := .type "function", data := .fields #[.none, .str q 0] }
  let h : Heap := { objs := Array.replicate (c + 1) ob }
  have hg : ∀ b, h.get? b = if b < c + 1 then some ob else none := fun b => by
    unfold Heap.get?
    by_cases hb : b < c + 1
    · have : h.objs[b]? = some ob := by simp [h, hb]
      rw [this, if_pos hb]
    · have : h.objs[b]? = none := by simp only [h]; rw [Array.getElem?_eq_none]; rw [Array.size_replicate]; exact Nat.not_lt.mp hb
      rw [this, if_neg hb]
  have hc : TDict P w a ep ts h := by
    rw [e']
    exact ⟨ob, _, 0, by rw [hg, if_pos (Nat.lt_succ_self c)], rfl, rfl⟩
  obtain ⟨_, _, vs, _, o, es, ho, _, hd, _⟩ := hc
  rw [hg] at ho
  split at ho
  · cases ho; cases hd
  · cases ho
abbrev tdO (P : Program) (w : World) (a : Addr) (ep : Nat) (ts : List (List (Option Key) × Addr × V)) : HO := .ext (TDict P w a ep ts)
section
variable (K : PySem.W.Frag) (cl : ClW)
def XoAt (F : Hp) (a C : Addr) (fs : List (Str × V)) : Prop := (∃ dd, F a = some (exo a C (some dd)) /\ F dd = some (exd dd fs)) \/ (fs = [] /\ F a = some (exo a C none))
theorem XoAt.mono {F F' : Hp} {a C : Addr} {fs : List (Str × V)} (s : Same F F') (h : XoAt F a C fs) : XoAt F' a C fs := by
  rcases h with ⟨dd, h1, h2⟩ | ⟨h1, h2⟩
  · exact .inl ⟨dd, s _ _ h1, s _ _ h2⟩
  · exact .inr ⟨h1, s _ _ h2⟩
mutual
inductive Rep (K : PySem.W.Frag) (cl : ClW) (F : Hp) : V -> D -> Prop where
  | non : Rep K cl F .non .non
  | bl (b : Bool) : Rep K cl F (.bl b) (.bl b)
  | int (i : Int) : Rep K cl F (.int i) (.int i)
  | str (x : Str) : Rep K cl F (.str x) (.str x)
  | byt (b : Array UInt8) : Rep K cl F (.byt b) (.byt b)
  | ty (n : String) : Rep K cl F (.ty n) (.ty n)
  | ref (a : Addr) : Rep K cl F (.ref a) (.ref a)
  | cls (c : Nat) : Rep K cl F (.ref (cl c)) (.cls c)
  | lst {a : Addr} {vs : List V} {ds : List D} : SqL K F a vs -> Reps K cl F vs ds -> Rep K cl F (.ref a) (.lst ds)
  | tup {a : Addr} {vs : List V} {ds : List D} : SqT1 K F a vs -> Reps K cl F vs ds -> Rep K cl F (.ref a) (.tup ds)
  | dK {a : Addr} {ks : List Key} {vs : List V} {ds : List D} : F a = some (.dK (ks.zip vs)) -> ks.length = vs.length -> Reps K cl F vs ds -> Rep K cl F (.ref a) (.dK ks ds)
  | dT {a : Addr} {ep : Nat} {ks : List (List (Option Key))} {ts : List (List (Option Key) × Addr × V)} {ds : List D} : F a = some (tdO cl.p cl.w a ep ts) -> ks = ts.map (·.1) -> (∀ t ∈ ts, SqT1 K F t.2.1 (t.1.map nkV)) -> Reps K cl F (ts.map (·.2.2)) ds -> Rep K cl F (.ref a) (.dT ep ks ds)
  | obj {a dx : Addr} {c : Nat} {ns : List Str} {vs : List V} {ds : List D} : F a = some (.ins (cl c) dx (ns.zip vs)) -> ns.length = vs.length -> Reps K cl F vs ds -> Rep K cl F (.ref a) (.obj c ns ds)
  | exc {a dd : Addr} {c : Nat} {ns : List Str} {vs : List V} {ds : List D} : F dd = some (.xd (ns.zip vs)) -> ns.length = vs.length -> Reps K cl F vs ds -> Rep K cl F (.ref a) (.exc a dd c ns ds)
  | xob {a : Addr} {c : Nat} {ns : List Str} {vs : List V} {ds : List D} : XoAt F a (cl c) (ns.zip vs) -> ns.length = vs.length -> Reps K cl F vs ds -> Rep K cl F (.ref a) (.xob c ns ds)
  | thk {f c : Addr} {q : Str} {vs : List V} {ds : List D} : F c = some (LamX.CodeO c q) -> Reps K cl F vs ds -> Rep K cl F (.ref f) (.thk f c q vs ds)
  | dN {a : Addr} {ep : Nat} {ks : List (Option Key)} {vs : List V} {ds : List D} : F a = some (ndO cl.p cl.w a ep (ks.zip vs)) -> ks.length = vs.length -> Reps K cl F vs ds -> Rep K cl F (.ref a) (.dN ep ks ds)
inductive Reps (K : PySem.W.Frag) (cl : ClW) (F : Hp) : List V -> List D -> Prop where
  | nil : Reps K cl F [] []
  | cons {v : V} {d : D} {vs : List V} {ds : List D} : Rep K cl F v d -> Reps K cl F vs ds -> Reps K cl F (v :: vs) (d :: ds)
end
end
section
variable {K : PySem.W.Frag} {cl : ClW} {F F' : Hp}
theorem same_l {H H' : Hp} {a : Addr} {xs : List V} (e : Same H H') (h : SqL K H a xs) : SqL K H' a xs := e.seq h
theorem same_t {H H' : Hp} {a : Addr} {xs : List V} (e : Same H H') (h : SqT K H a xs) : SqT K H' a xs := by
  rcases h with (h | ⟨o, h⟩) | h
  · exact .inl (.inl (e _ _ h))
  · exact .inl (.inr ⟨o, e _ _ h⟩)
  · exact .inr h
mutual
theorem Rep.mono (s : Same F F') : ∀ {v : V} {d : D}, Rep K cl F v d -> Rep K cl F' v d
  | _, _, .non => .non
  | _, _, .bl b => .bl b
  | _, _, .int i => .int i
  | _, _, .str x => .str x
  | _, _, .byt b => .byt b
  | _, _, .ty n => .ty n
  | _, _, .ref a => .ref a
  | _, _, .cls c => .cls c
  | _, _, .lst h r => .lst (same_l s h) (Reps.mono s r)
  | _, _, .tup h r => .tup (h.mono s) (Reps.mono s r)
  | _, _, .dK h l r => .dK (s _ _ h) l (Reps.mono s r)
  | _, _, .dT h l q r => .dT (s _ _ h) l (fun t ht => (q t ht).mono s) (Reps.mono s r)
  | _, _, .obj h l r => .obj (s _ _ h) l (Reps.mono s r)
  | _, _, .exc h l r => .exc (s _ _ h) l (Reps.mono s r)
  | _, _, .xob h l r => .xob (h.mono s) l (Reps.mono s r)
  | _, _, .thk h r => .thk (s _ _ h) (Reps.mono s r)
  | _, _, .dN h l r => .dN (s _ _ h) l (Reps.mono s r)
theorem Reps.mono (s : Same F F') : ∀ {vs : List V} {ds : List D}, Reps K cl F vs ds -> Reps K cl F' vs ds
  | _, _, .nil => .nil
  | _, _, .cons h r => .cons (Rep.mono s h) (Reps.mono s r)
end
theorem Reps.length : ∀ {vs : List V} {ds : List D}, Reps K cl F vs ds -> vs.length = ds.length
  | _, _, .nil => rfl
  | _, _, .cons _ r => by simp [Reps.length r]
theorem Reps.get : ∀ {vs : List V} {ds : List D} {i : Nat} {d : D}, Reps K cl F vs ds -> ds[i]? = some d -> ∃ v, vs[i]? = some v /\ Rep K cl F v d
  | _, _, _, _, .nil, e => by simp at e
  | _, _, 0, _, .cons r _, e => by simp at e; subst e; exact ⟨_, rfl, r⟩
  | _, _, i + 1, d, .cons _ t, e => by
    obtain ⟨u, h1, h2⟩ := Reps.get (i := i) (d := d) t (by simpa using e)
    exact ⟨u, by simpa using h1, h2⟩
theorem Reps.append : ∀ {vs ws : List V} {ds es : List D}, Reps K cl F vs ds -> Reps K cl F ws es -> Reps K cl F (vs ++ ws) (ds ++ es)
  | _, _, _, _, .nil, s => s
  | _, _, _, _, .cons r t, s => .cons r (Reps.append t s)
theorem Reps.one {v : V} {d : D} (h : Rep K cl F v d) : Reps K cl F [v] [d] := .cons h .nil
theorem Reps.set {v : V} {d : D} (r : Rep K cl F v d) : ∀ {vs : List V} {ds : List D} (i : Nat), Reps K cl F vs ds -> Reps K cl F (vs.set i v) (ds.set i d)
  | _, _, _, .nil => .nil
  | _, _, 0, .cons _ t => .cons r t
  | _, _, i + 1, .cons q t => .cons q (Reps.set r i t)
theorem Reps.take : ∀ {vs : List V} {ds : List D} (n : Nat), Reps K cl F vs ds -> Reps K cl F (vs.take n) (ds.take n)
  | _, _, 0, _ => .nil
  | _, _, _ + 1, .nil => .nil
  | _, _, n + 1, .cons r t => .cons r (Reps.take n t)
theorem Reps.drop : ∀ {vs : List V} {ds : List D} (n : Nat), Reps K cl F vs ds -> Reps K cl F (vs.drop n) (ds.drop n)
  | _, _, 0, r => r
  | _, _, _ + 1, .nil => .nil
  | _, _, n + 1, .cons _ t => Reps.drop n t
theorem Reps.reverse : ∀ {vs : List V} {ds : List D}, Reps K cl F vs ds -> Reps K cl F vs.reverse ds.reverse
  | _, _, .nil => .nil
  | _, _, .cons r t => by
    rw [List.reverse_cons, List.reverse_cons]
    exact (Reps.reverse t).append (.one r)
theorem Reps.inv {vs : List V} {d : D} {ds : List D} (h : Reps K cl F vs (d :: ds)) : ∃ v ws, vs = v :: ws /\ Rep K cl F v d /\ Reps K cl F ws ds := by
  cases h with
  | cons a b => exact ⟨_, _, rfl, a, b⟩
theorem Reps.inv0 {vs : List V} (h : Reps K cl F vs []) : vs = [] := by
  cases h with
  | nil => rfl
theorem Rep.toInt {v : V} {i : Int} (h : Rep K cl F v (.int i)) : v = .int i := by cases h; rfl
theorem Rep.toBl {v : V} {i : Bool} (h : Rep K cl F v (.bl i)) : v = .bl i := by cases h; rfl
theorem Rep.toStr {v : V} {i : Str} (h : Rep K cl F v (.str i)) : v = .str i := by cases h; rfl
theorem Rep.toByt {v : V} {i : Array UInt8} (h : Rep K cl F v (.byt i)) : v = .byt i := by cases h; rfl
theorem Rep.toNon {v : V} (h : Rep K cl F v .non) : v = .non := by cases h; rfl
theorem Rep.toRef {v : V} {a : Addr} (h : Rep K cl F v (.ref a)) : v = .ref a := by cases h; rfl
theorem Rep.toTy {v : V} {n : String} (h : Rep K cl F v (.ty n)) : v = .ty n := by cases h; rfl
theorem Rep.toLst {v : V} {ds : List D} (h : Rep K cl F v (.lst ds)) : ∃ a vs, v = .ref a /\ SqL K F a vs /\ Reps K cl F vs ds := by
  cases h with | lst a b => exact ⟨_, _, rfl, a, b⟩
theorem Rep.toTup {v : V} {ds : List D} (h : Rep K cl F v (.tup ds)) : ∃ a vs, v = .ref a /\ SqT K F a vs /\ Reps K cl F vs ds := by
  cases h with | tup a b => exact ⟨_, _, rfl, a.sq, b⟩
theorem Rep.toTup1 {v : V} {ds : List D} (h : Rep K cl F v (.tup ds)) : ∃ a vs, v = .ref a /\ SqT1 K F a vs /\ Reps K cl F vs ds := by
  cases h with | tup a b => exact ⟨_, _, rfl, a, b⟩
theorem Rep.toObj {v : V} {c : Nat} {ns : List Str} {ds : List D} (h : Rep K cl F v (.obj c ns ds)) : ∃ a dx vs, v = .ref a /\ F a = some (.ins (cl c) dx (ns.zip vs)) /\ ns.length = vs.length /\ Reps K cl F vs ds := by
  cases h with | obj a b c => exact ⟨_, _, _, rfl, a, b, c⟩
theorem Reps.ints : ∀ {vs : List V} {ns : List Int}, Reps K cl F vs (ns.map D.int) -> vs = ns.map V.int
  | _, [], h => h.inv0
  | _, n :: ns, h => by
    obtain ⟨v, ws, rfl, a, b⟩ := h.inv
    rw [a.toInt, Reps.ints b]; rfl
theorem Reps.of_ints (ns : List Int) : Reps K cl F (ns.map V.int) (ns.map D.int) := by
  induction ns with
  | nil => exact .nil
  | cons n ns ih => exact .cons (.int n) ih
end
section
variable (K : PySem.W.Frag) (cl : ClW)
def RepTop (F H : Hp) (a : Addr) : D -> Prop
  | .lst ds => ∃ vs, H a = some (.lst vs) /\ Reps K cl F vs ds
  | .dK ks ds => ∃ vs, H a = some (.dK (ks.zip vs)) /\ ks.length = vs.length /\ Reps K cl F vs ds
  | .dT ep ks ds => ∃ ts, H a = some (tdO cl.p cl.w a ep ts) /\ ks = ts.map (·.1) /\ (∀ t ∈ ts, SqT1 K F t.2.1 (t.1.map nkV)) /\ Reps K cl F (ts.map (·.2.2)) ds
  | .obj c ns ds => ∃ dx vs, H a = some (.ins (cl c) dx (ns.zip vs)) /\ ns.length = vs.length /\ Reps K cl F vs ds
  | .dN ep ks ds => ∃ vs, H a = some (ndO cl.p cl.w a ep (ks.zip vs)) /\ ks.length = vs.length /\ Reps K cl F vs ds
  | _ => False
def tabNames : List Str := ["walk_spans.<locals>.<lambda>", "SpanTable.__init__.<locals>.<lambda>", "PairTable.put_rows.<locals>.<lambda>", "KeyTable.put_rows.<locals>.<lambda>", "law.<locals>.<lambda>", "_law_right.<locals>.<lambda>", "_law_asks.<locals>.<lambda>",
  "_law_wrong.<locals>.<lambda>", "_law_refused.<locals>.<lambda>", "_law_odd.<locals>.<lambda>", "KeyTable.__init__.<locals>.<lambda>", "PairTable.__init__.<locals>.<lambda>", "_law_fit.<locals>.<lambda>", "_law_state_right.<locals>.<lambda>", "_law_steps_right.<locals>.<lambda>", "_law_sizes_right.<locals>.<lambda>"]
def tabsOf (cl : Nat -> Addr) : List (Addr × Str) := tabNames.zipIdx.filterMap fun p => if cl (1000 + p.2) = 0 then none else some (cl (1000 + p.2), p.1)
structure Good (F H : Hp) (M : Mem) : Prop where
  sub : Same F H
  cell : ∀ a d, M a = some d -> F a = none /\ RepTop K cl F H a d
  tab : LamX.Tabs (tabsOf cl) H
  noT : ∀ b ps, F b ≠ some (.tbl ps)
structure Slots (F : Hp) (σ : St) (ρ : Env) : Prop where
  len : σ.length = ρ.length
  get : ∀ (i : Nat) d, ρ[i]? = some (some d) -> ∃ v, σ[i]? = some (some v) /\ Rep K cl F v d
def ExcAt (F : Hp) (dd : Option Addr) (ns : List Str) (ds : List D) : Prop :=
  (dd = none /\ ns = [] /\ ds = []) \/ ∃ d vs, dd = some d /\ F d = some (.xd (ns.zip vs)) /\ ns.length = vs.length /\ Reps K cl F vs ds
end
section
variable {K : PySem.W.Frag} {cl : ClW} {F F' H H' : Hp} {M : Mem}
theorem same_new {H : Hp} {p : Addr} {o : HO} (h : H p = none) : Same H (upd H p o) := fun a u e => by
  rw [upd_ne (ne_of_none e h)]; exact e
theorem RepTop.mono {a : Addr} {d : D} (s : Same F F') (h : RepTop K cl F H a d) (hH : ∀ o, H a = some o -> H' a = some o) : RepTop K cl F' H' a d := by
  cases d with
  | lst ds => obtain ⟨vs, h1, h2⟩ := h; exact ⟨vs, hH _ h1, h2.mono s⟩
  | dK ks ds => obtain ⟨vs, h1, h2, h3⟩ := h; exact ⟨vs, hH _ h1, h2, h3.mono s⟩
  | dT ep ks ds => obtain ⟨ts, h1, h2, h3, h4⟩ := h; exact ⟨ts, hH _ h1, h2, fun t ht => (h3 t ht).mono s, h4.mono s⟩
  | dN ep ks ds => obtain ⟨vs, h1, h2, h3⟩ := h; exact ⟨vs, hH _ h1, h2, h3.mono s⟩
  | obj c ns ds => obtain ⟨dx, vs, h1, h2, h3⟩ := h; exact ⟨dx, vs, hH _ h1, h2, h3.mono s⟩
  | _ => exact h.elim
theorem RepTop.there {a : Addr} {d : D} (h : RepTop K cl F H a d) : ∃ o, H a = some o := by
  cases d with
  | lst ds => obtain ⟨vs, h1, _⟩ := h; exact ⟨_, h1⟩
  | dK ks ds => obtain ⟨vs, h1, _⟩ := h; exact ⟨_, h1⟩
  | dT ep ks ds => obtain ⟨ts, h1, _⟩ := h; exact ⟨_, h1⟩
  | dN ep ks ds => obtain ⟨vs, h1, _⟩ := h; exact ⟨_, h1⟩
  | obj c ns ds => obtain ⟨dx, vs, h1, _⟩ := h; exact ⟨_, h1⟩
  | _ => exact h.elim
theorem RepTop.plain {a : Addr} {d : D} (h : RepTop K cl F H a d) : ∃ o, H a = some o /\ (∀ ps, o ≠ .tbl ps) /\ ∀ c q, o ≠ LamX.CodeO c q := by
  cases d with
  | lst ds => obtain ⟨vs, h1, _⟩ := h; exact ⟨_, h1, (fun _ e => by cases e), fun _ _ e => by unfold LamX.CodeO at e; cases e⟩
  | dK ks ds => obtain ⟨vs, h1, _⟩ := h; exact ⟨_, h1, (fun _ e => by cases e), fun _ _ e => by unfold LamX.CodeO at e; cases e⟩
  | dT ep ks ds => obtain ⟨ts, h1, _⟩ := h; exact ⟨_, h1, (fun _ e => by cases e), fun _ _ e => td_ne_code e⟩
  | dN ep ks ds => obtain ⟨vs, h1, _⟩ := h; exact ⟨_, h1, (fun _ e => by cases e), fun _ _ e => nd_ne_code e⟩
  | obj c ns ds => obtain ⟨dx, vs, h1, _⟩ := h; exact ⟨_, h1, (fun _ e => by cases e), fun _ _ e => by unfold LamX.CodeO at e; cases e⟩
  | _ => exact h.elim
theorem tabs_put {T : List (Addr × Str)} {p : Addr} {o' : HO} (t : LamX.Tabs T H) {o : HO} (hp : H p = some o) (h1 : ∀ ps, o ≠ .tbl ps) (h2 : ∀ c q, o ≠ LamX.CodeO c q) : LamX.Tabs T (upd H p o') := fun q hq => by
  obtain ⟨ps, a1, a2, a3⟩ := t q hq
  have n1 : q.1 ≠ p := fun z => by rw [z, hp] at a1; exact h1 ps (Option.some.inj a1)
  refine ⟨ps, by rw [upd_ne n1]; exact a1, a2, fun pos cv hcv => ?_⟩
  obtain ⟨c, e1, e2⟩ := a3 pos cv hcv
  have n2 : c ≠ p := fun z => by rw [z, hp] at e2; exact h2 _ _ (Option.some.inj e2)
  exact ⟨c, e1, by rw [upd_ne n2]; exact e2⟩
theorem Good.freshF (g : Good K cl F H M) {p : Addr} (h : H p = none) : F p = none := g.sub.free h
theorem Good.freshM (g : Good K cl F H M) {p : Addr} (h : H p = none) : M p = none := by
  cases e : M p with
  | none => rfl
  | some d => obtain ⟨o, q⟩ := (g.cell p d e).2.there; rw [h] at q; cases q
theorem Good.new (g : Good K cl F H M) {p : Addr} {o : HO} (h : H p = none) (ho : ∀ ps, o ≠ .tbl ps := by intro _ z; cases z) : Good K cl (upd F p o) (upd H p o) M where
  tab := g.tab.ext (same_new h)
  noT := fun b ps e => by
    by_cases q : b = p
    · subst q; rw [upd_same] at e; exact ho ps (Option.some.inj e)
    · rw [upd_ne q] at e; exact g.noT b ps e
  sub := fun a u e => by
    by_cases q : a = p
    · subst q; rw [upd_same] at e ⊢; exact e
    · rw [upd_ne q] at e ⊢; exact g.sub a u e
  cell := fun a d e => by
    obtain ⟨h1, h2⟩ := g.cell a d e
    have ne : a ≠ p := fun z => by rw [z, g.freshM h] at e; cases e
    refine ⟨by rw [upd_ne ne]; exact h1, h2.mono (same_new (g.freshF h)) fun u q => by rw [upd_ne ne]; exact q⟩
theorem Good.junk (g : Good K cl F H M) {p : Addr} {o : HO} (h : H p = none) : Good K cl F (upd H p o) M where
  tab := g.tab.ext (same_new h)
  noT := g.noT
  sub := fun a u e => (same_new h) a u (g.sub a u e)
  cell := fun a d e => by
    obtain ⟨h1, h2⟩ := g.cell a d e
    exact ⟨h1, h2.mono (Same.refl F) (same_new h a)⟩
theorem Good.newM (g : Good K cl F H M) {p : Addr} {o : HO} {d : D} (h : H p = none) (r : RepTop K cl F (upd H p o) p d) : Good K cl F (upd H p o) (updM M p d) where
  tab := g.tab.ext (same_new h)
  noT := g.noT
  sub := fun a u e => (same_new h) a u (g.sub a u e)
  cell := fun a e q => by
    by_cases z : a = p
    · subst z; rw [updM_same] at q; cases q; exact ⟨g.freshF h, r⟩
    · rw [updM_ne z] at q
      obtain ⟨h1, h2⟩ := g.cell a e q
      exact ⟨h1, h2.mono (Same.refl F) (same_new h a)⟩
theorem Good.put (g : Good K cl F H M) {p : Addr} {o : HO} {d e : D} (h : M p = some e) (r : RepTop K cl F (upd H p o) p d) : Good K cl F (upd H p o) (updM M p d) where
  tab := by
    obtain ⟨o', h1, h2, h3⟩ := (g.cell p e h).2.plain
    exact tabs_put g.tab h1 h2 h3
  noT := g.noT
  sub := fun a u q => by
    have ne : a ≠ p := fun z => by rw [z, (g.cell p e h).1] at q; cases q
    rw [upd_ne ne]; exact g.sub a u q
  cell := fun a b q => by
    by_cases z : a = p
    · subst z; rw [updM_same] at q; cases q; exact ⟨(g.cell _ _ h).1, r⟩
    · rw [updM_ne z] at q
      obtain ⟨h1, h2⟩ := g.cell a b q
      exact ⟨h1, h2.mono (Same.refl F) fun u w => by rw [upd_ne z]; exact w⟩
theorem Good.freeze (g : Good K cl F H M) {p : Addr} {d : D} (h : M p = some d) : ∃ F', Same F F' /\ Good K cl F' H (delM M p) /\ Rep K cl F' (.ref p) d := by
  obtain ⟨h1, h2⟩ := g.cell p d h
  obtain ⟨o, ho⟩ := h2.there
  have sm : Same F (upd F p o) := same_new h1
  have gd : Good K cl (upd F p o) H (delM M p) := {
    tab := g.tab
    noT := fun b ps e => by
      by_cases q : b = p
      · subst q
        rw [upd_same] at e
        obtain ⟨o', k1, k2, _⟩ := h2.plain
        rw [ho] at k1
        exact k2 ps (by rw [<- Option.some.inj k1]; exact Option.some.inj e)
      · rw [upd_ne q] at e; exact g.noT b ps e
    sub := fun a u e => by
      by_cases q : a = p
      · subst q; rw [upd_same] at e; rw [<- e]; exact ho
      · rw [upd_ne q] at e; exact g.sub a u e
    cell := fun a b q => by
      by_cases z : a = p
      · subst z; rw [delM_same] at q; cases q
      · rw [delM_ne z] at q
        obtain ⟨k1, k2⟩ := g.cell a b q
        exact ⟨by rw [upd_ne z]; exact k1, k2.mono sm fun u w => w⟩ }
  refine ⟨upd F p o, sm, gd, ?_⟩
  cases d with
  | lst ds => obtain ⟨vs, h1, h2⟩ := h2; rw [h1] at ho; cases ho; exact .lst (SqL.of upd_same) (h2.mono sm)
  | dK ks ds => obtain ⟨vs, h1, h2, h3⟩ := h2; rw [h1] at ho; cases ho; exact .dK upd_same h2 (h3.mono sm)
  | dT ep ks ds => obtain ⟨ts, h1, h2, h3, h4⟩ := h2; rw [h1] at ho; cases ho; exact .dT upd_same h2 (fun t ht => (h3 t ht).mono sm) (h4.mono sm)
  | dN ep ks ds => obtain ⟨vs, h1, h2, h3⟩ := h2; rw [h1] at ho; cases ho; exact .dN upd_same h2 (h3.mono sm)
  | obj c ns ds => obtain ⟨dx, vs, h1, h2, h3⟩ := h2; rw [h1] at ho; cases ho; exact .obj upd_same h2 (h3.mono sm)
  | _ => exact h2.elim
theorem Slots.mono {σ : St} {ρ : Env} (s : Same F F') (h : Slots K cl F σ ρ) : Slots K cl F' σ ρ := ⟨h.len, fun i d e => by
  obtain ⟨v, h1, h2⟩ := h.get i d e
  exact ⟨v, h1, h2.mono s⟩⟩
theorem Slots.set {σ : St} {ρ : Env} {v : V} {d : D} (h : Slots K cl F σ ρ) (i : Nat) (r : Rep K cl F v d) : Slots K cl F (σ.set i (some v)) (ρ.set i (some d)) := ⟨by rw [List.length_set, List.length_set]; exact h.len, fun j e q => by
  by_cases z : i = j
  · subst z
    rw [List.getElem?_set_self'] at q ⊢
    cases w : ρ[i]? with
    | none => rw [w] at q; cases q
    | some x =>
      rw [w] at q
      have hi : i < σ.length := by rw [h.len]; exact (List.getElem?_eq_some_iff.mp w).1
      have e1 : some d = some e := Option.some.inj q
      cases e1
      rw [List.getElem?_eq_getElem hi]
      exact ⟨v, rfl, r⟩
  · rw [List.getElem?_set_ne z] at q ⊢
    exact h.get j e q⟩
theorem Slots.setN {σ : St} {ρ : Env} {v : Option V} (h : Slots K cl F σ ρ) (i : Nat) : Slots K cl F (σ.set i v) (ρ.set i none) := ⟨by rw [List.length_set, List.length_set]; exact h.len, fun j e q => by
  by_cases z : i = j
  · subst z
    rw [List.getElem?_set_self'] at q
    cases w : ρ[i]? with
    | none => rw [w] at q; cases q
    | some x => rw [w] at q; cases q
  · rw [List.getElem?_set_ne z] at q ⊢
    exact h.get j e q⟩
end
abbrev DV := D -> Mem -> Prop
abbrev DX := Nat -> List Str -> List D -> Env -> Mem -> Prop
abbrev DTE := Env -> Mem -> DV -> DX -> Prop
abbrev DTT := Env -> Mem -> (Bool -> Mem -> Prop) -> DX -> Prop
abbrev DTA := Env -> Mem -> (List D -> Mem -> Prop) -> DX -> Prop
structure DEnds where
  nx : Env -> Mem -> Prop
  rt : DV
  bk : Env -> Mem -> Prop
  ct : Env -> Mem -> Prop
  ex : DX
abbrev DTS := DEnds -> Env -> Mem -> Prop
abbrev DEK := Nat -> List Str -> List D -> Mem -> Prop
abbrev SpD := List D -> Mem -> DV -> DEK -> Prop
section
variable (K : PySem.W.Frag) (cl : ClW)
def Post (F : Hp) (Q : VK) (Qd : DV) : Prop := ∀ v H' F' d M', Same F F' -> Good K cl F' H' M' -> Rep K cl F' v d -> Qd d M' -> Q v H'
def PostT (F : Hp) (Q : Bool -> Hp -> Prop) (Qd : Bool -> Mem -> Prop) : Prop := ∀ b H' F' M', Same F F' -> Good K cl F' H' M' -> Qd b M' -> Q b H'
def PostA (F : Hp) (Q : List V -> Hp -> Prop) (Qd : List D -> Mem -> Prop) : Prop := ∀ vs H' F' ds M', Same F F' -> Good K cl F' H' M' -> Reps K cl F' vs ds -> Qd ds M' -> Q vs H'
def PostS (F : Hp) (Q : St -> Hp -> Prop) (Qd : Env -> Mem -> Prop) : Prop := ∀ σ H' F' ρ M', Same F F' -> Good K cl F' H' M' -> Slots K cl F' σ ρ -> Qd ρ M' -> Q σ H'
def WOk (W : WX) (F : Hp) (Xd : DX) : Prop := ∀ c ns ds σ H' F' ρ M' dd, Same F F' -> Good K cl F' H' M' -> Slots K cl F' σ ρ -> ExcAt K cl F' dd ns ds -> Xd c ns ds ρ M' -> W (.ref (cl c)) dd σ H'
def EOk (F : Hp) (E : XK) (Ed : DEK) : Prop := ∀ c ns ds H' F' M' dd, Same F F' -> Good K cl F' H' M' -> ExcAt K cl F' dd ns ds -> Ed c ns ds M' -> E (.ref (cl c)) dd H'
structure EndsOk (W : WX) (F : Hp) (D : Ends) (Dd : DEnds) : Prop where
  nx : PostS K cl F D.nx Dd.nx
  rt : Post K cl F D.rt Dd.rt
  bk : PostS K cl F D.bk Dd.bk
  ct : PostS K cl F D.ct Dd.ct
  ex : WOk K cl W F Dd.ex
def lowE (W : WX) (τ : DTE) : TE := fun σ H Q => ∃ F ρ M Qd Xd, Good K cl F H M /\ Slots K cl F σ ρ /\ τ ρ M Qd Xd /\ Post K cl F Q Qd /\ WOk K cl W F Xd
def lowT (W : WX) (τ : DTT) : TT := fun σ H Q => ∃ F ρ M Qd Xd, Good K cl F H M /\ Slots K cl F σ ρ /\ τ ρ M Qd Xd /\ PostT K cl F Q Qd /\ WOk K cl W F Xd
def lowA (W : WX) (τ : DTA) : TA := fun σ H Q => ∃ F ρ M Qd Xd, Good K cl F H M /\ Slots K cl F σ ρ /\ τ ρ M Qd Xd /\ PostA K cl F Q Qd /\ WOk K cl W F Xd
def lowS (W : WX) (τ : DTS) : TS := fun D σ H => ∃ F ρ M Dd, Good K cl F H M /\ Slots K cl F σ ρ /\ τ Dd ρ M /\ EndsOk K cl W F D Dd
def lower (spd : SpD) : Sp := fun vs H Q E => ∃ F M ds Qd Ed, Good K cl F H M /\ Reps K cl F vs ds /\ spd ds M Qd Ed /\ Post K cl F Q Qd /\ EOk K cl F E Ed
end
section
variable {K : PySem.W.Frag} {cl : ClW} {F F' : Hp}
theorem Post.mono {Q : VK} {Qd : DV} (s : Same F F') (h : Post K cl F Q Qd) : Post K cl F' Q Qd := fun v H' G d M' s' => h v H' G d M' (s.trans s')
theorem PostT.mono {Q : Bool -> Hp -> Prop} {Qd : Bool -> Mem -> Prop} (s : Same F F') (h : PostT K cl F Q Qd) : PostT K cl F' Q Qd := fun v H' G M' s' => h v H' G M' (s.trans s')
theorem PostS.mono {Q : St -> Hp -> Prop} {Qd : Env -> Mem -> Prop} (s : Same F F') (h : PostS K cl F Q Qd) : PostS K cl F' Q Qd := fun v H' G d M' s' => h v H' G d M' (s.trans s')
theorem WOk.mono {W : WX} {Xd : DX} (s : Same F F') (h : WOk K cl W F Xd) : WOk K cl W F' Xd := fun c ns ds σ H' G ρ M' dd s' => h c ns ds σ H' G ρ M' dd (s.trans s')
theorem EndsOk.mono {W : WX} {D : Ends} {Dd : DEnds} (s : Same F F') (h : EndsOk K cl W F D Dd) : EndsOk K cl W F' D Dd := ⟨h.nx.mono s, h.rt.mono s, h.bk.mono s, h.ct.mono s, h.ex.mono s⟩
end
structure DE (cl : ClW) (X : Cx) (W : WX) (e : Expr) (τ : DTE) : Prop where
  pe : PE X e (lowE X.K cl W τ)
structure DT (cl : ClW) (X : Cx) (W : WX) (e : Expr) (τ : DTT) : Prop where
  pt : PT X e (lowT X.K cl W τ)
structure DW (cl : ClW) (X : Cx) (W : WX) (e : Expr) (τ : DTT) : Prop where
  pw : PW X e (lowT X.K cl W τ)
structure DA (cl : ClW) (X : Cx) (W : WX) (es : List Expr) (τ : DTA) : Prop where
  pa : PA X es (lowA X.K cl W τ)
structure DS (cl : ClW) (X : Cx) (W : WX) (st : Stmt) (τ : DTS) : Prop where
  ps : PS X st (lowS X.K cl W τ)
structure DSs (cl : ClW) (X : Cx) (W : WX) (st : List Stmt) (τ : DTS) : Prop where
  pss : PSs X st (lowS X.K cl W τ)
section
variable {cl : ClW} {X : Cx} {W : WX}
theorem pe_imp {e : Expr} {t t' : TE} (h : PE X e t) (i : ∀ σ H Q, t' σ H Q -> t σ H Q) : PE X e t' := ⟨fun pins s σ H Q I q => h.run pins s σ H Q I (i σ H Q q)⟩
theorem pt_imp {e : Expr} {t t' : TT} (h : PT X e t) (i : ∀ σ H Q, t' σ H Q -> t σ H Q) : PT X e t' := ⟨fun pins s σ H Q I q => h.run pins s σ H Q I (i σ H Q q)⟩
theorem pw_imp {e : Expr} {t t' : TT} (h : PW X e t) (i : ∀ σ H Q, t' σ H Q -> t σ H Q) : PW X e t' := ⟨fun wh pins s σ H Q I q => h.run wh pins s σ H Q I (i σ H Q q)⟩
theorem pa_imp {es : List Expr} {t t' : TA} (h : PA X es t) (i : ∀ σ H Q, t' σ H Q -> t σ H Q) : PA X es t' := ⟨fun pos pins s σ H Q I q => h.run pos pins s σ H Q I (i σ H Q q)⟩
theorem ps_imp {st : Stmt} {t t' : TS} (h : PS X st t) (i : ∀ D σ H, t' D σ H -> t D σ H) : PS X st t' := ⟨fun pins s σ H D I q => h.run pins s σ H D I (i D σ H q)⟩
theorem pss_imp {st : List Stmt} {t t' : TS} (h : PSs X st t) (i : ∀ D σ H, t' D σ H -> t D σ H) : PSs X st t' := ⟨fun pins s σ H D I q => h.run pins s σ H D I (i D σ H q)⟩
end
end DL
set_option Elab.async false
set_option linter.all false
set_option maxRecDepth 100000
set_option maxHeartbeats 2000000
namespace DL
open PySem L2
def vw (M : Mem) : D -> D
  | .ref a => (M a).getD (.ref a)
  | d => d
def Vw (K : PySem.W.Frag) (cl : ClW) (F H : Hp) (v : V) (d : D) : Prop := Rep K cl F v d \/ ∃ a, v = .ref a /\ RepTop K cl F H a d
section
variable {K : PySem.W.Frag} {cl : ClW} {F F' H H' : Hp} {M : Mem} {v : V} {d : D}
theorem vw_ok (g : Good K cl F H M) (r : Rep K cl F v d) : Vw K cl F H v (vw M d) := by
  cases d with
  | ref a =>
    obtain rfl := r.toRef
    show Vw K cl F H (.ref a) ((M a).getD (.ref a))
    cases e : M a with
    | none => exact .inl (.ref a)
    | some c => exact .inr ⟨a, rfl, (g.cell a c e).2⟩
  | _ => exact .inl r
theorem Vw.int {i : Int} (h : Vw K cl F H v (.int i)) : v = .int i := by
  rcases h with h | ⟨a, _, h⟩
  · exact h.toInt
  · exact h.elim
theorem Vw.bl {i : Bool} (h : Vw K cl F H v (.bl i)) : v = .bl i := by
  rcases h with h | ⟨a, _, h⟩
  · exact h.toBl
  · exact h.elim
theorem Vw.str {i : Str} (h : Vw K cl F H v (.str i)) : v = .str i := by
  rcases h with h | ⟨a, _, h⟩
  · exact h.toStr
  · exact h.elim
theorem Vw.byt {i : Array UInt8} (h : Vw K cl F H v (.byt i)) : v = .byt i := by
  rcases h with h | ⟨a, _, h⟩
  · exact h.toByt
  · exact h.elim
theorem Vw.non (h : Vw K cl F H v .non) : v = .non := by
  rcases h with h | ⟨a, _, h⟩
  · exact h.toNon
  · exact h.elim
theorem Vw.lst {ds : List D} (g : Same F H) (h : Vw K cl F H v (.lst ds)) : ∃ a vs, v = .ref a /\ SqL K H a vs /\ Reps K cl F vs ds := by
  rcases h with h | ⟨a, rfl, vs, h1, h2⟩
  · obtain ⟨a, vs, rfl, h1, h2⟩ := h.toLst
    exact ⟨a, vs, rfl, same_l g h1, h2⟩
  · exact ⟨a, vs, rfl, SqL.of h1, h2⟩
theorem Vw.tup {ds : List D} (g : Same F H) (h : Vw K cl F H v (.tup ds)) : ∃ a vs, v = .ref a /\ SqT K H a vs /\ Reps K cl F vs ds := by
  rcases h with h | ⟨a, rfl, h1⟩
  · obtain ⟨a, vs, rfl, h1, h2⟩ := h.toTup
    exact ⟨a, vs, rfl, same_t g h1, h2⟩
  · exact h1.elim
theorem Vw.obj {c : Nat} {ns : List Str} {ds : List D} (g : Same F H) (h : Vw K cl F H v (.obj c ns ds)) : ∃ a dx vs, v = .ref a /\ H a = some (.ins (cl c) dx (ns.zip vs)) /\ ns.length = vs.length /\ Reps K cl F vs ds := by
  rcases h with h | ⟨a, rfl, dx, vs, h1, h2, h3⟩
  · obtain ⟨a, dx, vs, rfl, h1, h2, h3⟩ := h.toObj
    exact ⟨a, dx, vs, rfl, g _ _ h1, h2, h3⟩
  · exact ⟨a, dx, vs, rfl, h1, h2, h3⟩
theorem Post.val {Q : VK} {Qd : DV} (p : Post K cl F Q Qd) (g : Good K cl F H M) (r : Rep K cl F v d) (q : Qd d M) : Q v H := p v H F d M (Same.refl F) g r q
theorem Post.newL {Q : VK} {Qd : DV} {vs : List V} {ds : List D} (p : Post K cl F Q Qd) (g : Good K cl F H M) (r : Reps K cl F vs ds) (q : Qd (.lst ds) M) {a : Addr} (h : H a = none) : Q (.ref a) (upd H a (.lst vs)) :=
  p _ _ (upd F a (.lst vs)) (.lst ds) M (same_new (g.freshF h)) (g.new h) (.lst (SqL.of upd_same) (r.mono (same_new (g.freshF h)))) q
theorem Post.newT {Q : VK} {Qd : DV} {vs : List V} {ds : List D} (p : Post K cl F Q Qd) (g : Good K cl F H M) (r : Reps K cl F vs ds) (q : Qd (.tup ds) M) {a : Addr} (h : H a = none) : Q (.ref a) (upd H a (.tup vs)) :=
  p _ _ (upd F a (.tup vs)) (.tup ds) M (same_new (g.freshF h)) (g.new h) (.tup (SqT1.of upd_same) (r.mono (same_new (g.freshF h)))) q
end
def LOp (K : PySem.W.Frag) (cl : ClW) (r : R2) (f : D -> D -> Option D) : Prop :=
  ∀ F H M x y d e z Q Qd, Good K cl F H M -> Vw K cl F H x d -> Vw K cl F H y e -> f d e = some z -> Post K cl F Q Qd -> Qd z M -> r x y H Q
def LUn (K : PySem.W.Frag) (cl : ClW) (r : V -> Hp -> VK -> Prop) (f : D -> Option D) : Prop :=
  ∀ F H M x d z Q Qd, Good K cl F H M -> Vw K cl F H x d -> f d = some z -> Post K cl F Q Qd -> Qd z M -> r x H Q
def LCall (K : PySem.W.Frag) (cl : ClW) (r : List V -> Hp -> VK -> Prop) (f : List D -> Option D) : Prop :=
  ∀ F H M xs ds z Q Qd, Good K cl F H M -> Reps K cl F xs ds -> f (ds.map (vw M)) = some z -> Post K cl F Q Qd -> Qd z M -> r xs H Q
@[simp] def dVar (i : Nat) : DTE := fun ρ M Q _ => ∃ d, ρ[i]? = some (some d) /\ Q d M
@[simp] def dC (d : D) : DTE := fun _ M Q _ => Q d M
@[simp] def dOp (f : D -> D -> Option D) (τa τb : DTE) : DTE := fun ρ M Q X => τa ρ M (fun d M1 => τb ρ M1 (fun e M2 => ∃ z, f (vw M2 d) (vw M2 e) = some z /\ Q z M2) X) X
@[simp] def dUn (f : D -> Option D) (τa : DTE) : DTE := fun ρ M Q X => τa ρ M (fun d M1 => ∃ z, f (vw M1 d) = some z /\ Q z M1) X
@[simp] def dTest (τ : DTE) : DTT := fun ρ M Q X => τ ρ M (fun d M1 => ∃ b, d = .bl b /\ Q b M1) X
@[simp] def dAnd (τ υ : DTT) : DTT := fun ρ M Q X => τ ρ M (fun c M1 => if c = true then υ ρ M1 Q X else Q false M1) X
@[simp] def dOr (τ υ : DTT) : DTT := fun ρ M Q X => τ ρ M (fun c M1 => if c = true then Q true M1 else υ ρ M1 Q X) X
@[simp] def dNot (τ : DTT) : DTT := fun ρ M Q X => τ ρ M (fun c M1 => Q (!c) M1) X
@[simp] def dIfE (τ : DTT) (τa τb : DTE) : DTE := fun ρ M Q X => τ ρ M (fun c M1 => if c = true then τa ρ M1 Q X else τb ρ M1 Q X) X
@[simp] def dNil : DTA := fun _ M Q _ => Q [] M
@[simp] def dCons (τ : DTE) (τr : DTA) : DTA := fun ρ M Q X => τ ρ M (fun d M1 => τr ρ M1 (fun ds M2 => Q (d :: ds) M2) X) X
@[simp] def dTup (τ : DTA) : DTE := fun ρ M Q X => τ ρ M (fun ds M1 => ds.length <= sizeLine /\ Q (.tup ds) M1) X
@[simp] def dLst (τ : DTA) : DTE := fun ρ M Q X => τ ρ M (fun ds M1 => ds.length <= sizeLine /\ Q (.lst ds) M1) X
def dLstM (τ : DTA) : DTE := fun ρ M Q X => τ ρ M (fun ds M1 => ds.length <= sizeLine /\ ∀ a, M1 a = none -> Q (.ref a) (updM M1 a (.lst ds))) X
@[simp] def frz (d : D) (M : Mem) (Q : DV) : Prop := match d with
  | .ref a => (match M a with
    | some c => Q c (delM M a)
    | none => Q d M)
  | d => Q d M
@[simp] def dFrz (τ : DTE) : DTE := fun ρ M Q X => τ ρ M (fun d M1 => frz d M1 Q) X
@[simp] def dCB (f : List D -> Option D) (τ : DTA) : DTE := fun ρ M Q X => τ ρ M (fun ds M1 => ∃ z, f (ds.map (vw M1)) = some z /\ Q z M1) X
@[simp] def dSl (f : D -> Option Int -> Option Int -> Option D) (τ : DTE) (lo hi : Env -> Mem -> (Option Int -> Mem -> Prop) -> DX -> Prop) : DTE := fun ρ M Q X => τ ρ M (fun d M1 => lo ρ M1 (fun l M2 => hi ρ M2 (fun h M3 => ∃ z, f (vw M3 d) l h = some z /\ Q z M3) X) X) X
abbrev DTO := Env -> Mem -> (Option Int -> Mem -> Prop) -> DX -> Prop
@[simp] def dNoPart : DTO := fun _ M Q _ => Q none M
@[simp] def dPart (τ : DTE) : DTO := fun ρ M Q X => τ ρ M (fun d M1 => ∃ i, d = .int i /\ Q (some i) M1) X
section
variable {cl : ClW} {X : Cx} {W : WX} {a b e c : Expr} {es rest : List Expr} {pos : Pos} {τ τa τb τc : DTE} {υ υ' : DTT} {α : DTA}
theorem d_var {x : Str} (i : Nat) (hN : X.N[i]? = some x := by rfl) (hv : Vis X.env.scope x := by first | exact Or.inl rfl | exact Or.inr (Or.inl rfl) | exact Or.inr (Or.inr rfl)) (hd : (x == ("__debug__" : Str)) = false := by decide)
    (hcd : (x == ("__classdict__" : Str)) = false := by decide) : DE cl X W (.Name x pos) (dVar i) :=
  ⟨pe_imp (pe_var hN hv hd hcd) fun σ H Q ⟨F, ρ, M, Qd, Xd, g, s, ⟨d, h1, h2⟩, p, w⟩ => by
    obtain ⟨v, e1, r⟩ := s.get i d h1
    exact ⟨v, e1, p.val g r h2⟩⟩
theorem d_c {v : V} {d : D} (h : PE X e (tC v)) (r : ∀ F, Rep X.K cl F v d) : DE cl X W e (dC d) :=
  ⟨pe_imp h fun σ H Q ⟨F, ρ, M, Qd, Xd, g, s, h2, p, w⟩ => p.val g (r F) h2⟩
theorem d_int {i j} : DE cl X W (.Constant (.int i) j pos) (dC (.int i)) := d_c pe_int fun _ => .int i
theorem d_bl {i j} : DE cl X W (.Constant (.bool i) j pos) (dC (.bl i)) := d_c pe_bl fun _ => .bl i
theorem d_str {i j} : DE cl X W (.Constant (.str i) j pos) (dC (.str i)) := d_c pe_str fun _ => .str i
theorem d_non {j} : DE cl X W (.Constant .none j pos) (dC .non) := d_c pe_non fun _ => .non
theorem d_byt {x j} : DE cl X W (.Constant (.bytes x) j pos) (dC (.byt x.toArray)) := d_c (v := .byt x.toArray) pe_byt fun _ => .byt _
theorem d_op {op : Operator} {r : R2} {f : D -> D -> Option D} (ho : OpR X (binaryOp op) r) (hf : LOp X.K cl r f) (ha : DE cl X W a τa) (hb : DE cl X W b τb) : DE cl X W (.BinOp a op b pos) (dOp f τa τb) :=
  ⟨pe_imp (pe_op ho ha.pe hb.pe) fun σ H Q ⟨F, ρ, M, Qd, Xd, g, s, t, p, w⟩ =>
    ⟨F, ρ, M, _, Xd, g, s, t, fun v H' F' d M' sm g' r' q => ⟨F', ρ, M', _, Xd, g', s.mono sm, q, fun u H2 F2 e M2 sm2 g2 r2 q2 => by
      obtain ⟨z, e1, e2⟩ := q2
      exact hf F2 H2 M2 v u _ _ z Q Qd g2 (vw_ok g2 (r'.mono sm2)) (vw_ok g2 r2) e1 (p.mono (sm.trans sm2)) e2, w.mono sm⟩, w⟩⟩
theorem d_cmp {op : CmpOp} {r : R2} {f : D -> D -> Option D} (ho : OpR X (compareOp op) r) (hf : LOp X.K cl r f) (ha : DE cl X W a τa) (hb : DE cl X W b τb) (hm : behindInMarks op b = false) : DE cl X W (.Compare a [op] [b] pos) (dOp f τa τb) :=
  ⟨pe_imp (pe_cmpR ho ha.pe hb.pe hm) fun σ H Q ⟨F, ρ, M, Qd, Xd, g, s, t, p, w⟩ =>
    ⟨F, ρ, M, _, Xd, g, s, t, fun v H' F' d M' sm g' r' q => ⟨F', ρ, M', _, Xd, g', s.mono sm, q, fun u H2 F2 e M2 sm2 g2 r2 q2 => by
      obtain ⟨z, e1, e2⟩ := q2
      exact hf F2 H2 M2 v u _ _ z Q Qd g2 (vw_ok g2 (r'.mono sm2)) (vw_ok g2 r2) e1 (p.mono (sm.trans sm2)) e2, w.mono sm⟩, w⟩⟩
theorem PostT.test {K : PySem.W.Frag} {F : Hp} {Q : Bool -> Hp -> Prop} {Qd : Bool -> Mem -> Prop} (p : PostT K cl F Q Qd) : Post K cl F (fun x H' => ∃ k, x = .bl k /\ Q k H') (fun d M1 => ∃ b, d = .bl b /\ Qd b M1) := fun v H' F' d M' sm g r ⟨b, e1, q⟩ => by
  subst e1
  exact ⟨b, r.toBl, p b H' F' M' sm g q⟩
theorem d_tcmp {op : CmpOp} {r : R2} {f : D -> D -> Option D} (ho : OpR X (compareOp op) r) (hf : LOp X.K cl r f) (ha : DE cl X W a τa) (hb : DE cl X W b τb) (hm : behindInMarks op b = false) : DT cl X W (.Compare a [op] [b] pos) (dTest (dOp f τa τb)) :=
  ⟨pt_imp (pt_cmpR ho ha.pe hb.pe hm) fun σ H Q ⟨F, ρ, M, Qd, Xd, g, s, t, p, w⟩ =>
    ⟨F, ρ, M, _, Xd, g, s, t, fun v H' F' d M' sm g' r' q => ⟨F', ρ, M', _, Xd, g', s.mono sm, q, fun u H2 F2 e M2 sm2 g2 r2 q2 => by
      obtain ⟨z, e1, e2⟩ := q2
      exact hf F2 H2 M2 v u _ _ z _ _ g2 (vw_ok g2 (r'.mono sm2)) (vw_ok g2 r2) e1 (PostT.test (p.mono (sm.trans sm2))) e2, w.mono sm⟩, w⟩⟩
@[simp] def dChain (f f' : D -> D -> Option D) (τa τb τc : DTE) : DTE := fun ρ M Q X => τa ρ M (fun d M1 => τb ρ M1 (fun e M2 => ∃ k, f (vw M2 d) (vw M2 e) = some (.bl k) /\ if k = true then τc ρ M2 (fun h M3 => ∃ z, f' (vw M3 e) (vw M3 h) = some z /\ Q z M3) X else Q (.bl false) M2) X) X
theorem d_chain {op op' : CmpOp} {r r' : R2} {f f' : D -> D -> Option D} (ho : OpR X (compareOp op) r) (ho' : OpR X (compareOp op') r') (hf : LOp X.K cl r f) (hf' : LOp X.K cl r' f') (ha : DE cl X W a τa) (hb : DE cl X W b τb) (hc : DE cl X W c τc)
    (hm : lastMarks [op, op'] [b, c] = false := by with_unfolding_all rfl) : DE cl X W (.Compare a [op, op'] [b, c] pos) (dChain f f' τa τb τc) :=
  ⟨pe_imp (pe_chain ho ho' ha.pe hb.pe hc.pe hm) fun σ H Q ⟨F, ρ, M, Qd, Xd, g, s, t, p, w⟩ =>
    ⟨F, ρ, M, _, Xd, g, s, t, fun v H' F' d M' sm g' r' q => ⟨F', ρ, M', _, Xd, g', s.mono sm, q, fun u H2 F2 e M2 sm2 g2 r2 q2 => by
      obtain ⟨k, e1, e2⟩ := q2
      refine hf F2 H2 M2 v u _ _ (.bl k) _ (fun z M3 => z = .bl k /\ M3 = M2) g2 (vw_ok g2 (r'.mono sm2)) (vw_ok g2 r2) e1 ?_ ⟨rfl, rfl⟩
      intro z H3 F3 dz M3 sm3 g3 r3 ⟨h3, h4⟩
      subst h3 h4
      refine ⟨k, r3.toBl, ?_⟩
      cases k with
      | true =>
        rw [if_pos rfl] at e2 ⊢
        refine ⟨F3, ρ, M3, _, Xd, g3, s.mono ((sm.trans sm2).trans sm3), e2, fun y H4 F4 h M4 sm4 g4 r4 ⟨z4, h5, h6⟩ => ?_, w.mono ((sm.trans sm2).trans sm3)⟩
        exact hf' F4 H4 M4 u y _ _ z4 Q Qd g4 (vw_ok g4 (r2.mono (sm3.trans sm4))) (vw_ok g4 r4) h5 (p.mono (((sm.trans sm2).trans sm3).trans sm4)) h6
      | false =>
        rw [if_neg Bool.false_ne_true] at e2 ⊢
        exact p _ _ _ _ _ ((sm.trans sm2).trans sm3) g3 (.bl false) e2, w.mono sm⟩, w⟩⟩
theorem d_tchain {op op' : CmpOp} {r r' : R2} {f f' : D -> D -> Option D} (ho : OpR X (compareOp op) r) (ho' : OpR X (compareOp op') r') (hf : LOp X.K cl r f) (hf' : LOp X.K cl r' f') (ha : DE cl X W a τa) (hb : DE cl X W b τb) (hc : DE cl X W c τc)
    (hm : lastMarks [op, op'] [b, c] = false := by with_unfolding_all rfl) : DT cl X W (.Compare a [op, op'] [b, c] pos) (dTest (dChain f f' τa τb τc)) :=
  ⟨pt_imp (pt_chain ho ho' ha.pe hb.pe hc.pe hm) fun σ H Q ⟨F, ρ, M, Qd, Xd, g, s, t, p, w⟩ =>
    ⟨F, ρ, M, _, Xd, g, s, t, fun v H' F' d M' sm g' r' q => ⟨F', ρ, M', _, Xd, g', s.mono sm, q, fun u H2 F2 e M2 sm2 g2 r2 q2 => by
      obtain ⟨k, e1, e2⟩ := q2
      refine hf F2 H2 M2 v u _ _ (.bl k) _ (fun z M3 => z = .bl k /\ M3 = M2) g2 (vw_ok g2 (r'.mono sm2)) (vw_ok g2 r2) e1 ?_ ⟨rfl, rfl⟩
      intro z H3 F3 dz M3 sm3 g3 r3 ⟨h3, h4⟩
      subst h3 h4
      refine ⟨k, r3.toBl, ?_⟩
      cases k with
      | true =>
        rw [if_pos rfl] at e2 ⊢
        refine ⟨F3, ρ, M3, _, Xd, g3, s.mono ((sm.trans sm2).trans sm3), e2, fun y H4 F4 h M4 sm4 g4 r4 ⟨z4, h5, h6⟩ => ?_, w.mono ((sm.trans sm2).trans sm3)⟩
        exact hf' F4 H4 M4 u y _ _ z4 _ _ g4 (vw_ok g4 (r2.mono (sm3.trans sm4))) (vw_ok g4 r4) h5 (PostT.test (p.mono (((sm.trans sm2).trans sm3).trans sm4))) h6
      | false =>
        rw [if_neg Bool.false_ne_true] at e2 ⊢
        exact PostT.test p _ _ _ _ _ ((sm.trans sm2).trans sm3) g3 (.bl false) e2, w.mono sm⟩, w⟩⟩
theorem d_un {op : UnaryOp} {r : V -> Hp -> VK -> Prop} {f : D -> Option D} (ho : UnR X (unaryOp op) r) (hf : LUn X.K cl r f) (ha : DE cl X W a τa) : DE cl X W (.UnaryOp op a pos) (dUn f τa) :=
  ⟨pe_imp (pe_un ho ha.pe) fun σ H Q ⟨F, ρ, M, Qd, Xd, g, s, t, p, w⟩ =>
    ⟨F, ρ, M, _, Xd, g, s, t, fun v H' F' d M' sm g' r' ⟨z, e1, e2⟩ => hf F' H' M' v _ z Q Qd g' (vw_ok g' r') e1 (p.mono sm) e2, w⟩⟩
theorem d_val (h : DE cl X W e τ) (he : ∀ whole, isTrue e X.env whole = (do let v <- whole; standAt e.pos; holding [v] (truthy v)) := by intro _; rfl) : DT cl X W e (dTest τ) :=
  ⟨pt_imp (pt_val h.pe he) fun σ H Q ⟨F, ρ, M, Qd, Xd, g, s, t, p, w⟩ => ⟨F, ρ, M, _, Xd, g, s, t, p.test, w⟩⟩
theorem dw_and1 (h : DT cl X W a υ) : DW cl X W (.BoolOp .And [a] pos) υ := ⟨pw_and1 h.pt⟩
theorem dw_or1 (h : DT cl X W a υ) : DW cl X W (.BoolOp .Or [a] pos) υ := ⟨pw_or1 h.pt⟩
theorem dw_and (h : DT cl X W a υ) (h' : DW cl X W (.BoolOp .And (b :: rest) pos) υ') : DW cl X W (.BoolOp .And (a :: b :: rest) pos) (dAnd υ υ') :=
  ⟨pw_imp (pw_and h.pt h'.pw) fun σ H Q ⟨F, ρ, M, Qd, Xd, g, s, t, p, w⟩ => ⟨F, ρ, M, _, Xd, g, s, t, fun k H' F' M' sm g' q => by
    cases k with
    | true => rw [if_pos rfl] at q ⊢; exact ⟨F', ρ, M', Qd, Xd, g', s.mono sm, q, p.mono sm, w.mono sm⟩
    | false => rw [if_neg Bool.false_ne_true] at q ⊢; exact p _ _ _ _ sm g' q, w⟩⟩
theorem dw_or (h : DT cl X W a υ) (h' : DW cl X W (.BoolOp .Or (b :: rest) pos) υ') : DW cl X W (.BoolOp .Or (a :: b :: rest) pos) (dOr υ υ') :=
  ⟨pw_imp (pw_or h.pt h'.pw) fun σ H Q ⟨F, ρ, M, Qd, Xd, g, s, t, p, w⟩ => ⟨F, ρ, M, _, Xd, g, s, t, fun k H' F' M' sm g' q => by
    cases k with
    | true => rw [if_pos rfl] at q ⊢; exact p _ _ _ _ sm g' q
    | false => rw [if_neg Bool.false_ne_true] at q ⊢; exact ⟨F', ρ, M', Qd, Xd, g', s.mono sm, q, p.mono sm, w.mono sm⟩, w⟩⟩
theorem DW.dt (h : DW cl X W e υ) : DT cl X W e υ := ⟨h.pw.pt⟩
theorem d_tnot (h : DT cl X W a υ) : DT cl X W (.UnaryOp .Not a pos) (dNot υ) :=
  ⟨pt_imp (pt_not h.pt) fun σ H Q ⟨F, ρ, M, Qd, Xd, g, s, t, p, w⟩ => ⟨F, ρ, M, _, Xd, g, s, t, fun k H' F' M' sm g' q => p _ _ _ _ sm g' q, w⟩⟩
theorem d_ifE (h : DT cl X W c υ) (ha : DE cl X W a τa) (hb : DE cl X W b τb) : DE cl X W (.IfExp c a b pos) (dIfE υ τa τb) :=
  ⟨pe_imp (pe_ifExp h.pt ha.pe hb.pe) fun σ H Q ⟨F, ρ, M, Qd, Xd, g, s, t, p, w⟩ => ⟨F, ρ, M, _, Xd, g, s, t, fun k H' F' M' sm g' q => by
    cases k with
    | true => rw [if_pos rfl] at q ⊢; exact ⟨F', ρ, M', Qd, Xd, g', s.mono sm, q, p.mono sm, w.mono sm⟩
    | false => rw [if_neg Bool.false_ne_true] at q ⊢; exact ⟨F', ρ, M', Qd, Xd, g', s.mono sm, q, p.mono sm, w.mono sm⟩, w⟩⟩
@[simp] def dAndV (τa τb : DTE) : DTE := fun ρ M Q X => τa ρ M (fun d M1 => ∃ c, d = .bl c /\ if c = true then τb ρ M1 Q X else Q (.bl false) M1) X
@[simp] def dOrV (τa τb : DTE) : DTE := fun ρ M Q X => τa ρ M (fun d M1 => ∃ c, d = .bl c /\ if c = true then Q (.bl true) M1 else τb ρ M1 Q X) X
@[simp] def dNotV (τa : DTE) : DTE := fun ρ M Q X => τa ρ M (fun d M1 => ∃ c, d = .bl c /\ Q (.bl (!c)) M1) X
theorem d_one {op} (h : DE cl X W a τ) : DE cl X W (.BoolOp op [a] pos) τ := ⟨pe_one h.pe⟩
theorem d_andV (ha : DE cl X W a τa) (hb : DE cl X W (.BoolOp .And (b :: rest) pos) τb) : DE cl X W (.BoolOp .And (a :: b :: rest) pos) (dAndV τa τb) :=
  ⟨pe_imp (pe_and ha.pe hb.pe) fun σ H Q ⟨F, ρ, M, Qd, Xd, g, s, t, p, w⟩ => ⟨F, ρ, M, _, Xd, g, s, t, fun v H' F' d M' sm g' r ⟨k, e1, q⟩ => by
    subst e1
    refine ⟨k, r.toBl, ?_⟩
    cases k with
    | true => rw [if_pos rfl] at q ⊢; exact ⟨F', ρ, M', Qd, Xd, g', s.mono sm, q, p.mono sm, w.mono sm⟩
    | false => rw [if_neg Bool.false_ne_true] at q ⊢; exact p _ _ _ _ _ sm g' (.bl false) q, w⟩⟩
theorem d_notV (ha : DE cl X W a τa) : DE cl X W (.UnaryOp .Not a pos) (dNotV τa) :=
  ⟨pe_imp (pe_not ha.pe) fun σ H Q ⟨F, ρ, M, Qd, Xd, g, s, t, p, w⟩ => ⟨F, ρ, M, _, Xd, g, s, t, fun v H' F' d M' sm g' r ⟨k, e1, q⟩ => by
    subst e1
    exact ⟨k, r.toBl, p _ _ _ _ _ sm g' (.bl _) q⟩, w⟩⟩
theorem da_nil : DA cl X W [] dNil := ⟨pa_imp pa_nil fun σ H Q ⟨F, ρ, M, Qd, Xd, g, s, t, p, w⟩ => p [] H F [] M (Same.refl F) g .nil t⟩
theorem da_cons (ha : DE cl X W e τ) (hr : DA cl X W es α) (hs : starEach (e :: es) X.env = (false, eval e X.env) :: starEach es X.env := by rfl) : DA cl X W (e :: es) (dCons τ α) :=
  ⟨pa_imp (pa_cons ha.pe hr.pa hs) fun σ H Q ⟨F, ρ, M, Qd, Xd, g, s, t, p, w⟩ => ⟨F, ρ, M, _, Xd, g, s, t, fun v H' F' d M' sm g' r q => ⟨F', ρ, M', _, Xd, g', s.mono sm, q, fun vs H2 F2 ds M2 sm2 g2 r2 q2 => p _ _ _ _ _ (sm.trans sm2) g2 (.cons (r.mono sm2) r2) q2, w.mono sm⟩, w⟩⟩
theorem d_tup {x1} (h : DA cl X W es α) : DE cl X W (.Tuple es x1 pos) (dTup α) :=
  ⟨pe_imp (pe_tup h.pa) fun σ H Q ⟨F, ρ, M, Qd, Xd, g, s, t, p, w⟩ => ⟨F, ρ, M, _, Xd, g, s, t, fun vs H' F' ds M' sm g' r ⟨hl, q⟩ => ⟨by rw [r.length]; exact hl, fun a ha => (p.mono sm).newT g' r q ha⟩, w⟩⟩
theorem d_lst (h : DA cl X W es α) : DE cl X W (.List es pos) (dLst α) :=
  ⟨pe_imp (pe_lst h.pa) fun σ H Q ⟨F, ρ, M, Qd, Xd, g, s, t, p, w⟩ => ⟨F, ρ, M, _, Xd, g, s, t, fun vs H' F' ds M' sm g' r ⟨hl, q⟩ => ⟨by rw [r.length]; exact hl, fun a ha => (p.mono sm).newL g' r q ha⟩, w⟩⟩
theorem d_lstM (h : DA cl X W es α) : DE cl X W (.List es pos) (dLstM α) :=
  ⟨pe_imp (pe_lst h.pa) fun σ H Q ⟨F, ρ, M, Qd, Xd, g, s, t, p, w⟩ => ⟨F, ρ, M, _, Xd, g, s, t, fun vs H' F' ds M' sm g' r ⟨hl, q⟩ => ⟨by rw [r.length]; exact hl, fun a ha =>
    p _ _ F' _ _ sm (g'.newM (d := .lst ds) ha ⟨vs, upd_same, r⟩) (.ref a) (q a (g'.freshM ha))⟩, w⟩⟩
theorem d_frz (h : DE cl X W e τ) : DE cl X W e (dFrz τ) :=
  ⟨pe_imp h.pe fun σ H Q ⟨F, ρ, M, Qd, Xd, g, s, t, p, w⟩ => ⟨F, ρ, M, _, Xd, g, s, t, fun v H' F' d M' sm g' r q => by
    cases d with
    | ref a =>
      obtain rfl := r.toRef
      cases e : M' a with
      | none =>
        have q' : Qd (.ref a) M' := by
          simp only [frz] at q
          rw [e] at q
          exact q
        exact p _ _ _ _ _ sm g' r q'
      | some c =>
        have q' : Qd c (delM M' a) := by
          simp only [frz] at q
          rw [e] at q
          exact q
        obtain ⟨F2, s2, g2, r2⟩ := g'.freeze e
        exact p _ _ _ _ _ (sm.trans s2) g2 r2 q'
    | _ => exact p _ _ _ _ _ sm g' r q, w⟩⟩
theorem d_callB {x : Str} {id : String} {p : Pos} {r : List V -> Hp -> VK -> Prop} {f : List D -> Option D} (hc : CallR X (.builtin id) r) (hf : LCall X.K cl r f) (hg : Gl X x) (hm : X.mg x = none) (hv : bootBuiltins x = some (.builtin id)) (ha : DA cl X W (e :: es) α) (hn : x ≠ "__name__" := by decide) (hdb : (x == ("__debug__" : Str)) = false := by decide)
    (he : starEach (e :: es) X.env = (false, eval e X.env) :: starEach es X.env := by rfl) (hpl : (backTo pos (starEach es X.env)).any (·.1) = false := by rfl) : DE cl X W (.Call (.Name x p) (e :: es) [] pos) (dCB f α) :=
  ⟨pe_imp (pe_callB hc hg hm hv ha.pa hn hdb he hpl) fun σ H Q ⟨F, ρ, M, Qd, Xd, g, s, t, p, w⟩ => ⟨F, ρ, M, _, Xd, g, s, t, fun vs H' F' ds M' sm g' r ⟨z, e1, e2⟩ => hf F' H' M' vs ds z Q Qd g' r e1 (p.mono sm) e2, w⟩⟩
theorem d_callTy {x : Str} {T : String} {p : Pos} {r : List V -> Hp -> VK -> Prop} {f : List D -> Option D} (hc : CallR X (.type T) r) (hf : LCall X.K cl r f) (hg : Gl X x) (hm : X.mg x = none) (hv : bootBuiltins x = some (.type T)) (ha : DA cl X W (e :: es) α) (hn : x ≠ "__name__" := by decide) (hdb : (x == ("__debug__" : Str)) = false := by decide)
    (he : starEach (e :: es) X.env = (false, eval e X.env) :: starEach es X.env := by rfl) (hpl : (backTo pos (starEach es X.env)).any (·.1) = false := by rfl) : DE cl X W (.Call (.Name x p) (e :: es) [] pos) (dCB f α) :=
  ⟨pe_imp (pe_callTy hc hg hm hv ha.pa hn hdb he hpl) fun σ H Q ⟨F, ρ, M, Qd, Xd, g, s, t, p, w⟩ => ⟨F, ρ, M, _, Xd, g, s, t, fun vs H' F' ds M' sm g' r ⟨z, e1, e2⟩ => hf F' H' M' vs ds z Q Qd g' r e1 (p.mono sm) e2, w⟩⟩
end
end DL
set_option Elab.async false
set_option linter.all false
set_option maxRecDepth 100000
set_option maxHeartbeats 2000000
namespace DL
open PySem L2
def addD : D -> D -> Option D
  | .int i, .int j => some (.int (i + j))
  | .str x, .str y => if x.length + y.length <= sizeLine then some (.str (x ++ y)) else none
  | .lst xs, .lst ys => if xs.length + ys.length <= sizeLine then some (.lst (xs ++ ys)) else none
  | .tup xs, .tup ys => if xs.length + ys.length <= sizeLine then some (.tup (xs ++ ys)) else none
  | .byt x, .byt y => if x.size + y.size <= 16777216 then some (.byt (x ++ y)) else none
  | _, _ => none
@[simp] def subD : D -> D -> Option D
  | .int i, .int j => some (.int (i - j))
  | _, _ => none
def mulD : D -> D -> Option D
  | .int i, .int j => if (-(2 ^ 64) < i /\ i < 2 ^ 64) \/ (-(2 ^ 64) < j /\ j < 2 ^ 64) then some (.int (i * j)) else none
  | _, _ => none
def fdivD : D -> D -> Option D
  | .int i, .int j => if 0 < j /\ j < 2 ^ 200 then some (.int (i / j)) else none
  | _, _ => none
def modD : D -> D -> Option D
  | .int i, .int j => if 0 < j then some (.int (i % j)) else none
  | _, _ => none
def powD : D -> D -> Option D
  | .int i, .int j => if 0 <= j /\ j <= 1000000 /\ i.natAbs < 2 ^ 64 then some (.int (i ^ j.toNat)) else none
  | _, _ => none
@[simp] def cmpD (p : Int -> Int -> Bool) : D -> D -> Option D
  | .int i, .int j => some (.bl (p i j))
  | _, _ => none
@[simp] def negD : D -> Option D
  | .int i => some (.int (-i))
  | _ => none
@[simp] def isNonD : D -> D -> Option D
  | .non, .non => some (.bl true)
  | _, .non => some (.bl false)
  | _, _ => none
@[simp] def notNonD : D -> D -> Option D
  | .non, .non => some (.bl false)
  | _, .non => some (.bl true)
  | _, _ => none
section
variable {K : PySem.W.Frag} {cl : ClW} {X : Cx}
def rCatS (K : PySem.W.Frag) : R2 := fun x y H Q => ∃ l b xs zs, x = .ref l /\ y = .ref b /\ SqL K H l xs /\ SqL K H b zs /\ xs.length + zs.length <= sizeLine /\ ∀ p, H p = none -> Q (.ref p) (upd H p (.lst (xs ++ zs)))
theorem op_catS : OpR X (binaryOp .Add) (rCatS X.K) := by
  intro pins s σ H x y v u Q I rx ry h
  obtain ⟨l, b, xs, zs, rfl, rfl, hH, hB, hz, q⟩ := h
  cases rx
  cases ry
  obtain ⟨its, r, ⟨o, n, ho, hc, hd, hs⟩, z⟩ := I.list hH
  obtain ⟨its2, r2, ⟨o2, n2, ho2, hc2, hd2, hs2⟩, z2⟩ := I.list hB
  obtain ⟨c1, d1, t1, sl1⟩ := o
  obtain ⟨c2, d2, t2, sl2⟩ := o2
  simp only at hc hd hs hc2 hd2 hs2
  subst hc hd hs hc2 hd2 hs2
  have l1 := r.length
  have l2 := r2.length
  have ea : its.toArray ++ its2.toArray = (its ++ its2).toArray := by simp
  refine concat_meets ⟨_, ho, rfl⟩ ⟨_, ho2, rfl⟩ noFill_list_add seq_list_add PySem.F.slot_list_add PySem.F.entry_list_add (PySem.F.args_list_add_2 _ _) (PyProof.Rows.list_addW l b its.toArray its2.toArray n n2 none none sl1 sl2 (by simp; omega)) ⟨ho, ho2, ?_⟩
  rw [ea]
  exact ⟨.ref _, _, I.lnew (t' := s.toks) (r.append r2) (by rw [List.length_append]; omega), rfl, q _ I.fresh⟩
def rAddAll (K : PySem.W.Frag) : R2 := fun x y H Q => rI0 (fun i j => .int (i + j)) x y H Q \/ (fun x y H Q => ∃ i j, x = .str i /\ y = .str j /\ i.length + j.length <= sizeLine /\ Q (.str (i ++ j)) H) x y H Q \/ rCatS K x y H Q \/ rCatA K x y H Q \/ (fun x y H Q => ∃ i j, x = .byt i /\ y = .byt j /\ i.size + j.size <= 16777216 /\ Q (.byt (i ++ j)) H) x y H Q
theorem op_addAll : OpR X (binaryOp .Add) (rAddAll X.K) := op_add.or (op_add_str.or (op_catS.or (op_catA.or op_add_byt)))
theorem lop_add : LOp K cl (rAddAll K) addD := by
  intro F H M x y d e z Q Qd g hx hy h p q
  cases d with
  | int i =>
    cases e with
    | int j =>
      cases h
      obtain rfl := hx.int; obtain rfl := hy.int
      exact .inl ⟨i, j, rfl, rfl, p.val g (.int _) q⟩
    | _ => cases h
  | str i =>
    cases e with
    | str j =>
      simp only [addD] at h
      split at h
      · cases h
        obtain rfl := hx.str; obtain rfl := hy.str
        exact .inr (.inl ⟨i, j, rfl, rfl, by assumption, p.val g (.str _) q⟩)
      · cases h
    | _ => cases h
  | lst ds =>
    cases e with
    | lst es =>
      simp only [addD] at h
      split at h
      · cases h
        obtain ⟨a, vs, rfl, h1, h2⟩ := hx.lst g.sub
        obtain ⟨b, us, rfl, h3, h4⟩ := hy.lst g.sub
        exact .inr (.inr (.inl ⟨a, b, vs, us, rfl, rfl, h1, h3, by rw [h2.length, h4.length]; assumption, fun c hc => p.newL g (h2.append h4) q hc⟩))
      · cases h
    | _ => cases h
  | tup ds =>
    cases e with
    | tup es =>
      simp only [addD] at h
      split at h
      · cases h
        rcases hx with hx | ⟨_, _, hx⟩
        · rcases hy with hy | ⟨_, _, hy⟩
          · obtain ⟨a, vs, rfl, h1, h2⟩ := hx.toTup
            obtain ⟨b, us, rfl, h3, h4⟩ := hy.toTup
            refine .inr (.inr (.inr (.inl ⟨a, b, vs, us, rfl, rfl, same_t g.sub h1, same_t g.sub h3, by rw [h2.length, h4.length]; assumption, fun e => ?_, fun _ e => ?_, fun _ _ c hc => p.newT g (h2.append h4) q hc⟩)))
            · subst e
              cases h2
              exact p.val g hy q
            · subst e
              cases h4
              rw [List.append_nil] at q
              exact p.val g hx q
          · exact hy.elim
        · exact hx.elim
      · cases h
    | _ => cases h
  | byt i =>
    cases e with
    | byt j =>
      simp only [addD] at h
      split at h
      · cases h
        obtain rfl := hx.byt; obtain rfl := hy.byt
        exact .inr (.inr (.inr (.inr ⟨i, j, rfl, rfl, by assumption, p.val g (.byt _) q⟩)))
      · cases h
    | _ => cases h
  | _ => cases h
theorem lop_sub : LOp K cl (rI0 fun i j => .int (i - j)) subD := by
  intro F H M x y d e z Q Qd g hx hy h p q
  cases d <;> cases e <;> first | (cases h; obtain rfl := hx.int; obtain rfl := hy.int; exact ⟨_, _, rfl, rfl, p.val g (.int _) q⟩) | cases h
theorem lop_mul : LOp K cl (rI CMul fun i j => .int (i * j)) mulD := by
  intro F H M x y d e z Q Qd g hx hy h p q
  cases d <;> cases e <;> first | (simp only [mulD] at h; split at h <;> first | (cases h; obtain rfl := hx.int; obtain rfl := hy.int; exact ⟨_, _, rfl, rfl, (by assumption), p.val g (.int _) q⟩) | cases h) | cases h
theorem cdivW_of {i j : Int} (h : 0 < j /\ j < 2 ^ 200) : CDivW i j := by
  refine wide_div (b := 200) h.1 ?_ (by decide) (by decide)
  have h2 : ((j.natAbs : Nat) : Int) < ((2 ^ 200 : Nat) : Int) := by
    rw [Int.natAbs_of_nonneg (Int.le_of_lt h.1)]
    exact_mod_cast h.2
  exact Int.ofNat_lt.mp h2
theorem lop_fdiv : LOp K cl (rI CDivW fun i j => .int (i / j)) fdivD := by
  intro F H M x y d e z Q Qd g hx hy h p q
  cases d with
  | int i =>
    cases e with
    | int j =>
      simp only [fdivD] at h
      split at h
      · cases h
        obtain rfl := hx.int; obtain rfl := hy.int
        exact ⟨i, j, rfl, rfl, cdivW_of (by assumption), p.val g (.int _) q⟩
      · cases h
    | _ => cases h
  | _ => cases h
theorem lop_mod : LOp K cl (rI (fun _ j => 0 < j) fun i j => .int (i % j)) modD := by
  intro F H M x y d e z Q Qd g hx hy h p q
  cases d with
  | int i =>
    cases e with
    | int j =>
      simp only [modD] at h
      split at h
      · cases h
        obtain rfl := hx.int; obtain rfl := hy.int
        exact ⟨i, j, rfl, rfl, by assumption, p.val g (.int _) q⟩
      · cases h
    | _ => cases h
  | _ => cases h
theorem lop_pow : LOp K cl (rI CPow fun i j => .int (i ^ j.toNat)) powD := by
  intro F H M x y d e z Q Qd g hx hy h p q
  cases d with
  | int i =>
    cases e with
    | int j =>
      simp only [powD] at h
      split at h
      · cases h
        obtain rfl := hx.int; obtain rfl := hy.int
        exact ⟨i, j, rfl, rfl, by assumption, p.val g (.int _) q⟩
      · cases h
    | _ => cases h
  | _ => cases h
theorem lop_cmp (k : Int -> Int -> Bool) : LOp K cl (rI0 fun i j => .bl (k i j)) (cmpD k) := by
  intro F H M x y d e z Q Qd g hx hy h p q
  cases d with
  | int i =>
    cases e with
    | int j =>
      cases h
      obtain rfl := hx.int; obtain rfl := hy.int
      exact ⟨i, j, rfl, rfl, p.val g (.bl _) q⟩
    | _ => cases h
  | _ => cases h
abbrev leD := cmpD fun i j => decide (i <= j)
abbrev gtD := cmpD fun i j => decide (j < i)
abbrev geD := cmpD fun i j => decide (j <= i)
theorem lun_neg : LUn K cl (rU fun i => .int (-i)) negD := by
  intro F H M x d z Q Qd g hx h p q
  cases d with
  | int i =>
    cases h
    obtain rfl := hx.int
    exact ⟨i, rfl, p.val g (.int _) q⟩
  | _ => cases h
theorem Vw.ne_non {F H : Hp} {v : V} {d : D} (h : Vw K cl F H v d) (hd : d ≠ .non) : v ≠ .non := by
  intro e
  subst e
  rcases h with h | ⟨a, e, _⟩
  · cases h; exact hd rfl
  · cases e
theorem lop_notN : LOp K cl (fun x y H Q => y = .non /\ Q (.bl (!decide (x = .non))) H) notNonD := by
  intro F H M x y d e z Q Qd g hx hy h p q
  cases e with
  | non =>
    refine ⟨hy.non, ?_⟩
    by_cases hd : d = .non
    · subst hd
      cases h
      obtain rfl := hx.non
      rw [decide_eq_true rfl]
      exact p.val g (.bl _) q
    · have hz : z = .bl true := by cases d <;> first | exact absurd rfl hd | (cases h; rfl)
      subst hz
      rw [decide_eq_false (hx.ne_non hd)]
      exact p.val g (.bl _) q
  | _ => cases d <;> cases h
def ixD : D -> D -> Option D
  | .lst xs, .int i => atI xs i
  | .tup xs, .int i => atI xs i
  | .str z, .int i => if z.length <= sizeLine then (atI z.cps.toList i).map fun c => .str ⟨#[c]⟩ else none
  | _, _ => none
theorem reps_atI {F : Hp} {vs : List V} {ds : List D} {i : Int} {d : D} (r : Reps K cl F vs ds) (h : atI ds i = some d) : ∃ v, atI vs i = some v /\ Rep K cl F v d := by
  unfold atI at h ⊢
  rw [r.length]
  cases e : ixN ds.length i with
  | none => rw [e] at h; cases h
  | some j =>
    rw [e] at h
    exact r.get h
theorem lix : LOp K cl (rIx K) ixD := by
  intro F H M x y d e z Q Qd g hx hy h p q
  cases d with
  | lst ds =>
    cases e with
    | int i =>
      obtain rfl := hy.int
      obtain ⟨a, vs, rfl, h1, h2⟩ := hx.lst g.sub
      obtain ⟨v, h3, h4⟩ := reps_atI h2 h
      exact .inl ⟨a, vs, i, v, rfl, rfl, h1, h3, p.val g h4 q⟩
    | _ => cases h
  | tup ds =>
    cases e with
    | int i =>
      obtain rfl := hy.int
      obtain ⟨a, vs, rfl, h1, h2⟩ := hx.tup g.sub
      obtain ⟨v, h3, h4⟩ := reps_atI h2 h
      exact .inr (.inl ⟨a, vs, i, v, rfl, rfl, h1, h3, p.val g h4 q⟩)
    | _ => cases h
  | str w =>
    cases e with
    | int i =>
      obtain rfl := hy.int
      obtain rfl := hx.str
      simp only [ixD] at h
      split at h
      · rename_i hl
        cases e1 : atI w.cps.toList i with
        | none => rw [e1] at h; cases h
        | some c =>
          rw [e1] at h
          cases h
          exact .inr (.inr ⟨w, i, c, rfl, rfl, hl, e1, p.val g (.str _) q⟩)
      · cases h
    | _ => cases h
  | _ => cases h
variable {W : WX} {a b e : Expr} {pos : Pos} {τ τa τb : DTE}
structure DO (cl : ClW) (X : Cx) (W : WX) (e : Option Expr) (τ : DTO) : Prop where
  po : PO X e (fun σ H Q => ∃ F ρ M Qd Xd, Good X.K cl F H M /\ Slots X.K cl F σ ρ /\ τ ρ M Qd Xd /\ (∀ o H' F' M', Same F F' -> Good X.K cl F' H' M' -> Qd o M' -> Q o H') /\ WOk X.K cl W F Xd)
theorem do_none : DO cl X W none dNoPart := ⟨⟨fun pins s σ H Q I ⟨F, ρ, M, Qd, Xd, g, sl, t, p, w⟩ => po_none.run pins s σ H Q I (p none H F M (Same.refl F) g t)⟩⟩
theorem do_some (h : DE cl X W e τ) : DO cl X W (some e) (dPart τ) := ⟨⟨fun pins s σ H Q I ⟨F, ρ, M, Qd, Xd, g, sl, t, p, w⟩ => (po_some h.pe).run pins s σ H Q I
  ⟨F, ρ, M, _, Xd, g, sl, t, fun v H' F' d M' sm g' r ⟨i, e1, q⟩ => by subst e1; exact ⟨i, r.toInt, p _ _ _ _ sm g' q⟩, w⟩⟩⟩
def cutD (xs : List D) (lo hi : Option Int) : List D := (xs.drop (HT.sIx xs.length 0 lo)).take (HT.sIx xs.length xs.length hi - HT.sIx xs.length 0 lo)
def slD : D -> Option Int -> Option Int -> Option D
  | .lst xs, lo, hi => some (.lst (cutD xs lo hi))
  | .tup xs, lo, hi => some (.tup (cutD xs lo hi))
  | .str z, lo, hi => if z.length <= sizeLine then some (.str (cutS z lo hi)) else none
  | _, _, _ => none
theorem reps_cut {F : Hp} {vs : List V} {ds : List D} (r : Reps K cl F vs ds) (lo hi : Option Int) : Reps K cl F (cutV vs lo hi) (cutD ds lo hi) := by
  unfold cutV cutD
  rw [r.length]
  exact (r.drop _).take _
theorem cutD_whole {xs : List D} {lo hi : Option Int} (h : HT.sIx xs.length 0 lo = 0 /\ HT.sIx xs.length xs.length hi = xs.length) : cutD xs lo hi = xs := by
  unfold cutD
  rw [h.1, h.2]
  simp
theorem d_slice {lo hi : Option Expr} {τl τh : DTO} {p2 : Pos} (he : DE cl X W e τ) (hl : DO cl X W lo τl) (hu : DO cl X W hi τh) : DE cl X W (.Subscript e (.Slice lo hi none p2) pos) (dSl slD τ τl τh) :=
  ⟨pe_imp (pe_slice (sl_list.or (sl_tupA.or sl_str)) he.pe hl.po hu.po) fun σ H Q ⟨F, ρ, M, Qd, Xd, g, s, t, p, w⟩ =>
    ⟨F, ρ, M, _, Xd, g, s, t, fun v H1 F1 d M1 sm1 g1 r1 q1 => ⟨F1, ρ, M1, _, Xd, g1, s.mono sm1, q1, fun l H2 F2 M2 sm2 g2 q2 => ⟨F2, ρ, M2, _, Xd, g2, s.mono (sm1.trans sm2), q2, fun h H3 F3 M3 sm3 g3 q3 => (by
      obtain ⟨z, e1, e2⟩ := q3
      have hv := vw_ok g3 (r1.mono (sm2.trans sm3))
      have p' := p.mono ((sm1.trans sm2).trans sm3)
      cases hd : vw M3 d with
      | lst ds =>
        rw [hd] at hv e1
        cases e1
        obtain ⟨a, vs, rfl, h1, h2⟩ := hv.lst g3.sub
        exact .inl ⟨a, vs, rfl, h1, fun c hc => p'.newL g3 (reps_cut h2 l h) e2 hc⟩
      | tup ds =>
        rw [hd] at hv e1
        cases e1
        rcases hv with hv | ⟨_, _, hv⟩
        · obtain ⟨a, vs, rfl, h1, h2⟩ := hv.toTup
          refine .inr (.inl ⟨a, vs, rfl, same_t g3.sub h1, fun hw => ?_, fun _ c hc => p'.newT g3 (reps_cut h2 l h) e2 hc⟩)
          rw [h2.length] at hw
          rw [cutD_whole hw] at e2
          exact p'.val g3 hv e2
        · exact hv.elim
      | str w =>
        rw [hd] at hv e1
        simp only [slD] at e1
        split at e1
        · cases e1
          exact .inr (.inr ⟨w, hv.str, by assumption, p'.val g3 (.str _) e2⟩)
        · cases e1
      | _ =>
        rw [hd] at e1
        cases e1), w.mono (sm1.trans sm2)⟩, w.mono sm1⟩, w⟩⟩
end
end DL
set_option Elab.async false
set_option linter.all false
set_option maxRecDepth 100000
set_option maxHeartbeats 2000000
namespace DL
open PySem L2
@[simp] def dNext : DTS := fun E ρ M => E.nx ρ M
@[simp] def dSeq (t u : DTS) : DTS := fun E ρ M => t { E with nx := u E } ρ M
@[simp] def dIf (υ : DTT) (t u : DTS) : DTS := fun E ρ M => υ ρ M (fun b M1 => if b = true then t E ρ M1 else u E ρ M1) E.ex
@[simp] def dRet (τ : DTE) : DTS := fun E ρ M => τ ρ M E.rt E.ex
@[simp] def dRetN : DTS := fun E _ M => E.rt .non M
@[simp] def dDrop (τ : DTE) : DTS := fun E ρ M => τ ρ M (fun _ M1 => E.nx ρ M1) E.ex
@[simp] def dBrk : DTS := fun E ρ M => E.bk ρ M
@[simp] def dCnt : DTS := fun E ρ M => E.ct ρ M
@[simp] def dNever : DTS := fun _ _ _ => False
abbrev DTG := D -> Env -> Mem -> (Env -> Mem -> Prop) -> DX -> Prop
abbrev DTGs := List D -> Env -> Mem -> (Env -> Mem -> Prop) -> DX -> Prop
@[simp] def gN (i : Nat) : DTG := fun d ρ M Q _ => Q (ρ.set i (some d)) M
@[simp] def gsNil : DTGs := fun ds ρ M Q _ => ds = [] /\ Q ρ M
@[simp] def gsCons (γ : DTG) (γs : DTGs) : DTGs := fun ds ρ M Q X => ∃ d r, ds = d :: r /\ γ d ρ M (fun ρ1 M1 => γs r ρ1 M1 Q X) X
@[simp] def gT (n : Nat) (γs : DTGs) : DTG := fun d ρ M Q X => ∃ ds, (vw M d = .tup ds \/ vw M d = .lst ds) /\ ds.length = n /\ γs ds ρ M Q X
@[simp] def gSubL (τo τi : DTE) : DTG := fun d ρ M Q X => τo ρ M (fun o M1 => τi ρ M1 (fun i M2 => ∃ a xs k j, o = .ref a /\ M2 a = some (.lst xs) /\ i = .int k /\ ixN xs.length k = some j /\ Q ρ (updM M2 a (.lst (xs.set j d)))) X) X
@[simp] def dAsg (τ : DTE) (γ : DTG) : DTS := fun E ρ M => τ ρ M (fun d M1 => γ d ρ M1 E.nx E.ex) E.ex
@[simp] def dPar (i j : Nat) (α : DTA) : DTS := fun E ρ M => α ρ M (fun ds M1 => ∃ d e, ds = [d, e] /\ E.nx ((ρ.set i (some d)).set j (some e)) M1) E.ex
@[simp] def dPar3 (i j l : Nat) (α : DTA) : DTS := fun E ρ M => α ρ M (fun ds M1 => ∃ d e f, ds = [d, e, f] /\ E.nx (((ρ.set i (some d)).set j (some e)).set l (some f)) M1) E.ex
@[simp] def dAug (i : Nat) (f : D -> D -> Option D) (τ : DTE) : DTS := fun E ρ M => ∃ d, ρ[i]? = some (some d) /\ τ ρ M (fun e M1 => ∃ z, f d (vw M1 e) = some z /\ E.nx (ρ.set i (some z)) M1) E.ex
@[simp] def augI : D -> D -> Option D
  | .int i, .int j => some (.int (i + j))
  | _, _ => none
def dWhile (υ : DTT) (t : DTS) : DTS := fun E ρ M => ∃ Wd : Nat -> Env -> Mem -> Prop, (∃ m, Wd m ρ M) /\ ∀ m ρ M, Wd m ρ M ->
  υ ρ M (fun b M1 => if b = true then ∃ N : Env -> Mem -> Prop, (∀ ρ' M', N ρ' M' -> ∃ m', m' < m /\ Wd m' ρ' M') /\ t { E with nx := N, ct := N, bk := E.nx } ρ M1 else E.nx ρ M1) E.ex
def forD (γ : DTG) (t : DTS) : List D -> DTS
  | [] => fun E ρ M => E.nx ρ M
  | x :: xs => fun E ρ M => γ x ρ M (fun ρ2 M2 => t { E with nx := forD γ t xs E, ct := forD γ t xs E, bk := E.nx } ρ2 M2) E.ex
abbrev DTI := Env -> Mem -> (List D -> Mem -> Prop) -> DX -> Prop
def dFor (ι : DTI) (γ : DTG) (t : DTS) : DTS := fun E ρ M => ι ρ M (fun xs M1 => forD γ t xs E ρ M1) E.ex
def noX : DX := fun _ _ _ _ _ => False
@[simp] def wipeD (ρ : Env) : List Nat -> Env
  | [] => ρ
  | v :: vs => (wipeD ρ vs).set v none
def lcD (γ : DTG) (υ : DTT) (τ : DTE) (vs : List Nat) (a : Addr) : List D -> Env -> Mem -> DV -> Prop
  | [] => fun _ M Q => ∃ ds, M a = some (.lst ds) /\ Q (.lst ds) (delM M a)
  | x :: xs => fun ρ M Q => γ x (wipeD ρ vs) M (fun ρ2 M2 => υ ρ2 M2 (fun b M3 => if b = true then τ ρ2 M3 (fun d M4 => ∃ acc, M4 a = some (.lst acc) /\ acc.length < sizeLine /\ lcD γ υ τ vs a xs ρ (updM M4 a (.lst (acc ++ [d]))) Q) noX else lcD γ υ τ vs a xs ρ M3 Q) noX) noX
def dLc (ι : DTI) (γ : DTG) (υ : DTT) (τ : DTE) (vs : List Nat) : DTE := fun ρ M Q X => ι ρ M (fun xs M1 => ∀ a, M1 a = none -> lcD γ υ τ vs a xs ρ (updM M1 a (.lst [])) Q) X
@[simp] def dYes : DTT := fun _ M Q _ => Q true M
section
variable {cl : ClW} {X : Cx} {W : WX} {a b e c : Expr} {es : List Expr} {st : Stmt} {sts sts' : List Stmt} {pos : Pos} {τ τa τb τc : DTE} {υ : DTT} {α : DTA} {t u : DTS}
theorem dss_nil : DSs cl X W [] dNext := ⟨pss_imp pss_nil fun D σ H ⟨F, ρ, M, E, g, s, q, ok⟩ => ok.nx σ H F ρ M (Same.refl F) g s q⟩
theorem dss_cons (h1 : DS cl X W st t) (h2 : DSs cl X W sts u) : DSs cl X W (st :: sts) (dSeq t u) := ⟨pss_imp (pss_cons h1.ps h2.pss) fun D σ H ⟨F, ρ, M, E, g, s, q, ok⟩ =>
  ⟨F, ρ, M, { E with nx := u E }, g, s, q, ⟨fun σ' H' F' ρ' M' sm g' s' q' => ⟨F', ρ', M', E, g', s', q', ok.mono sm⟩, ok.rt, ok.bk, ok.ct, ok.ex⟩⟩⟩
theorem dss_one (h1 : DS cl X W st t) : DSs cl X W [st] t := ⟨pss_one h1.ps⟩
theorem ds_if (h : DT cl X W c υ) (h1 : DSs cl X W sts t) (h2 : DSs cl X W sts' u) : DS cl X W (.If c sts sts' pos) (dIf υ t u) := ⟨ps_imp (ps_if h.pt h1.pss h2.pss) fun D σ H ⟨F, ρ, M, E, g, s, q, ok⟩ =>
  ⟨F, ρ, M, _, E.ex, g, s, q, fun k H' F' M' sm g' q' => by
    cases k with
    | true => rw [if_pos rfl] at q' ⊢; exact ⟨F', ρ, M', E, g', s.mono sm, q', ok.mono sm⟩
    | false => rw [if_neg Bool.false_ne_true] at q' ⊢; exact ⟨F', ρ, M', E, g', s.mono sm, q', ok.mono sm⟩, ok.ex⟩⟩
theorem ds_ret (h : DE cl X W e τ) : DS cl X W (.Return (some e) pos) (dRet τ) := ⟨ps_imp (ps_ret h.pe) fun D σ H ⟨F, ρ, M, E, g, s, q, ok⟩ => ⟨F, ρ, M, _, E.ex, g, s, q, ok.rt, ok.ex⟩⟩
theorem ds_expr (h : DE cl X W e τ) (hs : swapsWith e none pos.line X.env = pure false := by rfl) : DS cl X W (.Expr e pos) (dDrop τ) := ⟨ps_imp (ps_expr h.pe hs) fun D σ H ⟨F, ρ, M, E, g, s, q, ok⟩ =>
  ⟨F, ρ, M, _, E.ex, g, s, q, fun v H' F' d M' sm g' r q' => ok.nx _ _ _ _ _ sm g' (s.mono sm) q', ok.ex⟩⟩
structure DG (cl : ClW) (X : Cx) (W : WX) (tg : Expr) (is : List Nat) (γ : DTG) : Prop where
  pg : PG X tg (fun v σ H Q => ∃ F ρ M d Qd Xd, Good X.K cl F H M /\ Slots X.K cl F σ ρ /\ Rep X.K cl F v d /\ γ d ρ M Qd Xd /\ (∀ σ' H' F' ρ' M', Same F F' -> Good X.K cl F' H' M' -> Slots X.K cl F' σ' ρ' -> (∀ vs : List Nat, (∀ i ∈ is, i ∈ vs) -> wipe σ' vs = wipe σ vs) -> Qd ρ' M' -> Q σ' H') /\ WOk X.K cl W F Xd)
structure DGs (cl : ClW) (X : Cx) (W : WX) (tgs : List Expr) (is : List Nat) (γs : DTGs) : Prop where
  pgs : PGs X tgs (fun vs σ H Q => ∃ F ρ M ds Qd Xd, Good X.K cl F H M /\ Slots X.K cl F σ ρ /\ Reps X.K cl F vs ds /\ γs ds ρ M Qd Xd /\ (∀ σ' H' F' ρ' M', Same F F' -> Good X.K cl F' H' M' -> Slots X.K cl F' σ' ρ' -> (∀ vs : List Nat, (∀ i ∈ is, i ∈ vs) -> wipe σ' vs = wipe σ vs) -> Qd ρ' M' -> Q σ' H') /\ WOk X.K cl W F Xd)
theorem pg_imp {tg : Expr} {t t' : TG} (h : PG X tg t) (i : ∀ v σ H Q, t' v σ H Q -> t v σ H Q) : PG X tg t' := ⟨fun pins s σ H v u Q I r q => h.run pins s σ H v u Q I r (i v σ H Q q)⟩
theorem pgs_imp {tg : List Expr} {t t' : TGs} (h : PGs X tg t) (i : ∀ v σ H Q, t' v σ H Q -> t v σ H Q) : PGs X tg t' := ⟨fun pins s σ H v u Q I r q => h.run pins s σ H v u Q I r (i v σ H Q q)⟩
theorem wipe_set {σ : St} {i : Nat} {x : Option V} : ∀ {vs : List Nat}, i ∈ vs -> wipe (σ.set i x) vs = wipe σ vs
  | v :: vs, h => by
    unfold wipe
    by_cases e : i ∈ vs
    · rw [wipe_set e]
    · have e2 : i = v := by
        rcases List.mem_cons.mp h with h | h
        · exact h
        · exact absurd h e
      subst e2
      have : ∀ (vs : List Nat), i ∉ vs -> wipe (σ.set i x) vs = (wipe σ vs).set i x := by
        intro vs
        induction vs with
        | nil => intro _; rfl
        | cons w ws ih =>
          intro hn
          have h1 : i ≠ w := fun z => hn (z ▸ List.mem_cons_self)
          have h2 : i ∉ ws := fun z => hn (List.mem_cons_of_mem _ z)
          show (wipe (σ.set i x) ws).set w none = ((wipe σ ws).set w none).set i x
          rw [ih h2, List.set_comm _ _ h1]
      rw [this vs e, List.set_set]
theorem dg_name {x : Str} (i : Nat) (hN : X.N.Nodup) (hi : X.N[i]? = some x := by rfl) (hx : Loc X.env.scope x := by first | exact Or.inl rfl | exact Or.inr rfl) (hf : X.fn x = true \/ X.env.scope.names.lookup x = some .local := by first | exact .inl rfl | exact .inr rfl) : DG cl X W (.Name x pos) [i] (gN i) :=
  ⟨pg_imp (pg_name hN hi hx hf) fun v σ H Q ⟨F, ρ, M, d, Qd, Xd, g, s, r, q, p, w⟩ => p _ _ F _ M (Same.refl F) g (s.set i r) (fun vs h => wipe_set (h i (List.mem_singleton.mpr rfl))) q⟩
theorem dgs_nil : DGs cl X W [] [] gsNil := ⟨pgs_imp pgs_nil fun v σ H Q ⟨F, ρ, M, d, Qd, Xd, g, s, r, ⟨e1, q⟩, p, w⟩ => by
  subst e1
  exact ⟨r.inv0, p _ _ F _ M (Same.refl F) g s (fun _ _ => rfl) q⟩⟩
theorem dgs_cons {tgs : List Expr} {is js : List Nat} {γ : DTG} {γs : DTGs} (h1 : DG cl X W e is γ) (h2 : DGs cl X W tgs js γs) (hs : (assignEach (e :: tgs) X.env).map (·.2) = assign e X.env :: (assignEach tgs X.env).map (·.2) := by rfl) : DGs cl X W (e :: tgs) (is ++ js) (gsCons γ γs) :=
  ⟨pgs_imp (pgs_cons h1.pg h2.pgs hs) fun vs σ H Q ⟨F, ρ, M, ds, Qd, Xd, g, s, r, ⟨d, rest, e1, q⟩, p, w⟩ => by
    subst e1
    obtain ⟨v, ws, rfl, r1, r2⟩ := r.inv
    refine ⟨v, ws, rfl, F, ρ, M, d, _, Xd, g, s, r1, q, fun σ1 H1 F1 ρ1 M1 sm1 g1 s1 w1 q1 => ?_, w⟩
    refine ⟨F1, ρ1, M1, rest, Qd, Xd, g1, s1, r2.mono sm1, q1, fun σ2 H2 F2 ρ2 M2 sm2 g2 s2 w2 q2 => ?_, w.mono sm1⟩
    exact p _ _ _ _ _ (sm1.trans sm2) g2 s2 (fun vs hv => (w2 vs fun i hi => hv i (List.mem_append_right _ hi)).trans (w1 vs fun i hi => hv i (List.mem_append_left _ hi))) q2⟩
def gTL (K : PySem.W.Frag) (n : Nat) (t : TGs) : TG := fun v σ H Q => gTup K n t v σ H Q \/ gLst K n t v σ H Q
theorem pg_tl {k : Nat} {t : TGs} {n : Nat} (hc : X.calm = true) (h : PGs X es t) (hn : (assignEach es X.env).length = n := by rfl) (hst : (assignEach es X.env).findIdx? (·.1) = none := by rfl) : PG X (.Tuple es k pos) (gTL X.K n t) :=
  ⟨fun pins s σ H v u Q I r q => q.elim (fun q => (pg_tup hc h hn hst).run pins s σ H v u Q I r q) fun q => (pg_lst hc h hn hst).run pins s σ H v u Q I r q⟩
theorem dg_tup {k n : Nat} {is : List Nat} {γs : DTGs} (hc : X.calm = true) (h : DGs cl X W es is γs) (hn : (assignEach es X.env).length = n := by rfl) (hst : (assignEach es X.env).findIdx? (·.1) = none := by rfl) : DG cl X W (.Tuple es k pos) is (gT n γs) :=
  ⟨pg_imp (pg_tl hc h.pgs hn hst) fun v σ H Q ⟨F, ρ, M, d, Qd, Xd, g, s, r, ⟨ds, e1, e2, q⟩, p, w⟩ => by
    have hv := vw_ok g r
    rcases e1 with e1 | e1
    · rw [e1] at hv
      obtain ⟨a, vs, rfl, h1, h2⟩ := hv.tup g.sub
      exact .inl ⟨a, vs, rfl, h1, by rw [h2.length]; exact e2, F, ρ, M, ds, Qd, Xd, g, s, h2, q, p, w⟩
    · rw [e1] at hv
      obtain ⟨a, vs, rfl, h1, h2⟩ := hv.lst g.sub
      exact .inr ⟨a, vs, rfl, h1, by rw [h2.length]; exact e2, F, ρ, M, ds, Qd, Xd, g, s, h2, q, p, w⟩⟩
theorem dg_subL {o i : Expr} {τo τi : DTE} (ho : DE cl X W o τo) (hi : DE cl X W i τi) (ha : ∀ v, assign (.Subscript o i pos) X.env v = (do
      let ov <- holding [v] (eval o X.env)
      let iv <- holding [v, ov] (eval i X.env)
      standAt pos
      holding [v, ov, iv] (setItem ov iv v)
      release [v, ov, iv] []) := by intro _; rfl) : DG cl X W (.Subscript o i pos) [] (gSubL τo τi) :=
  ⟨pg_imp (pg_sub ho.pe hi.pe set_list ha) fun v σ H Q ⟨F, ρ, M, d, Qd, Xd, g, s, r, q, p, w⟩ =>
    ⟨F, ρ, M, _, Xd, g, s, q, fun x H1 F1 od M1 sm1 g1 r1 q1 => ⟨F1, ρ, M1, _, Xd, g1, s.mono sm1, q1, fun y H2 F2 jd M2 sm2 g2 r2 q2 => (by
      obtain ⟨a, xs, k, j, e1, e2, e3, e4, e5⟩ := q2
      subst e1 e3
      obtain rfl := r1.toRef
      obtain rfl := r2.toInt
      obtain ⟨hF, vs, h1, h2⟩ := g2.cell a _ e2
      refine ⟨a, vs, k, j, rfl, rfl, h1, by rw [h2.length]; exact e4, ?_⟩
      exact p _ _ F2 ρ _ (sm1.trans sm2) (g2.put (d := .lst (xs.set j d)) e2 ⟨vs.set j v, upd_same, h2.set (r.mono (sm1.trans sm2)) j⟩) (s.mono (sm1.trans sm2)) (fun _ _ => rfl) e5), w.mono sm1⟩, w⟩⟩
theorem ds_asg {tg : Expr} {is : List Nat} {γ : DTG} (he : DE cl X W e τ) (hg : DG cl X W tg is γ) (hs : swapsWithSole [tg] e pos.line X.env = pure false := by rfl) (hw : swappedStores [tg] e X.env = pure none := by rfl)
    (h1 : (assignEach [tg] X.env).map (·.2) = [assign tg X.env] := by rfl) : DS cl X W (.Assign [tg] e pos) (dAsg τ γ) := ⟨ps_imp (ps_asg he.pe hg.pg hs hw h1) fun D σ H ⟨F, ρ, M, E, g, s, q, ok⟩ =>
  ⟨F, ρ, M, _, E.ex, g, s, q, fun v H' F' d M' sm g' r q' => ⟨F', ρ, M', d, E.nx, E.ex, g', s.mono sm, r, q', fun σ2 H2 F2 ρ2 M2 sm2 g2 s2 _ q2 => ok.nx _ _ _ _ _ (sm.trans sm2) g2 s2 q2, ok.ex.mono sm⟩, ok.ex⟩⟩
theorem ds_set {x : Str} {pos' : Pos} (i : Nat) (hN : X.N.Nodup) (he : DE cl X W e τ) (hi : X.N[i]? = some x := by rfl) (hx : Loc X.env.scope x := by first | exact Or.inl rfl | exact Or.inr rfl) (hs : swapsWith e (some (.Name x pos')) pos.line X.env = pure false := by rfl) (hf : X.fn x = true \/ X.env.scope.names.lookup x = some .local := by first | exact .inl rfl | exact .inr rfl) :
    DS cl X W (.Assign [.Name x pos'] e pos) (dAsg τ (gN i)) := ⟨ps_imp (ps_set hN hi hx he.pe hs hf) fun D σ H ⟨F, ρ, M, E, g, s, q, ok⟩ =>
  ⟨F, ρ, M, _, E.ex, g, s, q, fun v H' F' d M' sm g' r q' => ok.nx _ _ _ _ _ sm g' ((s.mono sm).set i r) q', ok.ex⟩⟩
theorem ds_par {i j : Nat} {x y : Str} {px py pt : Pos} {kt k2 pt2} (hc : X.calm = true) (hN : X.N.Nodup) (ha : DA cl X W [a, b] α) (hi : X.N[i]? = some x := by rfl) (hj : X.N[j]? = some y := by rfl) (hij : i ≠ j := by decide)
    (hx : X.env.scope.names.lookup x = some .local := by rfl) (hy : X.env.scope.names.lookup y = some .local := by rfl)
    (hw : swappedStores [.Tuple [.Name x px, .Name y py] kt pt] (.Tuple [a, b] k2 pt2) X.env = pure (some [x, y]) := by rfl)
    (hs : swapsWithSole [.Tuple [.Name x px, .Name y py] kt pt] (.Tuple [a, b] k2 pt2) pos.line X.env = pure false := by rfl) :
    DS cl X W (.Assign [.Tuple [.Name x px, .Name y py] kt pt] (.Tuple [a, b] k2 pt2) pos) (dPar i j α) := ⟨ps_imp (ps_par hc hN hi hj hij hx hy ha.pa hw hs) fun D σ H ⟨F, ρ, M, E, g, s, q, ok⟩ =>
  ⟨F, ρ, M, _, E.ex, g, s, q, fun vs H' F' ds M' sm g' r q' => by
    obtain ⟨d, e, e1, q'⟩ := q'
    subst e1
    obtain ⟨v, ws, rfl, r1, r2⟩ := r.inv
    obtain ⟨v2, ws, rfl, r3, r4⟩ := r2.inv
    obtain rfl := r4.inv0
    exact ⟨v, v2, rfl, ok.nx _ _ _ _ _ sm g' (((s.mono sm).set i r1).set j r3) q'⟩, ok.ex⟩⟩
theorem ds_par3 {i j l : Nat} {x y z : Str} {px py pz pt : Pos} {kt k2 pt2} (hc : X.calm = true) (hN : X.N.Nodup) (ha : DA cl X W [a, b, c] α) (hi : X.N[i]? = some x := by rfl) (hj : X.N[j]? = some y := by rfl) (hl : X.N[l]? = some z := by rfl) (hij : i ≠ j := by decide) (hil : i ≠ l := by decide) (hjl : j ≠ l := by decide)
    (hx : X.env.scope.names.lookup x = some .local := by rfl) (hy : X.env.scope.names.lookup y = some .local := by rfl) (hz : X.env.scope.names.lookup z = some .local := by rfl)
    (hw : swappedStores [.Tuple [.Name x px, .Name y py, .Name z pz] kt pt] (.Tuple [a, b, c] k2 pt2) X.env = pure (some [x, y, z]) := by rfl)
    (hs : swapsWithSole [.Tuple [.Name x px, .Name y py, .Name z pz] kt pt] (.Tuple [a, b, c] k2 pt2) pos.line X.env = pure false := by rfl) :
    DS cl X W (.Assign [.Tuple [.Name x px, .Name y py, .Name z pz] kt pt] (.Tuple [a, b, c] k2 pt2) pos) (dPar3 i j l α) := ⟨ps_imp (ps_par3 hc hN hi hj hl hij hil hjl hx hy hz ha.pa hw hs) fun D σ H ⟨F, ρ, M, E, g, s, q, ok⟩ =>
  ⟨F, ρ, M, _, E.ex, g, s, q, fun vs H' F' ds M' sm g' r q' => by
    obtain ⟨d, e, f, e1, q'⟩ := q'
    subst e1
    obtain ⟨v, ws, rfl, r1, r2⟩ := r.inv
    obtain ⟨v2, ws, rfl, r3, r4⟩ := r2.inv
    obtain ⟨v3, ws, rfl, r5, r6⟩ := r4.inv
    obtain rfl := r6.inv0
    exact ⟨v, v2, v3, rfl, ok.nx _ _ _ _ _ sm g' ((((s.mono sm).set i r1).set j r3).set l r5) q'⟩, ok.ex⟩⟩
theorem ds_while (hp : PassesOwn (model X.prog X.w) X.A X.env X.xe) (hc : DT cl X W c υ) (hb : DSs cl X W sts t) : DS cl X W (.While c sts [] pos) (dWhile υ t) := ⟨ps_imp (ps_while hp hc.pt hb.pss) fun D σ H ⟨F, ρ, M, E, g, s, ⟨Wd, ⟨m0, w0⟩, turn⟩, ok⟩ => by
  refine ⟨fun m σ H => ∃ F' ρ M, Same F F' /\ Good X.K cl F' H M /\ Slots X.K cl F' σ ρ /\ Wd m ρ M, ⟨m0, F, ρ, M, Same.refl F, g, s, w0⟩, ?_⟩
  rintro m σ1 H1 ⟨F1, ρ1, M1, sm1, g1, s1, w1⟩
  refine ⟨F1, ρ1, M1, _, E.ex, g1, s1, turn m ρ1 M1 w1, fun k H2 F2 M2 sm2 g2 q2 => ?_, ok.ex.mono sm1⟩
  cases k with
  | true =>
    rw [if_pos rfl] at q2 ⊢
    obtain ⟨N, hN, q2⟩ := q2
    refine ⟨fun σ' H' => ∃ F' ρ' M', Same F F' /\ Good X.K cl F' H' M' /\ Slots X.K cl F' σ' ρ' /\ N ρ' M', fun σ' H' ⟨F', ρ', M', sm', g', s', n'⟩ => ?_, ?_⟩
    · obtain ⟨m', hm, w'⟩ := hN ρ' M' n'
      exact ⟨m', hm, F', ρ', M', sm', g', s', w'⟩
    · refine ⟨F2, ρ1, M2, _, g2, s1.mono sm2, q2, ⟨fun σ' H' F' ρ' M' sm' g' s' q' => ⟨F', ρ', M', (sm1.trans sm2).trans sm', g', s', q'⟩, ok.rt.mono (sm1.trans sm2), ok.nx.mono (sm1.trans sm2), fun σ' H' F' ρ' M' sm' g' s' q' => ⟨F', ρ', M', (sm1.trans sm2).trans sm', g', s', q'⟩, ok.ex.mono (sm1.trans sm2)⟩⟩
  | false =>
    rw [if_neg Bool.false_ne_true] at q2 ⊢
    exact ok.nx _ _ _ _ _ (sm1.trans sm2) g2 (s1.mono sm2) q2⟩
def Walks (K : PySem.W.Frag) (cl : ClW) (J : It) (F : Hp) (xs : List D) : Prop := ∀ i F' H' M', Same F F' -> Good K cl F' H' M' ->
  (∀ d, xs[i]? = some d -> J.go i H' /\ ∀ x H3, J.yld i H' x H3 -> ∃ F3, Same F' F3 /\ Good K cl F3 H3 M' /\ Rep K cl F3 x d) /\ (xs.length <= i -> J.stop i H')
structure DI (cl : ClW) (X : Cx) (W : WX) (tg iter : Expr) (ι : DTI) : Prop where
  pi : PI X tg iter (fun σ H R => ∃ F ρ M Rd Xd, Good X.K cl F H M /\ Slots X.K cl F σ ρ /\ ι ρ M Rd Xd /\ (∀ J H' F' xs M', Same F F' -> Good X.K cl F' H' M' -> Walks X.K cl J F' xs -> Rd xs M' -> R J H') /\ WOk X.K cl W F Xd)
theorem pi_imp {tg it : Expr} {t t' : TI} (h : PI X tg it t) (i : ∀ σ H R, t' σ H R -> t σ H R) : PI X tg it t' := ⟨fun pins s σ H R I q => h.run pins s σ H R I (i σ H R q)⟩
@[simp] def iL (τ : DTE) : DTI := fun ρ M R X => τ ρ M (fun d M1 => ∃ xs, d = .lst xs /\ R xs M1) X
@[simp] def iT (τ : DTE) : DTI := fun ρ M R X => τ ρ M (fun d M1 => ∃ xs, d = .tup xs /\ R xs M1) X
@[simp] def iR1 (τ : DTE) : DTI := fun ρ M R X => τ ρ M (fun d M1 => ∃ n, d = .int n /\ -(2 ^ 62) <= n /\ n < 2 ^ 62 /\ R ((List.range n.toNat).map fun (i : Nat) => D.int (i : Int)) M1) X
@[simp] def iR2 (τ τ' : DTE) : DTI := fun ρ M R X => τ ρ M (fun d M1 => τ' ρ M1 (fun e M2 => ∃ l n, d = .int l /\ e = .int n /\ (-(2 ^ 62) <= l /\ l < 2 ^ 62 /\ -(2 ^ 62) <= n /\ n < 2 ^ 62) /\ R ((List.range (n - l).toNat).map fun (i : Nat) => D.int (l + (i : Int))) M2) X) X
theorem walks_range {K : PySem.W.Frag} {F : Hp} (l : Int) (n : Nat) : Walks K cl (Itr l n) F ((List.range n).map fun (i : Nat) => D.int (l + (i : Int))) := fun i F2 H2 M2 sm2 g2 => by
  refine ⟨fun d hd => ?_, fun hl => (show n <= i by simpa using hl)⟩
  rw [List.getElem?_map] at hd
  cases e : (List.range n)[i]? with
  | none => rw [e] at hd; cases hd
  | some j =>
    obtain ⟨hj, ej⟩ := List.getElem?_eq_some_iff.mp e
    rw [List.getElem_range] at ej
    subst ej
    rw [e] at hd
    cases hd
    refine ⟨(show i < n by simpa using hj), fun x H3 ⟨e1, e2⟩ => ?_⟩
    subst e1 e2
    exact ⟨F2, Same.refl F2, g2, .int _⟩
theorem di_range1 {tg : Expr} {p : Pos} (hg : Gl X "range") (hm : X.mg "range" = none) (ha : DE cl X W a τa) (hs : starEach [a] X.env = [(false, eval a X.env)] := by rfl) : DI cl X W tg (.Call (.Name "range" p) [a] [] pos) (iR1 τa) :=
  ⟨pi_imp (pi_range1 hg hm (da_cons (W := W) (cl := cl) ha da_nil hs).pa hs) fun σ H R ⟨F, ρ, M, Rd, Xd, g, s, q, p, w⟩ =>
    ⟨F, ρ, M, fun ds M1 => ∃ n : Int, ds = [.int n] /\ -(2 ^ 62) <= n /\ n < 2 ^ 62 /\ Rd ((List.range n.toNat).map fun (i : Nat) => D.int (i : Int)) M1, Xd, g, s, (by
      unfold iR1 at q
      unfold dCons dNil
      have mono : (fun d M1 => ∃ n, d = D.int n /\ -(2 ^ 62) <= n /\ n < 2 ^ 62 /\ Rd ((List.range n.toNat).map fun (i : Nat) => D.int (i : Int)) M1) = (fun d M1 => ∃ n : Int, [d] = [.int n] /\ -(2 ^ 62) <= n /\ n < 2 ^ 62 /\ Rd ((List.range n.toNat).map fun (i : Nat) => D.int (i : Int)) M1) := by
        funext d M1
        simp
      rw [mono] at q
      exact q), fun vs H' F' ds M' sm g' r ⟨n, e1, b1, b2, q'⟩ => by
      subst e1
      obtain ⟨v, ws, rfl, r1, r2⟩ := r.inv
      obtain rfl := r2.inv0
      obtain rfl := r1.toInt
      refine ⟨n, rfl, b1, b2, p _ _ F' _ M' sm g' (walks_range 0 n.toNat) ?_⟩
      simpa using q', w⟩⟩
theorem di_range2 {tg : Expr} {p : Pos} (hg : Gl X "range") (hm : X.mg "range" = none) (ha : DE cl X W a τa) (hb : DE cl X W b τb) (hs : starEach [a, b] X.env = [(false, eval a X.env), (false, eval b X.env)] := by rfl) (hs2 : starEach [b] X.env = [(false, eval b X.env)] := by rfl) : DI cl X W tg (.Call (.Name "range" p) [a, b] [] pos) (iR2 τa τb) :=
  ⟨pi_imp (pi_range2 hg hm (da_cons (W := W) (cl := cl) ha (da_cons hb da_nil hs2) (by rw [hs, hs2])).pa hs hs2) fun σ H R ⟨F, ρ, M, Rd, Xd, g, s, q, p, w⟩ =>
    ⟨F, ρ, M, fun ds M1 => ∃ l n : Int, ds = [.int l, .int n] /\ (-(2 ^ 62) <= l /\ l < 2 ^ 62 /\ -(2 ^ 62) <= n /\ n < 2 ^ 62) /\ Rd ((List.range (n - l).toNat).map fun (i : Nat) => D.int (l + (i : Int))) M1, Xd, g, s, (by
      unfold iR2 at q
      unfold dCons dNil
      have mono : (fun d M1 => τb ρ M1 (fun e M2 => ∃ l n, d = D.int l /\ e = D.int n /\ (-(2 ^ 62) <= l /\ l < 2 ^ 62 /\ -(2 ^ 62) <= n /\ n < 2 ^ 62) /\ Rd ((List.range (n - l).toNat).map fun (i : Nat) => D.int (l + (i : Int))) M2) Xd) = (fun d M1 => τb ρ M1 (fun e M2 => ∃ l n : Int, [d, e] = [.int l, .int n] /\ (-(2 ^ 62) <= l /\ l < 2 ^ 62 /\ -(2 ^ 62) <= n /\ n < 2 ^ 62) /\ Rd ((List.range (n - l).toNat).map fun (i : Nat) => D.int (l + (i : Int))) M2) Xd) := by
        funext d M1
        congr 1
        funext e M2
        simp [and_assoc]
      rw [mono] at q
      exact q), fun vs H' F' ds M' sm g' r ⟨l, n, e1, b1, q'⟩ => by
      subst e1
      obtain ⟨v, ws, rfl, r1, r2⟩ := r.inv
      obtain ⟨v2, ws, rfl, r3, r4⟩ := r2.inv
      obtain rfl := r4.inv0
      obtain rfl := r1.toInt
      obtain rfl := r3.toInt
      exact ⟨l, n, rfl, b1, p _ _ F' _ M' sm g' (walks_range l (n - l).toNat) q'⟩, w⟩⟩
theorem ds_for {tg iter : Expr} {is : List Nat} {ι : DTI} {γ : DTG} (hp : PassesOwn (model X.prog X.w) X.A X.env X.xe) (hc : X.calm = true) (hi : DI cl X W tg iter ι) (hg : DG cl X W tg is γ) (hb : DSs cl X W sts t) (hs : ∀ x, foldedSetIterable iter X.env x = pure x := by intro _; rfl) :
    DS cl X W (.For tg iter sts [] pos) (dFor ι γ t) := ⟨ps_imp (ps_for hp hc hi.pi hg.pg hb.pss hs) fun D σ H ⟨F, ρ, M, E, g, s, q, ok⟩ => by
  refine ⟨F, ρ, M, _, E.ex, g, s, q, fun J H1 F1 xs M1 sm1 g1 wk q1 => ?_, ok.ex⟩
  refine ⟨fun i m σ H => m = xs.length - i /\ i <= xs.length /\ ∃ F' ρ M, Same F1 F' /\ Good X.K cl F' H M /\ Slots X.K cl F' σ ρ /\ forD γ t (xs.drop i) E ρ M, ⟨xs.length, by simp, Nat.zero_le _, F1, ρ, M1, Same.refl F1, g1, s.mono sm1, by simpa using q1⟩, ?_⟩
  rintro i m σ2 H2 ⟨rfl, hi, F2, ρ2, M2, sm2, g2, s2, q2⟩
  have ok2 := ok.mono (sm1.trans sm2)
  by_cases hlt : i < xs.length
  · obtain ⟨go, yl⟩ := (wk i F2 H2 M2 sm2 g2).1 xs[i] (by simp [hlt])
    rw [List.drop_eq_getElem_cons hlt] at q2
    refine .inr ⟨go, fun σ' H' => ∃ F' ρ' M', Same F1 F' /\ Good X.K cl F' H' M' /\ Slots X.K cl F' σ' ρ' /\ forD γ t (xs.drop (i + 1)) E ρ' M', fun σ' H' n => ⟨xs.length - (i + 1), by omega, rfl, hlt, n⟩, fun x H3 y => ?_⟩
    obtain ⟨F3, sm3, g3, r3⟩ := yl x H3 y
    refine ⟨F3, ρ2, M2, xs[i], _, E.ex, g3, s2.mono sm3, r3, q2, fun σ4 H4 F4 ρ4 M4 sm4 g4 s4 _ q4 => ?_, ok2.ex.mono sm3⟩
    have ok4 := ok2.mono (sm3.trans sm4)
    exact ⟨F4, ρ4, M4, _, g4, s4, q4, ⟨fun σ' H' F' ρ' M' sm' g' s' q' => ⟨F', ρ', M', ((sm2.trans sm3).trans sm4).trans sm', g', s', q'⟩, ok4.rt, ok4.nx, fun σ' H' F' ρ' M' sm' g' s' q' => ⟨F', ρ', M', ((sm2.trans sm3).trans sm4).trans sm', g', s', q'⟩, ok4.ex⟩⟩
  · have e : i = xs.length := by omega
    subst e
    rw [List.drop_length] at q2
    exact .inl ⟨(wk _ F2 H2 M2 sm2 g2).2 (Nat.le_refl _), ok2.nx _ _ F2 ρ2 M2 (Same.refl F2) g2 s2 q2⟩⟩
end
end DL
set_option Elab.async false
set_option linter.all false
set_option maxRecDepth 100000
set_option maxHeartbeats 2000000
namespace DL
open PySem L2
abbrev W0 : WX := fun _ _ _ _ => False
theorem wok0 {K : PySem.W.Frag} {cl : ClW} {F : Hp} : WOk K cl W0 F noX := fun _ _ _ _ _ _ _ _ _ _ _ _ _ h => h
theorem wipe_idem (σ : St) : ∀ vs : List Nat, ∀ ws : List Nat, (∀ v ∈ vs, v ∈ ws) -> wipe (wipe σ vs) ws = wipe σ ws
  | [], ws, _ => rfl
  | v :: vs, ws, h => by
    show wipe ((wipe σ vs).set v none) ws = wipe σ ws
    rw [wipe_set (h v List.mem_cons_self), wipe_idem σ vs ws fun x hx => h x (List.mem_cons_of_mem _ hx)]
theorem Slots.wipe {K : PySem.W.Frag} {cl : ClW} {F : Hp} {σ : St} {ρ : Env} (h : Slots K cl F σ ρ) : ∀ vs : List Nat, Slots K cl F (wipe σ vs) (wipeD ρ vs)
  | [] => h
  | v :: vs => (Slots.wipe h vs).setN v
structure DTs (cl : ClW) (X : Cx) (W : WX) (ifs : List Expr) (υ : DTT) : Prop where
  pts : PTs X ifs (lowT X.K cl W υ)
section
variable {cl : ClW} {X : Cx} {W : WX} {c : Expr} {υ : DTT}
theorem dts_nil : DTs cl X W [] dYes := ⟨⟨fun pins s σ H Q I ⟨F, ρ, M, Qd, Xd, g, sl, t, p, w⟩ => pts_nil.run pins s σ H Q I (p true H F M (Same.refl F) g t)⟩⟩
theorem dts_one (h : DT cl X W c υ) : DTs cl X W [c] υ := ⟨pts_one h.pt⟩
end
section
variable {cl : ClW} {X : Cx} {W : WX} {elt tg iter : Expr} {ifs : List Expr} {scope : Scope} {own : List (Str × Nat)} {pos : Pos} {ι : DTI} {is : List Nat} {γ : DTG} {υ : DTT} {τ : DTE}
theorem lc_lift {K : PySem.W.Frag} (his : ∀ i ∈ is, i ∈ own.map (·.2)) {σ : St} {H : Hp} {Q : VK} {F : Hp} {ρ : Env} {M : Mem} {Qd : DV} {Xd : DX} (g : Good K cl F H M) (s : Slots K cl F σ ρ) (q : dLc ι γ υ τ (own.map (·.2)) ρ M Qd Xd) (p : Post K cl F Q Qd) (w : WOk K cl W F Xd) :
    tLc (fun σ H R => ∃ F ρ M Rd Xd, Good K cl F H M /\ Slots K cl F σ ρ /\ ι ρ M Rd Xd /\ (∀ J H' F' xs M', Same F F' -> Good K cl F' H' M' -> Walks K cl J F' xs -> Rd xs M' -> R J H') /\ WOk K cl W F Xd)
      (fun v σ H Q => ∃ F ρ M d Qd Xd, Good K cl F H M /\ Slots K cl F σ ρ /\ Rep K cl F v d /\ γ d ρ M Qd Xd /\ (∀ σ' H' F' ρ' M', Same F F' -> Good K cl F' H' M' -> Slots K cl F' σ' ρ' -> (∀ vs : List Nat, (∀ i ∈ is, i ∈ vs) -> wipe σ' vs = wipe σ vs) -> Qd ρ' M' -> Q σ' H') /\ WOk K cl W0 F Xd)
      (lowT K cl W0 υ) (lowE K cl W0 τ) (own.map (·.2)) σ H Q := by
  refine ⟨F, ρ, M, _, Xd, g, s, q, fun J H1 F1 xs M1 sm1 g1 wk q1 a hD => ?_, w⟩
  refine ⟨fun i m H => m = xs.length - i /\ i <= xs.length /\ ∃ F' M, Same F1 F' /\ Good K cl F' H M /\ lcD γ υ τ (own.map (·.2)) a (xs.drop i) ρ M Qd,
    ⟨xs.length, by simp, Nat.zero_le _, F1, updM M1 a (.lst []), Same.refl F1, g1.newM (d := .lst []) hD ⟨[], upd_same, .nil⟩, by simpa using q1 a (g1.freshM hD)⟩, ?_⟩
  rintro i m H2 ⟨rfl, hi, F2, M2, sm2, g2, q2⟩
  by_cases hlt : i < xs.length
  · obtain ⟨go, yl⟩ := (wk i F2 H2 M2 sm2 g2).1 xs[i] (by simp [hlt])
    rw [List.drop_eq_getElem_cons hlt] at q2
    unfold lcD at q2
    refine .inr ⟨go, fun H' => ∃ F' M', Same F1 F' /\ Good K cl F' H' M' /\ lcD γ υ τ (own.map (·.2)) a (xs.drop (i + 1)) ρ M' Qd, fun H' n => ⟨xs.length - (i + 1), by omega, rfl, hlt, n⟩, fun x H3 y => ?_⟩
    obtain ⟨F3, sm3, g3, r3⟩ := yl x H3 y
    refine ⟨F3, wipeD ρ (own.map (·.2)), M2, xs[i], _, noX, g3, (s.mono ((sm1.trans sm2).trans sm3)).wipe _, r3, q2, fun σ4 H4 F4 ρ4 M4 sm4 g4 s4 w4 q4 => ⟨?_, ?_⟩, wok0⟩
    · rw [w4 _ his]
      exact wipe_idem _ _ _ fun _ h => h
    · refine ⟨F4, ρ4, M4, _, noX, g4, s4, q4, fun k H5 F5 M5 sm5 g5 q5 => ?_, wok0⟩
      cases k with
      | true =>
        rw [if_pos rfl] at q5 ⊢
        refine ⟨F5, ρ4, M5, _, noX, g5, s4.mono sm5, q5, fun y2 H6 F6 d M6 sm6 g6 r6 q6 => ?_, wok0⟩
        obtain ⟨acc, e1, e2, q6⟩ := q6
        obtain ⟨hF, vs, h1, h2⟩ := g6.cell a _ e1
        refine ⟨vs, h1, by rw [h2.length]; exact e2, F6, _, (((sm2.trans sm3).trans sm4).trans sm5).trans sm6, g6.put (d := .lst (acc ++ [d])) e1 ⟨vs ++ [y2], upd_same, h2.append (.one r6)⟩, q6⟩
      | false =>
        rw [if_neg Bool.false_ne_true] at q5 ⊢
        exact ⟨F5, M5, ((sm2.trans sm3).trans sm4).trans sm5, g5, q5⟩
  · have e : i = xs.length := by omega
    subst e
    rw [List.drop_length] at q2
    obtain ⟨ds, e1, q2⟩ := q2
    obtain ⟨F3, sm3, g3, r3⟩ := g2.freeze e1
    exact .inl ⟨(wk _ F2 H2 M2 sm2 g2).2 (Nat.le_refl _), p _ _ _ _ _ ((sm1.trans sm2).trans sm3) g3 r3 q2⟩
theorem d_lc (hc : X.calm = true) (hN : X.N.Nodup) (hi : DI cl X W tg iter ι) (ok : BlkOk X.N X.env.scope scope own)
    (hg : ∀ (s : Shared) (H : Hp) (C : Addr) (cs : List (Str × Addr)) (fp : List Addr), DG cl (X.blk s H scope (compEnvC scope cs C X.env) fp) W0 tg is γ) (ht : ∀ (s : Shared) (H : Hp) (C : Addr) (cs : List (Str × Addr)) (fp : List Addr), DTs cl (X.blk s H scope (compEnvC scope cs C X.env) fp) W0 ifs υ)
    (he : ∀ (s : Shared) (H : Hp) (C : Addr) (cs : List (Str × Addr)) (fp : List Addr), DE cl (X.blk s H scope (compEnvC scope cs C X.env) fp) W0 elt τ) (his : ∀ i ∈ is, i ∈ own.map (·.2) := by decide) (hs : ∀ x, foldedSetIterable iter X.env x = pure x := by intro _; rfl) :
    DE cl X W (.ListComp elt [⟨tg, iter, ifs, 0⟩] scope pos) (dLc ι γ υ τ (own.map (·.2))) :=
  ⟨pe_imp (pe_lc hc hN hi.pi ok (fun s H C cs fp => (hg s H C cs fp).pg) (fun s H C cs fp => (ht s H C cs fp).pts) (fun s H C cs fp => (he s H C cs fp).pe) hs) fun σ H Q ⟨F, ρ, M, Qd, Xd, g, s, q, p, w⟩ => lc_lift his g s q p w⟩
theorem ds_setLc {y : Str} {py spos : Pos} (i : Nat) (hc : X.calm = true) (hN : X.N.Nodup) (hi : DI cl X W tg iter ι) (ok : BlkOk X.N X.env.scope scope own)
    (hg : ∀ (s : Shared) (H : Hp) (C : Addr) (cs : List (Str × Addr)) (fp : List Addr), DG cl (X.blk s H scope (compEnvC scope cs C X.env) fp) W0 tg is γ) (ht : ∀ (s : Shared) (H : Hp) (C : Addr) (cs : List (Str × Addr)) (fp : List Addr), DTs cl (X.blk s H scope (compEnvC scope cs C X.env) fp) W0 ifs υ)
    (he : ∀ (s : Shared) (H : Hp) (C : Addr) (cs : List (Str × Addr)) (fp : List Addr), DE cl (X.blk s H scope (compEnvC scope cs C X.env) fp) W0 elt τ) (hy : X.N[i]? = some y := by rfl) (hyl : X.env.scope.names.lookup y = some .local := by rfl)
    (hsw : swapsWith (.ListComp elt [⟨tg, iter, ifs, 0⟩] scope pos) (some (.Name y py)) spos.line X.env = pure true := by exact sw_true rfl rfl rfl (by decide +kernel)) (his : ∀ i ∈ is, i ∈ own.map (·.2) := by decide) (hs : ∀ x, foldedSetIterable iter X.env x = pure x := by intro _; rfl) :
    DS cl X W (.Assign [.Name y py] (.ListComp elt [⟨tg, iter, ifs, 0⟩] scope pos) spos) (dAsg (dLc ι γ υ τ (own.map (·.2))) (gN i)) :=
  ⟨ps_imp (ps_setLc hc hN hy hyl hsw hi.pi ok (fun s H C cs fp => (hg s H C cs fp).pg) (fun s H C cs fp => (ht s H C cs fp).pts) (fun s H C cs fp => (he s H C cs fp).pe) hs) fun D σ H ⟨F, ρ, M, E, g, s, q, ok⟩ =>
    lc_lift his g s q (fun v H' F' d M' sm g' r q' => ok.nx _ _ _ _ _ sm g' ((s.mono sm).set i r) q') ok.ex⟩
end
structure RoomG (k : Nat) (A : Around) : Prop where
  room : Room k A
  gd : A.guards = some []
theorem RoomG.mono {j k : Nat} {A : Around} (r : RoomG k A) (h : j <= k) : RoomG j A := ⟨r.room.mono h, r.gd⟩
theorem RoomG.deeper {k : Nat} {A : Around} (r : RoomG (k + 1) A) (env : PySem.Env) : RoomG k (A.deeper env) := ⟨r.room.deeper env, r.gd⟩
theorem RoomG.in1 {k : Nat} {A : Around} (r : RoomG (k + 1) A) : RoomG k A.in1 := ⟨r.room.in1, r.gd⟩
theorem make_guards {A : Around} {C : Addr} {us : List Value} {kw : List (Str × Value)} : (A.under (.builtin "type.__call__" ⟨.ref C :: us, kw⟩)).guards = A.guards := by
  cases A with
  | mk a b c d e => cases d <;> first | rfl | simp [Around.under, pushGuards, Code.guards, Code.isGuard, guardIds]
theorem RoomG.make {k : Nat} {A : Around} (r : RoomG (k + 1) A) (C : Addr) (us : List Value) (kw : List (Str × Value)) : RoomG k (A.under (.builtin "type.__call__" ⟨.ref C :: us, kw⟩)) := ⟨r.room.make C us kw, make_guards.trans r.gd⟩
structure FnG (cl : ClW) (P : Program) (w : World) (K : PySem.W.Frag) (mg : Str -> Option Value) (base : Heap) (k : Nat) (f : Addr) (fd : FuncData) (ps : List Str) (spd : SpD) : Prop where
  len : ∀ ds M Q E, spd ds M Q E -> ds.length = ps.length
  run : ∀ (A : Around) (outer : List PySem.Env) (s : Shared) (H : Hp) (args : Args) (us : List Value) (vs : List V) (Q : VK) (E : XK), RoomG k A -> Env0 P w K mg base A outer s H -> BindsTo s fd args (ps.zip us) -> Vals vs us -> lower K cl spd vs H Q E ->
    codeAny (model P w) A (.call (.ref f) args) (CR (L2.CX P w) outer P w H s Q E) s
theorem FnG.mono {cl : ClW} {P : Program} {w : World} {K : PySem.W.Frag} {mg : Str -> Option Value} {base : Heap} {j k : Nat} {f : Addr} {fd : FuncData} {ps : List Str} {spd : SpD} (F : FnG cl P w K mg base j f fd ps spd) (h : j <= k) : FnG cl P w K mg base k f fd ps spd :=
  ⟨F.len, fun A outer s H args us vs Q E hr => F.run A outer s H args us vs Q E (hr.mono h)⟩
theorem FnG.lenV {cl : ClW} {P : Program} {w : World} {K : PySem.W.Frag} {mg : Str -> Option Value} {base : Heap} {k : Nat} {f : Addr} {fd : FuncData} {ps : List Str} {spd : SpD} (F : FnG cl P w K mg base k f fd ps spd) {vs : List V} {H : Hp} {Q : VK} {E : XK} (h : lower K cl spd vs H Q E) : vs.length = ps.length := by
  obtain ⟨_, M, ds, Qd, Ed, _, r, q, _⟩ := h
  rw [r.length]
  exact F.len ds M Qd Ed q
structure Cap (X : Cx) (W : WX) (k : Nat) : Prop where
  tk : Takes X W
  hr : RoomG k X.A
  po : PassesOwn (model X.prog X.w) X.A X.env X.xe
  calm : X.calm = true
theorem Cap.blk {X : Cx} {W : WX} {k : Nat} (c : Cap X W k) {s : Shared} {H : Hp} {scope : Scope} {cenv : PySem.Env} {fp : List Addr} : Cap (X.blk s H scope cenv fp) W0 k := ⟨takes0, c.hr, PassesOwn.never, c.calm⟩
@[simp] def startD (N : List Str) (ds : List D) : Env := ds.map some ++ List.replicate (N.length - ds.length) none
theorem slots_start {K : PySem.W.Frag} {cl : ClW} {F : Hp} {vs : List V} {ds : List D} (N : List Str) (r : Reps K cl F vs ds) : Slots K cl F (L2.start N vs) (startD N ds) := by
  have hl := r.length
  refine ⟨by simp [L2.start, startD, hl], fun i d h => ?_⟩
  unfold startD at h
  unfold L2.start
  by_cases hi : i < ds.length
  · rw [List.getElem?_append_left (by simpa using hi)] at h
    rw [List.getElem?_append_left (by simp [hl]; exact hi)]
    rw [List.getElem?_map] at h
    cases e : ds[i]? with
    | none => rw [e] at h; cases h
    | some x =>
      rw [e] at h
      cases h
      obtain ⟨v, hv, rv⟩ := r.get e
      exact ⟨v, by rw [List.getElem?_map, hv]; rfl, rv⟩
  · rw [List.getElem?_append_right (by simpa using Nat.le_of_not_lt hi)] at h
    rw [List.getElem?_replicate] at h
    split at h <;> cases h
@[simp] def dEnds (Q : DV) (E : DEK) : DEnds := { nx := fun _ M => Q .non M, rt := Q, bk := fun _ _ => False, ct := fun _ _ => False, ex := fun c ns ds _ M => E c ns ds M }
theorem fn_d {cl : ClW} {P : Program} {w : World} {K : PySem.W.Frag} {mg : Str -> Option Value} {base : Heap} {k : Nat} {f : Addr} {x qual : Str} {params : Arguments} {body : List Stmt} {scope : Scope} {dvs : List V} {kws : List (Str × V)} {fd : FuncData} {N ps : List Str} {spd : SpD}
    (F : FunD K x qual params body scope dvs kws f fd) (S : FnScope N ps scope) (t : DTS)
    (hbody : ∀ (cdv : Value) (A : Around) (outer : List PySem.Env) (s : Shared) (H : Hp) (E : XK), Cap (cxOf (L2.CX P w) P w K mg base N qual scope f cdv A outer s H E) (fun cls d _ H => E cls d H) k ->
      DSs cl (cxOf (L2.CX P w) P w K mg base N qual scope f cdv A outer s H E) (fun cls d _ H => E cls d H) body t)
    (hsp : ∀ ds M Q E, spd ds M Q E -> ds.length = ps.length /\ t (dEnds Q E) (startD N ds) M) : FnG cl P w K mg base (k + 1) f fd ps spd := by
  refine ⟨fun ds M Q E h => (hsp ds M Q E h).1, fun A outer s H args us vs Q E hr e0 hb r hl => ?_⟩
  obtain ⟨oc, od, dV, kV, doc, pm, an, cdv, ct, osl, rfl, lk, hcd, _, _⟩ := F.ex
  have lenV : ∀ vs H Q E, lower K cl spd vs H Q E -> vs.length = ps.length := fun vs H Q E ⟨_, M, ds, Qd, Ed, _, r, q, _⟩ => by
    rw [r.length]
    exact (hsp ds M Qd Ed q).1
  have hr' := hr.deeper (PyProof.Rows.envOfC qual scope s.heap.objs.size f cdv)
  have KX : K.In s.heap := e0.mod.kin.keeps fun b o e => (e0.bs b o e).1
  have lim : s.heap.NoLimit := e0.mod.nolimit.keeps fun b o e => (e0.bs b o e).1
  have hkind : ∀ y ∈ ps.zip us, scope.names.lookup y.1 = some .local \/ (scope.names.lookup y.1 = some .cell /\ ((cellsFrom (s.heap.objs.size + 1) scope.names []).lookup y.1).isSome = true) := fun ⟨n, v⟩ hy => by
    rcases S.par n (List.of_mem_zip hy).1 with q | q
    · exact .inl q
    · exact .inr ⟨q, PySem.W.cellsFrom_some _ _ _ (.inl q)⟩
  refine codeAny_call_function hr.room.depth (KX _ _ lk) rfl S.co S.gen rfl (PySem.W.codeRec_of KX hcd) (hb _ _ _ _ ?_)
  refine wpAny_newFunctionEnv_cells S.kind hkind fun env he s1 x => ?_
  subst he
  refine ⟨lim.keeps x.toInCall.keep, codeAny_func ?_⟩
  have ht := hbody cdv A outer s H E ⟨takes_of rfl rfl rfl rfl, hr', passes_of rfl, rfl⟩
  have I : Inv (cxOf (L2.CX P w) P w K mg base N qual scope f cdv A outer s H E) [] (L2.start N vs) H s1 := inv_start S hr.room.hd e0 (lenV _ _ _ _ hl) r x
  obtain ⟨F0, M0, ds0, Qd, Ed, g0, r0, q0, p0, ep0⟩ := hl
  have hq : lowS K cl (fun cls d _ H => E cls d H) t { nx := fun _ H' => Q .non H', rt := Q } (L2.start N vs) H :=
    ⟨F0, startD N ds0, M0, dEnds Qd Ed, g0, slots_start N r0, (hsp ds0 M0 Qd Ed q0).2,
      ⟨fun σ' H' F' ρ' M' sm g' s' q' => p0 _ _ _ _ _ sm g' .non q', p0, fun _ _ _ _ _ _ _ _ q' => q', fun _ _ _ _ _ _ _ _ q' => q', fun c ns ds σ' H' F' ρ' M' dd sm g' s' ea q' => ep0 _ _ _ _ _ _ _ sm g' ea q'⟩⟩
  refine wpAny_mono (ht.pss.run [] s1 (L2.start N vs) H _ I hq) (fun fl s' hs => ?_) fun e s' hs => hs
  have fin : ∀ {σ' : St} {H' : Hp} {v : V} {u : Value}, Inv (cxOf (L2.CX P w) P w K mg base N qual scope f cdv A outer s H E) [] σ' H' s' -> RelV v u -> Q v H' -> CE outer P w H s Q u s' :=
    fun {σ' H' v u} J rv q => ⟨v, H', J.os, J.bare, J.base, J.hok, rv, q⟩
  cases fl with
  | ret u =>
    obtain ⟨v, σ', H', J, rv, q⟩ := hs
    exact fin J rv q
  | next =>
    obtain ⟨σ', H', J, q⟩ := hs
    exact fin (v := V.non) (u := Value.none) J rfl q
  | brk =>
    obtain ⟨_, _, _, q⟩ := hs
    exact False.elim q
  | cont =>
    obtain ⟨_, _, _, q⟩ := hs
    exact False.elim q
@[simp] def dCall (spd : SpD) (dds : List D) (α : DTA) : DTE := fun ρ M Q X => α ρ M (fun ds M1 => spd (ds ++ dds) M1 Q (fun c ns es M2 => X c ns es ρ M2)) X
section
variable {cl : ClW} {X : Cx} {W : WX} {k : Nat} {f C : Addr} {fd : FuncData} {ps : List Str} {spd : SpD} {dvs : List V} {ds : List Value} {dds : List D} {x m : Str} {p pos apos : Pos} {e o : Expr} {es : List Expr} {τ : DTE} {α : DTA}
theorem run_g {pins : List (Addr × Obj)} {σ : St} {H : Hp} {s : Shared} {Q : VK} {us : List Value} {vs : List V} (c : Cap X W k) (F : FnG cl X.prog X.w X.K X.mg X.base k f fd ps spd) (hb : Binds X.K fd ps ds) (hd : Vals dvs ds)
    (I : Inv X pins σ H s) (r : Vals vs us) (h : lower X.K cl spd (vs ++ dvs) H Q (WE W σ)) : wpAny (model X.prog X.w) X.A (call (.ref f) us) (EP X pins σ Q) X.xe s := by
  have r2 : Vals (vs ++ dvs) (us ++ ds) := r.append hd
  have hl : (us ++ ds).length = ps.length := by rw [<- r2.length]; exact F.lenV h
  refine wpAny_call (codeAny_mono (F.run X.A X.stack s H ⟨us, []⟩ (us ++ ds) (vs ++ dvs) Q _ c.hr I.env0 (hb s us I.kIn hl) r2 h) fun r s' hq => ?_)
  cases r with
  | error e => exact passAt c.tk σ pins H s e s' I hq
  | ok fl =>
    cases fl with
    | ret u => exact I.after hq
    | next => exact False.elim hq
    | brk => exact False.elim hq
    | cont => exact False.elim hq
theorem low_call {σ : St} {F : Hp} {ρ : Env} {M : Mem} {Qd : DV} {Xd : DX} {vs : List V} {es : List D} {H : Hp} {Q : VK} {K : PySem.W.Frag} (g : Good K cl F H M) (s : Slots K cl F σ ρ) (r : Reps K cl F vs es) (q : spd es M Qd (fun c ns es M2 => Xd c ns es ρ M2)) (p : Post K cl F Q Qd) (w : WOk K cl W F Xd) : lower K cl spd vs H Q (WE W σ) :=
  ⟨F, M, es, Qd, _, g, r, q, p, fun c ns ds H' F' M' dd sm g' ea q' => w c ns ds σ H' F' ρ M' dd sm g' (s.mono sm) ea q'⟩
theorem d_call (c : Cap X W k) (G : FnG cl X.prog X.w X.K X.mg X.base k f fd ps spd) (hg : Gl X x) (hm : X.mg x = some (.ref f)) (hk : PySem.W.keepIn X.K (.ref f) = true) (hb : Binds X.K fd ps ds) (hd : Vals dvs ds) (hdd : ∀ F, Reps X.K cl F dvs dds)
    (ha : DA cl X W (e :: es) α) (hdb : (x == ("__debug__" : Str)) = false := by decide) (he : starEach (e :: es) X.env = (false, eval e X.env) :: starEach es X.env := by rfl) (hpl : (backTo pos (starEach es X.env)).any (·.1) = false := by rfl) :
    DE cl X W (.Call (.Name x p) (e :: es) [] pos) (dCall spd dds α) := ⟨⟨fun pins s σ H Q I h => by
  obtain ⟨F, ρ, M, Qd, Xd, g, sl, q, p, w⟩ := h
  refine wpAny_Call_Name_kw (ld_glob I hg hm ?_ hdb)
  refine PySem.W.callWith_K (h₀ := X.base) I.ok.mod.kin hk (thn (ha.pa.run pos pins s σ H (fun vs H1 => lower X.K cl spd (vs ++ dvs) H1 Q (WE W σ)) I ⟨F, ρ, M, _, Xd, g, sl, q, fun vs H' F' ds M' sm g' r q' => ?_, w⟩) fun us s1 ⟨vs, H1, I1, r, q⟩ => ⟨I1.kIn, ?_⟩) he hpl
  · exact low_call g' (sl.mono sm) (r.append (hdd F')) q' (p.mono sm) (w.mono sm)
  · exact run_g c G hb hd I1 r q⟩⟩
end
end DL
set_option Elab.async false
set_option linter.all false
set_option maxRecDepth 100000
set_option maxHeartbeats 2000000
namespace DL
open PySem L2
mutual
def toPy : D -> Option PyData
  | .non => some .none
  | .bl b => some (.bool b)
  | .int i => some (.int i)
  | .str x => some (.str x)
  | .lst xs => (toPys xs).map .list
  | .tup xs => (toPys xs).map .tuple
  | _ => none
def toPys : List D -> Option (List PyData)
  | [] => some []
  | x :: xs => match toPy x, toPys xs with
    | some p, some ps => some (p :: ps)
    | _, _ => none
end
section
variable {K : PySem.W.Frag} {cl : ClW} {F H : Hp}
mutual
theorem dp_of (s : Same F H) : ∀ (d : D) (v : V) (p : PyData), Rep K cl F v d -> toPy d = some p -> Dp K H v p
  | .non, v, p, r, e => by simp only [toPy] at e; cases e; rw [r.toNon]; exact .non
  | .bl b, v, p, r, e => by simp only [toPy] at e; cases e; rw [r.toBl]; exact .bl b
  | .int i, v, p, r, e => by simp only [toPy] at e; cases e; rw [r.toInt]; exact .int i
  | .str x, v, p, r, e => by simp only [toPy] at e; cases e; rw [r.toStr]; exact .str x
  | .lst xs, v, p, r, e => by
    simp only [toPy] at e
    obtain ⟨a, vs, rfl, h1, h2⟩ := r.toLst
    cases q : toPys xs with
    | none => rw [q] at e; cases e
    | some ps => rw [q] at e; cases e; exact .lst (same_l s h1) (dps_of s xs vs ps h2 q)
  | .tup xs, v, p, r, e => by
    simp only [toPy] at e
    obtain ⟨a, vs, rfl, h1, h2⟩ := r.toTup
    cases q : toPys xs with
    | none => rw [q] at e; cases e
    | some ps => rw [q] at e; cases e; exact .tup (same_t s h1) (dps_of s xs vs ps h2 q)
  | .byt _, v, p, r, e => by simp only [toPy] at e; cases e
  | .ty _, v, p, r, e => by simp only [toPy] at e; cases e
  | .ref _, v, p, r, e => by simp only [toPy] at e; cases e
  | .dK _ _, v, p, r, e => by simp only [toPy] at e; cases e
  | .dT _ _ _, v, p, r, e => by simp only [toPy] at e; cases e
  | .obj _ _ _, v, p, r, e => by simp only [toPy] at e; cases e
  | .cls _, v, p, r, e => by simp only [toPy] at e; cases e
theorem dps_of (s : Same F H) : ∀ (ds : List D) (vs : List V) (ps : List PyData), Reps K cl F vs ds -> toPys ds = some ps -> DpAll K H vs ps
  | [], vs, ps, r, e => by simp only [toPys] at e; cases e; rw [r.inv0]; exact .nil
  | d :: ds, vs, ps, r, e => by
    obtain ⟨v, ws, rfl, r1, r2⟩ := r.inv
    simp only [toPys] at e
    cases q1 : toPy d with
    | none => rw [q1] at e; cases e
    | some p =>
      cases q2 : toPys ds with
      | none => rw [q1, q2] at e; cases e
      | some qs => rw [q1, q2] at e; cases e; exact .cons (dp_of s d v p r1 q1) (dps_of s ds ws qs r2 q2)
end
theorem dp_vw (s : Same F H) {v : V} {d : D} {p : PyData} (h : Vw K cl F H v d) (e : toPy d = some p) : Dp K H v p := by
  rcases h with h | ⟨a, rfl, h⟩
  · exact dp_of s d v p h e
  · cases d with
    | lst ds =>
      obtain ⟨vs, h1, h2⟩ := h
      simp only [toPy] at e
      cases q : toPys ds with
      | none => rw [q] at e; cases e
      | some ps => rw [q] at e; cases e; exact .lst (SqL.of h1) (dps_of s ds vs ps h2 q)
    | dK _ _ => simp only [toPy] at e; cases e
    | dT _ _ _ => simp only [toPy] at e; cases e
    | obj _ _ _ => simp only [toPy] at e; cases e
    | dN _ _ _ => simp only [toPy] at e; cases e
    | _ => exact h.elim
end
def eqP (d e : D) : Option Bool := match toPy d, toPy e with
  | some p, some q => if SeqAt.shaped p && SeqAt.shaped q then some (PyData.eqv p q) else none
  | _, _ => none
def eqB : D -> D -> Option Bool
  | .int i, .int j => some (i == j)
  | .str x, .str y => some (x == y)
  | .bl x, .bl y => some (x == y)
  | .byt x, .byt y => some (x == y)
  | .non, .non => some true
  | .non, .int _ => some false
  | .non, .str _ => some false
  | .int _, .non => some false
  | .str _, .non => some false
  | .int _, .str _ => some false
  | .str _, .int _ => some false
  | d, e => eqP d e
def eqD (d e : D) : Option D := (eqB d e).map D.bl
def neD (d e : D) : Option D := (eqB d e).map fun b => D.bl !b
section
variable {K : PySem.W.Frag} {cl : ClW} {X : Cx}
theorem eqP_inv {d e : D} {b : Bool} (h : eqP d e = some b) : ∃ p q, toPy d = some p /\ toPy e = some q /\ SeqAt.shaped p = true /\ SeqAt.shaped q = true /\ b = PyData.eqv p q := by
  unfold eqP at h
  cases e1 : toPy d with
  | none => rw [e1] at h; cases h
  | some p =>
    cases e2 : toPy e with
    | none => rw [e1, e2] at h; cases h
    | some q =>
      rw [e1, e2] at h
      simp only at h
      split at h
      · rename_i hs
        cases h
        obtain ⟨h1, h2⟩ := Bool.and_eq_true_iff.mp hs
        exact ⟨p, q, rfl, rfl, h1, h2, rfl⟩
      · cases h
def rEqA (K : PySem.W.Frag) : R2 := fun x y H Q => rEq x y H Q \/ rEqD K x y H Q
def rNeA (K : PySem.W.Frag) : R2 := fun x y H Q => rNe x y H Q \/ rNeD K x y H Q
theorem op_eqA (hu : X.A.units + 64 < cLine) : OpR X (compareOp .Eq) (rEqA X.K) := op_eq.or (op_eqD hu)
theorem op_neA (hu : X.A.units + 64 < cLine) : OpR X (compareOp .NotEq) (rNeA X.K) := op_ne.or (op_neD hu)
theorem eqB_at {F H : Hp} (s : Same F H) {x y : V} {d e : D} {b : Bool} (hx : Vw K cl F H x d) (hy : Vw K cl F H y e) (h : eqB d e = some b) :
    (scal x y = true /\ decide (x = y) = b) \/ ∃ p q, Dp K H x p /\ Dp K H y q /\ SeqAt.shaped p = true /\ SeqAt.shaped q = true /\ b = PyData.eqv p q := by
  unfold eqB at h
  split at h
  · cases h; rw [hx.int, hy.int]; exact .inl ⟨rfl, dec_int⟩
  · cases h; rw [hx.str, hy.str]; exact .inl ⟨rfl, dec_str⟩
  · cases h; rw [hx.bl, hy.bl]; exact .inl ⟨rfl, dec_bl⟩
  · cases h
    rw [hx.byt, hy.byt]
    refine .inl ⟨rfl, ?_⟩
    rename_i x1 y1
    by_cases e : x1 = y1
    · subst e; simp
    · rw [decide_eq_false (fun z => e (V.byt.inj z))]
      exact (beq_eq_false_iff_ne.mpr e).symm
  · cases h; rw [hx.non, hy.non]; exact .inl ⟨rfl, rfl⟩
  · cases h; rw [hx.non, hy.int]; exact .inl ⟨rfl, rfl⟩
  · cases h; rw [hx.non, hy.str]; exact .inl ⟨rfl, rfl⟩
  · cases h; rw [hx.int, hy.non]; exact .inl ⟨rfl, rfl⟩
  · cases h; rw [hx.str, hy.non]; exact .inl ⟨rfl, rfl⟩
  · cases h; rw [hx.int, hy.str]; exact .inl ⟨rfl, rfl⟩
  · cases h; rw [hx.str, hy.int]; exact .inl ⟨rfl, rfl⟩
  · obtain ⟨p, q, h1, h2, h3, h4, h5⟩ := eqP_inv h
    exact .inr ⟨p, q, dp_vw s hx h1, dp_vw s hy h2, h3, h4, h5⟩
theorem lop_eq : LOp K cl (rEqA K) eqD := by
  intro F H M x y d e z Q Qd g hx hy h p q
  unfold eqD at h
  cases e1 : eqB d e with
  | none => rw [e1] at h; cases h
  | some b =>
    rw [e1] at h
    cases h
    rcases eqB_at g.sub hx hy e1 with ⟨h1, h2⟩ | ⟨pd, pe, h1, h2, h3, h4, rfl⟩
    · exact .inl ⟨h1, by rw [h2]; exact p.val g (.bl _) q⟩
    · exact .inr ⟨pd, pe, h1, h2, h3, h4, p.val g (.bl _) q⟩
theorem lop_ne : LOp K cl (rNeA K) neD := by
  intro F H M x y d e z Q Qd g hx hy h p q
  unfold neD at h
  cases e1 : eqB d e with
  | none => rw [e1] at h; cases h
  | some b =>
    rw [e1] at h
    cases h
    rcases eqB_at g.sub hx hy e1 with ⟨h1, h2⟩ | ⟨pd, pe, h1, h2, h3, h4, rfl⟩
    · exact .inl ⟨h1, by rw [h2]; exact p.val g (.bl _) q⟩
    · exact .inr ⟨pd, pe, h1, h2, h3, h4, p.val g (.bl _) q⟩
def absF : List D -> Option D
  | [.int i] => some (.int (if i < 0 then -i else i))
  | _ => none
def intF : List D -> Option D
  | [.int i] => some (.int i)
  | [.bl b] => some (.int (if b then 1 else 0))
  | _ => none
def lenF : List D -> Option D
  | [.lst xs] => some (.int xs.length)
  | [.tup xs] => some (.int xs.length)
  | [.str x] => if x.length <= sizeLine then some (.int x.length) else none
  | [.byt x] => if x.size <= sizeLine then some (.int x.size) else none
  | _ => none
def intsOf : List D -> Option (List Int)
  | [] => some []
  | .int i :: r => (intsOf r).map (i :: ·)
  | _ :: _ => none
theorem intsOf_eq : ∀ {ds : List D} {ns : List Int}, intsOf ds = some ns -> ds = ns.map D.int
  | [], ns, h => by simp only [intsOf] at h; cases h; rfl
  | d :: ds, ns, h => by
    cases d with
    | int i =>
      simp only [intsOf] at h
      cases e : intsOf ds with
      | none => rw [e] at h; cases h
      | some ms => rw [e] at h; cases h; rw [intsOf_eq e]; rfl
    | _ => simp only [intsOf] at h; cases h
theorem intsOf_map (ns : List Int) : intsOf (ns.map D.int) = some ns := by
  induction ns with
  | nil => rfl
  | cons n ns ih => simp only [List.map_cons, intsOf, ih]; rfl
def minF : List D -> Option D
  | [.lst xs] => (intsOf xs).bind fun ns => ns.min?.map D.int
  | [.int i, .int j] => some (.int (if j < i then j else i))
  | _ => none
def maxF : List D -> Option D
  | [.lst xs] => (intsOf xs).bind fun ns => ns.max?.map D.int
  | [.int i, .int j] => some (.int (if j > i then j else i))
  | _ => none
theorem reps1 {F : Hp} {M : Mem} {H : Hp} (g : Good K cl F H M) {xs : List V} {ds : List D} {d : D} (r : Reps K cl F xs ds) (e : ds.map (vw M) = [d]) : ∃ x, xs = [x] /\ Vw K cl F H x d := by
  cases ds with
  | nil => cases e
  | cons a t =>
    cases t with
    | nil =>
      obtain ⟨x, ws, rfl, r1, r2⟩ := r.inv
      obtain rfl := r2.inv0
      simp only [List.map_cons, List.map_nil, List.cons.injEq, and_true] at e
      exact ⟨x, rfl, e ▸ vw_ok g r1⟩
    | cons b t => simp at e
theorem reps2 {F : Hp} {M : Mem} {H : Hp} (g : Good K cl F H M) {xs : List V} {ds : List D} {d e' : D} (r : Reps K cl F xs ds) (e : ds.map (vw M) = [d, e']) : ∃ x y, xs = [x, y] /\ Vw K cl F H x d /\ Vw K cl F H y e' := by
  cases ds with
  | nil => cases e
  | cons a t =>
    cases t with
    | nil => simp at e
    | cons b t =>
      cases t with
      | nil =>
        obtain ⟨x, ws, rfl, r1, r2⟩ := r.inv
        obtain ⟨y, ws, rfl, r3, r4⟩ := r2.inv
        obtain rfl := r4.inv0
        simp only [List.map_cons, List.map_nil, List.cons.injEq, and_true] at e
        exact ⟨x, y, rfl, e.1 ▸ vw_ok g r1, e.2 ▸ vw_ok g r3⟩
      | cons c t => simp at e
theorem lc_abs : LCall K cl (fun xs H Q => ∃ i, xs = [.int i] /\ Q (.int (if i < 0 then -i else i)) H) absF := by
  intro F H M xs ds z Q Qd g r h p q
  generalize e : ds.map (vw M) = es at h
  unfold absF at h
  split at h
  · cases h
    obtain ⟨x, rfl, hv⟩ := reps1 g r e
    obtain rfl := hv.int
    exact ⟨_, rfl, p.val g (.int _) q⟩
  · cases h
theorem lc_int : LCall K cl (fun xs H Q => (∃ i, xs = [.int i] /\ Q (.int i) H) \/ ∃ k, xs = [.bl k] /\ Q (.int (if k then 1 else 0)) H) intF := by
  intro F H M xs ds z Q Qd g r h p q
  generalize e : ds.map (vw M) = es at h
  unfold intF at h
  split at h
  · cases h
    obtain ⟨x, rfl, hv⟩ := reps1 g r e
    obtain rfl := hv.int
    exact .inl ⟨_, rfl, p.val g (.int _) q⟩
  · cases h
    obtain ⟨x, rfl, hv⟩ := reps1 g r e
    obtain rfl := hv.bl
    exact .inr ⟨_, rfl, p.val g (.int _) q⟩
  · cases h
theorem lc_len : LCall K cl (fun xs H Q => ∃ x n, xs = [x] /\ LenV K x H n /\ Q (.int n) H) lenF := by
  intro F H M xs ds z Q Qd g r h p q
  generalize e : ds.map (vw M) = es at h
  unfold lenF at h
  split at h
  · cases h
    obtain ⟨x, rfl, hv⟩ := reps1 g r e
    obtain ⟨a, vs, rfl, h1, h2⟩ := hv.lst g.sub
    exact ⟨_, _, rfl, .inl ⟨vs, h1, rfl⟩, by rw [h2.length]; exact p.val g (.int _) q⟩
  · cases h
    obtain ⟨x, rfl, hv⟩ := reps1 g r e
    obtain ⟨a, vs, rfl, h1, h2⟩ := hv.tup g.sub
    exact ⟨_, _, rfl, .inr ⟨vs, h1, rfl⟩, by rw [h2.length]; exact p.val g (.int _) q⟩
  · split at h
    · cases h
      obtain ⟨x, rfl, hv⟩ := reps1 g r e
      obtain rfl := hv.str
      exact ⟨_, _, rfl, ⟨by assumption, rfl⟩, p.val g (.int _) q⟩
    · cases h
  · split at h
    · cases h
      obtain ⟨x, rfl, hv⟩ := reps1 g r e
      obtain rfl := hv.byt
      exact ⟨_, _, rfl, ⟨by assumption, rfl⟩, p.val g (.int _) q⟩
    · cases h
  · cases h
def tyName : D -> Option String
  | .non => some "NoneType"
  | .bl _ => some "bool"
  | .int _ => some "int"
  | .str _ => some "str"
  | .byt _ => some "bytes"
  | .lst _ => some "list"
  | .tup _ => some "tuple"
  | .dK _ _ => some "dict"
  | _ => none
def tyNames : List String := ["NoneType", "bool", "int", "str", "bytes", "list", "tuple", "dict"]
def isTy (a b : String) : Bool := a == b || (a == "bool" && b == "int")
theorem isTy_kit : ∀ a ∈ tyNames, ∀ b ∈ tyNames, kitB a b = some (isTy a b) := by decide +kernel
theorem tyName_mem {d : D} {n : String} (h : tyName d = some n) : n ∈ tyNames := by
  cases d <;> simp only [tyName] at h <;> first | (cases h; decide) | cases h
theorem tyX_of {F H : Hp} (s : Same F H) {v : V} {d : D} {n : String} (h : Vw K cl F H v d) (e : tyName d = some n) : TyX K H v (.type n) := by
  cases d with
  | non => cases e; rw [h.non]; exact .base .non
  | bl b => cases e; rw [h.bl]; exact .base (.bl b)
  | int i => cases e; rw [h.int]; exact .base (.int i)
  | str x => cases e; rw [h.str]; exact .base (.str x)
  | byt b => cases e; rw [h.byt]; exact .byt b
  | lst ds =>
    cases e
    obtain ⟨a, vs, rfl, h1, h2⟩ := h.lst s
    rcases h1 with (h1 | ⟨o, h1⟩) | ⟨o, its, n, h1, h3, _⟩
    · exact .base (.lst h1)
    · exact .base (.frz h1)
    · exact .kList h1 h3
  | tup ds =>
    cases e
    obtain ⟨a, vs, rfl, h1, h2⟩ := h.tup s
    rcases h1 with (h1 | ⟨o, h1⟩) | ⟨o, its, n, h1, h3, _⟩
    · exact .base (.tup h1)
    · exact .fTuple h1
    · exact .kTuple h1 h3
  | dK ks ds =>
    cases e
    rcases h with h | ⟨a, rfl, vs, h1, _⟩
    · cases h with | dK h1 _ _ => exact .base (.dK (s _ _ h1))
    · exact .base (.dK h1)
  | _ => cases e
def isiF : List D -> Option D
  | [d, .ty n] => match tyName d with
    | some a => if n ∈ tyNames then some (.bl (isTy a n)) else none
    | none => none
  | [d, .tup ts] => match tyName d with
    | some a => if ts.all (fun t => match t with | .ty n => decide (n ∈ tyNames) | _ => false) then some (.bl (ts.any fun t => match t with | .ty n => isTy a n | _ => false)) else none
    | none => none
  | _ => none
theorem kitAny_of {a : String} (ha : a ∈ tyNames) : ∀ {F : Hp} {vs : List V} {ts : List D}, Reps K cl F vs ts -> ts.all (fun t => match t with | .ty n => decide (n ∈ tyNames) | _ => false) = true ->
    ∃ us, Paired ClsV vs us /\ PySem.W.kitAny K (.type a) us = some (ts.any fun t => match t with | .ty n => isTy a n | _ => false)
  | F, vs, [], r, _ => by
    obtain rfl := r.inv0
    exact ⟨[], .nil, kitAny_nil⟩
  | F, vs, t :: ts, r, h => by
    obtain ⟨v, ws, rfl, r1, r2⟩ := r.inv
    rw [List.all_cons] at h
    obtain ⟨h1, h2⟩ := Bool.and_eq_true_iff.mp h
    obtain ⟨us, hp, hk⟩ := kitAny_of ha r2 h2
    cases t with
    | ty n =>
      have hn : n ∈ tyNames := of_decide_eq_true h1
      rw [r1.toTy]
      refine ⟨.type n :: us, .cons (.ty n) hp, ?_⟩
      have k1 : PySem.W.kitOne K (.type a) (.type n) = some (isTy a n) := kit_ty (isTy_kit a ha n hn)
      rw [List.any_cons]
      refine kitAny_cons k1 (fun e => ?_) fun e => ?_
      · simp only [e, Bool.false_or]; exact hk
      · simp only [e, Bool.true_or]
    | _ => cases h1
theorem lc_isi : LCall K cl (fun xs H Q => rIsi K xs H Q \/ rIsiT K xs H Q \/ rIsiK K xs H Q) isiF := by
  intro F H M xs ds z Q Qd g r h p q
  generalize e : ds.map (vw M) = es at h
  unfold isiF at h
  split at h
  · rename_i d n
    obtain ⟨x, y, rfl, hv, hw⟩ := reps2 g r e
    cases e2 : tyName d with
    | none => rw [e2] at h; cases h
    | some a =>
      rw [e2] at h
      simp only at h
      split at h
      · rename_i hn
        cases h
        have hy : y = .ty n := by
          rcases hw with hw | ⟨_, _, hw⟩
          · exact hw.toTy
          · exact hw.elim
        subst hy
        exact .inl ⟨x, .ty n, .type a, .type n, _, rfl, .ty n, tyX_of g.sub hv e2, kit_ty (isTy_kit a (tyName_mem e2) n hn), p.val g (.bl _) q⟩
      · cases h
  · rename_i d ts
    obtain ⟨x, y, rfl, hv, hw⟩ := reps2 g r e
    cases e2 : tyName d with
    | none => rw [e2] at h; cases h
    | some a =>
      rw [e2] at h
      simp only at h
      split at h
      · rename_i hn
        cases h
        rcases hw with hw | ⟨_, _, hw⟩
        · obtain ⟨b, vs, rfl, h1, h2⟩ := hw.toTup1
          obtain ⟨us, hp, hk⟩ := kitAny_of (tyName_mem e2) h2 hn
          rcases h1 with h1 | ⟨⟨oc, od, dt, sl⟩, its, n, h1, h3, h4, h5, h6⟩
          · exact .inr (.inl ⟨x, b, vs, .type a, us, _, rfl, g.sub _ _ h1, hp, tyX_of g.sub hv e2, hk, p.val g (.bl _) q⟩)
          · simp only at h3 h4
            subst h3 h4
            have e3 := ClsV.all hp h6
            refine .inr (.inr ⟨x, b, od, us, n, sl, .type a, _, rfl, ?_, tyX_of g.sub hv e2, hk, p.val g (.bl _) q⟩)
            rw [<- e3]
            simpa using h1
        · exact hw.elim
      · cases h
  · cases h
end
end DL
set_option Elab.async false
set_option linter.all false
set_option autoImplicit false
set_option maxRecDepth 100000
set_option maxHeartbeats 2000000
namespace DL
open PySem L2 PySem.W PySem.Spec
def FnB (cl : ClW) (P : Program) (w : World) (K : Frag) (mg : Str -> Option Value) (base : Heap) (k : Nat) (x : Str) (ps : List Str) (spd : SpD) : Prop :=
  ∃ f fd, mg x = some (.ref f) /\ keepIn K (.ref f) = true /\ Binds K fd ps [] /\ FnG cl P w K mg base k f fd ps spd
section
variable {cl : ClW} {X : Cx} {W : WX} {j k : Nat} {ps : List Str} {spd : SpD} {x : Str} {p pos : Pos} {e : Expr} {es : List Expr} {α : DTA}
theorem d_fn (c : Cap X W k) (G : FnB cl X.prog X.w X.K X.mg X.base j x ps spd) (hj : j <= k) (hg : Gl X x) (ha : DA cl X W (e :: es) α)
    (hdb : (x == ("__debug__" : Str)) = false := by decide) (he : starEach (e :: es) X.env = (false, eval e X.env) :: starEach es X.env := by rfl) (hpl : (backTo pos (starEach es X.env)).any (·.1) = false := by rfl) :
    DE cl X W (.Call (.Name x p) (e :: es) [] pos) (dCall spd [] α) := by
  obtain ⟨f, fd, h1, h2, h3, h4⟩ := G
  exact d_call c (h4.mono hj) hg h1 h2 h3 .nil (fun _ => .nil) ha hdb he hpl
theorem d_bltn {v : V} {u : Value} {d : D} (hg : Gl X x) (hm : X.mg x = none) (hv : bootBuiltins x = some u) (r : RelV v u) (rd : ∀ F, Rep X.K cl F v d) (hn : x ≠ "__name__" := by decide) (hd : (x == ("__debug__" : Str)) = false := by decide) : DE cl X W (.Name x pos) (dC d) :=
  d_c (pe_bltn hg hm hv r hn hd) rd
theorem d_ty {n : String} (hg : Gl X x) (hm : X.mg x = none) (hv : bootBuiltins x = some (.type n)) (hn : x ≠ "__name__" := by decide) (hd : (x == ("__debug__" : Str)) = false := by decide) : DE cl X W (.Name x pos) (dC (.ty n)) :=
  d_bltn (v := .ty n) hg hm hv rfl (fun _ => .ty n) hn hd
theorem d_globI {i : Int} (hg : Gl X x) (hm : ∃ t, X.mg x = some (.int i t)) (hd : (x == ("__debug__" : Str)) = false := by decide) : DE cl X W (.Name x pos) (dC (.int i)) := by
  obtain ⟨t, h⟩ := hm
  exact d_c (v := .int i) (pe_glob hg h ⟨t, rfl⟩ hd) fun _ => .int i
theorem d_globS {z : Str} (hg : Gl X x) (hm : ∃ t, X.mg x = some (.str z t)) (hd : (x == ("__debug__" : Str)) = false := by decide) : DE cl X W (.Name x pos) (dC (.str z)) := by
  obtain ⟨t, h⟩ := hm
  exact d_c (v := .str z) (pe_glob hg h ⟨t, rfl⟩ hd) fun _ => .str z
end
end DL
set_option Elab.async false
set_option linter.all false
set_option autoImplicit false
namespace DL
open PySem L2
@[simp] theorem size_line : sizeLine = 16777216 := sizeLine_eq
@[simp] theorem and_flat (a b c : Prop) : ((a /\ b) /\ c) = (a /\ b /\ c) := propext and_assoc
section
variable {M : Mem} {i j : Int} {b : Bool} {x y : Str} {xs ys : List D} {d e : D} {a : Addr}
@[simp] theorem vw_non : vw M .non = .non := rfl
@[simp] theorem vw_bl : vw M (.bl b) = .bl b := rfl
@[simp] theorem vw_int : vw M (.int i) = .int i := rfl
@[simp] theorem vw_str : vw M (.str x) = .str x := rfl
@[simp] theorem vw_byt {z : Array UInt8} : vw M (.byt z) = .byt z := rfl
@[simp] theorem vw_ty {n : String} : vw M (.ty n) = .ty n := rfl
@[simp] theorem vw_lst : vw M (.lst xs) = .lst xs := rfl
@[simp] theorem vw_tup : vw M (.tup xs) = .tup xs := rfl
@[simp] theorem vw_dK {ks : List Key} : vw M (.dK ks xs) = .dK ks xs := rfl
@[simp] theorem vw_dT {ep : Nat} {ks : List (List (Option Key))} : vw M (.dT ep ks xs) = .dT ep ks xs := rfl
@[simp] theorem vw_obj {c : Nat} {ns : List Str} : vw M (.obj c ns xs) = .obj c ns xs := rfl
@[simp] theorem vw_cls {c : Nat} : vw M (.cls c) = .cls c := rfl
theorem vw_ref (h : M a = some d) : vw M (.ref a) = d := by show (M a).getD _ = d; rw [h]; rfl
@[simp] theorem addD_int : addD (.int i) (.int j) = some (.int (i + j)) := rfl
@[simp] theorem addD_lst (h : xs.length + ys.length <= 16777216) : addD (.lst xs) (.lst ys) = some (.lst (xs ++ ys)) := if_pos (by rw [sizeLine_eq]; exact h)
@[simp] theorem addD_tup (h : xs.length + ys.length <= 16777216) : addD (.tup xs) (.tup ys) = some (.tup (xs ++ ys)) := if_pos (by rw [sizeLine_eq]; exact h)
@[simp] theorem addD_str (h : x.length + y.length <= 16777216) : addD (.str x) (.str y) = some (.str (x ++ y)) := if_pos (by rw [sizeLine_eq]; exact h)
@[simp] theorem mulD_int (h : (-18446744073709551616 < i /\ i < 18446744073709551616) \/ (-18446744073709551616 < j /\ j < 18446744073709551616)) : mulD (.int i) (.int j) = some (.int (i * j)) := if_pos h
@[simp] theorem fdivD_int (h : 0 < j) (h2 : j < 1000000000000000000000000000000000000) : fdivD (.int i) (.int j) = some (.int (i / j)) := if_pos ⟨h, Int.lt_trans h2 (by decide)⟩
@[simp] theorem modD_int (h : 0 < j) : modD (.int i) (.int j) = some (.int (i % j)) := if_pos h
@[simp] theorem absF_int : absF [.int i] = some (.int (if i < 0 then -i else i)) := rfl
@[simp] theorem intF_int : intF [.int i] = some (.int i) := rfl
@[simp] theorem intF_bl : intF [.bl b] = some (.int (if b then 1 else 0)) := rfl
@[simp] theorem vw_upd : vw (updM M a d) (.ref a) = d := by show (updM M a d a).getD _ = d; rw [updM_same]; rfl
@[simp] theorem upd_at : updM M a d a = some d := updM_same
@[simp] theorem powD_int : powD (.int i) (.int j) = if 0 <= j /\ j <= 1000000 /\ i.natAbs < 2 ^ 64 then some (.int (i ^ j.toNat)) else none := rfl
@[simp] theorem ixD_lst : ixD (.lst xs) (.int i) = atI xs i := rfl
@[simp] theorem ixD_tup : ixD (.tup xs) (.int i) = atI xs i := rfl
@[simp] theorem slD_lst {lo hi : Option Int} : slD (.lst xs) lo hi = some (.lst (cutD xs lo hi)) := rfl
@[simp] theorem slD_tup {lo hi : Option Int} : slD (.tup xs) lo hi = some (.tup (cutD xs lo hi)) := rfl
@[simp] theorem lenF_lst : lenF [.lst xs] = some (.int xs.length) := rfl
@[simp] theorem lenF_tup : lenF [.tup xs] = some (.int xs.length) := rfl
@[simp] theorem minF_2 : minF [.int i, .int j] = some (.int (if j < i then j else i)) := rfl
@[simp] theorem maxF_2 : maxF [.int i, .int j] = some (.int (if j > i then j else i)) := rfl
@[simp] theorem minF_l : minF [.lst xs] = (intsOf xs).bind fun ns => ns.min?.map D.int := rfl
@[simp] theorem maxF_l : maxF [.lst xs] = (intsOf xs).bind fun ns => ns.max?.map D.int := rfl
@[simp] theorem intsOf_nil : intsOf [] = some [] := rfl
@[simp] theorem intsOf_cons : intsOf (.int i :: xs) = (intsOf xs).map (i :: ·) := rfl
@[simp] theorem intsOf_ints (ns : List Int) : intsOf (ns.map D.int) = some ns := intsOf_map ns
theorem atI_at {α : Type} {l : List α} {k : Int} (h0 : 0 <= k) (h1 : k < l.length) : atI l k = l[k.toNat]? := by
  obtain ⟨n, rfl⟩ := Int.eq_ofNat_of_zero_le h0
  have hn : n < l.length := by omega
  rw [Int.toNat_natCast, List.getElem?_eq_getElem hn]
  exact atI_nat (List.getElem?_eq_getElem hn)
@[simp] theorem atI_0 {α : Type} {u : α} {l : List α} : atI (u :: l) 0 = some u := atI_nat (j := 0) rfl
@[simp] theorem atI_1 {α : Type} {u v : α} {l : List α} : atI (u :: v :: l) 1 = some v := atI_nat (j := 1) rfl
@[simp] theorem atI_2 {α : Type} {u v w : α} {l : List α} : atI (u :: v :: w :: l) 2 = some w := atI_nat (j := 2) rfl
@[simp] theorem atI_3 {α : Type} {u v w z : α} {l : List α} : atI (u :: v :: w :: z :: l) 3 = some z := atI_nat (j := 3) rfl
@[simp] theorem atI_4 {α : Type} {u v w z y : α} {l : List α} : atI (u :: v :: w :: z :: y :: l) 4 = some y := atI_nat (j := 4) rfl
@[simp] theorem eqD_tup : eqD (.tup xs) (.tup ys) = (eqP (.tup xs) (.tup ys)).map D.bl := rfl
@[simp] theorem neD_tup : neD (.tup xs) (.tup ys) = (eqP (.tup xs) (.tup ys)).map fun b => D.bl !b := rfl
@[simp] theorem eqD_lst : eqD (.lst xs) (.lst ys) = (eqP (.lst xs) (.lst ys)).map D.bl := rfl
@[simp] theorem neD_lst : neD (.lst xs) (.lst ys) = (eqP (.lst xs) (.lst ys)).map fun b => D.bl !b := rfl
@[simp] theorem eqD_int : eqD (.int i) (.int j) = some (.bl (i == j)) := rfl
@[simp] theorem neD_int : neD (.int i) (.int j) = some (.bl (!(i == j))) := rfl
@[simp] theorem eqD_str : eqD (.str x) (.str y) = some (.bl (x == y)) := rfl
@[simp] theorem neD_str : neD (.str x) (.str y) = some (.bl (!(x == y))) := rfl
@[simp] theorem eqD_bl {c : Bool} : eqD (.bl b) (.bl c) = some (.bl (b == c)) := rfl
@[simp] theorem neD_bl {c : Bool} : neD (.bl b) (.bl c) = some (.bl (!(b == c))) := rfl
end
end DL
set_option Elab.async false
set_option linter.all false
set_option maxRecDepth 100000
set_option maxHeartbeats 2000000
set_option autoImplicit false
namespace DL
open PySem L2
def setN (f : Str) : List Str -> List Str
  | [] => [f]
  | g :: r => if g = f then g :: r else g :: setN f r
def setV {α : Type} (f : Str) (d : α) : List Str -> List α -> List α
  | g :: r, e :: es => if g = f then d :: es else e :: setV f d r es
  | _, _ => [d]
def lookN {α : Type} (f : Str) : List Str -> List α -> Option α
  | g :: r, e :: es => if g = f then some e else lookN f r es
  | _, _ => none
theorem putF_zip (f : Str) (y : V) : ∀ (ns : List Str) (vs : List V), ns.length = vs.length -> putF f y (ns.zip vs) = (setN f ns).zip (setV f y ns vs) /\ (setN f ns).length = (setV f y ns vs).length
  | [], [], _ => ⟨rfl, rfl⟩
  | n :: ns, v :: vs, h => by
    obtain ⟨h1, h2⟩ := putF_zip f y ns vs (by simpa using h)
    show (if n = f then (n, y) :: ns.zip vs else (n, v) :: putF f y (ns.zip vs)) = (if n = f then n :: ns else n :: setN f ns).zip (if n = f then y :: vs else v :: setV f y ns vs) /\ (if n = f then n :: ns else n :: setN f ns).length = (if n = f then y :: vs else v :: setV f y ns vs).length
    by_cases e : n = f
    · simp only [if_pos e]
      exact ⟨rfl, by simpa using h⟩
    · simp only [if_neg e]
      exact ⟨by rw [h1]; rfl, by simp [h2]⟩
theorem lookN_zip {α : Type} (f : Str) : ∀ (ns : List Str) (vs : List α), (ns.zip vs).lookup f = lookN f ns vs
  | [], _ => by simp [lookN]
  | _ :: _, [] => by simp [lookN]
  | n :: ns, v :: vs => by
    show (match f == n with | true => some v | false => (ns.zip vs).lookup f) = if n = f then some v else lookN f ns vs
    rw [lookN_zip f ns vs]
    by_cases e : n = f
    · subst e; simp
    · rw [if_neg e, beq_eq_false_iff_ne.mpr (Ne.symm e)]
theorem lookN_none {α : Type} (f : Str) : ∀ (ns : List Str) (vs : List α), f ∉ ns -> lookN f ns vs = none
  | [], _, _ => by simp [lookN]
  | _ :: _, [], _ => by simp [lookN]
  | n :: ns, v :: vs, h => by
    show (if n = f then some v else lookN f ns vs) = none
    have ne : n ≠ f := fun e => h (by rw [e]; exact List.mem_cons_self)
    rw [if_neg ne]
    exact lookN_none f ns vs fun z => h (List.mem_cons_of_mem _ z)
section
variable {K : PySem.W.Frag} {cl : ClW} {F : Hp}
theorem reps_setV {f : Str} {y : V} {d : D} (r : Rep K cl F y d) : ∀ {ns : List Str} {vs : List V} {ds : List D}, Reps K cl F vs ds -> Reps K cl F (setV f y ns vs) (setV f d ns ds)
  | [], [], [], _ => .one r
  | [], _, _, h => by
    cases h <;> exact .one r
  | n :: ns, _, _, .nil => .one r
  | n :: ns, _, _, .cons h t => by
    show Reps K cl F (if n = f then y :: _ else _ :: setV f y ns _) (if n = f then d :: _ else _ :: setV f d ns _)
    by_cases e : n = f
    · simp only [if_pos e]; exact .cons r t
    · simp only [if_neg e]; exact .cons h (reps_setV r t)
theorem reps_lookN {f : Str} : ∀ {ns : List Str} {vs : List V} {ds : List D} {d : D}, Reps K cl F vs ds -> lookN f ns ds = some d -> ∃ v, lookN f ns vs = some v /\ Rep K cl F v d
  | [], vs, ds, d, r, h => by cases ds <;> simp [lookN] at h
  | n :: ns, _, _, d, .nil, h => by simp [lookN] at h
  | n :: ns, _, _, d, .cons (v := v) (d := e) r t, h => by
    have h : (if n = f then some e else lookN f ns _) = some d := h
    show ∃ w, (if n = f then some v else lookN f ns _) = some w /\ Rep K cl F w d
    by_cases q : n = f
    · simp only [if_pos q] at h ⊢
      cases h
      exact ⟨v, rfl, r⟩
    · simp only [if_neg q] at h ⊢
      exact reps_lookN t h
end
def FldOk (K : PySem.W.Frag) (cl : Nat -> Addr) (cs : List Nat) (f : Str) : Prop := ∀ c ∈ cs, Cls K (cl c) /\ NoAttr K (cl c) f
def fldD (cs : List Nat) (f : Str) : D -> Option D
  | .obj c ns ds => if c ∈ cs then lookN f ns ds else none
  | _ => none
def dFldSet (cs : List Nat) (f : Str) (τo τv : DTE) : DTS := fun E ρ M => τv ρ M (fun d M1 => τo ρ M1 (fun o M2 => ∃ a c ns ds, o = .ref a /\ M2 a = some (.obj c ns ds) /\ c ∈ cs /\ ns.length < 1000 /\ E.nx ρ (updM M2 a (.obj c (setN f ns) (setV f d ns ds)))) E.ex) E.ex
section
variable {cl : ClW} {X : Cx} {W : WX} {o e : Expr} {es : List Expr} {pos : Pos} {τ τo τv : DTE} {α : DTA} {f : Str} {cs : List Nat}
theorem d_fld (hf : FldOk X.K cl cs f) (ho : DE cl X W o τ) (hb : attributeBase o f X.env (eval o X.env) = eval o X.env := by rfl) : DE cl X W (.Attribute o f pos) (dUn (fldD cs f) τ) :=
  ⟨pe_imp (pe_fld ho.pe hb) fun σ H Q ⟨F, ρ, M, Qd, Xd, g, s, t, p, w⟩ => ⟨F, ρ, M, _, Xd, g, s, t, fun v H' F' d M' sm g' r ⟨z, e1, q⟩ => (by
    have hv := vw_ok g' r
    cases e2 : vw M' d with
    | obj c ns ds =>
      rw [e2] at hv e1
      simp only [fldD] at e1
      split at e1
      · rename_i hc
        obtain ⟨a, dx, vs, rfl, h1, h2, h3⟩ := hv.obj g'.sub
        obtain ⟨u, h4, h5⟩ := reps_lookN h3 e1
        obtain ⟨k1, k2⟩ := hf c hc
        exact ⟨a, cl c, dx, ns.zip vs, u, rfl, h1, k1, k2, by rw [lookN_zip]; exact h4, (p.mono sm).val g' h5 q⟩
      · cases e1
    | _ =>
      rw [e2] at e1
      cases e1), w⟩⟩
theorem ds_fld {pos' : Pos} (hf : FldOk X.K cl cs f) (ho : DE cl X W o τo) (hv : DE cl X W e τv) (hs : swapsWith e (some (.Attribute o f pos')) pos.line X.env = pure false := by rfl) : DS cl X W (.Assign [.Attribute o f pos'] e pos) (dFldSet cs f τo τv) :=
  ⟨ps_imp (ps_fld ho.pe hv.pe hs) fun D σ H ⟨F, ρ, M, E, g, s, q, ok⟩ => ⟨F, ρ, M, _, E.ex, g, s, q, fun y H1 F1 d M1 sm1 g1 r1 q1 => ⟨F1, ρ, M1, _, E.ex, g1, s.mono sm1, q1, fun x H2 F2 od M2 sm2 g2 r2 q2 => (by
    obtain ⟨a, c, ns, ds, e1, e2, e3, e4, q2⟩ := q2
    subst e1
    obtain rfl := r2.toRef
    obtain ⟨hF, dx, vs, h1, h2, h3⟩ := g2.cell a _ e2
    obtain ⟨k1, k2⟩ := hf c e3
    obtain ⟨z1, z2⟩ := putF_zip f y ns vs h2
    refine ⟨a, cl c, dx, ns.zip vs, rfl, h1, k1, k2, by rw [List.length_zip, <- h2, Nat.min_self]; exact e4, ?_⟩
    rw [z1]
    exact ok.nx _ _ F2 ρ _ (sm1.trans sm2) (g2.put (d := .obj c (setN f ns) (setV f d ns ds)) e2 ⟨dx, setV f y ns vs, upd_same, z2, reps_setV (r1.mono sm2) h3⟩) (s.mono (sm1.trans sm2)) q2), ok.ex.mono sm1⟩, ok.ex⟩⟩
end
def MkB (cl : ClW) (P : Program) (w : World) (K : PySem.W.Frag) (mg : Str -> Option Value) (base : Heap) (k : Nat) (x : Str) (c : Nat) (ps : List Str) (spd : SpD) : Prop :=
  mg x = some (.ref (cl c)) /\ ∃ f fd, Mk K (cl c) f /\ Binds K fd ps [] /\ FnG cl P w K mg base k f fd ps spd
def dMake (c : Nat) (spd : SpD) (α : DTA) : DTE := fun ρ M Q X => α ρ M (fun ds M1 => ∀ x, M1 x = none -> spd (.ref x :: ds) (updM M1 x (.obj c [] [])) (fun d M2 => d = .non /\ frz (.ref x) M2 Q) (fun c' ns es M2 => X c' ns es ρ M2)) X
def dMakeM (c : Nat) (spd : SpD) (α : DTA) : DTE := fun ρ M Q X => α ρ M (fun ds M1 => ∀ x, M1 x = none -> spd (.ref x :: ds) (updM M1 x (.obj c [] [])) (fun d M2 => d = .non /\ Q (.ref x) M2) (fun c' ns es M2 => X c' ns es ρ M2)) X
section
variable {cl : ClW} {X : Cx} {W : WX} {j k c : Nat} {ps : List Str} {spd : SpD} {x : Str} {p pos : Pos} {e : Expr} {es : List Expr} {α : DTA}
theorem run_mk {pins : List (Addr × Obj)} {σ : St} {H : Hp} {s : Shared} {Q : VK} {us : List Value} {kw : List (Str × Value)} {ws : List Value} {zs : List V} {f : Addr} {fd : FuncData} (cp : Cap X W (k + 1)) (M : Mk X.K (cl c) f) (F : FnG cl X.prog X.w X.K X.mg X.base k f fd ps spd)
    (I : Inv X pins σ H s) (r : Vals zs ws) (hb : ∀ (s : Shared) (x : Value), X.K.In s.heap -> ws.length + 1 = ps.length -> BindsTo s fd ⟨x :: us, kw⟩ (ps.zip (x :: ws)))
    (h : ∀ x dx, H x = none -> H dx = none -> dx ≠ x -> lower X.K cl spd (.ref x :: zs) (upd (upd H dx (.own x)) x (.ins (cl c) dx [])) (fun v H2 => v = .non /\ Q (.ref x) H2) (WE W σ)) :
    wpAny (model X.prog X.w) X.A (call (.ref (cl c)) us kw) (EP X pins σ Q) X.xe s := by
  have hq := h (s.heap.objs.size + 1) s.heap.objs.size (I.hok.fresh (Nat.le_succ _)) (I.hok.fresh (Nat.le_refl _)) (Nat.ne_of_lt (Nat.lt_succ_self _))
  have I2 := Inv.made (C := cl c) I
  have r2 : Vals (V.ref (s.heap.objs.size + 1) :: zs) (Value.ref (s.heap.objs.size + 1) :: ws) := .cons rfl r
  have hl : ws.length + 1 = ps.length := by
    have e1 := F.lenV hq
    have e2 := r.length
    simp only [List.length_cons] at e1
    omega
  refine wpAny_call (make_map (f := f) I.kIn M.makes M.init (beq_iff_eq.mp M.fn) (codeAny_mono (F.run _ X.stack _ _ _ (Value.ref (s.heap.objs.size + 1) :: ws) _ _ _ (cp.hr.make (cl c) us kw) (I2.env0.make (cl c) us kw) (hb _ _ I2.kIn hl) r2 hq) fun r s' hq' => ?_))
  cases r with
  | error e => exact passAt cp.tk σ pins _ _ e s' I2 hq'
  | ok fl =>
    cases fl with
    | ret u =>
      obtain ⟨v, H', I3, rv, ev, q3⟩ := I2.after hq'
      subst ev
      exact ⟨rv, V.ref (s.heap.objs.size + 1), H', I3, rfl, q3⟩
    | next => exact False.elim hq'
    | brk => exact False.elim hq'
    | cont => exact False.elim hq'
theorem low_mk {K : PySem.W.Frag} {σ : St} {F : Hp} {ρ : Env} {M : Mem} {Qd : DV} {Xd : DX} {vs : List V} {ds : List D} {H : Hp} {Q : VK} {x dx : Addr} (g : Good K cl F H M) (s : Slots K cl F σ ρ) (r : Reps K cl F vs ds) (hx : H x = none) (hdx : H dx = none) (ne : dx ≠ x)
    (q : spd (.ref x :: ds) (updM M x (.obj c [] [])) (fun d M2 => d = .non /\ Qd (.ref x) M2) (fun c' ns es M2 => Xd c' ns es ρ M2)) (p : Post K cl F Q Qd) (w : WOk K cl W F Xd) :
    lower K cl spd (.ref x :: vs) (upd (upd H dx (.own x)) x (.ins (cl c) dx [])) (fun v H2 => v = .non /\ Q (.ref x) H2) (WE W σ) := by
  have g1 : Good K cl F (upd H dx (.own x)) M := g.junk hdx
  have hx1 : upd H dx (.own x) x = none := by rw [upd_ne (Ne.symm ne)]; exact hx
  have g2 : Good K cl F (upd (upd H dx (.own x)) x (.ins (cl c) dx [])) (updM M x (.obj c [] [])) := g1.newM (d := .obj c [] []) hx1 ⟨dx, [], upd_same, rfl, .nil⟩
  exact ⟨F, _, .ref x :: ds, _, _, g2, .cons (.ref x) r, q, fun v H' F' d M' sm g' rv ⟨e1, q'⟩ => by subst e1; exact ⟨rv.toNon, p _ _ _ _ _ sm g' (.ref x) q'⟩,
    fun c' ns es H' F' M' dd sm g' ea q' => w c' ns es σ H' F' ρ M' dd sm g' (s.mono sm) ea q'⟩
theorem post_frz {K : PySem.W.Frag} {F : Hp} {Q : VK} {Qd : DV} (p : Post K cl F Q Qd) : Post K cl F Q (fun d M => frz d M Qd) := fun v H' F' d M' sm g' r q => by
  cases d with
  | ref a =>
    obtain rfl := r.toRef
    cases e : M' a with
    | none =>
      simp only [frz, e] at q
      exact p _ _ _ _ _ sm g' r q
    | some c =>
      simp only [frz, e] at q
      obtain ⟨F2, s2, g2, r2⟩ := g'.freeze e
      exact p _ _ _ _ _ (sm.trans s2) g2 r2 q
  | _ => exact p _ _ _ _ _ sm g' r q
theorem d_makeM (cp : Cap X W k) (G : MkB cl X.prog X.w X.K X.mg X.base j x c ps spd) (hj : j + 1 <= k) (hg : Gl X x) (ha : DA cl X W (e :: es) α)
    (hdb : (x == ("__debug__" : Str)) = false := by decide) (he : starEach (e :: es) X.env = (false, eval e X.env) :: starEach es X.env := by rfl) (hpl : (backTo pos (starEach es X.env)).any (·.1) = false := by rfl) :
    DE cl X W (.Call (.Name x p) (e :: es) [] pos) (dMakeM c spd α) := ⟨⟨fun pins s σ H Q I h => by
  obtain ⟨hm, f, fd, M, hb, G⟩ := G
  obtain ⟨k', rfl⟩ : ∃ k', k = k' + 1 := ⟨k - 1, by omega⟩
  obtain ⟨F, ρ, M0, Qd, Xd, g, sl, q, pp, w⟩ := h
  refine wpAny_Call_Name_kw (ld_glob I hg hm ?_ hdb)
  refine PySem.W.callWith_K (h₀ := X.base) I.ok.mod.kin M.kp (thn (ha.pa.run pos pins s σ H (fun vs H1 => ∀ x dx, H1 x = none -> H1 dx = none -> dx ≠ x -> lower X.K cl spd (.ref x :: vs) (upd (upd H1 dx (.own x)) x (.ins (cl c) dx [])) (fun v H2 => v = .non /\ Q (.ref x) H2) (WE W σ)) I
    ⟨F, ρ, M0, _, Xd, g, sl, q, fun vs H' F' ds M' sm g' r q' x dx hx hdx ne => ?_, w⟩) fun us s1 ⟨vs, H1, I1, r, q⟩ => ⟨I1.kIn, ?_⟩) he hpl
  · exact low_mk g' (sl.mono sm) r hx hdx ne (q' x (g'.freshM hx)) (pp.mono sm) (w.mono sm)
  · refine run_mk (kw := []) cp M (G.mono (by omega)) I1 r (fun s u hk hl => ?_) q
    have := hb s (u :: us) hk (by have := r.length; simp; omega)
    simpa using this⟩⟩
theorem d_make (cp : Cap X W k) (G : MkB cl X.prog X.w X.K X.mg X.base j x c ps spd) (hj : j + 1 <= k) (hg : Gl X x) (ha : DA cl X W (e :: es) α)
    (hdb : (x == ("__debug__" : Str)) = false := by decide) (he : starEach (e :: es) X.env = (false, eval e X.env) :: starEach es X.env := by rfl) (hpl : (backTo pos (starEach es X.env)).any (·.1) = false := by rfl) :
    DE cl X W (.Call (.Name x p) (e :: es) [] pos) (dMake c spd α) :=
  ⟨pe_imp (d_makeM cp G hj hg ha hdb he hpl).pe fun σ H Q ⟨F, ρ, M, Qd, Xd, g, s, q, p, w⟩ => ⟨F, ρ, M, fun d M => frz d M Qd, Xd, g, s, q, post_frz p, w⟩⟩
end
def MethB (cl : ClW) (P : Program) (w : World) (K : PySem.W.Frag) (mg : Str -> Option Value) (base : Heap) (k : Nat) (c : Nat) (m : Str) (spd : SpD) : Prop :=
  Cls K (cl c) /\ ∃ f fd ps, Meth K (cl c) m f /\ Binds K fd ps [] /\ FnG cl P w K mg base k f fd ps spd
def dMeth (tb : List (Nat × SpD)) (m : Str) (τ : DTE) (α : DTA) : DTE := fun ρ M Q X => τ ρ M (fun o M1 => ∃ c ns ds spd, vw M1 o = .obj c ns ds /\ tb.lookup c = some spd /\ m ∉ ns /\ α ρ M1 (fun as M2 => spd (o :: as) M2 Q (fun c' ns es M3 => X c' ns es ρ M3)) X) X
section
variable {cl : ClW} {X : Cx} {W : WX} {k : Nat} {m : Str} {p pos apos : Pos} {o e : Expr} {es : List Expr} {τ : DTE} {α : DTA} {tb : List (Nat × SpD)} {pl : Sem Bool}
theorem meth_at {K : PySem.W.Frag} {F H : Hp} {M : Mem} {v : V} {d : D} {c : Nat} {ns : List Str} {ds : List D} (g : Good K cl F H M) (r : Rep K cl F v d) (e : vw M d = .obj c ns ds) (hm : m ∉ ns) : ∃ a dx fs, v = .ref a /\ H a = some (.ins (cl c) dx fs) /\ fs.lookup m = none := by
  have hv := vw_ok g r
  rw [e] at hv
  obtain ⟨a, dx, vs, rfl, h1, h2, h3⟩ := hv.obj g.sub
  exact ⟨a, dx, _, rfl, h1, by rw [lookN_zip]; exact lookN_none m ns vs hm⟩
theorem d_meth (cp : Cap X W k) (hm : ∀ c spd, tb.lookup c = some spd -> MethB cl X.prog X.w X.K X.mg X.base k c m spd) (ho : DE cl X W o τ) (ha : DA cl X W (e :: es) α)
    (hst : starEach (e :: es) X.env = (false, eval e X.env) :: starEach es X.env := by rfl) (hpl : (backTo pos (starEach es X.env)).any (·.1) = false := by rfl)
    (ht : eval (.Call (.Attribute o m apos) (e :: es) [] pos) X.env = (do
      let ov <- eval o X.env
      standAt apos.atName
      let (f, first) <- holding [ov] (getMethod ov m pl)
      callWith pos f first (backTo pos (starEach (e :: es) X.env)) (backToKw pos (keywordEach [] X.env))) := by rfl) :
    DE cl X W (.Call (.Attribute o m apos) (e :: es) [] pos) (dMeth tb m τ α) := ⟨⟨fun pins s σ H Q I h => by
  obtain ⟨F, ρ, M, Qd, Xd, g, sl, q, p, w⟩ := h
  refine PySem.W.methodCall_KW (pl := pl) (thn (ho.pe.run pins s σ H (fun v H1 => ∃ F' ρ' M' o, Same F F' /\ Good X.K cl F' H1 M' /\ Rep X.K cl F' v o /\ ρ' = ρ /\ ∃ c ns ds spd, vw M' o = .obj c ns ds /\ tb.lookup c = some spd /\ m ∉ ns /\ α ρ M' (fun as M2 => spd (o :: as) M2 Qd (fun c' ns es M3 => Xd c' ns es ρ M3)) Xd) I
    ⟨F, ρ, M, _, Xd, g, sl, q, fun v H' F' d M' sm g' r q' => ⟨F', ρ, M', d, sm, g', r, rfl, q'⟩, w⟩) fun u s1 ⟨v, H1, I1, rv, F1, ρ1, M1, od, sm1, g1, r1, _, c, ns, ds, spd, e1, e2, e3, q1⟩ => ?_) ht
  obtain ⟨hc, f, fd, ps, mt, hb, G⟩ := hm c spd e2
  obtain ⟨a, dx, fs, rfl, ha1, ha2⟩ := meth_at g1 r1 e1 e3
  obtain rfl : u = Value.ref a := rv
  refine getmeth_ok I1 ha1 hc mt ha2 ?_
  refine PySem.W.callWith_K (first := [.ref a]) (h₀ := X.base) I.ok.mod.kin mt.kp (thn (ha.pa.run pos pins s1 σ H1 (fun vs H2 => lower X.K cl spd ((.ref a :: vs) ++ []) H2 Q (WE W σ)) I1 ⟨F1, ρ, M1, _, Xd, g1, sl.mono sm1, q1, fun vs H' F' as M' sm g' r q' => ?_, w.mono sm1⟩) fun us s2 ⟨vs, H2, I2, r, q2⟩ => ⟨I2.kIn, ?_⟩) hst hpl
  · show lower X.K cl spd ((.ref a :: vs) ++ []) H' Q (WE W σ)
    rw [List.append_nil]
    exact low_call g' (sl.mono (sm1.trans sm)) (.cons (r1.mono sm) r) q' (p.mono (sm1.trans sm)) (w.mono (sm1.trans sm))
  · exact run_g (us := .ref a :: us) (vs := .ref a :: vs) cp G hb .nil I2 (.cons rfl r) q2⟩⟩
theorem d_meth0 (cp : Cap X W k) (hm : ∀ c spd, tb.lookup c = some spd -> MethB cl X.prog X.w X.K X.mg X.base k c m spd) (ho : DE cl X W o τ)
    (ht : eval (.Call (.Attribute o m apos) [] [] pos) X.env = (do
      let ov <- eval o X.env
      standAt apos.atName
      let (f, first) <- holding [ov] (getMethod ov m pl)
      callWith pos f first (backTo pos (starEach [] X.env)) (backToKw pos (keywordEach [] X.env))) := by rfl) :
    DE cl X W (.Call (.Attribute o m apos) [] [] pos) (dMeth tb m τ dNil) := ⟨⟨fun pins s σ H Q I h => by
  obtain ⟨F, ρ, M, Qd, Xd, g, sl, q, p, w⟩ := h
  refine PySem.W.methodCall_KW (pl := pl) (thn (ho.pe.run pins s σ H (fun v H1 => ∃ F' M' o, Same F F' /\ Good X.K cl F' H1 M' /\ Rep X.K cl F' v o /\ ∃ c ns ds spd, vw M' o = .obj c ns ds /\ tb.lookup c = some spd /\ m ∉ ns /\ spd [o] M' Qd (fun c' ns es M3 => Xd c' ns es ρ M3)) I
    ⟨F, ρ, M, _, Xd, g, sl, q, fun v H' F' d M' sm g' r q' => ⟨F', M', d, sm, g', r, q'⟩, w⟩) fun u s1 ⟨v, H1, I1, rv, F1, M1, od, sm1, g1, r1, c, ns, ds, spd, e1, e2, e3, q1⟩ => ?_) ht
  obtain ⟨hc, f, fd, ps, mt, hb, G⟩ := hm c spd e2
  obtain ⟨a, dx, fs, rfl, ha1, ha2⟩ := meth_at g1 r1 e1 e3
  obtain rfl : u = Value.ref a := rv
  refine getmeth_ok I1 ha1 hc mt ha2 ?_
  exact PySem.W.callWith_K0 (first := [.ref a]) I1.kIn mt.kp (run_g (us := [.ref a]) (vs := [.ref a]) cp G hb .nil I1 (.cons rfl .nil) (low_call g1 (sl.mono sm1) (.one r1) q1 (p.mono sm1) (w.mono sm1)))⟩⟩
end
end DL
set_option Elab.async false
set_option linter.all false
set_option maxRecDepth 100000
set_option maxHeartbeats 2000000
set_option autoImplicit false
namespace DL
open PySem L2
def blsOf : List D -> Option (List Bool)
  | [] => some []
  | .bl i :: r => (blsOf r).map (i :: ·)
  | _ :: _ => none
theorem blsOf_eq : ∀ {ds : List D} {ns : List Bool}, blsOf ds = some ns -> ds = ns.map D.bl
  | [], ns, h => by simp only [blsOf] at h; cases h; rfl
  | d :: ds, ns, h => by
    cases d with
    | bl i =>
      simp only [blsOf] at h
      cases e : blsOf ds with
      | none => rw [e] at h; cases h
      | some ms => rw [e] at h; cases h; rw [blsOf_eq e]; rfl
    | _ => simp only [blsOf] at h; cases h
@[simp] theorem blsOf_map (ns : List Bool) : blsOf (ns.map D.bl) = some ns := by
  induction ns with
  | nil => rfl
  | cons n ns ih => simp only [List.map_cons, blsOf, ih]; rfl
def allF : List D -> Option D
  | [.lst xs] => (blsOf xs).map fun bs => .bl (bs.all id)
  | _ => none
def anyF : List D -> Option D
  | [.lst xs] => (blsOf xs).map fun bs => .bl (bs.any id)
  | _ => none
def strF : List D -> Option D
  | [.int i] => if i.natAbs.log2 < 1920 then some (.str (toString i)) else none
  | _ => none
def tupF : List D -> Option D
  | [.lst xs] => some (.tup xs)
  | [.tup xs] => some (.tup xs)
  | _ => none
def lstF : List D -> Option D
  | [.lst xs] => some (.lst xs)
  | [.tup xs] => some (.lst xs)
  | _ => none
section
variable {K : PySem.W.Frag} {cl : ClW} {F : Hp}
theorem Reps.bls : ∀ {vs : List V} {ns : List Bool}, Reps K cl F vs (ns.map D.bl) -> vs = ns.map V.bl
  | _, [], h => h.inv0
  | _, n :: ns, h => by
    obtain ⟨v, ws, rfl, a, b⟩ := h.inv
    rw [a.toBl, Reps.bls b]; rfl
theorem lc_all : LCall K cl (rAll K) allF := by
  intro F H M xs ds z Q Qd g r h p q
  generalize e : ds.map (vw M) = es at h
  unfold allF at h
  split at h
  · obtain ⟨x, rfl, hv⟩ := reps1 g r e
    obtain ⟨a, vs, rfl, h1, h2⟩ := hv.lst g.sub
    rename_i ys
    cases e2 : blsOf ys with
    | none => rw [e2] at h; cases h
    | some ns =>
      rw [e2] at h
      cases h
      rw [blsOf_eq e2] at h2
      exact ⟨a, ns, rfl, by rw [<- h2.bls]; exact h1, p.val g (.bl _) q⟩
  · cases h
theorem lc_str : LCall K cl (fun xs H Q => ∃ i, xs = [.int i] /\ i.natAbs.log2 < 1920 /\ Q (.str (toString i)) H) strF := by
  intro F H M xs ds z Q Qd g r h p q
  generalize e : ds.map (vw M) = es at h
  unfold strF at h
  split at h
  · obtain ⟨x, rfl, hv⟩ := reps1 g r e
    obtain rfl := hv.int
    split at h
    · cases h
      exact ⟨_, rfl, by assumption, p.val g (.str _) q⟩
    · cases h
  · cases h
theorem lc_tup : LCall K cl (fun xs H Q => ∃ p ys, xs = [.ref p] /\ ((SqL K H p ys /\ ∀ l, H l = none -> Q (.ref l) (upd H l (.tup ys))) \/ (SqT K H p ys /\ Q (.ref p) H))) tupF := by
  intro F H M xs ds z Q Qd g r h p q
  generalize e : ds.map (vw M) = es at h
  unfold tupF at h
  split at h
  · obtain ⟨x, rfl, hv⟩ := reps1 g r e
    obtain ⟨a, vs, rfl, h1, h2⟩ := hv.lst g.sub
    cases h
    exact ⟨a, vs, rfl, .inl ⟨h1, fun l hl => p.newT g h2 q hl⟩⟩
  · obtain ⟨x, rfl, hv⟩ := reps1 g r e
    rcases hv with hv | ⟨_, _, hv⟩
    · obtain ⟨a, vs, rfl, h1, h2⟩ := hv.toTup
      cases h
      exact ⟨a, vs, rfl, .inr ⟨same_t g.sub h1, p.val g hv q⟩⟩
    · exact hv.elim
  · cases h
end
section
variable {cl : ClW} {X : Cx} {W : WX} {e : Expr} {es : List Expr} {pos p : Pos} {α : DTA}
end
@[simp] def flatD : D -> Bool
  | .non => true
  | .bl _ => true
  | .int _ => true
  | .str _ => true
  | _ => false
@[simp] def eqFD : D -> D -> Bool
  | .non, .non => true
  | .bl a, .bl b => a == b
  | .bl a, .int b => (if a then 1 else 0) == b
  | .int a, .bl b => a == (if b then 1 else 0)
  | .int a, .int b => a == b
  | .str a, .str b => a == b
  | _, _ => false
def keyD : D -> Option Key
  | .int i => some (.inl i)
  | .str x => some (.inr x)
  | _ => none
def inStr (x z : Str) : Bool := match x with
  | ⟨⟨[c]⟩⟩ => decide (c ∈ z.cps.toList)
  | x => !(Builtin.Str.occurrences z x 0 z.length 1).isEmpty
def inB (x : D) : D -> Option Bool
  | .lst xs => if flatD x && xs.all flatD then some (xs.any fun y => eqFD y x) else none
  | .tup xs => if flatD x && xs.all flatD then some (xs.any fun y => eqFD y x) else none
  | .str z => match x with
    | .str i => some (inStr i z)
    | _ => none
  | .dK ks _ => (keyD x).map fun k => ks.any fun j => decide (j = k)
  | _ => none
def inD (x y : D) : Option D := (inB x y).map D.bl
def ninD (x y : D) : Option D := (inB x y).map fun b => D.bl !b
section
variable {K : PySem.W.Frag} {cl : ClW} {F H : Hp} {X : Cx}
theorem flat_of {v : V} {d : D} (h : Vw K cl F H v d) (f : flatD d = true) : flatV v = true /\ Rep K cl F v d := by
  cases d with
  | non => obtain rfl := h.non; exact ⟨rfl, .non⟩
  | bl b => obtain rfl := h.bl; exact ⟨rfl, .bl b⟩
  | int b => obtain rfl := h.int; exact ⟨rfl, .int b⟩
  | str b => obtain rfl := h.str; exact ⟨rfl, .str b⟩
  | _ => cases f
theorem eq_of {v u : V} {d e : D} (h : Rep K cl F v d) (k : Rep K cl F u e) (f : flatD d = true) (f' : flatD e = true) : eqV v u = eqFD d e := by
  cases d with
  | non => obtain rfl := h.toNon; cases e with
    | non => obtain rfl := k.toNon; rfl
    | bl b => obtain rfl := k.toBl; rfl
    | int b => obtain rfl := k.toInt; rfl
    | str b => obtain rfl := k.toStr; rfl
    | _ => cases f'
  | bl b => obtain rfl := h.toBl; cases e with
    | non => obtain rfl := k.toNon; rfl
    | bl b => obtain rfl := k.toBl; rfl
    | int b => obtain rfl := k.toInt; rfl
    | str b => obtain rfl := k.toStr; rfl
    | _ => cases f'
  | int b => obtain rfl := h.toInt; cases e with
    | non => obtain rfl := k.toNon; rfl
    | bl b => obtain rfl := k.toBl; rfl
    | int b => obtain rfl := k.toInt; rfl
    | str b => obtain rfl := k.toStr; rfl
    | _ => cases f'
  | str b => obtain rfl := h.toStr; cases e with
    | non => obtain rfl := k.toNon; rfl
    | bl b => obtain rfl := k.toBl; rfl
    | int b => obtain rfl := k.toInt; rfl
    | str b => obtain rfl := k.toStr; rfl
    | _ => cases f'
  | _ => cases f
theorem flats_of {x : V} {d : D} (hx : Rep K cl F x d) (fd : flatD d = true) : ∀ {vs : List V} {ds : List D}, Reps K cl F vs ds -> ds.all flatD = true -> vs.all flatV = true /\ inV x vs = ds.any fun y => eqFD y d
  | _, _, .nil, _ => ⟨rfl, rfl⟩
  | _, _, .cons (v := v) (d := e) r t, f => by
    rw [List.all_cons, Bool.and_eq_true] at f
    obtain ⟨h1, h2⟩ := flats_of hx fd t f.2
    refine ⟨by rw [List.all_cons, (flat_of (H := F) (.inl r) f.1).1, h1]; rfl, ?_⟩
    unfold inV at h2 ⊢
    rw [List.any_cons, List.any_cons, h2, eq_of r hx f.1 fd]
theorem key_rep {v : V} {d : D} {k : Key} (h : Vw K cl F H v d) (e : keyD d = some k) : v = kV k := by
  cases d with
  | int i => cases e; exact h.int
  | str i => cases e; exact h.str
  | _ => cases e
theorem Vw.dK {v : V} {ks : List Key} {ds : List D} (g : Same F H) (h : Vw K cl F H v (.dK ks ds)) : ∃ a vs, v = .ref a /\ H a = some (.dK (ks.zip vs)) /\ ks.length = vs.length /\ Reps K cl F vs ds := by
  rcases h with h | ⟨a, rfl, vs, h1, h2, h3⟩
  · cases h with
    | dK h1 h2 h3 => exact ⟨_, _, rfl, g _ _ h1, h2, h3⟩
  · exact ⟨a, vs, rfl, h1, h2, h3⟩
def atK {α β : Type} [DecidableEq β] (k : β) : List β -> List α -> Option α
  | j :: ks, d :: ds => if j = k then some d else atK k ks ds
  | _, _ => none
theorem valV_zip {β : Type} [DecidableEq β] (k : β) : ∀ (ks : List β) (vs : List V), valV (ks.zip vs) k = atK k ks vs
  | [], _ => by simp [atK, valV]
  | _ :: _, [] => by simp [atK, valV]
  | j :: ks, v :: vs => by
    rw [List.zip_cons_cons]
    unfold atK
    by_cases e : j = k
    · rw [valV_pos e, if_pos e]
    · rw [valV_neg e, if_neg e, valV_zip k ks vs]
theorem atK_some {α β : Type} [DecidableEq β] (k : β) : ∀ (ks : List β) (vs : List α), ks.length = vs.length -> (atK k ks vs).isSome = ks.any fun j => decide (j = k)
  | [], _, _ => by simp [atK]
  | _ :: _, [], h => by simp at h
  | j :: ks, v :: vs, h => by
    unfold atK
    by_cases e : j = k
    · rw [if_pos e]; simp [e]
    · rw [if_neg e, atK_some k ks vs (by simpa using h)]
      simp [e]
theorem reps_atK {β : Type} [DecidableEq β] {k : β} : ∀ {ks : List β} {vs : List V} {ds : List D} {d : D}, Reps K cl F vs ds -> atK k ks ds = some d -> ∃ v, atK k ks vs = some v /\ Rep K cl F v d
  | [], vs, ds, d, r, h => by cases ds <;> simp [atK] at h
  | _ :: _, _, _, d, .nil, h => by simp [atK] at h
  | j :: ks, _, _, d, .cons (v := v) (d := e) r t, h => by
    unfold atK at h ⊢
    by_cases q : j = k
    · simp only [if_pos q] at h ⊢
      cases h
      exact ⟨v, rfl, r⟩
    · simp only [if_neg q] at h ⊢
      exact reps_atK t h
def rDIn (b : Bool) : R2 := fun y x H Q => ∃ a o, x = .ref a /\ DGet H a y o /\ Q (.bl (if b then o.isSome else !o.isSome)) H
theorem op_dIn (hu : X.A.units + 1 < cLine) : OpR X (compareOp .In) (rDIn true) := by
  intro pins s σ H x y v u Q I rx ry h
  obtain ⟨a, o, rfl, g, q⟩ := h
  cases ry
  exact d_in hu I g rx fun s' I' => ⟨.bl _, H, I', rfl, q⟩
def rSgn (n : Bool) : R2 := fun x y H Q => ∃ (c : Nat) (z : Str), x = .str ⟨#[c]⟩ /\ y = .str z /\ Q (.bl (if n then !decide (c ∈ z.cps.toList) else decide (c ∈ z.cps.toList))) H
def rStrIn (n : Bool) : R2 := fun x y H Q => ∃ i j, x = .str i /\ y = .str j /\ Q (.bl (if n then !(!(Builtin.Str.occurrences j i 0 j.length 1).isEmpty) else (!(Builtin.Str.occurrences j i 0 j.length 1).isEmpty))) H
def rInAll (K : PySem.W.Frag) (n : Bool) : R2 := fun x y H Q => rIn K n x y H Q \/ rSgn n x y H Q \/ rStrIn n x y H Q \/ rDIn (!n) x y H Q
theorem op_inA (hu : X.A.units + 1 < cLine) : OpR X (compareOp .In) (rInAll X.K false) := op_in_seq.or (op_in_sign.or (op_in_str.or (op_dIn hu)))
theorem in_at (s : Same F H) {n : Bool} {x y : V} {d e : D} {b : Bool} {Q : VK} (hx : Vw K cl F H x d) (hy : Vw K cl F H y e) (h : inB d e = some b) (q : Q (.bl (if n then !b else b)) H) : rInAll K n x y H Q := by
  cases e with
  | lst ds =>
    simp only [inB] at h
    split at h
    · rename_i hf
      cases h
      rw [Bool.and_eq_true] at hf
      obtain ⟨a, vs, rfl, h1, h2⟩ := hy.lst s
      obtain ⟨f1, r1⟩ := flat_of hx hf.1
      obtain ⟨f2, e2⟩ := flats_of r1 hf.1 h2 hf.2
      exact .inl ⟨a, vs, rfl, .inl h1, f1, f2, by rw [e2]; exact q⟩
    · cases h
  | tup ds =>
    simp only [inB] at h
    split at h
    · rename_i hf
      cases h
      rw [Bool.and_eq_true] at hf
      obtain ⟨a, vs, rfl, h1, h2⟩ := hy.tup s
      obtain ⟨f1, r1⟩ := flat_of hx hf.1
      obtain ⟨f2, e2⟩ := flats_of r1 hf.1 h2 hf.2
      exact .inl ⟨a, vs, rfl, .inr h1, f1, f2, by rw [e2]; exact q⟩
    · cases h
  | str z =>
    cases d with
    | str i =>
      simp only [inB] at h
      cases h
      obtain rfl := hx.str
      obtain rfl := hy.str
      by_cases hc : ∃ c, i = ⟨⟨[c]⟩⟩
      · obtain ⟨c, rfl⟩ := hc
        exact .inr (.inl ⟨c, z, rfl, rfl, q⟩)
      · have e1 : inStr i z = !(Builtin.Str.occurrences z i 0 z.length 1).isEmpty := by
          unfold inStr
          split
          · exact absurd ⟨_, rfl⟩ hc
          · rfl
        rw [e1] at q
        exact .inr (.inr (.inl ⟨_, z, rfl, rfl, q⟩))
    | _ => cases h
  | dK ks ds =>
    simp only [inB] at h
    cases e1 : keyD d with
    | none => rw [e1] at h; cases h
    | some k =>
      rw [e1] at h
      cases h
      obtain ⟨a, vs, rfl, h1, h2, h3⟩ := hy.dK s
      refine .inr (.inr (.inr ⟨a, _, rfl, by rw [key_rep hx e1]; exact DGet.k h1, ?_⟩))
      rw [valV_zip, atK_some k ks vs h2]
      cases n <;> exact q
  | _ => cases h
theorem lop_in : LOp K cl (rInAll K false) inD := by
  intro F H M x y d e z Q Qd g hx hy h p q
  unfold inD at h
  cases e1 : inB d e with
  | none => rw [e1] at h; cases h
  | some b => rw [e1] at h; cases h; exact in_at g.sub hx hy e1 (p.val g (.bl _) q)
def ixA : D -> D -> Option D
  | .dK ks ds, k => (keyD k).bind fun k => atK k ks ds
  | d, e => ixD d e
def rDIx : R2 := fun x y H Q => ∃ a v, x = .ref a /\ DGet H a y (some v) /\ Q v H
theorem ix_dict (hu : X.A.units + 1 < cLine) : IxR X rDIx := by
  intro value slice pins s σ H x y v u Q I rx ry h hs
  obtain ⟨a, z, rfl, g, q⟩ := h
  cases rx
  exact PyProof.Rows.tail_any (dict_typeIs I g) PySem.F.slot_dict_getitem.lookup (d_getItem hu I g ry fun w' s3 I3 rw' => ⟨z, H, I3, rw', q⟩) hs
theorem lixA : LOp K cl (fun x y H Q => rIx K x y H Q \/ rDIx x y H Q) ixA := by
  intro F H M x y d e z Q Qd g hx hy h p q
  unfold ixA at h
  split at h
  · rename_i ks ds
    cases e1 : keyD e with
    | none => rw [e1] at h; cases h
    | some k =>
      rw [e1] at h
      obtain ⟨a, vs, rfl, h1, h2, h3⟩ := hx.dK g.sub
      obtain ⟨v, h4, h5⟩ := reps_atK h3 h
      exact .inr ⟨a, v, rfl, by rw [key_rep hy e1, <- h4, <- valV_zip]; exact DGet.k h1, p.val g h5 q⟩
  · exact .inl (lix F H M x y d e z Q Qd g hx hy h p q)
variable {W : WX} {a b : Expr} {pos : Pos} {τa τb : DTE}
theorem d_ixA (hu : X.A.units + 1 < cLine) (ha : DE cl X W a τa) (hb : DE cl X W b τb) (hs : PlainIx b := by exact fun _ _ => rfl) : DE cl X W (.Subscript a b pos) (dOp ixA τa τb) :=
  ⟨pe_imp (pe_ix (ix_seq.or (ix_dict hu)) ha.pe hb.pe hs) fun σ H Q ⟨F, ρ, M, Qd, Xd, g, s, t, p, w⟩ =>
    ⟨F, ρ, M, _, Xd, g, s, t, fun v H' F' d M' sm g' r' q => ⟨F', ρ, M', _, Xd, g', s.mono sm, q, fun u H2 F2 e M2 sm2 g2 r2 q2 => by
      obtain ⟨z, e1, e2⟩ := q2
      exact lixA F2 H2 M2 v u _ _ z Q Qd g2 (vw_ok g2 (r'.mono sm2)) (vw_ok g2 r2) e1 (p.mono (sm.trans sm2)) e2, w.mono sm⟩, w⟩⟩
end
end DL
set_option Elab.async false
set_option linter.all false
set_option maxRecDepth 100000
set_option maxHeartbeats 4000000
set_option autoImplicit false
namespace DL
open PySem L2
section
open PySem.Spec PyProof.Rows HT
variable {prog : Program} {w : World} {A : Around} {E : Value -> Shared -> Prop} {s : Shared}
theorem rev_places (n : Nat) : Builtin.Slice.slicePlaces ((n : Int) - 1) (-1) (-1) = n := by
  unfold Builtin.Slice.slicePlaces
  have h1 : ¬ ((-1 : Int) > 0) := by omega
  simp only [h1, if_false]
  by_cases h : (n : Int) - 1 > -1
  · simp only [h, if_true]
    rw [show (- -1 : Int) = 1 by decide, Int.ediv_one]
    omega
  · simp only [h, if_false]
    omega
theorem rev_applied {sl : Addr} {vk : Value} {n : Nat} {Q : Int × Int × Nat -> Shared -> Prop} (hs : s.heap.IsSliceOf sl .none .none vk) (pk : IsPart vk (some (-1)))
    (h : Q ((n : Int) - 1, -1, n) s) : wpAny (model prog w) A (Builtin.Slice.sliceApplied (.ref sl) (pure (n : Int))) Q E s := by
  obtain ⟨os, hos, hcs, hds⟩ := id hs
  unfold Builtin.Slice.sliceApplied Builtin.Slice.sliceFields
  refine wpAny_bind (wpAny_bind (wpAny_field hos hds (x := .none) rfl (wpAny_bind (wpAny_field hos hds (x := .none) rfl (wpAny_bind (wpAny_field hos hds (x := vk) rfl (wpAny_pure ?_)))))))
  refine wpAny_bind (HT.slicePart_ pk ?_)
  show wpAny _ _ (if ((-1 : Int) == 0) = true then _ else _) _ _ s
  rw [if_neg (by decide)]
  refine wpAny_bind (HT.slicePart_ .none (wpAny_bind (HT.slicePart_ .none (wpAny_bind (wpAny_pure ?_)))))
  show wpAny _ _ (pure ((n : Int) - 1, (-1 : Int), Builtin.Slice.slicePlaces ((n : Int) - 1) (-1) (-1))) _ _ s
  rw [rev_places]
  exact wpAny_pure h
theorem rev_pick (xs : Array Value) : ((List.range xs.size).filterMap fun (m : Nat) => xs[((xs.size : Int) - 1 + (m : Int) * (-1)).toNat]?).toArray = xs.toList.reverse.toArray := by
  have e : ((List.range xs.size).filterMap fun (m : Nat) => xs[((xs.size : Int) - 1 + (m : Int) * (-1)).toNat]?) = (((List.range xs.size).map fun k => xs.size - 1 - k).filterMap (xs[·]?)) := by
    have go : ∀ l : List Nat, (∀ m ∈ l, m < xs.size) -> (l.filterMap fun (m : Nat) => xs[((xs.size : Int) - 1 + (m : Int) * (-1)).toNat]?) = ((l.map fun k => xs.size - 1 - k).filterMap (xs[·]?)) := by
      intro l
      induction l with
      | nil => intro _; rfl
      | cons m l ih =>
        intro hm
        have h1 := hm m List.mem_cons_self
        have e2 : ((xs.size : Int) - 1 + (m : Int) * (-1)).toNat = xs.size - 1 - m := by omega
        rw [List.map_cons, List.filterMap_cons, List.filterMap_cons, e2, ih fun k hk => hm k (List.mem_cons_of_mem _ hk)]
    exact go _ fun m hm => List.mem_range.mp hm
  rw [e, PySem.W.krv_range, List.filterMap_reverse, PySem.W.krv_all]
theorem getItem_tuple_rev {t sl : Addr} {items : Array Value} {vk : Value} {Q : Value -> Shared -> Prop} (ht : IsTup s.heap t items) (hs : s.heap.IsSliceOf sl .none .none vk) (pk : IsPart vk (some (-1)))
    (h : Q (.ref s.heap.objs.size) { s with heap := s.heap.push { cls := .type "tuple", data := .seq items.toList.reverse.toArray } })
    (hsz : items.size <= sizeLine) : wpAny (model prog w) A (getItem (.ref t) (.ref sl)) Q E s := by
  have htake : sizeOk (.seq items.toList.reverse.toArray) := by
    show items.toList.reverse.toArray.size <= sizeLine
    rw [List.size_toArray, List.length_reverse, Array.length_toList]
    omega
  obtain ⟨os, hos, hcs, hds⟩ := id hs
  have hTs : s.TypeIs (.ref sl) "slice" := ⟨os, hos, hcs⟩
  unfold getItem
  try with_reducible refine wpAny_holding ?_
  first | refine wpAny_bind (wpAny_pure ?_) | skip
  refine wpAny_bind (wpAny_sequenceKey ht.typeIs (by decide) ?_)
  refine wpAny_bind (wpAny_callSpecial?_slot (name := Str.ofString "__getitem__") ht.typeIs PyProof.Rows.slot_tuple_getitem
    (wpAny_call_entry PyProof.Rows.slot_tuple_getitem ht.typeIs PyProof.Rows.entry_tuple_getitem ?_ (PyProof.Rows.args_tuple_getitem _ _)))
  show wpAny _ _ (Builtin.Tuple.tupleItemsOf (.ref t) >>= _) _ _ s
  refine wpAny_bind (tupleItemsOf_ ht ?_)
  refine wpAny_bind (wpAny_typeOf hTs ?_)
  rw [if_pos (by decide)]
  refine wpAny_bind (rev_applied hs pk ?_)
  have hno : ¬ ((((items.size : Int) - 1) == 0 && (-1 : Int) == 1 && items.size == items.size) = true) := by
    simp
  show wpAny _ _ (if (((items.size : Int) - 1) == 0 && (-1 : Int) == 1 && items.size == items.size) = true then _ else _) _ _ s
  rw [if_neg hno, rev_pick]
  first
    | exact wpAny_bind (m := Builtin.Tuple.tupleExact _) (wpAny_newObj_type (wpAny_pure ⟨_, rfl, wpAny_pure h⟩) htake)
    | exact wpAny_bind (m := Builtin.Tuple.tupleExact _) (wpAny_newObj_type (wpAny_bind (wpAny_pure (wpAny_pure ⟨_, rfl, wpAny_pure h⟩))) htake)
    | exact wpAny_bind (wpAny_bind (m := Builtin.Tuple.tupleExact _) (wpAny_newObj_type (wpAny_pure (wpAny_pure ⟨_, rfl, wpAny_pure h⟩)) htake))
    | exact wpAny_bind (wpAny_bind (m := Builtin.Tuple.tupleExact _) (wpAny_newObj_type (wpAny_pure ⟨_, rfl, wpAny_pure h⟩) htake))
end
def tRevA (K : PySem.W.Frag) (te : TE) : TE := fun σ H Q => te σ H fun x H1 => ∃ a xs, x = .ref a /\ ((SqL K H1 a xs /\ ∀ p, H1 p = none -> Q (.ref p) (upd H1 p (.lst xs.reverse))) \/ (SqT K H1 a xs /\ ∀ p, H1 p = none -> Q (.ref p) (upd H1 p (.tup xs.reverse))))
section
open PySem.Spec PyProof.Rows HT
variable {X : Cx}
theorem pe_revA {e : Expr} {te : TE} {k : Nat} {p1 p2 p3 pos : Pos} (he : PE X e te) : PE X (.Subscript e (.Slice none none (some (.UnaryOp .USub (.Constant (.int 1) k p1) p2)) p3) pos) (tRevA X.K te) := by
  refine ⟨fun pins s σ H Q I h => ?_⟩
  refine PyProof.Rows.Subscript_ (thn (he.run pins s σ H _ I h) fun v s1 ⟨x, H1, I1, r1, q1⟩ => ?_)
  obtain ⟨a, xs, ex, q⟩ := q1
  subst ex
  cases r1
  have hst : PO X (some (.UnaryOp .USub (.Constant (.int 1) k p1) p2)) (tPart (tUn (rU fun i => .int (-i)) (tC (.int 1)))) := po_some (pe_un un_neg pe_int)
  refine wpAny_Slice (thn (po_none.run pins s1 σ H1 (fun o H2 => o = none /\ H2 = H1) I1 ⟨rfl, rfl⟩) fun vl s2 ⟨l, H2, I2, pl, el, e2⟩ => ?_)
  subst el e2
  refine thn (po_none.run pins s2 σ H2 (fun o H3 => o = none /\ H3 = H2) I2 ⟨rfl, rfl⟩) fun vu s3 ⟨u, H3, I3, pu, eu, e3⟩ => ?_
  subst eu e3
  refine thn (hst.run pins s3 σ H3 (fun o H4 => o = some (-1) /\ H4 = H3) I3 ⟨1, rfl, -1, rfl, rfl, rfl⟩) fun vs s4 ⟨o, H4, I4, ps, eo, e4⟩ => ?_
  subst eo e4
  have I5 : Inv X pins σ H4 { s4 with heap := s4.heap.push { cls := .type "slice", data := .fields #[vl, vu, vs] } } := I4.kept (t' := s4.toks) fun b ob q => Heap.get?_push_of_some _ q
  show wpAny (model X.prog X.w) X.A (subscriptTail e (.Slice none none (some (.UnaryOp .USub (.Constant (.int 1) k p1) p2)) p3) (.ref a) (.ref s4.heap.objs.size)) (EP X pins σ Q) X.xe { s4 with heap := s4.heap.push { cls := .type "slice", data := .fields #[vl, vu, vs] } }
  rcases q with ⟨hx, q⟩ | ⟨hx, q⟩
  · obtain ⟨its, r, ht, hz⟩ := I5.list hx
    have hlen := r.length
    refine PyProof.Rows.tail_any (ops := [.ref a, .ref s4.heap.objs.size]) ht.isList.typeIs (PySem.slot_list_getitem.lookup) ?_ (by with_unfolding_all rfl)
    refine wpAny_getItem_list_slice ht.isList (Heap.IsSliceOf.new _ vl vu vs) pl pu ps (by decide) ?_ (by rw [List.size_toArray]; omega)
    rw [PySem.W.krv_pick]
    refine ⟨.ref _, _, I5.laid (t' := s4.toks) (o := .lst xs.reverse) (fun b ob q => Heap.get?_push_of_some _ q) (Nat.le_refl _) ?_, rfl, q _ (I5.hok.fresh (Nat.le_refl _))⟩
    exact ⟨by rw [List.length_reverse]; exact hz, _, 0, r.reverse, Heap.get?_push_size _ rfl⟩
  · obtain ⟨its, r, ht, hz⟩ := I5.tuple hx
    have hlen := r.length
    cases pl
    cases pu
    refine PyProof.Rows.tail_any (ops := [.ref a, .ref s4.heap.objs.size]) ht.typeIs (PyProof.Rows.slot_tuple_getitem.lookup) ?_ (by with_unfolding_all rfl)
    refine getItem_tuple_rev ht (Heap.IsSliceOf.new _ _ _ vs) ps ?_ (by rw [List.size_toArray]; omega)
    refine ⟨.ref _, _, I5.laid (t' := s4.toks) (o := .tup xs.reverse) (fun b ob q => Heap.get?_push_of_some _ q) (Nat.le_refl _) (show ObjOk X.prog X.w _ _ _ (.tup xs.reverse) from ⟨by rw [List.length_reverse]; exact hz, its.reverse, r.reverse, IsTup.new _ _⟩), rfl, q _ (I5.hok.fresh (Nat.le_refl _))⟩
end
@[simp] def revD : D -> Option D
  | .lst xs => some (.lst xs.reverse)
  | .tup xs => some (.tup xs.reverse)
  | _ => none
section
variable {cl : ClW} {X : Cx} {W : WX} {e : Expr} {τ : DTE} {pos : Pos}
theorem d_rev {k : Nat} {p1 p2 p3 : Pos} (he : DE cl X W e τ) : DE cl X W (.Subscript e (.Slice none none (some (.UnaryOp .USub (.Constant (.int 1) k p1) p2)) p3) pos) (dUn revD τ) :=
  ⟨pe_imp (pe_revA he.pe) fun σ H Q ⟨F, ρ, M, Qd, Xd, g, s, t, p, w⟩ => ⟨F, ρ, M, _, Xd, g, s, t, fun v H' F' d M' sm g' r ⟨z, e1, q⟩ => (by
    have hv := vw_ok g' r
    cases e2 : vw M' d with
    | lst ds =>
      rw [e2] at hv e1
      cases e1
      obtain ⟨a, vs, rfl, h1, h2⟩ := hv.lst g'.sub
      exact ⟨a, vs, rfl, .inl ⟨h1, fun c hc => (p.mono sm).newL g' h2.reverse q hc⟩⟩
    | tup ds =>
      rw [e2] at hv e1
      cases e1
      obtain ⟨a, vs, rfl, h1, h2⟩ := hv.tup g'.sub
      exact ⟨a, vs, rfl, .inr ⟨h1, fun c hc => (p.mono sm).newT g' h2.reverse q hc⟩⟩
    | _ =>
      rw [e2] at e1
      cases e1), w⟩⟩
end
def tyD (T : String) : D -> Bool
  | .lst _ => T == "list"
  | .str _ => T == "str"
  | .dK _ _ => T == "dict"
  | _ => false
def LMt (K : PySem.W.Frag) (cl : ClW) (r : V -> List V -> Hp -> VK -> Prop) (φ : D -> List D -> Mem -> DV -> Prop) : Prop :=
  ∀ F H M x xs d ds Q Qd, Good K cl F H M -> Rep K cl F x d -> Reps K cl F xs ds -> φ d ds M Qd -> Post K cl F Q Qd -> r x xs H Q
def dBM (T : String) (φ : D -> List D -> Mem -> DV -> Prop) (τ : DTE) (α : DTA) : DTE := fun ρ M Q X => τ ρ M (fun o M1 => tyD T (vw M1 o) = true /\ α ρ M1 (fun ds M2 => φ o ds M2 Q) X) X
section
variable {K : PySem.W.Frag} {cl : ClW} {F H : Hp} {X : Cx} {W : WX}
theorem tyV_of {T : String} {v : V} {d : D} (s : Same F H) (h : Vw K cl F H v d) (e : tyD T d = true) : tyV K T v H := by
  cases d with
  | lst ds =>
    obtain ⟨a, vs, rfl, h1, h2⟩ := h.lst s
    exact .inl ⟨eq_of_beq e, vs, h1⟩
  | str z =>
    obtain rfl := h.str
    exact eq_of_beq e
  | dK ks ds =>
    obtain ⟨a, vs, rfl, h1, h2, h3⟩ := h.dK s
    exact .inr (.inr (.inl ⟨eq_of_beq e, .inl ⟨_, h1⟩⟩))
  | _ => cases e
variable {o e : Expr} {es : List Expr} {τ : DTE} {α : DTA} {name : Str} {apos cpos : Pos} {T id : String} {r : V -> List V -> Hp -> VK -> Prop} {φ : D -> List D -> Mem -> DV -> Prop}
theorem d_bm (pa : PlainAttrs T) (slot : Slot T name id) (hty : typeOf (.builtin id) = pure (.type "method_descriptor")) (hm : MtR X id r) (hl : LMt X.K cl r φ) (ho : DE cl X W o τ) (ha : DA cl X W (e :: es) α)
    (hbase : attributeBase o name X.env (eval o X.env) = eval o X.env := by rfl)
    (hfew : ((backTo cpos (starEach (e :: es) X.env)).all (fun x => !x.1) && (backToKw cpos (keywordEach [] X.env)).all (fun x => x.1.isSome)
      && decide ((e :: es).length + ([] : List Keyword).length + (if ([] : List Keyword).isEmpty then 0 else 1) < 30)) = true := by rfl)
    (hline : (apos.endLine == cpos.line) = true := by rfl) (hs : starEach (e :: es) X.env = (false, eval e X.env) :: starEach es X.env := by rfl) (hplain : (backTo cpos (starEach es X.env)).any (·.1) = false := by rfl) :
    DE cl X W (.Call (.Attribute o name apos) (e :: es) [] cpos) (dBM T φ τ α) :=
  ⟨pe_imp (pe_bm pa slot hty hm ho.pe ha.pa hbase hfew hline hs hplain) fun σ H Q ⟨F, ρ, M, Qd, Xd, g, s, t, p, w⟩ => ⟨F, ρ, M, _, Xd, g, s, t, fun v H' F' d M' sm g' r' ⟨e1, q⟩ =>
    ⟨tyV_of g'.sub (vw_ok g' r') e1, F', ρ, M', _, Xd, g', s.mono sm, q, fun vs H2 F2 ds M2 sm2 g2 r2 q2 => hl F2 H2 M2 v vs d ds Q Qd g2 (r'.mono sm2) r2 q2 (p.mono (sm.trans sm2)), w.mono sm⟩, w⟩⟩
theorem d_bm0 (pa : PlainAttrs T) (slot : Slot T name id) (hty : typeOf (.builtin id) = pure (.type "method_descriptor")) (hm : MtR X id r) (hl : LMt X.K cl r φ) (ho : DE cl X W o τ)
    (hbase : attributeBase o name X.env (eval o X.env) = eval o X.env := by rfl) (hline : (apos.endLine == cpos.line) = true := by rfl) :
    DE cl X W (.Call (.Attribute o name apos) [] [] cpos) (dBM T φ τ dNil) :=
  ⟨pe_imp (pe_bm0 pa slot hty hm ho.pe hbase hline) fun σ H Q ⟨F, ρ, M, Qd, Xd, g, s, t, p, w⟩ => ⟨F, ρ, M, _, Xd, g, s, t, fun v H' F' d M' sm g' r' ⟨e1, q⟩ =>
    ⟨tyV_of g'.sub (vw_ok g' r') e1, hl F' H' M' v [] d [] Q Qd g' r' .nil q (p.mono sm)⟩, w⟩⟩
def φApp : D -> List D -> Mem -> DV -> Prop := fun o ds M Q => ∃ a xs d, o = .ref a /\ ds = [d] /\ M a = some (.lst xs) /\ xs.length < sizeLine /\ Q .non (updM M a (.lst (xs ++ [d])))
theorem lm_app : LMt K cl rAppend φApp := by
  intro F H M x xs d ds Q Qd g rx rs h p
  obtain ⟨a, ys, y, rfl, rfl, h1, h2, q⟩ := h
  obtain rfl := rx.toRef
  obtain ⟨hF, vs, h3, h4⟩ := g.cell a _ h1
  obtain ⟨v, ws, rfl, r1, r2⟩ := rs.inv
  obtain rfl := r2.inv0
  exact ⟨a, vs, v, rfl, rfl, h3, by rw [h4.length]; exact h2, p _ _ F _ _ (Same.refl F) (g.put (d := .lst (ys ++ [y])) h1 ⟨vs ++ [v], upd_same, h4.append (.one r1)⟩) .non q⟩
def rExtS (K : PySem.W.Frag) : V -> List V -> Hp -> VK -> Prop := fun x vs H Q => ∃ l b xs zs, x = .ref l /\ vs = [.ref b] /\ H l = some (.lst xs) /\ SqL K H b zs /\ xs.length + zs.length <= sizeLine /\ Q .non (upd H l (.lst (xs ++ zs)))
def φPop : D -> List D -> Mem -> DV -> Prop := fun o ds M Q => ∃ a xs d, o = .ref a /\ ds = [] /\ M a = some (.lst xs) /\ xs[xs.length - 1]? = some d /\ Q d (updM M a (.lst xs.dropLast))
theorem Reps.dropLast : ∀ {vs : List V} {ds : List D}, Reps K cl F vs ds -> Reps K cl F vs.dropLast ds.dropLast
  | _, _, .nil => .nil
  | _, _, .cons _ .nil => .nil
  | _, _, .cons r (.cons r2 t) => .cons r (Reps.dropLast (.cons r2 t))
theorem Reps.erase : ∀ {vs : List V} {ds : List D} (i : Nat), Reps K cl F vs ds -> Reps K cl F (vs.eraseIdx i) (ds.eraseIdx i)
  | _, _, _, .nil => .nil
  | _, _, 0, .cons _ t => t
  | _, _, i + 1, .cons r t => .cons r (Reps.erase i t)
theorem lm_pop : LMt K cl rPop φPop := by
  intro F H M x xs d ds Q Qd g rx rs h p
  obtain ⟨a, ys, y, rfl, rfl, h1, h2, q⟩ := h
  obtain rfl := rx.toRef
  obtain rfl := rs.inv0
  obtain ⟨hF, vs, h3, h4⟩ := g.cell a _ h1
  obtain ⟨v, h5, h6⟩ := h4.get h2
  exact ⟨a, vs, v, rfl, rfl, h3, by rw [h4.length]; exact h5, p _ _ F _ _ (Same.refl F) (g.put (d := .lst ys.dropLast) h1 ⟨vs.dropLast, upd_same, h4.dropLast⟩) h6 q⟩
def φPopAt : D -> List D -> Mem -> DV -> Prop := fun o ds M Q => ∃ a xs i k d, o = .ref a /\ ds = [.int i] /\ M a = some (.lst xs) /\ -(2 ^ 63) <= i /\ i < 2 ^ 63 /\ seqIndex? i xs.length = some k /\ xs[k]? = some d /\ Q d (updM M a (.lst (xs.eraseIdx k)))
theorem lm_popAt : LMt K cl rPopAt φPopAt := by
  intro F H M x xs d ds Q Qd g rx rs h p
  obtain ⟨a, ys, i, k, y, rfl, rfl, h1, b1, b2, h2, h2', q⟩ := h
  obtain rfl := rx.toRef
  obtain ⟨u, ws, rfl, r1, r2⟩ := rs.inv
  obtain rfl := r2.inv0
  obtain rfl := r1.toInt
  obtain ⟨hF, vs, h3, h4⟩ := g.cell a _ h1
  obtain ⟨v, h5, h6⟩ := h4.get h2'
  exact ⟨a, vs, i, k, v, rfl, rfl, h3, b1, b2, by rw [h4.length]; exact h2, h5, p _ _ F _ _ (Same.refl F) (g.put (d := .lst (ys.eraseIdx k)) h1 ⟨vs.eraseIdx k, upd_same, h4.erase k⟩) h6 q⟩
end
end DL
set_option Elab.async false
set_option linter.all false
set_option maxRecDepth 100000
set_option maxHeartbeats 4000000
set_option autoImplicit false
namespace DL
open PySem L2
theorem RoomG.u1 {k : Nat} {A : Around} (r : RoomG k A) : A.units + 1 < cLine := Nat.lt_of_le_of_lt (by omega) r.room.units
theorem list_extendW (l b : Addr) (items items2 : Array Value) (n n2 : Nat) (sl2 : Array (Option Value)) (hc0 : ¬(!items.isEmpty && Builtin.List.listTooLong (items.size + items2.size)) = true) (hc1 : items.size <= sizeLine) (hs2 : items.size + items2.size <= sizeLine + 1) :
    Meets (Builtin.«list.extend» ⟨[.ref l, .ref b], []⟩) (fun _ R s => s.heap.get? l = some { cls := .type "list", dict := none, data := .seq items n, slots := #[] } /\ s.heap.get? b = some { cls := .type "list", dict := none, data := .seq items2 n2, slots := sl2 } /\ R (.ok (.ret Value.none)) { s with heap := s.heap.update l (Obj.mapSeq fun x => x ++ items2), toks := s.toks }) :=
  .of_wp fun prog w A R s h => by
    obtain ⟨hp, g, d, tk, os⟩ := s; obtain ⟨hl, hb, h⟩ := h; have f1 := AutoSeq1.idx_int; have f2 := AutoSeq1.sub_tuple_tuple; have f3 := AutoSeq1.sub_list_list; have f4 := AutoSeq1.sub_tuple_list; have f5 := AutoSeq1.sub_list_tuple
    have hz' : (items ++ items2).size <= sizeLine + 1 := by rw [Array.size_append]; exact hs2
    wp_walk using (wpAny_updateSeq hl rfl (hz := hc1) (_hz' := hz')), AutoSeq1.wpAny_loadPart' hl, AutoSeq1.wpAny_loadPart' hb; exact ⟨_, rfl, h⟩
section
open PySem.Spec PyProof.Rows
variable {X : Cx}
theorem mt_extS : MtR X "list.extend" (rExtS X.K) := by
  intro pins s σ H x vs v us Q I rx rv h
  obtain ⟨l, b, xs, zs, rfl, rfl, hH, hB, hz, q⟩ := h
  cases rx
  obtain ⟨u, rfl, ru⟩ := rv.one
  cases ru
  obtain ⟨z, its, n, r, hl, e⟩ := I.lstM hH
  obtain ⟨its2, r2, ⟨o2, n2, ho2, hc2, hd2, hs2⟩, z2⟩ := I.list hB
  obtain ⟨c2, d2, t2, sl2⟩ := o2
  simp only at hc2 hd2 hs2
  subst hc2 hd2 hs2
  have hl2 := r2.length
  have hsz : its.toArray.size + its2.toArray.size <= sizeLine := by rw [List.size_toArray, List.size_toArray]; omega
  have hlong : ¬ (!its.toArray.isEmpty && Builtin.List.listTooLong (its.toArray.size + its2.toArray.size)) = true := by
    rw [notLongL hsz, Bool.and_false]
    exact Bool.false_ne_true
  refine call_meets PySem.F.slot_list_extend ⟨_, e, rfl⟩ PySem.F.entry_list_extend (PySem.F.args_list_extend_2 _ _)
    (list_extendW l b its.toArray its2.toArray n n2 sl2 hlong (by rw [List.size_toArray]; omega) (by omega)) ⟨e, ho2, ?_⟩
  refine ⟨.non, _, I.lset (its' := its ++ its2) hH e (by simp) (r.append r2) ?_, rfl, q⟩
  rw [List.length_append]
  omega
end
def φExt : D -> List D -> Mem -> DV -> Prop := fun o ds M Q => ∃ a xs d ys, o = .ref a /\ ds = [d] /\ vw M d = .lst ys /\ M a = some (.lst xs) /\ xs.length + ys.length <= sizeLine /\ Q .non (updM M a (.lst (xs ++ ys)))
section
variable {K : PySem.W.Frag} {cl : ClW}
theorem lm_ext : LMt K cl (rExtS K) φExt := by
  intro F H M x xs d ds Q Qd g rx rs h p
  obtain ⟨a, ys, y, zs, rfl, rfl, hv, h1, h2, q⟩ := h
  obtain rfl := rx.toRef
  obtain ⟨hF, vs, h3, h4⟩ := g.cell a _ h1
  obtain ⟨v, ws, rfl, r1, r2⟩ := rs.inv
  obtain rfl := r2.inv0
  have k := vw_ok g r1
  rw [hv] at k
  obtain ⟨b, us, rfl, k1, k2⟩ := k.lst g.sub
  exact ⟨a, b, vs, us, rfl, rfl, h3, k1, by rw [h4.length, k2.length]; exact h2, p _ _ F _ _ (Same.refl F) (g.put (d := .lst (ys ++ zs)) h1 ⟨vs ++ us, upd_same, h4.append k2⟩) .non q⟩
end
@[simp] def iEn (τ : DTE) : DTI := fun ρ M R X => τ ρ M (fun d M1 => ∃ xs, d = .lst xs /\ R (xs.zipIdx.map fun p => D.tup [.int (p.2 : Nat), p.1]) M1) X
@[simp] def iZp (τ τ' : DTE) : DTI := fun ρ M R X => τ ρ M (fun d M1 => τ' ρ M1 (fun e M2 => ∃ xs ys, d = .lst xs /\ e = .lst ys /\ R ((xs.zip ys).map fun p => D.tup [p.1, p.2]) M2) X) X
section
variable {cl : ClW} {X : Cx} {W : WX} {a b : Expr} {pos : Pos} {τa τb : DTE}
end
end DL
set_option Elab.async false
set_option linter.all false
set_option maxRecDepth 100000
set_option maxHeartbeats 4000000
set_option autoImplicit false
namespace DL
open PySem L2
def FnC (cl : ClW) (P : Program) (w : World) (K : PySem.W.Frag) (mg : Str -> Option Value) (base : Heap) (k : Nat) (x qual : Str) (params : Arguments) (body : List Stmt) (scope : Scope) (f : Addr) (ps : List Str) (spd : SpD) : Prop :=
  ∃ fd, FunD K x qual params body scope [] [] f fd /\ FnG cl P w K mg base k f fd ps spd
section
variable {cl : ClW} {P : Program} {w : World} {K : PySem.W.Frag} {mg : Str -> Option Value} {base : Heap} {k : Nat} {x qual : Str} {params : Arguments} {body : List Stmt} {scope : Scope} {N ps ks : List Str} {spd : SpD} {f : Addr} {t : DTS} {c n : Nat} {ord : List Nat} {m : Str}
theorem fnC_of (F : ∃ fd, FunD K x qual params body scope [] [] f fd) (S : FnScope N ps scope)
    (hbody : ∀ (cdv : Value) (A : Around) (outer : List PySem.Env) (s : Shared) (H : Hp) (E : XK), Cap (cxOf (L2.CX P w) P w K mg base N qual scope f cdv A outer s H E) (fun cls d _ H => E cls d H) k ->
      DSs cl (cxOf (L2.CX P w) P w K mg base N qual scope f cdv A outer s H E) (fun cls d _ H => E cls d H) body t)
    (hsp : ∀ ds M Q E, spd ds M Q E -> ds.length = ps.length /\ t (dEnds Q E) (startD N ds) M) : FnC cl P w K mg base (k + 1) x qual params body scope f ps spd := by
  obtain ⟨fd, F⟩ := F
  exact ⟨fd, F, fn_d F S t hbody hsp⟩
abbrev HBind (x qual : Str) (params : Arguments) (body : List Stmt) (scope : Scope) (ps : List Str) : Prop := ∀ (kV doc pm : Value) (an : Option Addr) (cdv ct : Value) (us : List Value), us.length = ps.length -> bindArgs (PySem.W.fnOf x qual params body scope .none kV doc pm an cdv ct) ⟨us, []⟩ = pure (ps.zip us)
theorem FnC.fn (C : FnC cl P w K mg base k x qual params body scope f ps spd) {y : Str} (hm : mg y = some (.ref f)) (hb : HBind x qual params body scope ps) : FnB cl P w K mg base k y ps spd := by
  obtain ⟨fd, F, G⟩ := C
  exact ⟨f, fd, hm, F.kp, F.bindsN hb, G⟩
theorem FnC.meth (C : FnC cl P w K mg base k x qual params body scope f ps spd) (hc : Cls K (cl c)) (hm : Meth K (cl c) m f) (hb : HBind x qual params body scope ps) {j : Nat} (hj : k <= j) : MethB cl P w K mg base j c m spd := by
  obtain ⟨fd, F, G⟩ := C
  exact ⟨hc, f, fd, ps, hm, F.bindsN hb, G.mono hj⟩
theorem FnC.mk (C : FnC cl P w K mg base k x qual params body scope f ps spd) {y : Str} (hy : mg y = some (.ref (cl c))) (hm : Mk K (cl c) f) (hb : HBind x qual params body scope ps) : MkB cl P w K mg base k y c ps spd := by
  obtain ⟨fd, F, G⟩ := C
  exact ⟨hy, f, fd, hm, F.bindsN hb, G⟩
end
structure DK (cl : ClW) (X : Cx) (W : WX) (kws : List Keyword) (τ : DTA) : Prop where
  pk : PK X kws (lowA X.K cl W τ)
section
variable {cl : ClW} {X : Cx} {W : WX} {e o : Expr} {es : List Expr} {kws : List Keyword} {nm : Option Str} {kpos pos apos p : Pos} {τ : DTE} {α β : DTA} {x m : Str} {n k j c : Nat} {ks ps : List Str} {ord : List Nat} {spd : SpD} {f : Addr} {fd : FuncData} {pl : Sem Bool}
end
end DL
set_option Elab.async false
set_option linter.all false
set_option maxRecDepth 100000
set_option maxHeartbeats 4000000
set_option autoImplicit false
namespace DL
open PySem L2
theorem forD_run {γ : DTG} {t : DTS} {E : DEnds} (xs : List D) (P : List D -> Env -> Mem -> Prop)
    (step : ∀ (done : List D) (x : D) (rest : List D) (ρ : Env) (M : Mem) (Nx : Env -> Mem -> Prop), xs = done ++ x :: rest -> P done ρ M -> (∀ ρ' M', P (done ++ [x]) ρ' M' -> Nx ρ' M') ->
      γ x ρ M (fun ρ2 M2 => t { E with nx := Nx, ct := Nx, bk := E.nx } ρ2 M2) E.ex)
    (fin : ∀ ρ M, P xs ρ M -> E.nx ρ M) {ρ : Env} {M : Mem} (h0 : P [] ρ M) : forD γ t xs E ρ M := by
  have go : ∀ (rest done : List D) (ρ : Env) (M : Mem), xs = done ++ rest -> P done ρ M -> forD γ t rest E ρ M := by
    intro rest
    induction rest with
    | nil =>
      intro done ρ M e p
      rw [List.append_nil] at e
      subst e
      exact fin ρ M p
    | cons x rest ih =>
      intro done ρ M e p
      exact step done x rest ρ M (forD γ t rest E) e p fun ρ' M' p' => ih (done ++ [x]) ρ' M' (by rw [e]; simp) p'
  exact go xs [] ρ M rfl h0
theorem lcD_run {γ : DTG} {υ : DTT} {τ : DTE} {vs : List Nat} {a : Addr} {Q : DV} {ρ : Env} (xs : List D) (P : List D -> List D -> Mem -> Prop)
    (step : ∀ (done : List D) (x : D) (rest acc : List D) (M : Mem) (Nx : Mem -> Prop), xs = done ++ x :: rest -> M a = some (.lst acc) -> P done acc M -> (∀ acc' M', M' a = some (.lst acc') -> P (done ++ [x]) acc' M' -> Nx M') ->
      γ x (wipeD ρ vs) M (fun ρ2 M2 => υ ρ2 M2 (fun b M3 => if b = true then τ ρ2 M3 (fun d M4 => ∃ acc, M4 a = some (.lst acc) /\ acc.length < sizeLine /\ Nx (updM M4 a (.lst (acc ++ [d])))) noX else Nx M3) noX) noX)
    (fin : ∀ acc M, M a = some (.lst acc) -> P xs acc M -> Q (.lst acc) (delM M a)) {M : Mem} (h0 : P [] [] (updM M a (.lst []))) : lcD γ υ τ vs a xs ρ (updM M a (.lst [])) Q := by
  have go : ∀ (rest done acc : List D) (M : Mem), xs = done ++ rest -> M a = some (.lst acc) -> P done acc M -> lcD γ υ τ vs a rest ρ M Q := by
    intro rest
    induction rest with
    | nil =>
      intro done acc M e ha p
      rw [List.append_nil] at e
      subst e
      exact ⟨acc, ha, fin acc M ha p⟩
    | cons x rest ih =>
      intro done acc M e ha p
      exact step done x rest acc M (fun M' => lcD γ υ τ vs a rest ρ M' Q) e ha p fun acc' M' ha' p' => ih (done ++ [x]) acc' M' (by rw [e]; simp) ha' p'
  exact go xs [] [] _ rfl updM_same h0
theorem lcD_fn {γ : DTG} {υ : DTT} {τ : DTE} {vs : List Nat} {a : Addr} {Q : DV} {ρ : Env} {M : Mem} (f : D -> Option D) (xs : List D) (hl : xs.length <= 16777216) (hM : M a = none)
    (step : ∀ x ∈ xs, ∀ (M1 : Mem) (T : Option D -> Mem -> Prop), (∀ b, b ≠ a -> M1 b = M b) -> T (f x) M1 -> γ x (wipeD ρ vs) M1 (fun ρ2 M2 => υ ρ2 M2 (fun b M3 => if b = true then τ ρ2 M3 (fun d M4 => T (some d) M4) noX else T none M3) noX) noX)
    (q : Q (.lst (xs.filterMap f)) M) : lcD γ υ τ vs a xs ρ (updM M a (.lst [])) Q := by
  refine lcD_run xs (fun done acc M1 => acc = done.filterMap f /\ M1 = updM M a (.lst acc)) ?_ ?_ ⟨rfl, rfl⟩
  · rintro done x rest acc M1 Nx e ha ⟨rfl, rfl⟩ nx
    have hx : x ∈ xs := by rw [e]; simp
    have hlen : (done.filterMap f).length < sizeLine := by
      have h1 := List.length_filterMap_le f done
      have h2 := congrArg List.length e
      rw [List.length_append, List.length_cons] at h2
      rw [sizeLine_eq]
      omega
    refine step x hx (updM M a (.lst (done.filterMap f))) (fun o M4 => match o with | some d => ∃ acc, M4 a = some (.lst acc) /\ acc.length < sizeLine /\ Nx (updM M4 a (.lst (acc ++ [d]))) | none => Nx M4) (fun b hb => updM_ne hb) ?_
    cases ho : f x with
    | none =>
      refine nx _ _ updM_same ⟨?_, rfl⟩
      rw [List.filterMap_append]
      simp [ho]
    | some d =>
      refine ⟨_, updM_same, hlen, nx _ _ updM_same ⟨?_, ?_⟩⟩
      · rw [List.filterMap_append]
        simp [ho]
      · exact updM_updM
  · rintro acc M1 ha ⟨rfl, rfl⟩
    rw [delM_updM hM]
    exact q
section
variable {cl : ClW} {X : Cx} {W : WX} {x f : Str} {p pos : Pos} {c : Nat} {d : D}
end
def putKs {β : Type} [DecidableEq β] (k : β) (ks : List β) : List β := if (ks.any fun j => decide (j = k)) = true then ks else ks ++ [k]
def putVs {α β : Type} [DecidableEq β] (k : β) (y : α) (ks : List β) (vs : List α) : List α := if (ks.any fun j => decide (j = k)) = true then List.zipWith (fun j v => if j = k then y else v) ks vs else vs ++ [y]
theorem putK_zip {β : Type} [DecidableEq β] (k : β) (y : V) (ks : List β) (vs : List V) (h : ks.length = vs.length) : putK (ks.zip vs) k y = (putKs k ks).zip (putVs k y ks vs) /\ (putKs k ks).length = (putVs k y ks vs).length := by
  have ha : ((ks.zip vs).any fun kv => decide (kv.1 = k)) = ks.any fun j => decide (j = k) := by
    clear y
    induction ks generalizing vs with
    | nil => simp
    | cons j ks ih =>
      cases vs with
      | nil => simp at h
      | cons v vs => simp only [List.zip_cons_cons, List.any_cons]; rw [ih vs (by simpa using h)]
  unfold putK putKs putVs
  rw [ha]
  split
  · constructor
    · clear ha
      rename_i hh
      clear hh
      induction ks generalizing vs with
      | nil => simp
      | cons j ks ih =>
        cases vs with
        | nil => simp at h
        | cons v vs =>
          simp only [List.zip_cons_cons, List.map_cons, List.zipWith_cons_cons]
          rw [ih vs (by simpa using h)]
          by_cases e : j = k <;> simp [e]
    · simp [h]
  · constructor
    · rw [List.zip_append h]; rfl
    · simp [h]
theorem reps_putVs {K : PySem.W.Frag} {cl : ClW} {F : Hp} {β : Type} [DecidableEq β] {k : β} {y : V} {d : D} (r : Rep K cl F y d) (ks : List β) {vs : List V} {ds : List D} (h : Reps K cl F vs ds) : Reps K cl F (putVs k y ks vs) (putVs k d ks ds) := by
  unfold putVs
  split
  · rename_i hh
    clear hh
    induction ks generalizing vs ds with
    | nil => simp; exact .nil
    | cons j ks ih =>
      cases h with
      | nil => simp; exact .nil
      | cons a b =>
        simp only [List.zipWith_cons_cons]
        refine .cons ?_ (ih b)
        by_cases e : j = k
        · simp only [if_pos e]; exact r
        · simp only [if_neg e]; exact a
  · exact h.append (.one r)
section
variable {cl : ClW} {X : Cx} {W : WX} {kx vx tg iter : Expr} {ifs : List Expr} {scope : Scope} {own : List (Str × Nat)} {pos : Pos} {ι : DTI} {is : List Nat} {γ : DTG} {υ : DTT} {τk τv : DTE}
end
end DL
set_option Elab.async false
set_option linter.all false
set_option maxRecDepth 100000
set_option maxHeartbeats 4000000
set_option autoImplicit false
namespace DL
open PySem L2
section
open PySem.Spec PyProof.Rows
variable {X : Cx} {tg : Expr}
def iSeqV (K : PySem.W.Frag) (tl : TE) : TI := fun σ H R => tl σ H fun x H1 => (∃ a, x = .ref a /\ (∃ xs, SqL K H1 a xs) /\ R (Itl K a) H1) \/ (∃ a, x = .ref a /\ (∃ xs, SqT K H1 a xs) /\ R (Itt K a) H1) \/ (∃ z, x = .str z /\ R (Its z) H1) \/ (∃ z, x = .byt z /\ R (Itb z) H1)
theorem pi_seqV {l : Expr} {tl : TE} (hl : PE X l tl) : PI X tg l (iSeqV X.K tl) := by
  refine ⟨fun pins s σ H R I h => ?_⟩
  refine thn (hl.run pins s σ H _ I h) fun v s1 ⟨x, H1, I1, r1, q1⟩ => ?_
  rcases q1 with ⟨a, e, ⟨xs, hq⟩, q⟩ | ⟨a, e, ⟨xs, hq⟩, q⟩ | ⟨x, ex, q⟩ | ⟨x, ex, q⟩
  · subst e
    cases r1
    obtain ⟨its, rv, p, hz⟩ := I1.list hq
    refine wpAny_pyIter_list p.isList ?_
    refine ⟨s1.heap.objs.size, [s1.heap.objs.size], _, _, H1, rfl, I1.kept (t' := s1.toks) fun b o e => Heap.get?_push_of_some _ e, turn_list a _, ⟨_, Heap.get?_push_size _ rfl, rfl, rfl⟩, fun b hb => ?_, q⟩
    have e : b = s1.heap.objs.size := by simpa using hb
    subst e
    exact I1.fpOk (Nat.le_refl _) (I1.hok.fresh (Nat.le_refl _))
  · subst e
    cases r1
    obtain ⟨its, rv, p, hz⟩ := I1.tuple hq
    refine wpAny_pyIter_tuple (show s1.heap.IsTuple a its.toArray from p) ?_
    refine ⟨s1.heap.objs.size, [s1.heap.objs.size], _, _, H1, rfl, I1.kept (t' := s1.toks) fun b o e => Heap.get?_push_of_some _ e, turn_tuple a _, ⟨_, Heap.get?_push_size _ rfl, rfl, rfl⟩, fun b hb => ?_, q⟩
    have e : b = s1.heap.objs.size := by simpa using hb
    subst e
    exact I1.fpOk (Nat.le_refl _) (I1.hok.fresh (Nat.le_refl _))
  · subst ex
    obtain ⟨t, rfl⟩ := r1
    cases ha : x.cps.all (· < 128)
    · exact wpAny_pyIter_wide ha (pi_one (tk := s1.toks) I1 _ (turn_str _ x t "str_iterator" (.inr rfl)) ⟨_, Heap.get?_push_size _ rfl, rfl, rfl⟩ q)
    · exact wpAny_pyIter_ascii ha (pi_one (tk := s1.toks) I1 _ (turn_str _ x t "str_ascii_iterator" (.inl rfl)) ⟨_, Heap.get?_push_size _ rfl, rfl, rfl⟩ q)
  · subst ex
    obtain ⟨t, rfl⟩ := r1
    exact PySem.W.KBw.pyIter_bytes (pi_one (tk := s1.toks) I1 _ (turn_byt _ x t) ⟨_, Heap.get?_push_size _ rfl, rfl, rfl⟩ q)
end
@[simp] def itD : D -> Option (List D)
  | .lst xs => some xs
  | .tup xs => some xs
  | .str z => some (z.cps.toList.map fun c => D.str ⟨#[c]⟩)
  | .byt b => some (b.toList.map fun c => D.int ((c.toNat : Nat) : Int))
  | _ => none
@[simp] def iS (τ : DTE) : DTI := fun ρ M R X => τ ρ M (fun d M1 => ∃ xs, itD d = some xs /\ R xs M1) X
section
variable {cl : ClW} {X : Cx} {W : WX} {e : Expr} {τ : DTE}
theorem di_seq {tg : Expr} (h : DE cl X W e τ) : DI cl X W tg e (iS τ) := ⟨pi_imp (pi_seqV h.pe) fun σ H R ⟨F, ρ, M, Rd, Xd, g, s, q, p, w⟩ =>
  ⟨F, ρ, M, _, Xd, g, s, q, fun v H' F' d M' sm g' r ⟨xs, e1, q'⟩ => (by
    cases d with
    | lst ds =>
      cases e1
      obtain ⟨a, vs, rfl, h1, h2⟩ := r.toLst
      refine .inl ⟨a, rfl, ⟨vs, same_l g'.sub h1⟩, p _ _ F' xs M' sm g' (fun i F2 H2 M2 sm2 g2 => ⟨fun d hd => ?_, fun hl => ⟨vs, same_l (sm2.trans g2.sub) h1, by rw [h2.length]; exact hl⟩⟩) q'⟩
      obtain ⟨v, hv, rv⟩ := h2.get hd
      refine ⟨⟨vs, v, same_l (sm2.trans g2.sub) h1, hv⟩, fun x H3 ⟨e1, e2⟩ => ?_⟩
      subst e1
      have := e2 vs (same_l (sm2.trans g2.sub) h1)
      rw [hv] at this
      cases this
      exact ⟨F2, Same.refl F2, g2, rv.mono sm2⟩
    | tup ds =>
      cases e1
      obtain ⟨a, vs, rfl, h1, h2⟩ := r.toTup
      refine .inr (.inl ⟨a, rfl, ⟨vs, same_t g'.sub h1⟩, p _ _ F' xs M' sm g' (fun i F2 H2 M2 sm2 g2 => ⟨fun d hd => ?_, fun hl => ⟨vs, same_t (sm2.trans g2.sub) h1, by rw [h2.length]; exact hl⟩⟩) q'⟩)
      obtain ⟨v, hv, rv⟩ := h2.get hd
      refine ⟨⟨vs, v, same_t (sm2.trans g2.sub) h1, hv⟩, fun x H3 ⟨e1, e2⟩ => ?_⟩
      subst e1
      have := e2 vs (same_t (sm2.trans g2.sub) h1)
      rw [hv] at this
      cases this
      exact ⟨F2, Same.refl F2, g2, rv.mono sm2⟩
    | str z =>
      cases e1
      obtain rfl := r.toStr
      refine .inr (.inr (.inl ⟨z, rfl, p _ _ F' _ M' sm g' (fun i F2 H2 M2 sm2 g2 => ⟨fun d hd => ?_, fun hl => ?_⟩) q'⟩))
      · rw [List.getElem?_map] at hd
        obtain ⟨c, hc, rfl⟩ := Option.map_eq_some_iff.mp hd
        have hc' : z.cps[i]? = some c := by simpa using hc
        refine ⟨(Array.getElem?_eq_some_iff.mp hc').1, fun x H3 ⟨e1, c2, e2, e3⟩ => ?_⟩
        subst e1 e3
        rw [hc'] at e2
        cases e2
        exact ⟨F2, Same.refl F2, g2, .str _⟩
      · show z.cps.size <= i
        simpa using hl
    | byt z =>
      cases e1
      obtain rfl := r.toByt
      refine .inr (.inr (.inr ⟨z, rfl, p _ _ F' _ M' sm g' (fun i F2 H2 M2 sm2 g2 => ⟨fun d hd => ?_, fun hl => ?_⟩) q'⟩))
      · rw [List.getElem?_map] at hd
        obtain ⟨c, hc, rfl⟩ := Option.map_eq_some_iff.mp hd
        have hc' : z[i]? = some c := by simpa using hc
        refine ⟨(Array.getElem?_eq_some_iff.mp hc').1, fun x H3 ⟨e1, c2, e2, e3⟩ => ?_⟩
        subst e1 e3
        rw [hc'] at e2
        cases e2
        exact ⟨F2, Same.refl F2, g2, .int _⟩
      · show z.size <= i
        simpa using hl
    | _ => cases e1), w⟩⟩
end
theorem tb_nil {p : Nat -> SpD -> Prop} : ∀ c spd, ([] : List (Nat × SpD)).lookup c = some spd -> p c spd := fun _ _ h => by cases h
theorem tb_cons {p : Nat -> SpD -> Prop} {c0 : Nat} {s0 : SpD} {l : List (Nat × SpD)} (h : p c0 s0) (t : ∀ c spd, l.lookup c = some spd -> p c spd) : ∀ c spd, ((c0, s0) :: l).lookup c = some spd -> p c spd := fun c spd e => by
  rw [List.lookup_cons] at e
  split at e
  · rename_i q
    cases e
    rw [eq_of_beq q]
    exact h
  · exact t c spd e
end DL
set_option Elab.async false
set_option linter.all false
set_option maxRecDepth 100000
set_option maxHeartbeats 2000000
set_option autoImplicit false
namespace DL
open PySem L2
section
variable {M : Mem} {i j : Int} {b : Bool} {x y : Str} {xs ys : List D} {d e : D} {a : Addr} {ks : List Key}
@[simp] theorem ixA_lst : ixA (.lst xs) e = ixD (.lst xs) e := rfl
@[simp] theorem ixA_tup : ixA (.tup xs) e = ixD (.tup xs) e := rfl
@[simp] theorem ixA_str : ixA (.str x) e = ixD (.str x) e := rfl
@[simp] theorem ixA_dK : ixA (.dK ks xs) e = (keyD e).bind fun k => atK k ks xs := rfl
@[simp] theorem keyD_int : keyD (.int i) = some (.inl i) := rfl
@[simp] theorem keyD_str : keyD (.str x) = some (.inr x) := rfl
@[simp] theorem tupF_lst : tupF [.lst xs] = some (.tup xs) := rfl
@[simp] theorem tupF_tup : tupF [.tup xs] = some (.tup xs) := rfl
@[simp] theorem lstF_lst : lstF [.lst xs] = some (.lst xs) := rfl
@[simp] theorem lstF_tup : lstF [.tup xs] = some (.lst xs) := rfl
@[simp] theorem allF_lst : allF [.lst xs] = (blsOf xs).map fun bs => .bl (bs.all id) := rfl
@[simp] theorem anyF_lst : anyF [.lst xs] = (blsOf xs).map fun bs => .bl (bs.any id) := rfl
@[simp] theorem inD_def : inD d e = (inB d e).map D.bl := rfl
@[simp] theorem ninD_def : ninD d e = (inB d e).map fun b => D.bl !b := rfl
@[simp] theorem inB_lst : inB d (.lst xs) = if flatD d && xs.all flatD then some (xs.any fun y => eqFD y d) else none := rfl
@[simp] theorem inB_tup : inB d (.tup xs) = if flatD d && xs.all flatD then some (xs.any fun y => eqFD y d) else none := rfl
@[simp] theorem inB_dK : inB d (.dK ks xs) = (keyD d).map fun k => ks.any fun j => decide (j = k) := rfl
@[simp] theorem inB_str : inB (.str x) (.str y) = some (inStr x y) := rfl
@[simp] theorem tyD_lst : tyD "list" (.lst xs) = true := rfl
end
end DL
set_option Elab.async false
set_option linter.all false
set_option maxRecDepth 100000
set_option autoImplicit false
namespace DL
open PySem L2
end DL
set_option Elab.async false
set_option linter.all false
set_option maxRecDepth 100000
set_option autoImplicit false
namespace DL
open PySem L2
mutual
def plD : Nat -> D -> Bool
  | _, .non => true
  | _, .bl _ => true
  | _, .int _ => true
  | _, .str x => PyData.strOk x
  | n + 1, .lst xs => plDs n xs
  | n + 1, .tup xs => plDs n xs
  | _, _ => false
def plDs : Nat -> List D -> Bool
  | _, [] => true
  | n, x :: xs => plD n x && plDs n xs
end
mutual
def eqT : D -> D -> Bool
  | .non, .non => true
  | .bl a, .bl b => a == b
  | .bl a, .int j => (if a then 1 else 0) == j
  | .int i, .bl b => i == (if b then 1 else 0)
  | .int i, .int j => i == j
  | .str x, .str y => x == y
  | .lst xs, .lst ys => eqTs xs ys
  | .tup xs, .tup ys => eqTs xs ys
  | _, _ => false
def eqTs : List D -> List D -> Bool
  | [], [] => true
  | x :: xs, y :: ys => eqT x y && eqTs xs ys
  | _, _ => false
end
mutual
theorem plD_py : ∀ (n : Nat) (d : D), plD n d = true -> ∃ p, toPy d = some p /\ p.canLay0 = true /\ p.depth <= n
  | n, .non, _ => ⟨.none, rfl, rfl, by simp [PyData.depth]⟩
  | n, .bl b, _ => ⟨.bool b, rfl, rfl, by simp [PyData.depth]⟩
  | n, .int b, _ => ⟨.int b, rfl, rfl, by simp [PyData.depth]⟩
  | n, .str b, h => ⟨.str b, rfl, by simpa [PyData.canLay0, plD] using h, by simp [PyData.depth]⟩
  | n + 1, .lst xs, h => by
    obtain ⟨ps, h1, h2, h3⟩ := plDs_py n xs (by simpa [plD] using h)
    exact ⟨.list ps, by simp [toPy, h1], by simpa [PyData.canLay0] using h2, by simp [PyData.depth]; omega⟩
  | n + 1, .tup xs, h => by
    obtain ⟨ps, h1, h2, h3⟩ := plDs_py n xs (by simpa [plD] using h)
    exact ⟨.tuple ps, by simp [toPy, h1], by simpa [PyData.canLay0] using h2, by simp [PyData.depth]; omega⟩
  | 0, .lst _, h => by simp [plD] at h
  | 0, .tup _, h => by simp [plD] at h
  | _, .byt _, h => by simp [plD] at h
  | _, .ty _, h => by simp [plD] at h
  | _, .ref _, h => by simp [plD] at h
  | _, .dK _ _, h => by simp [plD] at h
  | _, .dT _ _ _, h => by simp [plD] at h
  | _, .obj _ _ _, h => by simp [plD] at h
  | _, .cls _, h => by simp [plD] at h
  | _, .exc _ _ _ _ _, h => by simp [plD] at h
  | _, .xob _ _ _, h => by simp [plD] at h
  | _, .thk _ _ _ _ _, h => by simp [plD] at h
  | _, .dN _ _ _, h => by simp [plD] at h
theorem plDs_py : ∀ (n : Nat) (ds : List D), plDs n ds = true -> ∃ ps, toPys ds = some ps /\ PyData.canLayAll0 ps = true /\ PyData.depthAll ps <= n
  | n, [], _ => ⟨[], rfl, rfl, by simp [PyData.depthAll]⟩
  | n, x :: xs, h => by
    simp only [plDs, Bool.and_eq_true] at h
    obtain ⟨p, h1, h2, h3⟩ := plD_py n x h.1
    obtain ⟨ps, k1, k2, k3⟩ := plDs_py n xs h.2
    exact ⟨p :: ps, by simp [toPys, h1, k1], by simp [PyData.canLayAll0, h2, k2], by simp [PyData.depthAll]; omega⟩
end
theorem toPy_inv {d : D} {p : PyData} (h : toPy d = some p) : (d = .non /\ p = .none) \/ (∃ b, d = .bl b /\ p = .bool b) \/ (∃ i, d = .int i /\ p = .int i) \/ (∃ x, d = .str x /\ p = .str x) \/ (∃ xs ps, d = .lst xs /\ p = .list ps /\ toPys xs = some ps) \/ (∃ xs ps, d = .tup xs /\ p = .tuple ps /\ toPys xs = some ps) := by
  cases d with
  | non => simp only [toPy] at h; cases h; exact .inl ⟨rfl, rfl⟩
  | bl b => simp only [toPy] at h; cases h; exact .inr (.inl ⟨b, rfl, rfl⟩)
  | int b => simp only [toPy] at h; cases h; exact .inr (.inr (.inl ⟨b, rfl, rfl⟩))
  | str b => simp only [toPy] at h; cases h; exact .inr (.inr (.inr (.inl ⟨b, rfl, rfl⟩)))
  | lst xs =>
    simp only [toPy] at h
    obtain ⟨ps, h1, rfl⟩ := Option.map_eq_some_iff.mp h
    exact .inr (.inr (.inr (.inr (.inl ⟨xs, ps, rfl, rfl, h1⟩))))
  | tup xs =>
    simp only [toPy] at h
    obtain ⟨ps, h1, rfl⟩ := Option.map_eq_some_iff.mp h
    exact .inr (.inr (.inr (.inr (.inr ⟨xs, ps, rfl, rfl, h1⟩))))
  | _ => simp only [toPy] at h; cases h
theorem toPys_cons {x : D} {xs : List D} {ps : List PyData} (h : toPys (x :: xs) = some ps) : ∃ p qs, ps = p :: qs /\ toPy x = some p /\ toPys xs = some qs := by
  simp only [toPys] at h
  cases e1 : toPy x with
  | none => rw [e1] at h; cases h
  | some p =>
    cases e2 : toPys xs with
    | none => rw [e1, e2] at h; cases h
    | some qs => rw [e1, e2] at h; cases h; exact ⟨p, qs, rfl, rfl, rfl⟩
mutual
theorem eqv_T : ∀ (d e : D) (p q : PyData), toPy d = some p -> toPy e = some q -> PyData.eqv p q = eqT d e
  | .non, e, p, q, h, k => by
    simp only [toPy] at h; cases h
    rcases toPy_inv k with ⟨rfl, rfl⟩ | ⟨b, rfl, rfl⟩ | ⟨b, rfl, rfl⟩ | ⟨b, rfl, rfl⟩ | ⟨xs, ps, rfl, rfl, _⟩ | ⟨xs, ps, rfl, rfl, _⟩ <;> rfl
  | .bl a, e, p, q, h, k => by
    simp only [toPy] at h; cases h
    rcases toPy_inv k with ⟨rfl, rfl⟩ | ⟨b, rfl, rfl⟩ | ⟨b, rfl, rfl⟩ | ⟨b, rfl, rfl⟩ | ⟨xs, ps, rfl, rfl, _⟩ | ⟨xs, ps, rfl, rfl, _⟩ <;> rfl
  | .int a, e, p, q, h, k => by
    simp only [toPy] at h; cases h
    rcases toPy_inv k with ⟨rfl, rfl⟩ | ⟨b, rfl, rfl⟩ | ⟨b, rfl, rfl⟩ | ⟨b, rfl, rfl⟩ | ⟨xs, ps, rfl, rfl, _⟩ | ⟨xs, ps, rfl, rfl, _⟩ <;> rfl
  | .str a, e, p, q, h, k => by
    simp only [toPy] at h; cases h
    rcases toPy_inv k with ⟨rfl, rfl⟩ | ⟨b, rfl, rfl⟩ | ⟨b, rfl, rfl⟩ | ⟨b, rfl, rfl⟩ | ⟨xs, ps, rfl, rfl, _⟩ | ⟨xs, ps, rfl, rfl, _⟩ <;> rfl
  | .lst xs, e, p, q, h, k => by
    simp only [toPy] at h
    obtain ⟨ps, h1, rfl⟩ := Option.map_eq_some_iff.mp h
    rcases toPy_inv k with ⟨rfl, rfl⟩ | ⟨b, rfl, rfl⟩ | ⟨b, rfl, rfl⟩ | ⟨b, rfl, rfl⟩ | ⟨ys, qs, rfl, rfl, k1⟩ | ⟨ys, qs, rfl, rfl, k1⟩
    · rfl
    · rfl
    · rfl
    · rfl
    · simp only [PyData.eqv, eqT]
      exact eqvs_T xs ys ps qs h1 k1
    · rfl
  | .tup xs, e, p, q, h, k => by
    simp only [toPy] at h
    obtain ⟨ps, h1, rfl⟩ := Option.map_eq_some_iff.mp h
    rcases toPy_inv k with ⟨rfl, rfl⟩ | ⟨b, rfl, rfl⟩ | ⟨b, rfl, rfl⟩ | ⟨b, rfl, rfl⟩ | ⟨ys, qs, rfl, rfl, k1⟩ | ⟨ys, qs, rfl, rfl, k1⟩
    · rfl
    · rfl
    · rfl
    · rfl
    · rfl
    · simp only [PyData.eqv, eqT]
      exact eqvs_T xs ys ps qs h1 k1
  | .byt _, _, _, _, h, _ => by simp only [toPy] at h; cases h
  | .ty _, _, _, _, h, _ => by simp only [toPy] at h; cases h
  | .ref _, _, _, _, h, _ => by simp only [toPy] at h; cases h
  | .dK _ _, _, _, _, h, _ => by simp only [toPy] at h; cases h
  | .dT _ _ _, _, _, _, h, _ => by simp only [toPy] at h; cases h
  | .obj _ _ _, _, _, _, h, _ => by simp only [toPy] at h; cases h
  | .cls _, _, _, _, h, _ => by simp only [toPy] at h; cases h
theorem eqvs_T : ∀ (ds es : List D) (ps qs : List PyData), toPys ds = some ps -> toPys es = some qs -> PyData.eqvAll ps qs = eqTs ds es
  | [], [], ps, qs, h, k => by simp only [toPys] at h k; cases h; cases k; simp only [PyData.eqvAll, eqTs]
  | [], e :: es, ps, qs, h, k => by
    obtain ⟨q, qs', rfl, _, _⟩ := toPys_cons k
    simp only [toPys] at h; cases h; simp only [PyData.eqvAll, eqTs]
  | d :: ds, [], ps, qs, h, k => by
    obtain ⟨q, qs', rfl, _, _⟩ := toPys_cons h
    simp only [toPys] at k; cases k; simp only [PyData.eqvAll, eqTs]
  | d :: ds, e :: es, ps, qs, h, k => by
    obtain ⟨p, ps', rfl, h1, h2⟩ := toPys_cons h
    obtain ⟨q, qs', rfl, k1, k2⟩ := toPys_cons k
    simp only [PyData.eqvAll, eqTs]
    rw [eqv_T d e p q h1 k1, eqvs_T ds es ps' qs' h2 k2]
end
theorem eqP_pl {n m : Nat} {d e : D} (hd : plD n d = true) (he : plD m e = true) (hn : n <= 64 := by decide) (hm : m <= 64 := by decide) : eqP d e = some (eqT d e) := by
  obtain ⟨p, h1, h2, h3⟩ := plD_py n d hd
  obtain ⟨q, k1, k2, k3⟩ := plD_py m e he
  unfold eqP
  rw [h1, k1]
  have s1 : SeqAt.shaped p = true := by unfold SeqAt.shaped; rw [h2, decide_eq_true (by omega)]; rfl
  have s2 : SeqAt.shaped q = true := by unfold SeqAt.shaped; rw [k2, decide_eq_true (by omega)]; rfl
  simp only [s1, s2, Bool.and_self, if_true]
  rw [eqv_T d e p q h1 k1]
theorem neD_lst' {n m : Nat} {xs ys : List D} (hd : plDs n xs = true) (he : plDs m ys = true) (hn : n < 64 := by decide) (hm : m < 64 := by decide) : neD (.lst xs) (.lst ys) = some (.bl !(eqTs xs ys)) := by
  show (eqP _ _).map (fun b => D.bl !b) = _
  rw [eqP_pl (n := n + 1) (m := m + 1) (by simpa [plD] using hd) (by simpa [plD] using he) hn hm]
  simp only [Option.map_some, eqT]
theorem eqD_tup' {n m : Nat} {xs ys : List D} (hd : plDs n xs = true) (he : plDs m ys = true) (hn : n < 64 := by decide) (hm : m < 64 := by decide) : eqD (.tup xs) (.tup ys) = some (.bl (eqTs xs ys)) := by
  show (eqP _ _).map D.bl = _
  rw [eqP_pl (n := n + 1) (m := m + 1) (by simpa [plD] using hd) (by simpa [plD] using he) hn hm]
  simp only [Option.map_some, eqT]
mutual
theorem eqT_refl : ∀ (n : Nat) (d : D), plD n d = true -> eqT d d = true
  | _, .non, _ => by simp [eqT]
  | _, .bl _, _ => by simp [eqT]
  | _, .int _, _ => by simp [eqT]
  | _, .str _, _ => by simp [eqT]
  | n + 1, .lst xs, h => by simp only [eqT]; exact eqTs_refl n xs (by simpa [plD] using h)
  | n + 1, .tup xs, h => by simp only [eqT]; exact eqTs_refl n xs (by simpa [plD] using h)
  | 0, .lst _, h => by simp [plD] at h
  | 0, .tup _, h => by simp [plD] at h
  | _, .byt _, h => by simp [plD] at h
  | _, .ty _, h => by simp [plD] at h
  | _, .ref _, h => by simp [plD] at h
  | _, .dK _ _, h => by simp [plD] at h
  | _, .dT _ _ _, h => by simp [plD] at h
  | _, .obj _ _ _, h => by simp [plD] at h
  | _, .cls _, h => by simp [plD] at h
  | _, .exc _ _ _ _ _, h => by simp [plD] at h
  | _, .xob _ _ _, h => by simp [plD] at h
  | _, .thk _ _ _ _ _, h => by simp [plD] at h
  | _, .dN _ _ _, h => by simp [plD] at h
theorem eqTs_refl : ∀ (n : Nat) (ds : List D), plDs n ds = true -> eqTs ds ds = true
  | _, [], _ => by simp [eqTs]
  | n, d :: ds, h => by
    simp only [plDs, Bool.and_eq_true] at h
    simp only [eqTs, Bool.and_eq_true]
    exact ⟨eqT_refl n d h.1, eqTs_refl n ds h.2⟩
end
@[simp] theorem plDs_nil {n : Nat} : plDs n [] = true := by simp [plDs]
@[simp] theorem eqTs_nilr {xs : List D} : eqTs xs [] = xs.isEmpty := by cases xs <;> simp [eqTs]
end DL
set_option Elab.async false
set_option linter.all false
set_option maxRecDepth 100000
set_option maxHeartbeats 1000000
namespace DL
open PySem L2
theorem toNat_inj {a b : Char} (h : a.toNat = b.toNat) : a = b := by
  have : a.val = b.val := UInt32.toNat_inj.mp h
  exact Char.ext this
@[simp] theorem ofStr_inj (a b : String) : (Str.ofString a = Str.ofString b) = (a = b) := by
  refine propext ⟨fun h => ?_, fun h => by rw [h]⟩
  rw [Str.ofString_eq_toList, Str.ofString_eq_toList] at h
  have h2 : a.toList.map Char.toNat = b.toList.map Char.toNat := by simpa using h
  have h3 : a.toList = b.toList := List.map_inj_right (fun x y e => toNat_inj e) |>.mp h2
  exact String.toList_inj.mp h3
@[simp] theorem ofStr_beq (a b : String) : (Str.ofString a == Str.ofString b) = (a == b) := by
  by_cases h : a = b
  · subst h; simp
  · have h1 : ¬ (Str.ofString a = Str.ofString b) := by rw [ofStr_inj]; exact h
    rw [beq_false_of_ne h1, beq_false_of_ne h]
def methAt (tb : List (Nat × SpD)) (m : Str) (o : D) (M : Mem) (R : SpD -> Prop) : Prop := ∃ c ns ds spd, vw M o = .obj c ns ds /\ tb.lookup c = some spd /\ m ∉ ns /\ R spd
theorem methAt_obj {tb : List (Nat × SpD)} {m : Str} {M : Mem} {R : SpD -> Prop} {c : Nat} {ns : List Str} {ds : List D} : methAt tb m (.obj c ns ds) M R ↔ ∃ spd, tb.lookup c = some spd /\ m ∉ ns /\ R spd := by
  constructor
  · rintro ⟨c', ns', ds', spd, h, h1, h2, h3⟩
    rw [vw_obj] at h
    cases h
    exact ⟨spd, h1, h2, h3⟩
  · rintro ⟨spd, h1, h2, h3⟩
    exact ⟨c, ns, ds, spd, rfl, h1, h2, h3⟩
end DL
set_option Elab.async false
set_option linter.all false
set_option maxRecDepth 100000
set_option maxHeartbeats 1000000
set_option autoImplicit false
namespace FL
open PySem L2 DL
def Keep (M M' : Mem) : Prop := ∀ b d, M b = some d -> M' b = some d
theorem Keep.refl (M : Mem) : Keep M M := fun _ _ h => h
theorem Keep.trans {M M1 M2 : Mem} (h : Keep M M1) (k : Keep M1 M2) : Keep M M2 := fun b d e => k b d (h b d e)
theorem Keep.vw {M M' : Mem} (k : Keep M M') {d : D} (h : ∀ a, d = .ref a -> (M a).isSome) : vw M' d = vw M d := by
  cases d with
  | ref a =>
    have := h a rfl
    cases e : M a with
    | none => rw [e] at this; cases this
    | some c => rw [vw_ref e, vw_ref (k a c e)]
  | _ => rfl
def Well (M : Mem) (r : Addr) (n : Nat) : Prop := ∃ a b c : Int, M r = some (.lst [.int a, .int b, .int c]) /\ 0 <= b /\ b < 2147483629 /\ 0 <= c /\ c <= n
structure WTo (M M' : Mem) (r : Addr) (n : Nat) : Prop where
  ok : Well M' r n
  keep : ∀ b d, b ≠ r -> M b = some d -> M' b = some d
def isL (c : Nat) : Bool := decide (97 <= c) && decide (c <= 122)
def isS (c : Nat) : Bool := isL c || (decide (48 <= c) && decide (c <= 57))
def S (cs : List Nat) : Str := ⟨cs.toArray⟩
@[simp] theorem S_inj {a b : List Nat} : S a = S b ↔ a = b := by
  constructor
  · intro h
    have := congrArg (fun x : Str => x.cps.toList) h
    simpa [S] using this
  · rintro rfl; rfl
def NameOk (cs : List Nat) : Prop := ∃ c r, cs = c :: r /\ r.length <= 7 /\ isL c = true /\ ∀ e ∈ r, isS e = true
theorem isS_lt {c : Nat} (h : isS c = true) : c < 1114112 := by simp [isS, isL] at h; omega
theorem isL_S {c : Nat} (h : isL c = true) : isS c = true := by simp [isS, h]
theorem NameOk.all {cs : List Nat} (h : NameOk cs) : ∀ c ∈ cs, isS c = true := by
  obtain ⟨c, r, rfl, _, h1, h2⟩ := h
  intro e he
  rcases List.mem_cons.mp he with rfl | he
  · exact isL_S h1
  · exact h2 e he
theorem NameOk.len {cs : List Nat} (h : NameOk cs) : 1 <= cs.length /\ cs.length <= 8 := by
  obtain ⟨c, r, rfl, h1, _⟩ := h
  simp; omega
theorem S_append (a b : List Nat) : S a ++ S b = S (a ++ b) := by
  show Str.append (S a) (S b) = _
  unfold Str.append S
  simp
@[simp] theorem S_length (a : List Nat) : (S a).length = a.length := by simp [S, Str.length]
theorem S_of (z : Str) : z = S z.cps.toList := by cases z; simp [S]
theorem range_at {n : Nat} {f : Nat -> D} {done rest : List D} {x : D} (h : (List.range n).map f = done ++ x :: rest) : done.length < n /\ x = f done.length := by
  have h1 := congrArg List.length h
  simp at h1
  have h2 : done.length < n := by omega
  refine ⟨h2, ?_⟩
  have h3 := congrArg (fun l : List D => l[done.length]?) h
  simp [h2] at h3
  exact h3.symm
def dg (k : Nat) : List Nat := ((toString (k : Int) : String) : Str).cps.toList
theorem dg_ok : ∀ k : Fin 60, (∀ e ∈ dg k.val, 48 <= e /\ e <= 57) /\ (dg k.val).length <= 2 := by decide +kernel
theorem dg_inj : ∀ j k : Fin 60, dg j.val = dg k.val -> j = k := by decide +kernel
structure Row where
  nm : List Nat
  va : Int
  lv : Int
def Row.d (r : Row) : D := .tup [.str (S r.nm), .int r.va, .int r.lv]
def LevOk (ls : List Int) : Prop := ∀ (i : Nat) (l : Int), ls[i]? = some l -> 0 <= l /\ (i = 0 -> l = 0) /\ ∀ k : Nat, i = k + 1 -> ∃ m : Int, ls[k]? = some m /\ l <= m + 1
structure RowsOk (rs : List Row) : Prop where
  len : rs.length <= 60
  names : ∀ r ∈ rs, NameOk r.nm
  vals : ∀ r ∈ rs, -(10 ^ 30) <= r.va /\ r.va <= 10 ^ 30
  nd : (rs.map Row.nm).Nodup
  lev : LevOk (rs.map Row.lv)
def anc (ls : List Int) : Nat -> Int -> List Nat
  | 0, _ => []
  | i + 1, lev => if ls.getD i 0 < lev then i :: anc ls i (ls.getD i 0) else anc ls i lev
def ancs (ls : List Int) (p : Nat) : List Nat := anc ls p (ls.getD p 0)
def line (ls : List Int) (p : Nat) : List Nat := p :: ancs ls p
end FL
set_option Elab.async false
set_option linter.all false
set_option maxRecDepth 100000
set_option maxHeartbeats 1000000
namespace FL
open PySem L2 DL
theorem inStr_1 (c : Nat) (z : Str) : inStr ⟨#[c]⟩ z = decide (c ∈ z.cps.toList) := rfl
def strD (x : List Nat) : D := .str (S x)
theorem mem_made {x : List Nat} (ns : List (List Nat)) : ((ns.map strD).any fun y => eqFD y (.str (S x))) = decide (x ∈ ns) := by
  induction ns with
  | nil => simp
  | cons y ns ih =>
    simp only [List.map_cons, List.any_cons, ih, strD]
    by_cases e : y = x
    · subst e; simp
    · have : ¬ (S y = S x) := by simpa using e
      simp [this, e, Ne.symm e]
theorem strD_add (a b : List Nat) (h : a.length + b.length <= 16777216) : addD (strD a) (strD b) = some (strD (a ++ b)) := by
  unfold strD
  rw [addD_str (by simpa using h), S_append]
theorem atI_get' {α : Type} {l : List α} {k : Nat} {x : α} (h : l[k]? = some x) : atI l (k : Int) = some x := atI_nat h
def SeqOf (d : D) (xs : List D) : Prop := d = .lst xs \/ d = .tup xs
theorem SeqOf.vw {d : D} {xs : List D} (h : SeqOf d xs) (M : Mem) : vw M d = d := by rcases h with rfl | rfl <;> rfl
theorem SeqOf.ix {d : D} {xs : List D} (h : SeqOf d xs) (k : Int) : ixA d (.int k) = atI xs k := by rcases h with rfl | rfl <;> rfl
theorem SeqOf.len {d : D} {xs : List D} (h : SeqOf d xs) : lenF [d] = some (.int xs.length) := by rcases h with rfl | rfl <;> rfl
theorem sIx_nat (n d p : Nat) : HT.sIx n d (some (p : Int)) = min p n := by
  have h0 : ¬ ((p : Int) < 0) := by omega
  unfold HT.sIx
  simp [h0]
theorem cutD_to {xs : List D} {p : Nat} : cutD xs none (some (p : Int)) = xs.take p := by
  unfold cutD
  rw [sIx_nat]
  have e0 : HT.sIx xs.length 0 none = 0 := rfl
  rw [e0]
  simp only [List.drop_zero, Nat.sub_zero]
  by_cases h : p <= xs.length
  · rw [Nat.min_eq_left h]
  · rw [Nat.min_eq_right (by omega), List.take_of_length_le (Nat.le_refl _), List.take_of_length_le (by omega)]
theorem cutD_from {xs : List D} {p : Nat} : cutD xs (some (p : Int)) none = xs.drop p := by
  unfold cutD
  rw [sIx_nat]
  have e0 : HT.sIx xs.length xs.length none = xs.length := rfl
  rw [e0]
  by_cases h : p <= xs.length
  · rw [Nat.min_eq_left h]
    exact List.take_of_length_le (by simp)
  · rw [Nat.min_eq_right (by omega), List.drop_of_length_le (Nat.le_refl _), List.drop_of_length_le (by omega)]
    simp
def spotsK (rs : List Row) : List Key := rs.map fun r => .inr (S r.nm)
def places (n : Nat) : List D := (List.range n).map fun (i : Nat) => D.int (i : Int)
def FD (rs : List Row) : D := .obj 0 ["rows", "order", "spots"] [.tup (rs.map Row.d), .tup (rs.map fun r => strD r.nm), .dK (spotsK rs) (places rs.length)]
@[simp] theorem vw_FD {M : Mem} {rs : List Row} : vw M (FD rs) = FD rs := rfl
@[simp] theorem vw_strD {M : Mem} {x : List Nat} : vw M (strD x) = strD x := rfl
@[simp] theorem methAt_FD {tb : List (Nat × SpD)} {m : Str} {M : Mem} {R : SpD -> Prop} {rs : List Row} : methAt tb m (FD rs) M R ↔ ∃ spd, tb.lookup 0 = some spd /\ m ∉ (["rows", "order", "spots"] : List Str) /\ R spd := methAt_obj
def nmAt (rs : List Row) (i : Nat) : D := strD ((rs.map Row.nm).getD i [])
@[simp] theorem vw_nmAt {M : Mem} {rs : List Row} {i : Nat} : vw M (nmAt rs i) = nmAt rs i := rfl
def lvs (rs : List Row) : List Int := rs.map Row.lv
def optNm (rs : List Row) : Option Nat -> D
  | some i => nmAt rs i
  | none => .non
def optI : Option Nat -> D
  | some i => .int (i : Int)
  | none => .non
@[simp] theorem optI_some (i : Nat) : optI (some i) = .int (i : Int) := rfl
@[simp] theorem optI_none : optI none = .non := rfl
def intD (i : Nat) : D := .int (i : Int)
def keepIn (l : List Nat) : D -> Option D
  | .int i => if i.toNat ∈ l then some (.int i) else none
  | _ => none
@[simp] theorem vw_optNm {M : Mem} {rs : List Row} {o : Option Nat} : vw M (optNm rs o) = optNm rs o := by cases o <;> rfl
end FL
set_option Elab.async false
set_option linter.all false
set_option maxRecDepth 100000
set_option maxHeartbeats 4000000
set_option autoImplicit false
namespace DL
open PySem L2
section
variable {cl : ClW} {X : Cx} {W : WX} {k : Nat} {f : Addr} {fd : FuncData} {ps : List Str} {spd : SpD}
theorem env_at {pins : List (Addr × Obj)} {σ : St} {H : Hp} {s : Shared} {A : Around} (I : Inv X pins σ H s) (hfr : A.frames = X.A.frames) : Env0 X.prog X.w X.K X.mg X.base A X.stack s H := by
  have e := I.env0
  exact ⟨by rw [hfr]; exact e.frames, e.mod, e.bs, e.bsz, e.funs, e.frf, e.hok, e.bare⟩
theorem run_gA {A : Around} {pins : List (Addr × Obj)} {σ : St} {H : Hp} {s : Shared} {Q : VK} {us : List Value} {vs : List V} (tk : Takes X W) (hr : RoomG k A) (hfr : A.frames = X.A.frames) (G : FnG cl X.prog X.w X.K X.mg X.base k f fd ps spd) (hb : Binds X.K fd ps [])
    (I : Inv X pins σ H s) (r : Vals vs us) (h : lower X.K cl spd vs H Q (WE W σ)) : wpAny (model X.prog X.w) A (call (.ref f) us) (EP X pins σ Q) X.xe s := by
  have hl : us.length = ps.length := by rw [<- Paired.length r]; exact G.lenV h
  have hbb : BindsTo s fd ⟨us, []⟩ (ps.zip us) := by
    have := hb s us I.kIn (by simpa using hl)
    simpa using this
  refine wpAny_call (codeAny_mono (G.run A X.stack s H ⟨us, []⟩ us vs Q _ hr (env_at I hfr) hbb r h) fun r s' hq => ?_)
  cases r with
  | error e => exact passAt tk σ pins H s e s' I hq
  | ok fl =>
    cases fl with
    | ret u => exact I.after hq
    | next => exact False.elim hq
    | brk => exact False.elim hq
    | cont => exact False.elim hq
end
abbrev DB2 := D -> D -> DL.Env -> Mem -> DV -> DX -> Prop
def BinG (cl : ClW) (X : Cx) (W : WX) (op : Value -> Value -> Sem Value) (φ : DB2) : Prop :=
  ∀ (pins : List (Addr × Obj)) (s : Shared) (σ : St) (H F : Hp) (ρ : DL.Env) (M : Mem) (v u : Value) (x y : V) (d e : D) (Q : VK) (Qd : DV) (Xd : DX), Inv X pins σ H s -> RelV x v -> RelV y u -> Good X.K cl F H M -> Slots X.K cl F σ ρ -> Rep X.K cl F x d -> Rep X.K cl F y e ->
    φ d e ρ M Qd Xd -> Post X.K cl F Q Qd -> WOk X.K cl W F Xd -> wpAny (model X.prog X.w) X.A (op v u) (EP X pins σ Q) X.xe s
@[simp] def dBin (φ : DB2) (τa τb : DTE) : DTE := fun ρ M Q X => τa ρ M (fun d M1 => τb ρ M1 (fun e M2 => φ d e ρ M2 Q X) X) X
@[simp] def bOp (f : D -> D -> Option D) : DB2 := fun d e _ M Q _ => ∃ z, f (vw M d) (vw M e) = some z /\ Q z M
@[simp] def bOr (φ ψ : DB2) : DB2 := fun d e ρ M Q X => φ d e ρ M Q X \/ ψ d e ρ M Q X
section
variable {cl : ClW} {X : Cx} {W : WX} {pos : Pos} {a b : Expr} {τa τb : DTE}
theorem bin_low {σ : St} {H : Hp} {Q : VK} {φ : DB2} (h : lowE X.K cl W (dBin φ τa τb) σ H Q) : lowE X.K cl W τa σ H (fun x H1 => ∃ F ρ M d Qd Xd, Good X.K cl F H1 M /\ Slots X.K cl F σ ρ /\ Rep X.K cl F x d /\ τb ρ M (fun e M2 => φ d e ρ M2 Qd Xd) Xd /\ Post X.K cl F Q Qd /\ WOk X.K cl W F Xd) := by
  obtain ⟨F, ρ, M, Qd, Xd, g, s, q, p, w⟩ := h
  exact ⟨F, ρ, M, _, Xd, g, s, q, fun x H1 F1 d M1 sm g1 r q1 => ⟨F1, ρ, M1, d, Qd, Xd, g1, s.mono sm, r, q1, p.mono sm, w.mono sm⟩, w⟩
theorem run_bin {op : Value -> Value -> Sem Value} {φ : DB2} (ho : BinG cl X W op φ) (ha : DE cl X W a τa) (hb : DE cl X W b τb) {pins : List (Addr × Obj)} {s : Shared} {σ : St} {H : Hp} {Q : VK} (I : Inv X pins σ H s) (h : lowE X.K cl W (dBin φ τa τb) σ H Q) :
    wpAny (model X.prog X.w) X.A (eval a X.env) (fun v s1 => wpAny (model X.prog X.w) X.A (eval b X.env) (fun u s2 => wpAny (model X.prog X.w) X.A (op v u) (EP X pins σ Q) X.xe s2) X.xe s1) X.xe s := by
  refine thn (ha.pe.run pins s σ H _ I (bin_low h)) fun v s1 ⟨x, H1, I1, r1, F1, ρ, M1, d, Qd, Xd, g1, sl1, rd, q1, p1, w1⟩ => ?_
  refine thn (hb.pe.run pins s1 σ H1 (fun y H2 => ∃ F2 M2 e, Same F1 F2 /\ Good X.K cl F2 H2 M2 /\ Rep X.K cl F2 y e /\ φ d e ρ M2 Qd Xd) I1 ⟨F1, ρ, M1, _, Xd, g1, sl1, q1, fun y H2 F2 e M2 sm g2 r2 q2 => ⟨F2, M2, e, sm, g2, r2, q2⟩, w1⟩) fun u s2 ⟨y, H2, I2, r2, F2, M2, e, sm, g2, re, q2⟩ => ?_
  exact ho pins s2 σ H2 F2 ρ M2 v u x y d e Q Qd Xd I2 r1 r2 g2 (sl1.mono sm) (rd.mono sm) re q2 (p1.mono sm) (w1.mono sm)
theorem d_bin {op : Operator} {φ : DB2} (ho : BinG cl X W (binaryOp op) φ) (ha : DE cl X W a τa) (hb : DE cl X W b τb) : DE cl X W (.BinOp a op b pos) (dBin φ τa τb) := ⟨⟨fun pins s σ H Q I h => wpAny_BinOp (run_bin ho ha hb I h)⟩⟩
theorem d_cmpG {op : CmpOp} {φ : DB2} (ho : BinG cl X W (compareOp op) φ) (ha : DE cl X W a τa) (hb : DE cl X W b τb) (hm : behindInMarks op b = false) : DE cl X W (.Compare a [op] [b] pos) (dBin φ τa τb) := ⟨⟨fun pins s σ H Q I h => wpAny_Compare1 (run_bin ho ha hb I h) hm⟩⟩
theorem d_tcmpG {op : CmpOp} {φ : DB2} (ho : BinG cl X W (compareOp op) φ) (ha : DE cl X W a τa) (hb : DE cl X W b τb) (hm : behindInMarks op b = false) : DT cl X W (.Compare a [op] [b] pos) (dTest (dBin φ τa τb)) := ⟨⟨fun pins s σ H Q I h => by
  obtain ⟨F, ρ, M, Qd, Xd, g, sl, q, p, w⟩ := h
  have h2 : lowE X.K cl W (dBin φ τa τb) σ H (fun x H' => ∃ k, x = .bl k /\ Q k H') := ⟨F, ρ, M, _, Xd, g, sl, q, p.test, w⟩
  refine wpAny_isTrue_Compare1 (thn (run_bin ho ha hb I h2) fun v s1 q1 => thn q1 fun u s2 q2 => thn q2 fun c s3 ⟨z, H3, I3, r3, k, e, q3⟩ => ?_) hm
  subst e
  cases r3
  exact wpAny_truthy_bool ⟨H3, I3, q3⟩⟩⟩
end
end DL
set_option Elab.async false
set_option linter.all false
set_option maxRecDepth 100000
set_option maxHeartbeats 4000000
set_option autoImplicit false
namespace DL
open PySem L2
@[simp] def kB : D -> Option D
  | .bl b => some (.bl b)
  | _ => none
@[simp] def kNB : D -> Option D
  | .bl b => some (.bl !b)
  | _ => none
@[simp] def kV : D -> Option D
  | .bl b => some (.bl b)
  | .obj c ns ds => some (.obj c ns ds)
  | _ => none
section
variable {cl : ClW} {X : Cx} {W : WX} {k : Nat} {tb : List (Nat × SpD)}
theorem inst_at {pins : List (Addr × Obj)} {σ : St} {H : Hp} {s : Shared} {a C dx : Addr} {fs : List (Str × V)} (I : Inv X pins σ H s) (h : H a = some (.ins C dx fs)) : ∃ od, PySem.W.InstAt s.heap a (PySem.W.instObj C dx) C (some od) := by
  obtain ⟨mA, J, _⟩ := ins_get I.hok h
  obtain ⟨od, J, _⟩ := J.look
  exact ⟨od, J⟩
theorem obj_at {F H : Hp} {M : Mem} {v : V} {d : D} {c : Nat} {ns : List Str} {ds : List D} (g : Good X.K cl F H M) (r : Rep X.K cl F v d) (e : vw M d = .obj c ns ds) : ∃ a dx fs, v = .ref a /\ H a = some (.ins (cl c) dx fs) := by
  have hv := vw_ok g r
  rw [e] at hv
  obtain ⟨a, dx, vs, rfl, h1, h2, h3⟩ := hv.obj g.sub
  exact ⟨a, dx, _, rfl, h1⟩
end
end DL
set_option Elab.async false
set_option linter.all false
set_option maxRecDepth 100000
set_option maxHeartbeats 4000000
set_option autoImplicit false
namespace DL
open PySem L2
section
variable {prog : Program} {w : World} {A : Around} {E : Value -> Shared -> Prop} {s : Shared} {K : PySem.W.Frag} {x C L f : Addr} {h₀ : Heap} {m : Str -> Option Value} {ox : Obj} {od : Option Obj} {b tb : Value}
end
section
variable {cl : ClW} {X : Cx} {W : WX} {k : Nat} {tb : List (Nat × SpD)}
structure TyC (K : PySem.W.Frag) (C : Addr) : Prop where
  cls : Cls K C
  ha : PySem.W.findIn K (.ref C) "__class__" = some (some (.builtin "object.__class__"))
  hn : PySem.W.specialIn K (.builtin "object.__class__") "__get__" = some (some (.builtin "getset_descriptor.__get__"))
  htk : PySem.W.takesIn K (.builtin "object.__class__") = some true
  hm : PySem.W.mroIn K C (.type "object") = some true
structure IsoOk (K : PySem.W.Frag) (cl : Nat -> Addr) (c : Nat) (yes no : List Nat) : Prop where
  y : ∀ j ∈ yes, TyC K (cl j) /\ PySem.W.kitOne K (.ref (cl j)) (.ref (cl c)) = some true
  n : ∀ j ∈ no, TyC K (cl j) /\ PySem.W.kitOne K (.ref (cl j)) (.ref (cl c)) = some false
  t : ∀ n ∈ tyNames, PySem.W.kitOne K (.type n) (.ref (cl c)) = some false
def isoF (c : Nat) (yes no : List Nat) : List D -> Option D
  | [.obj j _ _, .cls i] => if i = c then if j ∈ yes then some (.bl true) else if j ∈ no then some (.bl false) else none else none
  | [d, .cls i] => if i = c then if (tyName d).isSome then some (.bl false) else none else none
  | _ => none
end
end DL
set_option Elab.async false
set_option linter.all false
set_option maxRecDepth 100000
set_option maxHeartbeats 2000000
set_option autoImplicit false
namespace DL
open PySem L2
section
variable {K : PySem.W.Frag} {cl : ClW}
theorem and2 {a b : Bool} (h : (a && b) = true) : a = true /\ b = true := Bool.and_eq_true_iff.mp h
end
section
variable {cl : ClW} {X : Cx} {W : WX} {pos : Pos}
end
@[simp] theorem isoF_obj {c j : Nat} {yes no : List Nat} {ns : List Str} {ds : List D} : isoF c yes no [.obj j ns ds, .cls c] = if j ∈ yes then some (.bl true) else if j ∈ no then some (.bl false) else none := by simp [isoF]
end DL
set_option Elab.async false
set_option linter.all false
set_option maxRecDepth 100000
set_option maxHeartbeats 4000000
set_option autoImplicit false
namespace DL
open PySem L2
def spX (C : Addr) (fs : List Str) : Sp := fun vs H Q _ => ∃ (a : Addr) (ws : List V), vs = .ref a :: ws /\ ws.length = fs.length /\ H a = some (exo a C none) /\
  ∀ (d : Addr) (H' : Hp), H d = none -> d ≠ a -> H' a = some (exo a C (some d)) -> H' d = some (exd d (fs.reverse.zip ws.reverse)) -> (∀ b, b ≠ a -> b ≠ d -> H' b = H b) -> Q .non H'
structure ExcK (P : Program) (w : World) (K : PySem.W.Frag) (mg : Str -> Option Value) (base : Heap) (x : Str) (C : Addr) (fs : List Str) : Prop where
  oex : OexC K C
  gl : mg x = some (.ref C)
  ini : ∃ fI fd ps, PySem.W.findIn K (.ref C) "__init__" = some (some (.ref fI)) /\ PySem.W.typeIn K (.ref fI) = some (.type "function") /\ FnOk P w K mg base (L2.CX P w) 1 fI fd ps (spX C fs) /\ Binds K fd ps []
section
variable {P : Program} {w : World} {K : PySem.W.Frag} {mg : Str -> Option Value} {base : Heap} {qual : Str} {params : Arguments} {scope : Scope} {f C : Addr} {fd : FuncData}
theorem xinit1 {p1 p2 p3 p4 : Pos} {g : Str} (T : OexC K C) (hno : PySem.W.findIn K (.ref C) g = some none) (F : FunD K "__init__" qual params [.Assign [.Attribute (.Name "self" p1) g p2] (.Name g p3) p4] scope [] [] f fd) (S : FnScope ["self", g] ["self", g] scope)
    (h0 : Vis scope "self" := by first | exact Or.inl rfl | exact Or.inr (Or.inl rfl)) (h1 : Vis scope g := by first | exact Or.inl rfl | exact Or.inr (Or.inl rfl)) (hd : (g == ("__debug__" : Str)) = false := by decide) (hcd : (g == ("__classdict__" : Str)) = false := by decide) : FnOk P w K mg base (L2.CX P w) 1 f fd ["self", g] (spX C [g]) := by
  refine F.ok S (fun vs H Q E ⟨a, ws, e, hl, _⟩ => by rw [e, List.length_cons, hl]; rfl) fun cdv A outer s H vs Q E hr ⟨a, ws, e, hl, ha, q⟩ => ?_
  obtain ⟨v, rfl⟩ : ∃ v, ws = [v] := by
    match ws, hl with
    | [v], _ => exact ⟨v, rfl⟩
  subst e
  refine ⟨_, pss_one (ps_ost (pe_var (i := 0) rfl h0 (by decide)) (pe_var (i := 1) rfl h1 hd hcd)), ?_⟩
  refine ⟨v, rfl, .ref a, rfl, a, C, rfl, T, hno, .inl ⟨ha, fun d hd hne => q d _ hd hne upd_same (by rw [upd_ne hne, upd_same]; rfl) (fun b h1 h2 => by rw [upd_ne h1, upd_ne h2])⟩⟩
theorem xinit2 {p1 p2 p3 p4 p5 p6 p7 p8 : Pos} {g k : Str} (T : OexC K C) (hno : PySem.W.findIn K (.ref C) g = some none) (hno2 : PySem.W.findIn K (.ref C) k = some none)
    (F : FunD K "__init__" qual params [.Assign [.Attribute (.Name "self" p1) g p2] (.Name g p3) p4, .Assign [.Attribute (.Name "self" p5) k p6] (.Name k p7) p8] scope [] [] f fd) (S : FnScope ["self", g, k] ["self", g, k] scope)
    (h0 : Vis scope "self" := by first | exact Or.inl rfl | exact Or.inr (Or.inl rfl)) (h1 : Vis scope g := by first | exact Or.inl rfl | exact Or.inr (Or.inl rfl)) (h2 : Vis scope k := by first | exact Or.inl rfl | exact Or.inr (Or.inl rfl))
    (hd : (g == ("__debug__" : Str)) = false := by decide) (hcd : (g == ("__classdict__" : Str)) = false := by decide) (hd2 : (k == ("__debug__" : Str)) = false := by decide) (hcd2 : (k == ("__classdict__" : Str)) = false := by decide) : FnOk P w K mg base (L2.CX P w) 1 f fd ["self", g, k] (spX C [g, k]) := by
  refine F.ok S (fun vs H Q E ⟨a, ws, e, hl, _⟩ => by rw [e, List.length_cons, hl]; rfl) fun cdv A outer s H vs Q E hr ⟨a, ws, e, hl, ha, q⟩ => ?_
  obtain ⟨v, u, rfl⟩ : ∃ v u, ws = [v, u] := by
    match ws, hl with
    | [v, u], _ => exact ⟨v, u, rfl⟩
  subst e
  refine ⟨_, pss_cons (ps_ost (pe_var (i := 0) rfl h0 (by decide)) (pe_var (i := 1) rfl h1 hd hcd)) (pss_one (ps_ost (pe_var (i := 0) rfl h0 (by decide)) (pe_var (i := 2) rfl h2 hd2 hcd2))), ?_⟩
  refine ⟨v, rfl, .ref a, rfl, a, C, rfl, T, hno, .inl ⟨ha, fun d hd hne => ?_⟩⟩
  refine ⟨u, rfl, .ref a, rfl, a, C, rfl, T, hno2, .inr ⟨d, [(g, v)], upd_same, by rw [upd_ne hne, upd_same], by simp, ?_⟩⟩
  exact q d _ hd hne (by rw [upd_ne (Ne.symm hne), upd_same]) (by rw [upd_same]; rfl) (fun b h1 h2 => by rw [upd_ne h2, upd_ne h1, upd_ne h2])
end
def dRaise (c : Nat) (fs : List Str) (α : DTA) : DTS := fun E ρ M => α ρ M (fun ds M1 => ds.length = fs.length /\ E.ex c fs.reverse ds.reverse ρ M1) E.ex
section
variable {cl : ClW} {X : Cx} {W : WX} {k : Nat} {x : Str} {c : Nat} {fs : List Str} {e : Expr} {es : List Expr} {α : DTA} {p p2 pos : Pos}
theorem ds_raise (cp : Cap X W k) (hk : 2 <= k) (T : ExcK X.prog X.w X.K X.mg X.base x (cl c) fs) (hf : fs.length <= 900) (hg : Gl X x) (ha : DA cl X W (e :: es) α)
    (hdb : (x == ("__debug__" : Str)) = false := by decide) (he : starEach (e :: es) X.env = (false, eval e X.env) :: starEach es X.env := by rfl) (hpl : (backTo p2 (starEach es X.env)).any (·.1) = false := by rfl) :
    DS cl X W (.Raise (some (.Call (.Name x p) (e :: es) [] p2)) none pos) (dRaise c fs α) := by
  obtain ⟨fI, fd, ps, iC, tI, F1, hb⟩ := T.ini
  refine ⟨ps_imp (ps_raise cp.calm cp.tk (pmk_oex T.oex iC tI F1 (cp.hr.mono hk).room hb .nil (fun pins σ H s e s' I h => ?_) hg T.gl ha.pa hdb he hpl)) fun D σ H ⟨F, ρ, M, E, g, s, q, ok⟩ => ?_⟩
  · obtain ⟨_, _, _, _, _, _, _, _, _, _, _, _, h⟩ := h
    exact h.elim
  · refine ⟨F, ρ, M, _, E.ex, g, s, q, fun vs H1 F1 ds M1 sm g1 r1 ⟨hl, q1⟩ => ⟨by rw [r1.length, hl]; omega, fun a ha => ?_⟩, ok.ex⟩
    refine ⟨a, vs, by rw [List.append_nil], by rw [r1.length, hl], upd_same, fun d H' hd hne h1 h2 h3 => ⟨rfl, d, _, h1, h2, ?_, ?_⟩⟩
    · rw [upd_ne hne] at hd; exact hd
    · rw [upd_ne hne] at hd
      have eH : L2.upd (L2.del H' a) d (.xd (fs.reverse.zip vs.reverse)) = L2.upd H1 d (.xd (fs.reverse.zip vs.reverse)) := by
        funext b
        by_cases hb : b = d
        · rw [hb, upd_same, upd_same]
        · rw [upd_ne hb, upd_ne hb]
          by_cases hb2 : b = a
          · rw [hb2, del_same, ha]
          · rw [del_ne hb2, h3 b hb2 hb, upd_ne hb2]
      rw [eH]
      have sm2 : Same F1 (L2.upd F1 d (.xd (fs.reverse.zip vs.reverse))) := same_new (g1.freshF hd)
      exact ok.ex c _ _ σ _ _ ρ M1 (some d) (sm.trans sm2) (g1.new hd) (s.mono (sm.trans sm2)) (.inr ⟨d, vs.reverse, rfl, upd_same, by rw [List.length_reverse, List.length_reverse, r1.length, hl], (r1.mono sm2).reverse⟩) q1
end
end DL
set_option Elab.async false
set_option linter.all false
set_option maxRecDepth 100000
set_option maxHeartbeats 4000000
set_option autoImplicit false
namespace DL
open PySem L2
abbrev Clause := Value × Option Nat × (Addr -> Value -> Option Addr -> TS)
def endsAt (o : Option Nat) (Dn : Ends) : Ends := match o with
  | none => Dn
  | some i => { nx := fun σ H => Dn.nx (σ.set i none) H, rt := Dn.rt, bk := fun σ H => Dn.bk (σ.set i none) H, ct := fun σ H => Dn.ct (σ.set i none) H }
def setAt (o : Option Nat) (σ : St) (a : Addr) : St := match o with
  | none => σ
  | some i => σ.set i (some (.ref a))
def wMix (K : PySem.W.Frag) (Wo : WX) (Dn : Ends) : List Clause -> WX
  | [] => Wo
  | (c, o, ts) :: r => fun cl d σ H => ∃ b, PySem.W.exmOne K cl c = some b /\ (b = true -> ∀ a, H a = none -> ts a cl d (endsAt o Dn) (setAt o σ a) H) /\ (b = false -> wMix K Wo Dn r cl d σ H)
abbrev SuiteOk (X : Cx) (su : List Stmt) (ts : Addr -> Value -> Option Addr -> TS) : Prop := ∀ (a : Addr) (oe : Obj) (cl : Value) (d : Option Addr) (pn : List (Addr × Obj)), Zc cl d oe -> (∃ vs, oe.data = .fields vs) -> PSs (X.suite a ((a, oe) :: pn)) su (ts a cl d)
inductive Mix (X : Cx) : List ExceptHandler -> List Clause -> Prop
  | nil : Mix X [] []
  | only {x : Str} {c : Value} {ts : Addr -> Value -> Option Addr -> TS} {st : Stmt} {su : List Stmt} {np hp : Pos} {hs : List ExceptHandler} {l : List Clause} (hc : Names X x c) (h : SuiteOk X (st :: su) ts) (r : Mix X hs l) : Mix X (.ExceptHandler (some (.Name x np)) none (st :: su) hp :: hs) ((c, none, ts) :: l)
  | as {x n : Str} {i : Nat} {c : Value} {ts : Addr -> Value -> Option Addr -> TS} {st : Stmt} {su : List Stmt} {np hp : Pos} {hs : List ExceptHandler} {l : List Clause} (hN : X.N.Nodup) (hi : X.N[i]? = some n) (hn : X.env.kindOf n = some .local) (hc : Names X x c) (h : SuiteOk X (st :: su) ts) (r : Mix X hs l) :
      Mix X (.ExceptHandler (some (.Name x np)) (some n) (st :: su) hp :: hs) ((c, some i, ts) :: l)
section
variable {X : Cx} {body : List Stmt} {hd0 : ExceptHandler} {hds : List ExceptHandler} {l : List Clause} {pos : Pos} {tb : WX -> TS} {Wo : WX}
theorem sp_back {pins : List (Addr × Obj)} {pn : List (Addr × Obj)} {xe : Value -> Shared -> Prop} {Dn : Ends} {s0 : Shared} {σ0 : St} {H0 : Hp} (I0 : Inv X pins σ0 H0 s0) {fl : Flow} {s : Shared} (h : SP (X.tr pn xe) [] Dn fl s) (hp : pn = X.pn ++ pins) : SP X pins Dn fl s := by
  subst hp
  cases fl with
  | ret u => exact let ⟨v, σ, H, J, r, q⟩ := h; ⟨v, σ, H, J.ofTry I0.ok, r, q⟩
  | _ => exact let ⟨σ, H, J, q⟩ := h; ⟨σ, H, J.ofTry I0.ok, q⟩
theorem mix_go {pins : List (Addr × Obj)} {Dn : Ends} {a : Addr} {B h3 : Heap} {s1 sI : Shared} {σ1 : St} {H1 : Hp} {cl : Value} {d : Option Addr} (hst : X.stack = X.env :: X.outer) (hfr : X.env.frame = some X.env.locals) (tk : Takes X Wo)
    (J : Inv X pins σ1 H1 sI) (nb : ∀ b o, sI.heap.get? b = some o -> b ∉ frs X.stack -> B.get? b = some o) (up : sI.heap.UpToSlots h3) (fl : HandSPX.FlyingZ B (X.env :: X.outer) a (Zc cl d) h3) (na : H1 a = none) (os : s1.os = sI.os) (ag : PyProof.Rows.AllBare s1.gens)
    (hk : Mix X hds l) (w : wMix X.K Wo Dn l cl d σ1 H1) : wpAny (model X.prog X.w) X.A (handleBy (.ref a) X.env hds) (SP X pins Dn) X.xe { s1 with heap := h3 } := by
  have ok := J.ok
  have land : ∀ {h4 : Heap}, HandSPX.FlyingZ B (X.env :: X.outer) a (Zc cl d) h4 -> sI.heap.UpToSlots h4 -> ∃ oe, Zc cl d oe /\ (∃ vs, oe.data = .fields vs) /\ h4.get? a = some oe /\ Inv X pins σ1 H1 { s1 with heap := h4 } /\ Inv (X.suite a ((a, oe) :: (X.pn ++ pins))) [] σ1 H1 { s1 with heap := h4 } := fun {h4} fl4 up4 => by
    have J4 : Inv X pins σ1 H1 { s1 with heap := h4 } := J.landed nb fl4.1 up4 os ag
    obtain ⟨oe, vs, e1, e2, e3⟩ := fl4.there
    have out : a ∉ frs (X.env :: X.outer) := fun hm => by
      obtain ⟨_, o', e', no⟩ := fl4.2.2.1.mem hm
      rw [e1] at e'
      cases e'
      exact no vs e3
    have nL : a ≠ X.env.locals := fun z => out (List.mem_filterMap.mpr ⟨X.env, List.mem_cons_self, by rw [hfr, z]⟩)
    have nF : a ∉ X.fs := fun hm => by
      obtain ⟨e, he, q⟩ := List.mem_filterMap.mp hm
      exact out (List.mem_filterMap.mpr ⟨e, List.mem_cons_of_mem _ he, q⟩)
    exact ⟨oe, e2, ⟨vs, e3⟩, e1, J4, J4.suite e1 e3 na nL nF⟩
  have ask : ∀ {x : Str} {c : Value} {np : Pos} {b : Bool} {Q : Bool -> Shared -> Prop} {E : Value -> Shared -> Prop}, Names X x c -> PySem.W.exmOne X.K cl c = some b -> Q b { s1 with heap := h3 } ->
      wpAny (model X.prog X.w) (X.A.mark (some (.ref a))) (eval (.Name x np) X.env) (fun v s => wpAny (model X.prog X.w) (X.A.mark (some (.ref a))) (excMatches (.ref a) v) Q E s) E { s1 with heap := h3 } := fun {x c np b Q E} hc hb q => by
    obtain ⟨oe, z1, z2, z3, J3, S3⟩ := land fl up
    have LT : PySem.W.Looks (model X.prog X.w) h3 (typeOf (.ref a)) cl := fun A Q E s k q => wpAny_typeOf_ref (k _ _ z3) (by rw [z1.1]; exact q)
    have yes : wpAny (model X.prog X.w) (X.A.mark (some (.ref a))) (excMatches (.ref a) c) Q E { s1 with heap := h3 } := (PySem.W.exm_one (M := model X.prog X.w) J3.kIn LT hb).here q
    obtain ⟨hg, hdb, hm | ⟨hm, hv, hnn⟩⟩ := hc
    · exact ld_glob (X := X.suite a ((a, oe) :: (X.pn ++ pins))) S3 hg hm yes hdb
    · exact ld_blt (X := X.suite a ((a, oe) :: (X.pn ++ pins))) S3 hg hm hv yes hnn hdb
  induction hk with
  | nil =>
    refine wpAny_handleBy_nil ?_
    obtain ⟨_, _, _, oe, vs, T, oT, ts', he, hz, hd, h1, _⟩ := id fl
    have last : wpAny (model X.prog X.w) X.A (setFlight (.ref a) X.env.frame) (fun _ s4 => wpAny (model X.prog X.w) X.A (throw (.ref a) : Sem Flow) (SP X pins Dn) X.xe s4) X.xe { s1 with heap := h3 } := by
      rw [hfr]
      exact HandSPX.setFlight_upZ fl fun h4 held up4 => wpAny_throw (tk _ _ ⟨a, B, sI, pins, σ1, H1, cl, d, rfl, J, nb, up.trans up4, .inr (.inr (by rw [hst]; exact held)), na, os, ag, w⟩)
    unfold PySem.passOn
    refine wpAny_bind (wpAny_field he hd h1 ?_)
    rw [if_neg (by simp)]
    first | exact wpAny_bind (wpAny_pure (wpAny_bind last)) | exact wpAny_bind last
  | @only x c ts st su np hp hs l hc hsu r ih =>
    obtain ⟨b, hb, hyes, hno⟩ := w
    refine wpAny_handleBy_cons (codeAny_handlers_test ?_) (by intro q; cases q)
    refine ask hc hb ?_
    cases b with
    | false => exact ih (hno rfl)
    | true =>
      refine codeAny_handlers_suite (HandSPX.lands_againZ fl fun h4 fl4 up4 => ?_)
      obtain ⟨oe, z1, z2, z3, J4, S4⟩ := land fl4 (up.trans up4)
      refine wpAny_mono ((hsu a oe cl d (X.pn ++ pins) z1 z2).run [] _ _ H1 _ S4 (hyes rfl a na)) (fun f s6 hsp => ?_) (fun _ _ z => False.elim z)
      cases f with
      | ret u => exact let ⟨v, σ, H, S6, r6, q⟩ := hsp; ⟨v, σ, H, S6.unsuite ok, r6, q⟩
      | _ => exact let ⟨σ, H, S6, q⟩ := hsp; ⟨σ, H, S6.unsuite ok, q⟩
  | @as x n i c ts st su np hp hs l hN hi hn hc hsu r ih =>
    obtain ⟨b, hb, hyes, hno⟩ := w
    refine wpAny_handleBy_cons (codeAny_handlers_test ?_) (by intro q; cases q)
    refine ask hc hb ?_
    cases b with
    | false => exact ih (hno rfl)
    | true =>
      refine codeAny_handlers_suite_as (HandSPX.lands_againZ fl fun h4 fl4 up4 => ?_)
      obtain ⟨oe, z1, z2, z3, J4, S4⟩ := land fl4 (up.trans up4)
      refine store_ok (X := X.suite a ((a, oe) :: (X.pn ++ pins))) (v := .ref a) S4 hN hi (.inl hn) rfl (fun s5 S5 => ?_) (.inr hn)
      refine wpAny_mono ((hsu a oe cl d (X.pn ++ pins) z1 z2).run [] s5 _ H1 _ S5 (hyes rfl a na)) (fun f s6 hsp => ?_) (fun _ _ z => False.elim z)
      have off : ∀ {σ6 : St} {H6 : Hp} {Q : Shared -> Prop}, Inv (X.suite a ((a, oe) :: (X.pn ++ pins))) [] σ6 H6 s6 -> (∀ s7, Inv X pins (σ6.set i none) H6 s7 -> Q s7) ->
          wpAny (model X.prog X.w) X.A (do bindName X.env n .none; unbindBehindTheSuite X.env n hp) (fun _ s7 => Q s7) X.xe s6 := fun {σ6 H6 Q} S6 hq => gone_ok (S6.unsuite ok) hN hi hn hq
      cases f with
      | ret u => exact let ⟨v, σ, H, S6, r6, q⟩ := hsp; off S6 fun s7 J7 => ⟨v, _, H, J7, r6, q⟩
      | _ => exact let ⟨σ, H, S6, q⟩ := hsp; off S6 fun s7 J7 => ⟨_, H, J7, q⟩
theorem ps_try_mix (hst : X.stack = X.env :: X.outer) (hfr : X.env.frame = some X.env.locals) (tk : Takes X Wo)
    (hb : ∀ (W : WX) (pn : List (Addr × Obj)) (xe : Value -> Shared -> Prop), Takes (X.tr pn xe) W -> PassesOwn (model X.prog X.w) X.A X.env xe -> PSs (X.tr pn xe) body (tb W))
    (hk : Mix X (hd0 :: hds) l) : PS X (.Try body (hd0 :: hds) [] [] pos) (fun Dn σ H => tb (wMix X.K Wo Dn l) Dn σ H) := by
  refine ⟨fun pins s σ H Dn I h => wpAny_Try_except ?_⟩
  have frs_ : X.A.frames = some (X.env :: X.outer) := by rw [I.ok.frames, hst]
  refine wpAny_mono ((hb (wMix X.K Wo Dn l) (X.pn ++ pins) (fun e s₁ => wpAny (model X.prog X.w) X.A (noteFrame e X.env) (fun _ s₂ => wpAny (model X.prog X.w) X.A (setFlight e none) (fun _ s₃ =>
    wpAny (model X.prog X.w) X.A (handleBy e X.env (hd0 :: hds)) (SP X pins Dn) X.xe s₃) X.xe s₂) X.xe s₁) (fun u s1 xx => ?_) PassesOwn.looking).run [] s σ H Dn (I.toTry _) h) (fun f s1 hsp => ?_) (fun e s1 he => he)
  · obtain ⟨a, B, sI, pins', σ1, H1, cl, d, rfl, J', nb, up, sky, na, os, ag, w⟩ := xx
    have sky1 : Sky B (X.env :: X.outer) a (Zc cl d) X.env.locals s1.heap := by rw [<- hst]; exact sky
    show wpAny (model X.prog X.w) X.A (noteFrame (.ref a) X.env) _ _ _
    exact Sky.land Zc.steady frs_ hfr sky1 fun h3 fl3 up3 => mix_go hst hfr tk (J'.ofTry I.ok) nb (up.trans up3) fl3 na os ag hk w
  · have z := sp_back I hsp rfl
    cases f with
    | next => exact wpAny_execs_nil z
    | _ => exact z
end
end DL
set_option Elab.async false
set_option linter.all false
set_option maxRecDepth 100000
set_option maxHeartbeats 4000000
set_option autoImplicit false
namespace DL
open PySem L2
structure DClause where
  k : Nat
  slot : Option Nat
  su : D -> DTS
def endsD (o : Option Nat) (E : DEnds) : DEnds := match o with
  | none => { E with ex := noX }
  | some i => { nx := fun ρ M => E.nx (ρ.set i none) M, rt := E.rt, bk := fun ρ M => E.bk (ρ.set i none) M, ct := fun ρ M => E.ct (ρ.set i none) M, ex := noX }
def setD (o : Option Nat) (ρ : DL.Env) (x : D) : DL.Env := match o with
  | none => ρ
  | some i => ρ.set i (some x)
def mtT (tb : List ((Nat × Nat) × Bool)) (c k : Nat) : Option Bool := tb.lookup (c, k)
def dHandle (tb : List ((Nat × Nat) × Bool)) : List DClause -> DEnds -> DX
  | [], E => E.ex
  | q :: r, E => fun c ns ds ρ M => ∃ b, mtT tb c q.k = some b /\ (b = true -> ∀ a dd, M a = none -> q.su (.exc a dd c ns ds) (endsD q.slot E) (setD q.slot ρ (.exc a dd c ns ds)) M) /\ (b = false -> dHandle tb r E c ns ds ρ M)
def dTry (tb : List ((Nat × Nat) × Bool)) (t : DTS) (qs : List DClause) : DTS := fun E ρ M => t { E with ex := fun c ns ds ρ' M' => ns ≠ [] /\ dHandle tb qs E c ns ds ρ' M' } ρ M
def MtOk (K : PySem.W.Frag) (cl : Nat -> Addr) (tb : List ((Nat × Nat) × Bool)) : Prop := ∀ c k b, mtT tb c k = some b -> PySem.W.exmOne K (.ref (cl c)) (.ref (cl k)) = some b
def XOk (cl : ClW) (x : D) (a : Addr) (cls : Value) (d : Option Addr) : Prop := ∃ dd c ns ds, x = .exc a dd c ns ds /\ d = some dd /\ cls = .ref (cl c)
section
variable {cl : ClW} {X : Cx} {W : WX}
theorem pss_ex {α : Type} {p : α -> Prop} {st : List Stmt} {t : α -> TS} (h : ∀ x, p x -> PSs X st (t x)) : PSs X st (fun D σ H => ∃ x, p x /\ t x D σ H) := ⟨fun pins s σ H D I ⟨x, hx, q⟩ => (h x hx).run pins s σ H D I q⟩
inductive DMix (cl : ClW) (X : Cx) : List ExceptHandler -> List DClause -> Prop
  | nil : DMix cl X [] []
  | only {x : Str} {k : Nat} {su : D -> DTS} {st : Stmt} {ss : List Stmt} {np hp : Pos} {hs : List ExceptHandler} {l : List DClause} (hc : Names X x (.ref (cl k)))
      (h : ∀ (x : D) (a : Addr) (oe : Obj) (cls : Value) (d : Option Addr) (pn : List (Addr × Obj)), XOk cl x a cls d -> Zc cls d oe -> (∃ vs, oe.data = .fields vs) -> DSs cl (X.suite a ((a, oe) :: pn)) W0 (st :: ss) (su x)) (r : DMix cl X hs l) :
      DMix cl X (.ExceptHandler (some (.Name x np)) none (st :: ss) hp :: hs) (⟨k, none, su⟩ :: l)
  | as {x n : Str} {i k : Nat} {su : D -> DTS} {st : Stmt} {ss : List Stmt} {np hp : Pos} {hs : List ExceptHandler} {l : List DClause} (hN : X.N.Nodup) (hi : X.N[i]? = some n) (hn : X.env.kindOf n = some .local) (hc : Names X x (.ref (cl k)))
      (h : ∀ (x : D) (a : Addr) (oe : Obj) (cls : Value) (d : Option Addr) (pn : List (Addr × Obj)), XOk cl x a cls d -> Zc cls d oe -> (∃ vs, oe.data = .fields vs) -> DSs cl (X.suite a ((a, oe) :: pn)) W0 (st :: ss) (su x)) (r : DMix cl X hs l) :
      DMix cl X (.ExceptHandler (some (.Name x np)) (some n) (st :: ss) hp :: hs) (⟨k, some i, su⟩ :: l)
def tsOf (K : PySem.W.Frag) (cl : ClW) (su : D -> DTS) : Addr -> Value -> Option Addr -> TS := fun a cls d Dn σ H => ∃ x, XOk cl x a cls d /\ lowS K cl W0 (su x) Dn σ H
def clOf (K : PySem.W.Frag) (cl : ClW) (q : DClause) : Clause := (.ref (cl q.k), q.slot, tsOf K cl q.su)
theorem DMix.mix {hs : List ExceptHandler} {l : List DClause} (h : DMix cl X hs l) : Mix X hs (l.map (clOf X.K cl)) := by
  induction h with
  | nil => exact .nil
  | only hc h r ih => exact .only hc (fun a oe cls d pn hz hf => pss_ex (p := fun x => XOk cl x a cls d) fun x hx => (h x a oe cls d pn hx hz hf).pss) ih
  | as hN hi hn hc h r ih => exact .as hN hi hn hc (fun a oe cls d pn hz hf => pss_ex (p := fun x => XOk cl x a cls d) fun x hx => (h x a oe cls d pn hx hz hf).pss) ih
theorem ends_ok {F : Hp} {Dn : Ends} {E : DEnds} (o : Option Nat) (ok : EndsOk X.K cl W F Dn E) : EndsOk X.K cl W0 F (endsAt o Dn) (endsD o E) := by
  have wx : WOk X.K cl W0 F noX := wok0
  cases o with
  | none => exact ⟨ok.nx, ok.rt, ok.bk, ok.ct, wx⟩
  | some i => exact ⟨fun σ H F' ρ M sm g s q => ok.nx _ H F' _ M sm g (s.setN i) q, ok.rt, fun σ H F' ρ M sm g s q => ok.bk _ H F' _ M sm g (s.setN i) q, fun σ H F' ρ M sm g s q => ok.ct _ H F' _ M sm g (s.setN i) q, wx⟩
theorem mix_ok {tb : List ((Nat × Nat) × Bool)} (mt : MtOk X.K cl tb) {Dn : Ends} {E : DEnds} {F : Hp} (ok : EndsOk X.K cl W F Dn E) : ∀ (l : List DClause), WOk X.K cl (wMix X.K W Dn (l.map (clOf X.K cl))) F (fun c ns ds ρ M => ns ≠ [] /\ dHandle tb l E c ns ds ρ M)
  | [] => fun c ns ds σ H F' ρ M dd sm g s ea ⟨_, q⟩ => ok.ex c ns ds σ H F' ρ M dd sm g s ea q
  | q :: r => fun c ns ds σ H F' ρ M dd sm g s ea ⟨hn, b, e1, e2, e3⟩ => by
    refine ⟨b, mt _ _ _ e1, fun hb a ha => ?_, fun hb => mix_ok mt ok r c ns ds σ H F' ρ M dd sm g s ea ⟨hn, e3 hb⟩⟩
    rcases ea with ⟨_, z, _⟩ | ⟨d, vs, rfl, h1, h2, h3⟩
    · exact absurd z hn
    refine ⟨.exc a d c ns ds, ⟨d, c, ns, ds, rfl, rfl, rfl⟩, F', setD q.slot ρ (.exc a d c ns ds), M, endsD q.slot E, g, ?_, e2 hb a d (g.freshM ha), ends_ok q.slot (ok.mono sm)⟩
    cases ho : q.slot with
    | none => exact s
    | some i => exact s.set i (.exc h1 h2 h3)
theorem ds_try {tb : List ((Nat × Nat) × Bool)} {body : List Stmt} {hd0 : ExceptHandler} {hds : List ExceptHandler} {qs : List DClause} {t : DTS} {pos : Pos} {k : Nat} (cp : Cap X W k) (mt : MtOk X.K cl tb) (hst : X.stack = X.env :: X.outer) (hfr : X.env.frame = some X.env.locals)
    (hb : ∀ (W' : WX) (pn : List (Addr × Obj)) (xe : Value -> Shared -> Prop), Cap (X.tr pn xe) W' k -> DSs cl (X.tr pn xe) W' body t) (hk : DMix cl X (hd0 :: hds) qs) : DS cl X W (.Try body (hd0 :: hds) [] [] pos) (dTry tb t qs) :=
  ⟨ps_imp (ps_try_mix (tb := fun W' => lowS X.K cl W' t) hst hfr cp.tk (fun W' pn xe tk po => (hb W' pn xe ⟨tk, cp.hr, po, cp.calm⟩).pss) hk.mix) fun Dn σ H ⟨F, ρ, M, E, g, s, q, ok⟩ =>
    ⟨F, ρ, M, _, g, s, q, ⟨ok.nx, ok.rt, ok.bk, ok.ct, mix_ok mt ok qs⟩⟩⟩
end
end DL
set_option Elab.async false
set_option linter.all false
set_option maxRecDepth 100000
set_option maxHeartbeats 4000000
set_option autoImplicit false
namespace DL
open PySem L2
structure CapS (A : Around) : Prop where
  un : A.units + 200 < cLine
  gd : A.guards = some []
section
variable {X : Cx}
end
def excF (cs : List Nat) (f : Str) : D -> Option D
  | .exc _ _ c ns ds => if c ∈ cs then lookN f ns ds else none
  | _ => none
@[simp] def dXf (cs : List Nat) (f : Str) (x : D) (τ : DTE) : DTE := fun ρ M Q X => τ ρ M (fun d M1 => d = x /\ ∃ v, excF cs f x = some v /\ Q v M1) X
def XfOk (K : PySem.W.Frag) (cl : Nat -> Addr) (cs : List Nat) (f : Str) : Prop := ∀ c ∈ cs, XfC K (cl c) /\ PySem.W.findIn K (.ref (cl c)) f = some none
def xfOkB (K : PySem.W.Frag) (cl : Nat -> Addr) (cs : List Nat) (f : Str) : Bool := cs.all fun c => xfB K (cl c) && He.eqO (PySem.W.findIn K (.ref (cl c)) f) (some none)
theorem xfOkB_ok {K : PySem.W.Frag} {cl : Nat -> Addr} {cs : List Nat} {f : Str} (h : xfOkB K cl cs f = true) : XfOk K cl cs f := fun c hc => by
  obtain ⟨h1, h2⟩ := and2 (List.all_eq_true.mp h c hc)
  exact ⟨xfB_ok h1, He.eqO_ok h2⟩
section
variable {cl : ClW} {X : Cx} {a : Addr} {oe : Obj} {cls : Value} {d : Option Addr} {pn : List (Addr × Obj)} {x : D} {e : Expr} {τ : DTE} {f : Str} {cs : List Nat} {pos : Pos}
theorem d_xf (T : XfOk X.K cl cs f) (hx : XOk cl x a cls d) (hz : Zc cls d oe) (hf : ∃ vs, oe.data = .fields vs) (he : DE cl (X.suite a ((a, oe) :: pn)) W0 e τ) (hb : attributeBase e f X.env (eval e X.env) = eval e X.env := by rfl) :
    DE cl (X.suite a ((a, oe) :: pn)) W0 (.Attribute e f pos) (dXf cs f x τ) := by
  obtain ⟨dd, c, ns, ds, rfl, rfl, rfl⟩ := hx
  by_cases hc : c ∈ cs
  · obtain ⟨t1, t2⟩ := T c hc
    refine ⟨pe_imp (pe_xf t1 t2 hz hf he.pe hb) fun σ H Q ⟨F, ρ, M, Qd, Xd, g, s, q, p, w⟩ => ⟨F, ρ, M, _, Xd, g, s, q, fun v H1 F1 d1 M1 sm g1 r1 ⟨e1, v2, e2, q1⟩ => ?_, w⟩⟩
    subst e1
    cases r1 with
    | @exc _ _ _ _ vs _ h1 h2 h3 =>
      rw [excF, if_pos hc] at e2
      obtain ⟨y, y1, y2⟩ := reps_lookN h3 e2
      exact ⟨rfl, rfl, dd, _, y, rfl, g1.sub _ _ h1, by rw [lookN_zip]; exact y1, p _ _ _ _ _ sm g1 y2 q1⟩
  · refine ⟨⟨fun pins s σ H Q I ⟨F, ρ, M, Qd, Xd, g, sl, q, p, w⟩ => attr_of hb (thn (he.pe.run pins s σ H (fun _ _ => False) I ⟨F, ρ, M, _, Xd, g, sl, q, fun v H1 F1 d1 M1 sm g1 r1 ⟨e1, v2, e2, q1⟩ => ?_, w⟩) fun u s1 ⟨_, _, _, _, h⟩ => h.elim)⟩⟩
    rw [excF, if_neg hc] at e2
    cases e2
end
def oexB (K : PySem.W.Frag) (C : Addr) : Bool := (match K.lookup C with
  | some ⟨.type "type", _, .cls cd, sl⟩ => (match cd.mro, sl.toList with
    | .ref C' :: bm, [_, _, _, _, some (.builtin n), _] => decide (C' = C) && (decide (n = "ValueError.__new__") && (!cd.hasDel && (cd.hasDict && PySem.HandSPX.refsVE bm)))
    | _, _ => false)
  | _ => false) && (He.eqO (PySem.W.findIn K (.ref C) "__setattr__") (some (some (.builtin "object.__setattr__"))) && ((PySem.W.subIn K (.ref C) (.type "BaseException") == some true) && ((PySem.W.typeIn K (.ref C) == some (.type "type")) && PySem.W.keepIn K (.ref C))))
theorem oexB_ok {K : PySem.W.Frag} {C : Addr} (h : oexB K C = true) : OexC K C := by
  obtain ⟨h0, h⟩ := and2 h
  obtain ⟨h1, h⟩ := and2 h
  obtain ⟨h2, h⟩ := and2 h
  obtain ⟨h3, h4⟩ := and2 h
  refine ⟨?_, He.eqO_ok h1, beq_iff_eq.mp h2, beq_iff_eq.mp h3, h4⟩
  split at h0
  · rename_i dd cd sl ho
    split at h0
    · rename_i C' bm k0 k1 k2 k3 n k5 hm hs
      obtain ⟨g1, h0⟩ := and2 h0
      obtain ⟨g2, h0⟩ := and2 h0
      obtain ⟨g3, h0⟩ := and2 h0
      obtain ⟨g4, g5⟩ := and2 h0
      have e1 := of_decide_eq_true g1
      have e2 := of_decide_eq_true g2
      have e3 : cd.hasDel = false := by simpa using g3
      subst e1 e2
      obtain ⟨nm, bs, mro, ns, qn, hd, sn, sb, ab, col, del⟩ := cd
      dsimp only at hm e3 g4
      subst hm e3 g4
      have hsl : sl = #[k0, k1, k2, k3, some (.builtin "ValueError.__new__"), k5] := by
        cases sl
        dsimp only at hs
        rw [hs]
      subst hsl
      exact ⟨nm, qn, ns, bs, bm, sn, sb, ab, col, dd, k0, k1, k2, k3, k5, ho, g5⟩
    · cases h0
  · cases h0
def xnB (K : PySem.W.Frag) (C : Addr) (fI : Addr) (fs : List Str) : Bool := He.eqO (PySem.W.findIn K (.ref C) "__init__") (some (some (.ref fI))) && ((PySem.W.typeIn K (.ref fI) == some (.type "function")) && (fs.all fun f => He.eqO (PySem.W.findIn K (.ref C) f) (some none)))
theorem xnB_ok {K : PySem.W.Frag} {C fI : Addr} {fs : List Str} (h : xnB K C fI fs = true) : PySem.W.findIn K (.ref C) "__init__" = some (some (.ref fI)) /\ PySem.W.typeIn K (.ref fI) = some (.type "function") /\ ∀ f ∈ fs, PySem.W.findIn K (.ref C) f = some none := by
  obtain ⟨h1, h⟩ := and2 h
  obtain ⟨h2, h3⟩ := and2 h
  exact ⟨He.eqO_ok h1, beq_iff_eq.mp h2, fun f hf => He.eqO_ok (List.all_eq_true.mp h3 f hf)⟩
section
variable {K : PySem.W.Frag} {cl : ClW}
def mtB (K : PySem.W.Frag) (cl : Nat -> Addr) (tb : List ((Nat × Nat) × Bool)) : Bool := tb.all fun p => PySem.W.exmOne K (.ref (cl p.1.1)) (.ref (cl p.1.2)) == some p.2
theorem mtB_ok {cl : Nat -> Addr} {tb : List ((Nat × Nat) × Bool)} (h : mtB K cl tb = true) : MtOk K cl tb := by
  intro c k b e
  induction tb with
  | nil => cases e
  | cons p r ih =>
    obtain ⟨⟨c0, k0⟩, b0⟩ := p
    unfold mtB at h
    rw [List.all_cons] at h
    obtain ⟨h1, h2⟩ := and2 h
    by_cases hc : (c, k) = (c0, k0)
    · cases hc
      unfold mtT at e
      rw [List.lookup, beq_self_eq_true] at e
      cases e
      exact beq_iff_eq.mp h1
    · have : ((c, k) == (c0, k0)) = false := beq_false_of_ne hc
      unfold mtT at e ih
      rw [List.lookup, this] at e
      exact ih h2 e
end
end DL
set_option Elab.async false
set_option linter.all false
set_option maxRecDepth 100000
set_option maxHeartbeats 4000000
namespace DL
open PySem L2
def lcR (γ : DTG) (υ : DTT) (τ : DTE) (vs : List Nat) (a : Addr) : List D -> DL.Env -> Mem -> (Mem -> Prop) -> Prop
  | [] => fun _ M R => R M
  | x :: xs => fun ρ M R => γ x (wipeD ρ vs) M (fun ρ2 M2 => υ ρ2 M2 (fun b M3 => if b = true then τ ρ2 M3 (fun d M4 => ∃ acc, M4 a = some (.lst acc) /\ acc.length < sizeLine /\ lcR γ υ τ vs a xs ρ (updM M4 a (.lst (acc ++ [d]))) R) noX else lcR γ υ τ vs a xs ρ M3 R) noX) noX
def dLcM (ι : DTI) (γ : DTG) (υ : DTT) (τ : DTE) (vs : List Nat) : DTE := fun ρ M Q X => ι ρ M (fun xs M1 => ∀ a, M1 a = none -> lcR γ υ τ vs a xs ρ (updM M1 a (.lst [])) (fun M2 => Q (.ref a) M2)) X
section
variable {cl : ClW} {X : Cx} {W : WX} {elt tg iter : Expr} {ifs : List Expr} {scope : Scope} {own : List (Str × Nat)} {pos : Pos} {ι : DTI} {is : List Nat} {γ : DTG} {υ : DTT} {τ : DTE}
theorem lcM_lift {K : PySem.W.Frag} (his : ∀ i ∈ is, i ∈ own.map (·.2)) {σ : St} {H : Hp} {Q : VK} {F : Hp} {ρ : DL.Env} {M : Mem} {Qd : DV} {Xd : DX} (g : Good K cl F H M) (s : Slots K cl F σ ρ) (q : dLcM ι γ υ τ (own.map (·.2)) ρ M Qd Xd) (p : Post K cl F Q Qd) (w : WOk K cl W F Xd) :
    tLc (fun σ H R => ∃ F ρ M Rd Xd, Good K cl F H M /\ Slots K cl F σ ρ /\ ι ρ M Rd Xd /\ (∀ J H' F' xs M', Same F F' -> Good K cl F' H' M' -> Walks K cl J F' xs -> Rd xs M' -> R J H') /\ WOk K cl W F Xd)
      (fun v σ H Q => ∃ F ρ M d Qd Xd, Good K cl F H M /\ Slots K cl F σ ρ /\ Rep K cl F v d /\ γ d ρ M Qd Xd /\ (∀ σ' H' F' ρ' M', Same F F' -> Good K cl F' H' M' -> Slots K cl F' σ' ρ' -> (∀ vs : List Nat, (∀ i ∈ is, i ∈ vs) -> wipe σ' vs = wipe σ vs) -> Qd ρ' M' -> Q σ' H') /\ WOk K cl W0 F Xd)
      (lowT K cl W0 υ) (lowE K cl W0 τ) (own.map (·.2)) σ H Q := by
  refine ⟨F, ρ, M, _, Xd, g, s, q, fun J H1 F1 xs M1 sm1 g1 wk q1 a hD => ?_, w⟩
  refine ⟨fun i m H => m = xs.length - i /\ i <= xs.length /\ ∃ F' M, Same F1 F' /\ Good K cl F' H M /\ lcR γ υ τ (own.map (·.2)) a (xs.drop i) ρ M (fun M2 => Qd (.ref a) M2),
    ⟨xs.length, by simp, Nat.zero_le _, F1, updM M1 a (.lst []), Same.refl F1, g1.newM (d := .lst []) hD ⟨[], upd_same, .nil⟩, by simpa using q1 a (g1.freshM hD)⟩, ?_⟩
  rintro i m H2 ⟨rfl, hi, F2, M2, sm2, g2, q2⟩
  by_cases hlt : i < xs.length
  · obtain ⟨go, yl⟩ := (wk i F2 H2 M2 sm2 g2).1 xs[i] (by simp [hlt])
    rw [List.drop_eq_getElem_cons hlt] at q2
    unfold lcR at q2
    refine .inr ⟨go, fun H' => ∃ F' M', Same F1 F' /\ Good K cl F' H' M' /\ lcR γ υ τ (own.map (·.2)) a (xs.drop (i + 1)) ρ M' (fun M2 => Qd (.ref a) M2), fun H' n => ⟨xs.length - (i + 1), by omega, rfl, hlt, n⟩, fun x H3 y => ?_⟩
    obtain ⟨F3, sm3, g3, r3⟩ := yl x H3 y
    refine ⟨F3, wipeD ρ (own.map (·.2)), M2, xs[i], _, noX, g3, (s.mono ((sm1.trans sm2).trans sm3)).wipe _, r3, q2, fun σ4 H4 F4 ρ4 M4 sm4 g4 s4 w4 q4 => ⟨?_, ?_⟩, wok0⟩
    · rw [w4 _ his]
      exact wipe_idem _ _ _ fun _ h => h
    · refine ⟨F4, ρ4, M4, _, noX, g4, s4, q4, fun k H5 F5 M5 sm5 g5 q5 => ?_, wok0⟩
      cases k with
      | true =>
        rw [if_pos rfl] at q5 ⊢
        refine ⟨F5, ρ4, M5, _, noX, g5, s4.mono sm5, q5, fun y2 H6 F6 d M6 sm6 g6 r6 q6 => ?_, wok0⟩
        obtain ⟨acc, e1, e2, q6⟩ := q6
        obtain ⟨hF, vs, h1, h2⟩ := g6.cell a _ e1
        refine ⟨vs, h1, by rw [h2.length]; exact e2, F6, _, (((sm2.trans sm3).trans sm4).trans sm5).trans sm6, g6.put (d := .lst (acc ++ [d])) e1 ⟨vs ++ [y2], upd_same, h2.append (.one r6)⟩, q6⟩
      | false =>
        rw [if_neg Bool.false_ne_true] at q5 ⊢
        exact ⟨F5, M5, ((sm2.trans sm3).trans sm4).trans sm5, g5, q5⟩
  · have e : i = xs.length := by omega
    subst e
    rw [List.drop_length] at q2
    unfold lcR at q2
    exact .inl ⟨(wk _ F2 H2 M2 sm2 g2).2 (Nat.le_refl _), p _ _ _ _ _ (sm1.trans sm2) g2 (.ref a) q2⟩
theorem d_lcM (hc : X.calm = true) (hN : X.N.Nodup) (hi : DI cl X W tg iter ι) (ok : BlkOk X.N X.env.scope scope own)
    (hg : ∀ (s : Shared) (H : Hp) (C : Addr) (cs : List (Str × Addr)) (fp : List Addr), DG cl (X.blk s H scope (compEnvC scope cs C X.env) fp) W0 tg is γ) (ht : ∀ (s : Shared) (H : Hp) (C : Addr) (cs : List (Str × Addr)) (fp : List Addr), DTs cl (X.blk s H scope (compEnvC scope cs C X.env) fp) W0 ifs υ)
    (he : ∀ (s : Shared) (H : Hp) (C : Addr) (cs : List (Str × Addr)) (fp : List Addr), DE cl (X.blk s H scope (compEnvC scope cs C X.env) fp) W0 elt τ) (his : ∀ i ∈ is, i ∈ own.map (·.2) := by decide) (hs : ∀ x, foldedSetIterable iter X.env x = pure x := by intro _; rfl) :
    DE cl X W (.ListComp elt [⟨tg, iter, ifs, 0⟩] scope pos) (dLcM ι γ υ τ (own.map (·.2))) :=
  ⟨pe_imp (pe_lc hc hN hi.pi ok (fun s H C cs fp => (hg s H C cs fp).pg) (fun s H C cs fp => (ht s H C cs fp).pts) (fun s H C cs fp => (he s H C cs fp).pe) hs) fun σ H Q ⟨F, ρ, M, Qd, Xd, g, s, q, p, w⟩ => lcM_lift his g s q p w⟩
end
def dGhost (i : Nat) (t : DTS) : DTS := fun E ρ M => ∃ p d, ρ[i]? = some (some (.ref p)) /\ M p = some d /\ t E (ρ.set i (some d)) (delM M p)
section
variable {cl : ClW} {X : Cx} {W : WX} {st : Stmt} {t : DTS}
theorem slot_keep {K : PySem.W.Frag} {F : Hp} {σ : St} {ρ : DL.Env} {i : Nat} {d : D} {v : V} (s : Slots K cl F σ ρ) (h : σ[i]? = some (some v)) (r : Rep K cl F v d) : Slots K cl F σ (ρ.set i (some d)) := ⟨by rw [List.length_set]; exact s.len, fun j e q => by
  by_cases z : i = j
  · subst z
    have hi : i < ρ.length := by rw [<- s.len]; exact (List.getElem?_eq_some_iff.mp h).1
    rw [List.getElem?_set_self hi] at q
    cases q
    exact ⟨v, h, r⟩
  · rw [List.getElem?_set_ne z] at q
    exact s.get j e q⟩
theorem ds_ghost (i : Nat) (h : DS cl X W st t) : DS cl X W st (dGhost i t) := ⟨ps_imp h.ps fun Dn σ H ⟨F, ρ, M, E, g, s, ⟨p, d, e1, e2, q⟩, ok⟩ => by
  obtain ⟨F', sm, g', r⟩ := g.freeze e2
  obtain ⟨v, h1, h2⟩ := s.get i _ e1
  have hv := h2.toRef
  subst hv
  exact ⟨F', ρ.set i (some d), delM M p, E, g', slot_keep (s.mono sm) h1 r, q, ok.mono sm⟩⟩
end
end DL
set_option Elab.async false
set_option linter.all false
set_option maxRecDepth 100000
set_option maxHeartbeats 4000000
set_option autoImplicit false
namespace DL
open PySem L2
theorem meets_enum1 {v : Value} {o : Obj} {H : Heap -> Prop} (B : Begins v o H) :
    Meets (Builtin.«enumerate.__new__» ⟨[.type "enumerate", v], []⟩) (fun _ R s => H s.heap /\
      R (.ok (.ret (.ref (s.heap.push o).objs.size))) { s with heap := (s.heap.push o).push { cls := .type "enumerate", data := .fields #[.none, .bool false, .ref s.heap.objs.size, rawInt 0, .none, .none] } }) :=
  .of_wp fun prog w A R s ⟨h1, h⟩ => by
    obtain ⟨hp, g, d, tk, os⟩ := s
    have sb := sub_enumerate
    have q1 : ∀ {A' : Around} {E : Value -> Shared -> Prop} {Q : Value -> Shared -> Prop}, Q (.ref hp.objs.size) ⟨hp.push o, g, d, tk, os⟩ -> wpAny (model prog w) A' (pyIter v) Q E ⟨hp, g, d, tk, os⟩ :=
      fun q => B.iter prog w _ _ ⟨hp, g, d, tk, os⟩ _ h1 q
    wp_walk using q1
    refine wpAny_stack_any fun st => wpAny_pure ?_
    split
    · rename_i c _ _ _ _ _
      cases (c == Value.type "enumerate")
      · wp_walk using q1
        exact ⟨_, rfl, h⟩
      · wp_walk using q1
        exact ⟨_, rfl, h⟩
    · wp_walk using q1
      exact ⟨_, rfl, h⟩
section
variable {prog : Program} {w : World} {A : Around} {E : Value -> Shared -> Prop} {s : Shared}
theorem call_enum1 {v : Value} {o : Obj} {H : Heap -> Prop} {Q : Value -> Shared -> Prop} (B : Begins v o H) (h1 : H s.heap)
    (h : ∀ h', IsEnum h' (s.heap.objs.size + 1) s.heap.objs.size 0 .none -> h'.get? s.heap.objs.size = some o -> (∀ b o, s.heap.get? b = some o -> h'.get? b = some o) -> Q (.ref (s.heap.objs.size + 1)) { s with heap := h' }) :
    wpAny (model prog w) A (call (.type "enumerate") [v]) Q E s := by
  refine callType_new F.called_enumerate (by decide) (F.typeCall_enumerate_1 _) (F.newCall_enumerate_1 _) (fun obj => F.args_object_init_2 obj _) F.entry_enumerate_new (meets_enum1 B) ⟨h1, ?_⟩
  have hz : (s.heap.push o).objs.size = s.heap.objs.size + 1 := Heap.size_push ..
  show _ /\ _
  rw [hz]
  have at1 := Heap.get?_push_size (s.heap.push o) (o := { cls := .type "enumerate", data := .fields #[.none, .bool false, .ref s.heap.objs.size, rawInt 0, .none, .none] }) rfl
  rw [hz] at at1
  exact ⟨⟨_, at1, rfl⟩, h _ at1 (Heap.get?_push_of_some _ (Heap.get?_push_size _ B.free)) fun b o x => Heap.get?_push_of_some _ (Heap.get?_push_of_some _ x)⟩
end
def IteT (K : PySem.W.Frag) (a : Addr) : It :=
  ⟨fun i H => ∃ (xs : List V) (x : V), SqT K H a xs /\ xs[i]? = some x, fun i H v H' => ∃ T x, v = .ref T /\ H T = none /\ H' = upd H T (.tup [.int (i : Nat), x]) /\ ∀ xs, SqT K H a xs -> xs[i]? = some x, fun i H => ∃ xs : List V, SqT K H a xs /\ xs.length <= i⟩
theorem turn_enumT {P : Program} {w : World} {K : PySem.W.Frag} {elts : List Expr} {kk : Nat} {tpos : Pos} (a e it : Addr) :
    Turn P w K (.Tuple elts kk tpos) (IteT K a) [e, it] e (fun i h => (∃ old, IsEnum h e it ((i : Nat) : Int) old) /\ h.IsTupleIter it a i /\ e ≠ it) where
  mem := by simp
  obj := fun i h ⟨⟨old, he⟩, ⟨o, ho, hc, hd⟩, _⟩ b hb => by
    rcases List.mem_cons.mp hb with rfl | hb
    · exact ⟨_, he, fun v q => nomatch q⟩
    · rw [List.mem_singleton.mp hb]
      exact ⟨o, ho, fun v q => by rw [hd] at q; cases q⟩
  keep := fun i h h' ⟨⟨old, he⟩, hi, hne⟩ k => ⟨⟨old, k e (by simp) _ he⟩, hi.at fun o q => k it (by simp) o q, hne⟩
  item := by
    intro X hP hw hK hc i pins s σ H E I hf ⟨⟨old, he⟩, hit, hne⟩ ⟨xs, x, hq, hx⟩
    subst hP hw hK
    obtain ⟨its, rv, p, hz⟩ := I.tuple hq
    obtain ⟨u, hu, ru⟩ := rv.get hx
    have hel : e < s.heap.objs.size := Heap.lt_size he
    have hil : it < s.heap.objs.size := by obtain ⟨_, q, _⟩ := hit; exact Heap.lt_size q
    have nai : a ≠ it := fun z => by
      obtain ⟨o1, e1, c1, _⟩ := p
      obtain ⟨o2, e2, c2, _⟩ := hit
      rw [z, e2] at e1
      cases e1
      rw [c2] at c1
      exact absurd c1 (by simp)
    have nae : e ∉ [it, a] := fun hm => by
      rcases List.mem_cons.mp hm with z | hm
      · exact hne z
      · have z := List.mem_singleton.mp hm
        obtain ⟨o1, e1, c1, _⟩ := p
        rw [<- z, he] at e1
        cases e1
        exact absurd c1 (by simp)
    have hlt : i < its.toArray.size := by simpa using (List.getElem?_eq_some_iff.mp hu).1
    have hh : X.A.in1.handled = none := I.ok.hd hc
    refine wpAny_pyNext_enum_itemD (Draws.tuple hh it a nai its.toArray) he ⟨hit, p⟩ hlt hne nae fun y h' tk hy ho hst hT hsz hk => ?_
    have hyu : y = u := by
      have : its.toArray[i]? = some u := by simpa using hu
      rw [this] at hy
      exact (Option.some.inj hy).symm
    subst hyu
    refine ⟨_, rfl, wpAny_letOwnedTupleGo_enum (s := { s with heap := h', toks := tk + 1 }) ho fun h'' he' sb => ?_⟩
    have hT2 : h''.get? s.heap.objs.size = some { cls := .type "tuple", data := .seq #[.int i tk, y] } := (sb.2 _ (Nat.ne_of_gt hel)).trans hT
    have new : ObjOk X.prog X.w (upd H s.heap.objs.size (.tup [.int (i : Nat), x])) h'' s.heap.objs.size (.tup [.int (i : Nat), x]) :=
      ⟨by show 2 <= sizeLine; decide, [.int i tk, y], .cons ⟨_, rfl⟩ (.cons ru .nil), ⟨_, hT2, rfl, _, rfl⟩⟩
    have I1 : Inv X pins σ (upd H s.heap.objs.size (.tup [.int (i : Nat), x])) { s with heap := h'', toks := tk + 1 } :=
      I.turnedNew (ch := [e, it]) (fun b ob hb q => (sb.2 b (fun z => hb (by simp [z]))).trans (hk b ob (fun z => hb (by simp [z])) (fun z => hb (by simp [z])) q)) hf (Nat.le_refl _) new
    refine ⟨.ref s.heap.objs.size, _, I1, rfl, ⟨_, x, rfl, I.hok.fresh (Nat.le_refl _), rfl, fun ys hy => by rw [I.tuple_inj hy hq]; exact hx⟩, ⟨⟨y, ?_⟩, hst.1.at fun o q => (sb.2 it (Ne.symm hne)).trans q, hne⟩, fun b hb => ?_⟩
    · rw [show ((i + 1 : Nat) : Int) = (i : Int) + 1 by omega]
      exact he'
    · have hlt2 : b < s.heap.objs.size := by
        rcases List.mem_cons.mp hb with rfl | hb
        · exact hel
        · rw [List.mem_singleton.mp hb]; exact hil
      rw [upd_ne (Nat.ne_of_lt hlt2)]
      exact (hf b hb).1
  done := by
    intro X hP hw hK hc i pins s σ H E I hf ⟨⟨old, he⟩, hit, hne⟩ ⟨xs, hq, hx⟩
    subst hP hw hK
    obtain ⟨its, rv, p, hz⟩ := I.tuple hq
    have hl : xs.length = its.length := Paired.length rv
    have hh : X.A.in1.handled = none := I.ok.hd hc
    have D0 : Draws X.prog X.w X.A.in1 it [it, a] i (fun _ _ => True) (fun j h => j = i /\ h.IsTupleIter it a j /\ h.IsTuple a its.toArray) := {
      live := fun _ _ ⟨_, st, _⟩ => let ⟨o, ho, _⟩ := st; ⟨o, ho⟩
      frame := fun _ _ _ ⟨e, s1, s2⟩ hk => ⟨e, s1.at fun o e => hk it (by simp) o e, s2.at fun o e => hk a (by simp) o e⟩
      item := fun j s Q E hj ⟨e, _⟩ _ => absurd e (by omega)
      done := fun s Q E ⟨_, s1, s2⟩ hE => wpAny_nextOf_tuple_end hh s1 s2 (by simp; omega) hE }
    obtain ⟨f0, f1, f2, f3, f4, f5⟩ := hf it (by simp)
    exact wpAny_pyNext_enum_endD D0 he ⟨rfl, hit, p⟩ fun h' eb => ⟨rfl, I.turned (t' := s.toks) (fun b o hb q => eb b o hb q) f0 f1 f3 f4 f5⟩
  self := fun A i s Q E ⟨⟨_, he⟩, _⟩ h => wpAny_pyIter_enum he h
def iEnumT (K : PySem.W.Frag) (ta : TA) : TI := fun σ H R => ta σ H fun vs H1 => (∃ a xs, vs = [.ref a] /\ SqL K H1 a xs /\ R (Ite K a) H1) \/ ∃ a xs, vs = [.ref a] /\ SqT K H1 a xs /\ R (IteT K a) H1
theorem pi_enumT {X : Cx} {e : Expr} {ta : TA} {p pos tpos : Pos} {elts : List Expr} {kk : Nat} (hg : Gl X "enumerate") (hm : X.mg "enumerate" = none) (ha : PA X [e] ta) (hs : starEach [e] X.env = [(false, eval e X.env)] := by rfl) :
    PI X (.Tuple elts kk tpos) (.Call (.Name "enumerate" p) [e] [] pos) (iEnumT X.K ta) := by
  refine ⟨fun pins s σ H R I h => PyProof.Rows.Call_ (ld_blt I hg hm PyProof.Rows.boot_enumerate (PyProof.Rows.callWith_type1 (thn (ha.run pos pins s σ H _ I h) fun us s1 ⟨vs, H1, I1, r1, q1⟩ => ?_) hs rfl))⟩
  have fps : ∀ b ∈ [s1.heap.objs.size + 1, s1.heap.objs.size], FpOk X pins H1 b := fun b hb => by
    have hle : s1.heap.objs.size <= b := by
      rcases List.mem_cons.mp hb with z | hb
      · rw [z]; exact Nat.le_add_right _ _
      · rw [List.mem_singleton.mp hb]; exact Nat.le_refl _
    exact I1.fpOk hle (I1.hok.fresh hle)
  rcases q1 with ⟨a, xs, rfl, hq, q⟩ | ⟨a, xs, rfl, hq, q⟩
  · obtain ⟨u, rfl, ru⟩ := vals1 r1
    obtain rfl : u = Value.ref a := ru
    obtain ⟨its, rv, pl, hz⟩ := I1.list hq
    exact call_enumerate_list pl.isList fun h' e1 e2 hsz hk => wpAny_pyIter_enum e1 ⟨s1.heap.objs.size + 1, [s1.heap.objs.size + 1, s1.heap.objs.size], _, _, H1, rfl, I1.kept (t' := s1.toks) hk, turn_enum a _ _, ⟨⟨.none, e1⟩, e2, Nat.succ_ne_self _⟩, fps, q⟩
  · obtain ⟨u, rfl, ru⟩ := vals1 r1
    obtain rfl : u = Value.ref a := ru
    obtain ⟨its, rv, pl, hz⟩ := I1.tuple hq
    exact call_enum1 (begins_tuple a its.toArray) pl fun h' e1 e2 hk => wpAny_pyIter_enum e1 ⟨s1.heap.objs.size + 1, [s1.heap.objs.size + 1, s1.heap.objs.size], _, _, H1, rfl, I1.kept (t' := s1.toks) hk, turn_enumT a _ _, ⟨⟨.none, e1⟩, ⟨_, e2, rfl, rfl⟩, Nat.succ_ne_self _⟩, fps, q⟩
@[simp] def enD : D -> Option (List D)
  | .lst xs => some xs
  | .tup xs => some xs
  | _ => none
@[simp] def iEnT (τ : DTE) : DTI := fun ρ M R X => τ ρ M (fun d M1 => ∃ xs, enD d = some xs /\ R (xs.zipIdx.map fun p => D.tup [.int (p.2 : Nat), p.1]) M1) X
section
variable {cl : ClW} {X : Cx} {W : WX} {a : Expr} {pos : Pos} {τa : DTE}
theorem di_enumT {elts : List Expr} {kk : Nat} {tpos p : Pos} (hg : Gl X "enumerate") (hm : X.mg "enumerate" = none) (ha : DE cl X W a τa) (hs : starEach [a] X.env = [(false, eval a X.env)] := by rfl) :
    DI cl X W (.Tuple elts kk tpos) (.Call (.Name "enumerate" p) [a] [] pos) (iEnT τa) :=
  ⟨pi_imp (pi_enumT hg hm (da_cons (W := W) (cl := cl) ha da_nil hs).pa hs) fun σ H R ⟨F, ρ, M, Rd, Xd, g, s, q, p, w⟩ =>
    ⟨F, ρ, M, fun ds M1 => ∃ d xs, ds = [d] /\ enD d = some xs /\ Rd (xs.zipIdx.map fun p => D.tup [.int (p.2 : Nat), p.1]) M1, Xd, g, s, (by
      unfold iEnT at q
      unfold dCons dNil
      have same : (fun d M1 => ∃ xs, enD d = some xs /\ Rd (xs.zipIdx.map fun p => D.tup [.int (p.2 : Nat), p.1]) M1) = (fun d M1 => ∃ d' xs, [d] = [d'] /\ enD d' = some xs /\ Rd (xs.zipIdx.map fun p => D.tup [.int (p.2 : Nat), p.1]) M1) := by
        funext d M1
        simp
      rw [same] at q
      exact q), fun vs H' F' ds M' sm g' r ⟨d, xs, e1, e2, q'⟩ => (by
      subst e1
      obtain ⟨v, ws, rfl, r1, r2⟩ := r.inv
      obtain rfl := r2.inv0
      have item : ∀ (us : List V), Reps X.K cl F' us xs -> ∀ (i : Nat) (F2 H2 : Hp) (M2 : Mem), Same F' F2 -> Good X.K cl F2 H2 M2 -> ∀ d0, (xs.zipIdx.map fun p => D.tup [.int (p.2 : Nat), p.1])[i]? = some d0 ->
          ∃ v0, us[i]? = some v0 /\ ∀ (T : Addr) (x0 : V) (H3 : Hp), H2 T = none -> H3 = upd H2 T (.tup [.int (i : Nat), x0]) -> x0 = v0 -> ∃ F3, Same F2 F3 /\ Good X.K cl F3 H3 M2 /\ Rep X.K cl F3 (.ref T) d0 := fun us hu i F2 H2 M2 sm2 g2 d0 hd => by
        rw [List.getElem?_map, List.getElem?_zipIdx] at hd
        cases e3 : xs[i]? with
        | none => rw [e3] at hd; cases hd
        | some d1 =>
          rw [e3] at hd
          cases hd
          obtain ⟨v0, h3, h4⟩ := hu.get e3
          refine ⟨v0, h3, fun T x0 H3 hT eH ex => ?_⟩
          subst eH ex
          have sm3 : Same F2 (upd F2 T (.tup [.int (i : Nat), x0])) := same_new (g2.freshF hT)
          refine ⟨_, sm3, g2.new hT, .tup (SqT1.of upd_same) (.cons ?_ (.one (h4.mono (sm2.trans sm3))))⟩
          simpa using Rep.int (i : Int)
      cases d with
      | lst ys =>
        have ey : ys = xs := by simpa using e2
        subst ey
        obtain ⟨a, us, rfl, h1, h2⟩ := r1.toLst
        refine .inl ⟨a, us, rfl, same_l g'.sub h1, p _ _ F' _ M' sm g' (fun i F2 H2 M2 sm2 g2 => ⟨fun d0 hd => ?_, fun hl => ⟨us, same_l (sm2.trans g2.sub) h1, by rw [h2.length]; simpa using hl⟩⟩) q'⟩
        obtain ⟨v0, h3, h4⟩ := item us h2 i F2 H2 M2 sm2 g2 d0 hd
        refine ⟨⟨us, v0, same_l (sm2.trans g2.sub) h1, h3⟩, fun x H3 ⟨T, x0, ex, hT, eH, hy⟩ => ?_⟩
        subst ex
        have h5 := hy us (same_l (sm2.trans g2.sub) h1)
        rw [h3] at h5
        exact h4 T x0 H3 hT eH (Option.some.inj h5).symm
      | tup ys =>
        have ey : ys = xs := by simpa using e2
        subst ey
        obtain ⟨a, us, rfl, h1, h2⟩ := r1.toTup
        refine .inr ⟨a, us, rfl, same_t g'.sub h1, p _ _ F' _ M' sm g' (fun i F2 H2 M2 sm2 g2 => ⟨fun d0 hd => ?_, fun hl => ⟨us, same_t (sm2.trans g2.sub) h1, by rw [h2.length]; simpa using hl⟩⟩) q'⟩
        obtain ⟨v0, h3, h4⟩ := item us h2 i F2 H2 M2 sm2 g2 d0 hd
        refine ⟨⟨us, v0, same_t (sm2.trans g2.sub) h1, h3⟩, fun x H3 ⟨T, x0, ex, hT, eH, hy⟩ => ?_⟩
        subst ex
        have h5 := hy us (same_t (sm2.trans g2.sub) h1)
        rw [h3] at h5
        exact h4 T x0 H3 hT eH (Option.some.inj h5).symm
      | _ => cases e2), w⟩⟩
end
end DL
set_option Elab.async false
set_option linter.all false
set_option maxRecDepth 100000
set_option maxHeartbeats 4000000
set_option autoImplicit false
namespace DL
open PySem L2
section
variable {P : Program} {w : World} {A : Around} {E : Value -> Shared -> Prop} {s : Shared} {K : PySem.W.Frag} {x C : Addr} {ox od : Obj}
end
section
variable {cl : ClW} {X : Cx} {a : Addr} {oe : Obj} {cls : Value} {d : Option Addr} {pn : List (Addr × Obj)} {x : D} {tb : List ((Nat × Nat) × Bool)}
end
end DL
set_option Elab.async false
set_option linter.all false
set_option maxRecDepth 100000
set_option maxHeartbeats 4000000
set_option autoImplicit false
namespace DL
open PySem L2
@[simp] def kLen : D -> Option D
  | .int i => if 0 <= i /\ i < 2 ^ 62 then some (.int i) else none
  | _ => none
def dLenO (tb : List (Nat × SpD)) (τ : DTE) : DTE := fun ρ M Q X => τ ρ M (fun o M1 => (∃ z, lenF [vw M1 o] = some z /\ Q z M1) \/ ∃ c ns ds spd, vw M1 o = .obj c ns ds /\ tb.lookup c = some spd /\ spd [o] M1 (fun r M' => ∃ z, kLen r = some z /\ Q z M') (fun c' ns es M' => X c' ns es ρ M')) X
section
variable {cl : ClW} {X : Cx} {W : WX} {k : Nat} {tb : List (Nat × SpD)} {e : Expr} {τ : DTE} {p pos : Pos}
theorem d_lenO (cp : Cap X W (k + 1)) (hm : ∀ c spd, tb.lookup c = some spd -> MethB cl X.prog X.w X.K X.mg X.base k c "__len__" spd) (hg : Gl X "len") (hmg : X.mg "len" = none) (he : DE cl X W e τ)
    (hs : starEach [e] X.env = (false, eval e X.env) :: starEach [] X.env := by rfl) : DE cl X W (.Call (.Name "len" p) [e] [] pos) (dLenO tb τ) := ⟨⟨fun pins s σ H Q I h => by
  obtain ⟨F, ρ, M, Qd, Xd, g, sl, q, p, w⟩ := h
  refine wpAny_Call_Name_kw (ld_blt I hg hmg PySem.boot_len ?_ (by decide) (by decide))
  have arg : DA cl X W [e] (dCons τ dNil) := da_cons he da_nil hs
  refine PyProof.Rows.callWith_builtin1 (thn (arg.pa.run pos pins s σ H (fun vs H1 => ∃ F' M' v o, vs = [v] /\ Same F F' /\ Good X.K cl F' H1 M' /\ Rep X.K cl F' v o /\ ((∃ z, lenF [vw M' o] = some z /\ Qd z M') \/ ∃ c ns ds spd, vw M' o = .obj c ns ds /\ tb.lookup c = some spd /\ spd [o] M' (fun r M' => ∃ z, kLen r = some z /\ Qd z M') (fun c' ns es M' => Xd c' ns es ρ M'))) I
    ⟨F, ρ, M, fun ds M1 => ∃ o, ds = [o] /\ ((∃ z, lenF [vw M1 o] = some z /\ Qd z M1) \/ ∃ c ns ds spd, vw M1 o = .obj c ns ds /\ tb.lookup c = some spd /\ spd [o] M1 (fun r M' => ∃ z, kLen r = some z /\ Qd z M') (fun c' ns es M' => Xd c' ns es ρ M')), Xd, g, sl, ?_, fun vs H' F' ds M' sm g' r ⟨o, eo, qo⟩ => ?_, w⟩) fun us s1 ⟨vs, H1, I1, r1, F1, M1, v, o, ev, sm, g1, ro, qo⟩ => ?_) hs rfl
  · have same : (fun (o : D) (M1 : Mem) => (∃ z, lenF [vw M1 o] = some z /\ Qd z M1) \/ ∃ c ns ds spd, vw M1 o = .obj c ns ds /\ tb.lookup c = some spd /\ spd [o] M1 (fun r M' => ∃ z, kLen r = some z /\ Qd z M') (fun c' ns es M' => Xd c' ns es ρ M')) =
        (fun d M1 => ∃ o, [d] = [o] /\ ((∃ z, lenF [vw M1 o] = some z /\ Qd z M1) \/ ∃ c ns ds spd, vw M1 o = .obj c ns ds /\ tb.lookup c = some spd /\ spd [o] M1 (fun r M' => ∃ z, kLen r = some z /\ Qd z M') (fun c' ns es M' => Xd c' ns es ρ M'))) := by
      funext d M1
      simp
    unfold dLenO at q
    unfold dCons dNil
    rw [same] at q
    exact q
  · subst eo
    obtain ⟨v, ws, rfl, ra, rb⟩ := r.inv
    obtain rfl := rb.inv0
    exact ⟨F', M', v, o, rfl, sm, g', ra, qo⟩
  · subst ev
    rcases qo with ⟨z, e1, q1⟩ | ⟨c, ns, ds, spd, e1, e2, q1⟩
    · exact call_len pins s1 σ H1 [v] us Q I1 r1 (lc_len F1 H1 M1 [v] [o] z Q Qd g1 (.one ro) e1 (p.mono sm) q1)
    · obtain ⟨hc, f, fd, ps, mt, hb, G⟩ := hm c spd e2
      obtain ⟨a, dx, fs, rfl, ha⟩ := obj_at g1 ro e1
      obtain ⟨u, rfl, ru⟩ := vals1 r1
      obtain rfl : u = Value.ref a := ru
      obtain ⟨od, J⟩ := inst_at I1 ha
      obtain ⟨m, hF⟩ := I1.fr
      have pk : Post X.K cl F1 (fun v H' => ∃ i : Int, v = .int i /\ (0 <= i /\ i < 2 ^ 62) /\ Q (.int i) H') (fun r M' => ∃ z, kLen r = some z /\ Qd z M') := fun v H' F' d M' sm' g' r ⟨z, e, q⟩ => by
        obtain ⟨i, rfl, hi, rfl⟩ : ∃ i, d = .int i /\ (0 <= i /\ i < 2 ^ 62) /\ z = .int i := by
          cases d with
          | int i =>
            by_cases hi : 0 <= i /\ i < 2 ^ 62
            · simp only [kLen] at e
              rw [if_pos hi] at e
              exact ⟨i, rfl, hi, (Option.some.inj e).symm⟩
            · simp only [kLen] at e
              rw [if_neg hi] at e
              cases e
          | _ => simp [kLen] at e
        cases r
        exact ⟨i, rfl, hi, p _ _ _ _ _ (sm.trans sm') g' (.int i) q⟩
      refine PySem.W.len_K hF I1.ok.mod.kin J mt.at_ mt.fn (wpAny_mono (run_gA (us := [.ref a]) (vs := [.ref a]) cp.tk cp.hr.in1 rfl G hb I1 (.cons rfl .nil) (low_call g1 (sl.mono sm) (.one ro) q1 pk (w.mono sm))) (fun r s' ⟨z, H', I', rz, i, ez, hi, qz⟩ => ?_) fun _ _ h => h)
      subst ez
      obtain ⟨t, rfl⟩ := rz
      exact ⟨⟨hi.1, by omega⟩, .int i, H', I'.tok _, ⟨_, rfl⟩, qz⟩⟩⟩
end
end DL
set_option Elab.async false
set_option linter.all false
set_option maxRecDepth 100000
set_option maxHeartbeats 1000000
set_option autoImplicit false
namespace FL
open PySem L2 DL
def Rn (M : Mem) (r : Addr) : Prop := ∃ a b c : Int, M r = some (.lst [.int a, .int b, .int c]) /\ 0 <= a /\ 0 <= b /\ b < 2147483629 /\ 0 <= c
structure RTo (M M' : Mem) (r : Addr) : Prop where
  ok : Rn M' r
  keep : ∀ b d, b ≠ r -> M b = some d -> M' b = some d
theorem Rn.keep {M M' : Mem} {r : Addr} (h : Rn M r) (k : Keep M M') : Rn M' r := by
  obtain ⟨a, b, c, h1, h2⟩ := h
  exact ⟨a, b, c, k _ _ h1, h2⟩
theorem Rn.ne {M : Mem} {r a : Addr} (h : Rn M r) (e : M a = none) : r ≠ a := fun z => by
  obtain ⟨x, y, w, h1, _⟩ := h
  rw [z, e] at h1; cases h1
theorem RTo.refl {M : Mem} {r : Addr} (h : Rn M r) : RTo M M r := ⟨h, fun _ _ _ q => q⟩
theorem RTo.trans {M M1 M2 : Mem} {r : Addr} (h : RTo M M1 r) (k : RTo M1 M2 r) : RTo M M2 r := ⟨k.ok, fun b d hb q => k.keep b d hb (h.keep b d hb q)⟩
theorem RTo.and {M M1 M2 : Mem} {r : Addr} (h : RTo M M1 r) (k : Keep M1 M2) : RTo M M2 r := ⟨h.ok.keep k, fun b d hb q => k b d (h.keep b d hb q)⟩
theorem RTo.keep1 {M M1 : Mem} {r a : Addr} {d : D} (h : RTo M M1 r) (e : M a = some d) (hne : a ≠ r) : M1 a = some d := h.keep a d hne e
theorem RTo.put {M : Mem} {r : Addr} {a b c : Int} (ha : 0 <= a) (hb : 0 <= b) (hb2 : b < 2147483629) (hc : 0 <= c) : RTo M (updM M r (.lst [.int a, .int b, .int c])) r :=
  ⟨⟨a, b, c, updM_same, ha, hb, hb2, hc⟩, fun x d hx q => by rw [updM_ne hx]; exact q⟩
theorem RTo.upd {M M1 : Mem} {r a : Addr} {d : D} (h : RTo M M1 r) (e : M a = none) (hne : a ≠ r) : RTo M (updM M1 a d) r := by
  refine ⟨?_, fun b c hb q => ?_⟩
  · obtain ⟨x, y, z, h1, h2⟩ := h.ok
    exact ⟨x, y, z, by rw [updM_ne (Ne.symm hne)]; exact h1, h2⟩
  · have : b ≠ a := fun w => by rw [w, e] at q; cases q
    rw [updM_ne this]; exact h.keep b c hb q
theorem RTo.del {M M1 : Mem} {r a : Addr} (h : RTo M M1 r) (e : M a = none) (hne : a ≠ r) : RTo M (delM M1 a) r := by
  refine ⟨?_, fun b c hb q => ?_⟩
  · obtain ⟨x, y, z, h1, h2⟩ := h.ok
    exact ⟨x, y, z, by rw [delM_ne (Ne.symm hne)]; exact h1, h2⟩
  · have : b ≠ a := fun w => by rw [w, e] at q; cases q
    rw [delM_ne this]; exact h.keep b c hb q
theorem cells_int (ns : List Int) (k : Nat) : ∀ x : D, x ∈ cutD (ns.map D.int ++ [D.int 0]) none (some (k : Int)) -> ∃ i : Int, x = D.int i := by
  intro x hx
  rw [cutD_to] at hx
  have := List.mem_of_mem_take hx
  simp at this
  rcases this with ⟨a, _, rfl⟩ | rfl
  · exact ⟨a, rfl⟩
  · exact ⟨0, rfl⟩
theorem cells_add (ns : List Int) (h : ns.length <= 63) : addD (.lst (ns.map D.int)) (.lst [.int 0]) = some (.lst (ns.map D.int ++ [.int 0])) := addD_lst (by simp; omega)
end FL
set_option Elab.async false
set_option linter.all false
set_option maxRecDepth 100000
set_option maxHeartbeats 1000000
set_option autoImplicit false
namespace FL
open PySem L2 DL
def clash (rs os : List Row) : Option (List Nat) := ((os.map Row.nm).filter fun x => decide (x ∈ rs.map Row.nm)).head?
def sumD (rs os : List Row) : D := match clash rs os with
  | some x => .tup [.str "twice", strD x]
  | none => if 60 < rs.length + os.length then .tup [.str "forest", .tup [.int (-1), .str "rows"]] else .tup [.str "rows", .tup ((rs ++ os).map Row.d)]
theorem sumD_tup (rs os : List Row) : ∃ xs, sumD rs os = .tup xs := by
  unfold sumD
  split
  · exact ⟨_, rfl⟩
  · split
    · exact ⟨_, rfl⟩
    · exact ⟨_, rfl⟩
@[simp] theorem vw_sumD {M : Mem} {rs os : List Row} : vw M (sumD rs os) = sumD rs os := by
  obtain ⟨xs, e⟩ := sumD_tup rs os
  rw [e]; rfl
theorem exc_fld {cs : List Nat} {f : Str} {a dd : Addr} {c : Nat} {ns : List Str} {ds : List D} {v : D} (h : c ∈ cs) (hv : lookN f ns ds = some v) : excF cs f (.exc a dd c ns ds) = some v := by simp [excF, h, hv]
def unS : D -> List Nat
  | .str z => z.cps.toList
  | _ => []
@[simp] theorem unS_strD (x : List Nat) : unS (strD x) = x := by simp [unS, strD, S]
end FL
set_option Elab.async false
set_option linter.all false
set_option maxRecDepth 100000
set_option maxHeartbeats 4000000
set_option autoImplicit false
namespace DL
open PySem L2
section
variable {K : PySem.W.Frag} {cl : ClW} {F H : Hp} {X : Cx}
def φIns : D -> List D -> Mem -> DV -> Prop := fun o ds M Q => ∃ a xs i y, o = .ref a /\ ds = [.int i, y] /\ M a = some (.lst xs) /\ xs.length < sizeLine /\ 0 <= i /\ i < 2 ^ 63 /\ Q .non (updM M a (.lst (xs.take i.toNat ++ [y] ++ xs.drop i.toNat)))
theorem lm_ins : LMt K cl (fun x vs H Q => ∃ (l : Addr) (xs : List V) (i : Int) (y : V), x = .ref l /\ vs = [.int i, y] /\ H l = some (.lst xs) /\ xs.length < sizeLine /\ 0 <= i /\ i < 2 ^ 63 /\ Q .non (upd H l (.lst (xs.take i.toNat ++ [y] ++ xs.drop i.toNat)))) φIns := by
  intro F H M x xs d ds Q Qd g rx rs h p
  obtain ⟨a, ys, i, y, rfl, rfl, h1, h2, i0, i1, q⟩ := h
  obtain rfl := rx.toRef
  obtain ⟨u, ws, rfl, r1, r2⟩ := rs.inv
  obtain ⟨v, ws, rfl, r3, r4⟩ := r2.inv
  obtain rfl := r4.inv0
  obtain rfl := r1.toInt
  obtain ⟨hF, vs, h3, h4⟩ := g.cell a _ h1
  exact ⟨a, vs, i, v, rfl, rfl, h3, by rw [h4.length]; exact h2, i0, i1, p _ _ F _ _ (Same.refl F) (g.put (d := .lst (ys.take i.toNat ++ [y] ++ ys.drop i.toNat)) h1 ⟨_, upd_same, ((h4.take _).append (.one r3)).append (h4.drop _)⟩) .non q⟩
end
@[simp] def dListRg (τ : DTE) : DTE := fun ρ M Q X => τ ρ M (fun d M1 => ∃ n : Int, d = .int n /\ 0 <= n /\ n <= 16777216 /\ Q (.lst ((List.range n.toNat).map fun (i : Nat) => D.int (i : Int))) M1) X
section
variable {cl : ClW} {X : Cx} {W : WX} {a : Expr} {τ : DTE} {p1 p2 p3 p4 : Pos}
end
end DL
set_option Elab.async false
set_option linter.all false
set_option maxRecDepth 100000
set_option maxHeartbeats 4000000
set_option autoImplicit false
namespace FL
open PySem L2 DL
def kids (ls : List Int) (p : Nat) : Nat := ((ls.drop (p + 1)).takeWhile fun l => decide (ls.getD p 0 < l)).length
section
variable {α : Type} {γ : DTG} {υ : DTT} {τ : DTE} {vs : List Nat} {a : Addr} {Q : DV} {R : Mem -> Prop} {ρ : DL.Env} {M : Mem}
theorem Keep.updN {M M1 : Mem} {a : Addr} {d : D} (h : Keep M M1) (e : M a = none) : Keep M (updM M1 a d) := fun b c hb => by
  have z : b ≠ a := fun z => by rw [z, e] at hb; cases hb
  rw [updM_ne z]; exact h b c hb
theorem Keep.delN {M M1 : Mem} {a : Addr} (h : Keep M M1) (e : M a = none) : Keep M (delM M1 a) := fun b c hb => by
  have z : b ≠ a := fun z => by rw [z, e] at hb; cases hb
  rw [delM_ne z]; exact h b c hb
theorem lcD_ix (g : α -> D) (f : α -> Option D) (l : List α) (hl : l.length <= 16777216) (hM : M a = none)
    (step : ∀ i ∈ l, ∀ (M1 : Mem) (T : Option D -> Mem -> Prop), Keep M M1 -> (∀ M2, Keep M1 M2 -> T (f i) M2) -> γ (g i) (wipeD ρ vs) M1 (fun ρ2 M2 => υ ρ2 M2 (fun b M3 => if b = true then τ ρ2 M3 (fun d M4 => T (some d) M4) noX else T none M3) noX) noX)
    (q : ∀ M', Keep M M' -> Q (.lst (l.filterMap f)) M') : lcD γ υ τ vs a (l.map g) ρ (updM M a (.lst [])) Q := by
  have go : ∀ (r done : List α) (M1 : Mem), l = done ++ r -> M1 a = some (.lst (done.filterMap f)) -> Keep M M1 -> lcD γ υ τ vs a (r.map g) ρ M1 Q := by
    intro r
    induction r with
    | nil =>
      intro done M1 e ha k
      rw [List.append_nil] at e
      subst e
      exact ⟨_, ha, q _ (k.delN hM)⟩
    | cons i r ih =>
      intro done M1 e ha k
      have hi : i ∈ l := by rw [e]; simp
      have e2 : l = (done ++ [i]) ++ r := by rw [e]; simp
      refine step i hi M1 (fun o M4 => match o with
        | some d => ∃ acc, M4 a = some (.lst acc) /\ acc.length < sizeLine /\ lcD γ υ τ vs a (r.map g) ρ (updM M4 a (.lst (acc ++ [d]))) Q
        | none => lcD γ υ τ vs a (r.map g) ρ M4 Q) k fun M2 k2 => ?_
      have kk : Keep M M2 := fun b c hb => k2 b c (k b c hb)
      cases hf : f i with
      | some d =>
        have hlen : (done.filterMap f).length < sizeLine := by
          have h1 := List.length_filterMap_le f done
          have h2 := congrArg List.length e
          rw [List.length_append, List.length_cons] at h2
          rw [sizeLine_eq]; omega
        refine ⟨_, k2 _ _ ha, hlen, ih (done ++ [i]) _ e2 ?_ (kk.updN hM)⟩
        rw [updM_same, List.filterMap_append]
        simp [hf]
      | none =>
        refine ih (done ++ [i]) _ e2 ?_ kk
        rw [List.filterMap_append]
        simp [hf]
        exact k2 _ _ ha
  exact go l [] _ rfl updM_same (fun b c hb => by
    have z : b ≠ a := fun z => by rw [z, hM] at hb; cases hb
    rw [updM_ne z]; exact hb)
theorem lcR_ix (g : α -> D) (f : α -> Option D) (l : List α) (hl : l.length <= 16777216) (hM : M a = none)
    (step : ∀ i ∈ l, ∀ (M1 : Mem) (T : Option D -> Mem -> Prop), Keep M M1 -> (∀ M2, Keep M1 M2 -> T (f i) M2) -> γ (g i) (wipeD ρ vs) M1 (fun ρ2 M2 => υ ρ2 M2 (fun b M3 => if b = true then τ ρ2 M3 (fun d M4 => T (some d) M4) noX else T none M3) noX) noX)
    (q : ∀ M', Keep M M' -> M' a = some (.lst (l.filterMap f)) -> R M') : lcR γ υ τ vs a (l.map g) ρ (updM M a (.lst [])) R := by
  have go : ∀ (r done : List α) (M1 : Mem), l = done ++ r -> M1 a = some (.lst (done.filterMap f)) -> Keep M M1 -> lcR γ υ τ vs a (r.map g) ρ M1 R := by
    intro r
    induction r with
    | nil =>
      intro done M1 e ha k
      rw [List.append_nil] at e
      subst e
      exact q _ k ha
    | cons i r ih =>
      intro done M1 e ha k
      have hi : i ∈ l := by rw [e]; simp
      have e2 : l = (done ++ [i]) ++ r := by rw [e]; simp
      refine step i hi M1 (fun o M4 => match o with
        | some d => ∃ acc, M4 a = some (.lst acc) /\ acc.length < sizeLine /\ lcR γ υ τ vs a (r.map g) ρ (updM M4 a (.lst (acc ++ [d]))) R
        | none => lcR γ υ τ vs a (r.map g) ρ M4 R) k fun M2 k2 => ?_
      have kk : Keep M M2 := fun b c hb => k2 b c (k b c hb)
      cases hf : f i with
      | some d =>
        have hlen : (done.filterMap f).length < sizeLine := by
          have h1 := List.length_filterMap_le f done
          have h2 := congrArg List.length e
          rw [List.length_append, List.length_cons] at h2
          rw [sizeLine_eq]; omega
        refine ⟨_, k2 _ _ ha, hlen, ih (done ++ [i]) _ e2 ?_ (kk.updN hM)⟩
        rw [updM_same, List.filterMap_append]
        simp [hf]
      | none =>
        refine ih (done ++ [i]) _ e2 ?_ kk
        rw [List.filterMap_append]
        simp [hf]
        exact k2 _ _ ha
  exact go l [] _ rfl updM_same (fun b c hb => by
    have z : b ≠ a := fun z => by rw [z, hM] at hb; cases hb
    rw [updM_ne z]; exact hb)
end
end FL
set_option Elab.async false
set_option linter.all false
set_option maxRecDepth 100000
set_option maxHeartbeats 4000000
set_option autoImplicit false
namespace DL
open PySem L2
mutual
inductive Dv (M : Mem) : D -> D -> Prop
  | same (d : D) : Dv M d d
  | ref {a : Addr} {ds es : List D} : M a = some (.lst ds) -> Dvs M ds es -> Dv M (.ref a) (.lst es)
  | lst {ds es : List D} : Dvs M ds es -> Dv M (.lst ds) (.lst es)
  | tup {ds es : List D} : Dvs M ds es -> Dv M (.tup ds) (.tup es)
inductive Dvs (M : Mem) : List D -> List D -> Prop
  | nil : Dvs M [] []
  | cons {d e : D} {ds es : List D} : Dv M d e -> Dvs M ds es -> Dvs M (d :: ds) (e :: es)
end
section
variable {K : PySem.W.Frag} {cl : ClW} {F H : Hp} {M : Mem} {X : Cx} {W : WX}
@[simp] def bDeepEq : DB2 := fun d e _ M Q _ => ∃ d' e' b, Dv M d d' /\ Dv M e e' /\ eqP d' e' = some b /\ Q (.bl b) M
@[simp] def bDeepNe : DB2 := fun d e _ M Q _ => ∃ d' e' b, Dv M d d' /\ Dv M e e' /\ eqP d' e' = some b /\ Q (.bl !b) M
@[simp] def dRevM (τ : DTE) : DTE := fun ρ M Q X => τ ρ M (fun d M1 => ∃ xs, vw M1 d = .lst xs /\ ∀ a, M1 a = none -> Q (.ref a) (updM M1 a (.lst xs.reverse))) X
variable {e : Expr} {τ : DTE} {pos : Pos}
theorem d_revM {k : Nat} {p1 p2 p3 : Pos} (he : DE cl X W e τ) : DE cl X W (.Subscript e (.Slice none none (some (.UnaryOp .USub (.Constant (.int 1) k p1) p2)) p3) pos) (dRevM τ) :=
  ⟨pe_imp (pe_revA he.pe) fun σ H Q ⟨F, ρ, M, Qd, Xd, g, s, t, p, w⟩ => ⟨F, ρ, M, _, Xd, g, s, t, fun v H' F' d M' sm g' r ⟨xs, e1, q⟩ => by
    have hv := vw_ok g' r
    rw [e1] at hv
    obtain ⟨a, vs, rfl, h1, h2⟩ := hv.lst g'.sub
    exact ⟨a, vs, rfl, .inl ⟨h1, fun c hc => p _ _ F' _ _ sm (g'.newM (d := .lst xs.reverse) hc ⟨vs.reverse, upd_same, h2.reverse⟩) (.ref c) (q c (g'.freshM hc))⟩⟩, w⟩⟩
def truD : D -> Option Bool
  | .bl b => some b
  | .int i => some (i != 0)
  | .non => some false
  | .lst xs => some (!xs.isEmpty)
  | .tup xs => some (!xs.isEmpty)
  | _ => none
@[simp] def dOrT (τa τb : DTE) : DTE := fun ρ M Q X => τa ρ M (fun d M1 => ∃ k, truD (vw M1 d) = some k /\ if k = true then Q d M1 else τb ρ M1 Q X) X
variable {a b : Expr} {τa τb : DTE} {rest : List Expr}
end
end DL
set_option Elab.async false
set_option linter.all false
set_option maxRecDepth 100000
set_option maxHeartbeats 4000000
set_option autoImplicit false
namespace FL
open PySem L2 DL
def sibs (ls : List Int) (o : Option Nat) : List Nat := (List.range ls.length).filter fun j => decide ((ancs ls j).head? = o)
end FL
set_option Elab.async false
set_option linter.all false
set_option maxRecDepth 100000
set_option maxHeartbeats 4000000
namespace DL
open PySem L2
abbrev DTIg := DL.Env -> Mem -> ((Mem -> Prop) -> List D -> Mem -> Prop) -> DX -> Prop
def WalksG (K : PySem.W.Frag) (cl : ClW) (J : It) (F : Hp) (C : Mem -> Prop) (xs : List D) : Prop := ∀ i F' H' M', Same F F' -> Good K cl F' H' M' -> C M' ->
  (∀ d, xs[i]? = some d -> J.go i H' /\ ∀ x H3, J.yld i H' x H3 -> ∃ F3, Same F' F3 /\ Good K cl F3 H3 M' /\ Rep K cl F3 x d) /\ (xs.length <= i -> J.stop i H')
structure DIg (cl : ClW) (X : Cx) (W : WX) (tg iter : Expr) (ι : DTIg) : Prop where
  pi : PI X tg iter (fun σ H R => ∃ F ρ M Rd Xd, Good X.K cl F H M /\ Slots X.K cl F σ ρ /\ ι ρ M Rd Xd /\ (∀ J H' F' C xs M', Same F F' -> Good X.K cl F' H' M' -> WalksG X.K cl J F' C xs -> Rd C xs M' -> R J H') /\ WOk X.K cl W F Xd)
def forG (C : Mem -> Prop) (γ : DTG) (t : DTS) : List D -> DTS
  | [] => fun E ρ M => C M /\ E.nx ρ M
  | x :: xs => fun E ρ M => C M /\ γ x ρ M (fun ρ2 M2 => t { E with nx := forG C γ t xs E, ct := forG C γ t xs E, bk := E.nx } ρ2 M2) E.ex
def dForG (ι : DTIg) (γ : DTG) (t : DTS) : DTS := fun E ρ M => ι ρ M (fun C xs M1 => forG C γ t xs E ρ M1) E.ex
def lcG (C : Mem -> Prop) (γ : DTG) (υ : DTT) (τ : DTE) (vs : List Nat) (a : Addr) : List D -> DL.Env -> Mem -> (Mem -> Prop) -> Prop
  | [] => fun _ M R => C M /\ R M
  | x :: xs => fun ρ M R => C M /\ γ x (wipeD ρ vs) M (fun ρ2 M2 => υ ρ2 M2 (fun b M3 => if b = true then τ ρ2 M3 (fun d M4 => ∃ acc, M4 a = some (.lst acc) /\ acc.length < sizeLine /\ lcG C γ υ τ vs a xs ρ (updM M4 a (.lst (acc ++ [d]))) R) noX else lcG C γ υ τ vs a xs ρ M3 R) noX) noX
def endF (a : Addr) (Q : DV) : Mem -> Prop := fun M => ∃ ds, M a = some (.lst ds) /\ Q (.lst ds) (delM M a)
def dLcG (ι : DTIg) (γ : DTG) (υ : DTT) (τ : DTE) (vs : List Nat) : DTE := fun ρ M Q X => ι ρ M (fun C xs M1 => ∀ a, M1 a = none -> lcG C γ υ τ vs a xs ρ (updM M1 a (.lst [])) (endF a Q)) X
def dcG (C : Mem -> Prop) (γ : DTG) (υ : DTT) (τk τv : DTE) (vs : List Nat) (a : Addr) : List D -> DL.Env -> Mem -> DV -> Prop
  | [] => fun _ M Q => C M /\ ∃ ks ds, M a = some (.dK ks ds) /\ Q (.dK ks ds) (delM M a)
  | x :: xs => fun ρ M Q => C M /\ γ x (wipeD ρ vs) M (fun ρ2 M2 => υ ρ2 M2 (fun b M3 => if b = true then τk ρ2 M3 (fun kd M4 => τv ρ2 M4 (fun d M5 => ∃ k ks ds, keyD kd = some k /\ M5 a = some (.dK ks ds) /\ ks.length < sizeLine /\ dcG C γ υ τk τv vs a xs ρ (updM M5 a (.dK (putKs k ks) (putVs k d ks ds))) Q) noX) noX else dcG C γ υ τk τv vs a xs ρ M3 Q) noX) noX
def dDcG (ι : DTIg) (γ : DTG) (υ : DTT) (τk τv : DTE) (vs : List Nat) : DTE := fun ρ M Q X => ι ρ M (fun C xs M1 => ∀ a, M1 a = none -> dcG C γ υ τk τv vs a xs ρ (updM M1 a (.dK [] [])) Q) X
@[simp] def iSG (τ : DTE) : DTIg := fun ρ M R X => τ ρ M (fun d M1 => ∃ xs, itD (vw M1 d) = some xs /\ R (fun M => itD (vw M d) = some xs) xs M1) X
@[simp] def iEnG (τ : DTE) : DTIg := fun ρ M R X => τ ρ M (fun d M1 => ∃ xs, enD (vw M1 d) = some xs /\ R (fun M => enD (vw M d) = some xs) (xs.zipIdx.map fun p => D.tup [.int (p.2 : Nat), p.1]) M1) X
@[simp] def iG (ι : DTI) : DTIg := fun ρ M R X => ι ρ M (fun xs M1 => R (fun _ => True) xs M1) X
section
variable {K : PySem.W.Frag} {cl : ClW} {F H : Hp} {M : Mem}
theorem cellL (g : Good K cl F H M) {a : Addr} {xs : List D} (e : itD (vw M (.ref a)) = some xs \/ enD (vw M (.ref a)) = some xs) : M a = some (.lst xs) /\ ∃ vs, H a = some (.lst vs) /\ Reps K cl F vs xs := by
  have hv : vw M (.ref a) = (M a).getD (.ref a) := rfl
  cases hM : M a with
  | none => rw [hv, hM] at e; rcases e with e | e <;> cases e
  | some c =>
    rw [hv, hM] at e
    obtain ⟨_, h2⟩ := g.cell a c hM
    cases c with
    | lst ds =>
      have : ds = xs := by rcases e with e | e <;> exact Option.some.inj e
      subst this
      exact ⟨rfl, h2⟩
    | tup ds => exact h2.elim
    | str ds => exact h2.elim
    | byt ds => exact h2.elim
    | _ => rcases e with e | e <;> cases e
end
section
variable {cl : ClW} {X : Cx} {W : WX} {e : Expr} {τ : DTE}
theorem di_seqG {tg : Expr} (h : DE cl X W e τ) : DIg cl X W tg e (iSG τ) := ⟨pi_imp (pi_seqV h.pe) fun σ H R ⟨F, ρ, M, Rd, Xd, g, s, q, p, w⟩ =>
  ⟨F, ρ, M, _, Xd, g, s, q, fun v H' F' d M' sm g' r ⟨xs, e1, q'⟩ => (by
    cases d with
    | ref a =>
      obtain rfl := r.toRef
      obtain ⟨_, vs, h1, h2⟩ := cellL g' (.inl e1)
      refine .inl ⟨a, rfl, ⟨vs, SqL.of h1⟩, p _ _ F' _ xs M' sm g' (fun i F2 H2 M2 sm2 g2 hC => ?_) q'⟩
      obtain ⟨_, vs, h1, h2⟩ := cellL g2 (.inl hC)
      refine ⟨fun d hd => ?_, fun hl => ⟨vs, SqL.of h1, by rw [h2.length]; exact hl⟩⟩
      obtain ⟨v, hv, rv⟩ := h2.get hd
      refine ⟨⟨vs, v, SqL.of h1, hv⟩, fun x H3 ⟨e1, e2⟩ => ?_⟩
      subst e1
      have := e2 vs (SqL.of h1)
      rw [hv] at this
      cases this
      exact ⟨F2, Same.refl F2, g2, rv⟩
    | lst ds =>
      cases e1
      obtain ⟨a, vs, rfl, h1, h2⟩ := r.toLst
      refine .inl ⟨a, rfl, ⟨vs, same_l g'.sub h1⟩, p _ _ F' _ xs M' sm g' (fun i F2 H2 M2 sm2 g2 _ => ⟨fun d hd => ?_, fun hl => ⟨vs, same_l (sm2.trans g2.sub) h1, by rw [h2.length]; exact hl⟩⟩) q'⟩
      obtain ⟨v, hv, rv⟩ := h2.get hd
      refine ⟨⟨vs, v, same_l (sm2.trans g2.sub) h1, hv⟩, fun x H3 ⟨e1, e2⟩ => ?_⟩
      subst e1
      have := e2 vs (same_l (sm2.trans g2.sub) h1)
      rw [hv] at this
      cases this
      exact ⟨F2, Same.refl F2, g2, rv.mono sm2⟩
    | tup ds =>
      cases e1
      obtain ⟨a, vs, rfl, h1, h2⟩ := r.toTup
      refine .inr (.inl ⟨a, rfl, ⟨vs, same_t g'.sub h1⟩, p _ _ F' _ xs M' sm g' (fun i F2 H2 M2 sm2 g2 _ => ⟨fun d hd => ?_, fun hl => ⟨vs, same_t (sm2.trans g2.sub) h1, by rw [h2.length]; exact hl⟩⟩) q'⟩)
      obtain ⟨v, hv, rv⟩ := h2.get hd
      refine ⟨⟨vs, v, same_t (sm2.trans g2.sub) h1, hv⟩, fun x H3 ⟨e1, e2⟩ => ?_⟩
      subst e1
      have := e2 vs (same_t (sm2.trans g2.sub) h1)
      rw [hv] at this
      cases this
      exact ⟨F2, Same.refl F2, g2, rv.mono sm2⟩
    | str z =>
      cases e1
      obtain rfl := r.toStr
      refine .inr (.inr (.inl ⟨z, rfl, p _ _ F' _ _ M' sm g' (fun i F2 H2 M2 sm2 g2 _ => ⟨fun d hd => ?_, fun hl => ?_⟩) q'⟩))
      · rw [List.getElem?_map] at hd
        obtain ⟨c, hc, rfl⟩ := Option.map_eq_some_iff.mp hd
        have hc' : z.cps[i]? = some c := by simpa using hc
        refine ⟨(Array.getElem?_eq_some_iff.mp hc').1, fun x H3 ⟨e1, c2, e2, e3⟩ => ?_⟩
        subst e1 e3
        rw [hc'] at e2
        cases e2
        exact ⟨F2, Same.refl F2, g2, .str _⟩
      · show z.cps.size <= i
        simpa using hl
    | byt z =>
      cases e1
      obtain rfl := r.toByt
      refine .inr (.inr (.inr ⟨z, rfl, p _ _ F' _ _ M' sm g' (fun i F2 H2 M2 sm2 g2 _ => ⟨fun d hd => ?_, fun hl => ?_⟩) q'⟩))
      · rw [List.getElem?_map] at hd
        obtain ⟨c, hc, rfl⟩ := Option.map_eq_some_iff.mp hd
        have hc' : z[i]? = some c := by simpa using hc
        refine ⟨(Array.getElem?_eq_some_iff.mp hc').1, fun x H3 ⟨e1, c2, e2, e3⟩ => ?_⟩
        subst e1 e3
        rw [hc'] at e2
        cases e2
        exact ⟨F2, Same.refl F2, g2, .int _⟩
      · show z.size <= i
        simpa using hl
    | _ => cases e1), w⟩⟩
variable {elt tg iter kx vx : Expr} {ifs : List Expr} {scope : Scope} {own : List (Str × Nat)} {pos : Pos} {ι : DTIg} {is : List Nat} {γ : DTG} {υ : DTT} {τk τv : DTE} {sts : List Stmt} {t : DTS}
theorem ds_forG (hp : PassesOwn (model X.prog X.w) X.A X.env X.xe) (hc : X.calm = true) (hi : DIg cl X W tg iter ι) (hg : DG cl X W tg is γ) (hb : DSs cl X W sts t) (hs : ∀ x, foldedSetIterable iter X.env x = pure x := by intro _; rfl) :
    DS cl X W (.For tg iter sts [] pos) (dForG ι γ t) := ⟨ps_imp (ps_for hp hc hi.pi hg.pg hb.pss hs) fun D σ H ⟨F, ρ, M, E, g, s, q, ok⟩ => by
  refine ⟨F, ρ, M, _, E.ex, g, s, q, fun J H1 F1 C xs M1 sm1 g1 wk q1 => ?_, ok.ex⟩
  refine ⟨fun i m σ H => m = xs.length - i /\ i <= xs.length /\ ∃ F' ρ M, Same F1 F' /\ Good X.K cl F' H M /\ Slots X.K cl F' σ ρ /\ forG C γ t (xs.drop i) E ρ M, ⟨xs.length, by simp, Nat.zero_le _, F1, ρ, M1, Same.refl F1, g1, s.mono sm1, by simpa using q1⟩, ?_⟩
  rintro i m σ2 H2 ⟨rfl, hi, F2, ρ2, M2, sm2, g2, s2, q2⟩
  have ok2 := ok.mono (sm1.trans sm2)
  by_cases hlt : i < xs.length
  · rw [List.drop_eq_getElem_cons hlt] at q2
    unfold forG at q2
    obtain ⟨hC, q2⟩ := q2
    obtain ⟨go, yl⟩ := (wk i F2 H2 M2 sm2 g2 hC).1 xs[i] (by simp [hlt])
    refine .inr ⟨go, fun σ' H' => ∃ F' ρ' M', Same F1 F' /\ Good X.K cl F' H' M' /\ Slots X.K cl F' σ' ρ' /\ forG C γ t (xs.drop (i + 1)) E ρ' M', fun σ' H' n => ⟨xs.length - (i + 1), by omega, rfl, hlt, n⟩, fun x H3 y => ?_⟩
    obtain ⟨F3, sm3, g3, r3⟩ := yl x H3 y
    refine ⟨F3, ρ2, M2, xs[i], _, E.ex, g3, s2.mono sm3, r3, q2, fun σ4 H4 F4 ρ4 M4 sm4 g4 s4 _ q4 => ?_, ok2.ex.mono sm3⟩
    have ok4 := ok2.mono (sm3.trans sm4)
    exact ⟨F4, ρ4, M4, _, g4, s4, q4, ⟨fun σ' H' F' ρ' M' sm' g' s' q' => ⟨F', ρ', M', ((sm2.trans sm3).trans sm4).trans sm', g', s', q'⟩, ok4.rt, ok4.nx, fun σ' H' F' ρ' M' sm' g' s' q' => ⟨F', ρ', M', ((sm2.trans sm3).trans sm4).trans sm', g', s', q'⟩, ok4.ex⟩⟩
  · have e : i = xs.length := by omega
    subst e
    rw [List.drop_length] at q2
    exact .inl ⟨(wk _ F2 H2 M2 sm2 g2 q2.1).2 (Nat.le_refl _), ok2.nx _ _ F2 ρ2 M2 (Same.refl F2) g2 s2 q2.2⟩⟩
theorem lcG_lift {K : PySem.W.Frag} (his : ∀ i ∈ is, i ∈ own.map (·.2)) {σ : St} {H : Hp} {Q : VK} {F : Hp} {ρ : DL.Env} {M : Mem} {Xd : DX} (R : Addr -> Mem -> Prop) (g : Good K cl F H M) (s : Slots K cl F σ ρ)
    (q : ι ρ M (fun C xs M1 => ∀ a, M1 a = none -> lcG C γ υ τ (own.map (·.2)) a xs ρ (updM M1 a (.lst [])) (R a)) Xd) (p : ∀ a H' F' M', Same F F' -> Good K cl F' H' M' -> R a M' -> Q (.ref a) H') (w : WOk K cl W F Xd) :
    tLc (fun σ H R => ∃ F ρ M Rd Xd, Good K cl F H M /\ Slots K cl F σ ρ /\ ι ρ M Rd Xd /\ (∀ J H' F' C xs M', Same F F' -> Good K cl F' H' M' -> WalksG K cl J F' C xs -> Rd C xs M' -> R J H') /\ WOk K cl W F Xd)
      (fun v σ H Q => ∃ F ρ M d Qd Xd, Good K cl F H M /\ Slots K cl F σ ρ /\ Rep K cl F v d /\ γ d ρ M Qd Xd /\ (∀ σ' H' F' ρ' M', Same F F' -> Good K cl F' H' M' -> Slots K cl F' σ' ρ' -> (∀ vs : List Nat, (∀ i ∈ is, i ∈ vs) -> wipe σ' vs = wipe σ vs) -> Qd ρ' M' -> Q σ' H') /\ WOk K cl W0 F Xd)
      (lowT K cl W0 υ) (lowE K cl W0 τ) (own.map (·.2)) σ H Q := by
  refine ⟨F, ρ, M, _, Xd, g, s, q, fun J H1 F1 C xs M1 sm1 g1 wk q1 a hD => ?_, w⟩
  refine ⟨fun i m H => m = xs.length - i /\ i <= xs.length /\ ∃ F' M, Same F1 F' /\ Good K cl F' H M /\ lcG C γ υ τ (own.map (·.2)) a (xs.drop i) ρ M (R a),
    ⟨xs.length, by simp, Nat.zero_le _, F1, updM M1 a (.lst []), Same.refl F1, g1.newM (d := .lst []) hD ⟨[], upd_same, .nil⟩, by simpa using q1 a (g1.freshM hD)⟩, ?_⟩
  rintro i m H2 ⟨rfl, hi, F2, M2, sm2, g2, q2⟩
  by_cases hlt : i < xs.length
  · rw [List.drop_eq_getElem_cons hlt] at q2
    unfold lcG at q2
    obtain ⟨hC, q2⟩ := q2
    obtain ⟨go, yl⟩ := (wk i F2 H2 M2 sm2 g2 hC).1 xs[i] (by simp [hlt])
    refine .inr ⟨go, fun H' => ∃ F' M', Same F1 F' /\ Good K cl F' H' M' /\ lcG C γ υ τ (own.map (·.2)) a (xs.drop (i + 1)) ρ M' (R a), fun H' n => ⟨xs.length - (i + 1), by omega, rfl, hlt, n⟩, fun x H3 y => ?_⟩
    obtain ⟨F3, sm3, g3, r3⟩ := yl x H3 y
    refine ⟨F3, wipeD ρ (own.map (·.2)), M2, xs[i], _, noX, g3, (s.mono ((sm1.trans sm2).trans sm3)).wipe _, r3, q2, fun σ4 H4 F4 ρ4 M4 sm4 g4 s4 w4 q4 => ⟨?_, ?_⟩, wok0⟩
    · rw [w4 _ his]
      exact wipe_idem _ _ _ fun _ h => h
    · refine ⟨F4, ρ4, M4, _, noX, g4, s4, q4, fun k H5 F5 M5 sm5 g5 q5 => ?_, wok0⟩
      cases k with
      | true =>
        rw [if_pos rfl] at q5 ⊢
        refine ⟨F5, ρ4, M5, _, noX, g5, s4.mono sm5, q5, fun y2 H6 F6 d M6 sm6 g6 r6 q6 => ?_, wok0⟩
        obtain ⟨acc, e1, e2, q6⟩ := q6
        obtain ⟨hF, vs, h1, h2⟩ := g6.cell a _ e1
        refine ⟨vs, h1, by rw [h2.length]; exact e2, F6, _, (((sm2.trans sm3).trans sm4).trans sm5).trans sm6, g6.put (d := .lst (acc ++ [d])) e1 ⟨vs ++ [y2], upd_same, h2.append (.one r6)⟩, q6⟩
      | false =>
        rw [if_neg Bool.false_ne_true] at q5 ⊢
        exact ⟨F5, M5, ((sm2.trans sm3).trans sm4).trans sm5, g5, q5⟩
  · have e : i = xs.length := by omega
    subst e
    rw [List.drop_length] at q2
    unfold lcG at q2
    exact .inl ⟨(wk _ F2 H2 M2 sm2 g2 q2.1).2 (Nat.le_refl _), p _ _ _ _ (sm1.trans sm2) g2 q2.2⟩
theorem endF_ok {K : PySem.W.Frag} {F : Hp} {Q : VK} {Qd : DV} (p : Post K cl F Q Qd) : ∀ a H' F' M', Same F F' -> Good K cl F' H' M' -> endF a Qd M' -> Q (.ref a) H' := fun a H' F' M' sm g ⟨ds, e1, q⟩ => by
  obtain ⟨F3, sm3, g3, r3⟩ := g.freeze e1
  exact p _ _ _ _ _ (sm.trans sm3) g3 r3 q
theorem d_lcG (hc : X.calm = true) (hN : X.N.Nodup) (hi : DIg cl X W tg iter ι) (ok : BlkOk X.N X.env.scope scope own)
    (hg : ∀ (s : Shared) (H : Hp) (C : Addr) (cs : List (Str × Addr)) (fp : List Addr), DG cl (X.blk s H scope (compEnvC scope cs C X.env) fp) W0 tg is γ) (ht : ∀ (s : Shared) (H : Hp) (C : Addr) (cs : List (Str × Addr)) (fp : List Addr), DTs cl (X.blk s H scope (compEnvC scope cs C X.env) fp) W0 ifs υ)
    (he : ∀ (s : Shared) (H : Hp) (C : Addr) (cs : List (Str × Addr)) (fp : List Addr), DE cl (X.blk s H scope (compEnvC scope cs C X.env) fp) W0 elt τ) (his : ∀ i ∈ is, i ∈ own.map (·.2) := by decide) (hs : ∀ x, foldedSetIterable iter X.env x = pure x := by intro _; rfl) :
    DE cl X W (.ListComp elt [⟨tg, iter, ifs, 0⟩] scope pos) (dLcG ι γ υ τ (own.map (·.2))) :=
  ⟨pe_imp (pe_lc hc hN hi.pi ok (fun s H C cs fp => (hg s H C cs fp).pg) (fun s H C cs fp => (ht s H C cs fp).pts) (fun s H C cs fp => (he s H C cs fp).pe) hs) fun σ H Q ⟨F, ρ, M, Qd, Xd, g, s, q, p, w⟩ => lcG_lift his (fun a => endF a Qd) g s q (endF_ok p) w⟩
theorem dcG_lift {K : PySem.W.Frag} (his : ∀ i ∈ is, i ∈ own.map (·.2)) {σ : St} {H : Hp} {Q : VK} {F : Hp} {ρ : DL.Env} {M : Mem} {Qd : DV} {Xd : DX} (g : Good K cl F H M) (s : Slots K cl F σ ρ) (q : dDcG ι γ υ τk τv (own.map (·.2)) ρ M Qd Xd) (p : Post K cl F Q Qd) (w : WOk K cl W F Xd) :
    tDc (fun σ H R => ∃ F ρ M Rd Xd, Good K cl F H M /\ Slots K cl F σ ρ /\ ι ρ M Rd Xd /\ (∀ J H' F' C xs M', Same F F' -> Good K cl F' H' M' -> WalksG K cl J F' C xs -> Rd C xs M' -> R J H') /\ WOk K cl W F Xd)
      (fun v σ H Q => ∃ F ρ M d Qd Xd, Good K cl F H M /\ Slots K cl F σ ρ /\ Rep K cl F v d /\ γ d ρ M Qd Xd /\ (∀ σ' H' F' ρ' M', Same F F' -> Good K cl F' H' M' -> Slots K cl F' σ' ρ' -> (∀ vs : List Nat, (∀ i ∈ is, i ∈ vs) -> wipe σ' vs = wipe σ vs) -> Qd ρ' M' -> Q σ' H') /\ WOk K cl W0 F Xd)
      (lowT K cl W0 υ) (lowE K cl W0 τk) (lowE K cl W0 τv) (own.map (·.2)) σ H Q := by
  refine ⟨F, ρ, M, _, Xd, g, s, q, fun J H1 F1 C xs M1 sm1 g1 wk q1 a hD => ?_, w⟩
  refine ⟨fun i m H => m = xs.length - i /\ i <= xs.length /\ ∃ F' M, Same F1 F' /\ Good K cl F' H M /\ dcG C γ υ τk τv (own.map (·.2)) a (xs.drop i) ρ M Qd,
    ⟨xs.length, by simp, Nat.zero_le _, F1, updM M1 a (.dK [] []), Same.refl F1, g1.newM (d := .dK [] []) hD ⟨[], upd_same, rfl, .nil⟩, by simpa using q1 a (g1.freshM hD)⟩, ?_⟩
  rintro i m H2 ⟨rfl, hi, F2, M2, sm2, g2, q2⟩
  by_cases hlt : i < xs.length
  · rw [List.drop_eq_getElem_cons hlt] at q2
    unfold dcG at q2
    obtain ⟨hC, q2⟩ := q2
    obtain ⟨go, yl⟩ := (wk i F2 H2 M2 sm2 g2 hC).1 xs[i] (by simp [hlt])
    refine .inr ⟨go, fun H' => ∃ F' M', Same F1 F' /\ Good K cl F' H' M' /\ dcG C γ υ τk τv (own.map (·.2)) a (xs.drop (i + 1)) ρ M' Qd, fun H' n => ⟨xs.length - (i + 1), by omega, rfl, hlt, n⟩, fun x H3 y => ?_⟩
    obtain ⟨F3, sm3, g3, r3⟩ := yl x H3 y
    refine ⟨F3, wipeD ρ (own.map (·.2)), M2, xs[i], _, noX, g3, (s.mono ((sm1.trans sm2).trans sm3)).wipe _, r3, q2, fun σ4 H4 F4 ρ4 M4 sm4 g4 s4 w4 q4 => ⟨?_, ?_⟩, wok0⟩
    · rw [w4 _ his]
      exact wipe_idem _ _ _ fun _ h => h
    · refine ⟨F4, ρ4, M4, _, noX, g4, s4, q4, fun k H5 F5 M5 sm5 g5 q5 => ?_, wok0⟩
      cases k with
      | true =>
        rw [if_pos rfl] at q5 ⊢
        refine ⟨F5, ρ4, M5, _, noX, g5, s4.mono sm5, q5, fun y2 H6 F6 d M6 sm6 g6 r6 q6 => ?_, wok0⟩
        refine ⟨F6, ρ4, M6, _, noX, g6, s4.mono (sm5.trans sm6), q6, fun y3 H7 F7 d3 M7 sm7 g7 r7 q7 => ?_, wok0⟩
        obtain ⟨k, ks, ds, e0, e1, e2, q7⟩ := q7
        obtain ⟨hF, us, h1, h2, h3⟩ := g7.cell a _ e1
        obtain ⟨z1, z2⟩ := putK_zip k y3 ks us h2
        have hl : (ks.zip us).length < sizeLine := by rw [List.length_zip, <- h2, Nat.min_self]; exact e2
        refine ⟨ks.zip us, k, key_rep (.inl r6) e0 (H := H7), h1, hl, F7, _, ((((sm2.trans sm3).trans sm4).trans sm5).trans sm6).trans sm7, g7.put (d := .dK (putKs k ks) (putVs k d3 ks ds)) e1 ⟨putVs k y3 ks us, ?_, z2, reps_putVs r7 ks h3⟩, q7⟩
        rw [upd_same, z1]
      | false =>
        rw [if_neg Bool.false_ne_true] at q5 ⊢
        exact ⟨F5, M5, ((sm2.trans sm3).trans sm4).trans sm5, g5, q5⟩
  · have e : i = xs.length := by omega
    subst e
    rw [List.drop_length] at q2
    obtain ⟨hC, ks, ds, e1, q2⟩ := q2
    obtain ⟨F3, sm3, g3, r3⟩ := g2.freeze e1
    exact .inl ⟨(wk _ F2 H2 M2 sm2 g2 hC).2 (Nat.le_refl _), p _ _ _ _ _ ((sm1.trans sm2).trans sm3) g3 r3 q2⟩
theorem d_dcG (hc : X.calm = true) (hN : X.N.Nodup) (hi : DIg cl X W tg iter ι) (ok : BlkOk X.N X.env.scope scope own)
    (hg : ∀ (s : Shared) (H : Hp) (C : Addr) (cs : List (Str × Addr)) (fp : List Addr), DG cl (X.blk s H scope (compEnvC scope cs C X.env) fp) W0 tg is γ) (ht : ∀ (s : Shared) (H : Hp) (C : Addr) (cs : List (Str × Addr)) (fp : List Addr), DTs cl (X.blk s H scope (compEnvC scope cs C X.env) fp) W0 ifs υ)
    (hk : ∀ (s : Shared) (H : Hp) (C : Addr) (cs : List (Str × Addr)) (fp : List Addr), DE cl (X.blk s H scope (compEnvC scope cs C X.env) fp) W0 kx τk)
    (he : ∀ (s : Shared) (H : Hp) (C : Addr) (cs : List (Str × Addr)) (fp : List Addr), DE cl (X.blk s H scope (compEnvC scope cs C X.env) fp) W0 vx τv) (his : ∀ i ∈ is, i ∈ own.map (·.2) := by decide) (hs : ∀ x, foldedSetIterable iter X.env x = pure x := by intro _; rfl) :
    DE cl X W (.DictComp kx vx [⟨tg, iter, ifs, 0⟩] scope pos) (dDcG ι γ υ τk τv (own.map (·.2))) :=
  ⟨pe_imp (pe_dc hc hN hi.pi ok (fun s H C cs fp => (hg s H C cs fp).pg) (fun s H C cs fp => (ht s H C cs fp).pts) (fun s H C cs fp => (hk s H C cs fp).pe) (fun s H C cs fp => (he s H C cs fp).pe) hs) fun σ H Q ⟨F, ρ, M, Qd, Xd, g, s, q, p, w⟩ => dcG_lift his g s q p w⟩
end
theorem forG_run {C : Mem -> Prop} {γ : DTG} {t : DTS} {E : DEnds} (xs : List D) (P : List D -> DL.Env -> Mem -> Prop)
    (step : ∀ (done : List D) (x : D) (rest : List D) (ρ : DL.Env) (M : Mem) (Nx : DL.Env -> Mem -> Prop), xs = done ++ x :: rest -> P done ρ M -> (∀ ρ' M', P (done ++ [x]) ρ' M' -> Nx ρ' M') -> C M /\ γ x ρ M (fun ρ2 M2 => t { E with nx := Nx, ct := Nx, bk := E.nx } ρ2 M2) E.ex)
    (fin : ∀ ρ M, P xs ρ M -> C M /\ E.nx ρ M) {ρ : DL.Env} {M : Mem} (h0 : P [] ρ M) : forG C γ t xs E ρ M := by
  have go : ∀ (rest done : List D) (ρ : DL.Env) (M : Mem), xs = done ++ rest -> P done ρ M -> forG C γ t rest E ρ M := by
    intro rest
    induction rest with
    | nil => intro done ρ M e p; rw [List.append_nil] at e; subst e; exact fin ρ M p
    | cons x rest ih => intro done ρ M e p; exact step done x rest ρ M _ e p fun ρ' M' p' => ih (done ++ [x]) ρ' M' (by rw [e, List.append_assoc]; rfl) p'
  exact go xs [] ρ M rfl h0
theorem lcG_run {C : Mem -> Prop} {γ : DTG} {υ : DTT} {τ : DTE} {vs : List Nat} {a : Addr} {R : Mem -> Prop} {ρ : DL.Env} (xs : List D) (P : List D -> List D -> Mem -> Prop)
    (step : ∀ (done : List D) (x : D) (rest acc : List D) (M : Mem) (Nx : Mem -> Prop), xs = done ++ x :: rest -> M a = some (.lst acc) -> P done acc M -> (∀ acc' M', M' a = some (.lst acc') -> P (done ++ [x]) acc' M' -> Nx M') ->
      C M /\ γ x (wipeD ρ vs) M (fun ρ2 M2 => υ ρ2 M2 (fun b M3 => if b = true then τ ρ2 M3 (fun d M4 => ∃ acc, M4 a = some (.lst acc) /\ acc.length < sizeLine /\ Nx (updM M4 a (.lst (acc ++ [d])))) noX else Nx M3) noX) noX)
    (fin : ∀ acc M, M a = some (.lst acc) -> P xs acc M -> C M /\ R M) {M : Mem} (h0 : P [] [] (updM M a (.lst []))) : lcG C γ υ τ vs a xs ρ (updM M a (.lst [])) R := by
  have go : ∀ (rest done acc : List D) (M : Mem), xs = done ++ rest -> M a = some (.lst acc) -> P done acc M -> lcG C γ υ τ vs a rest ρ M R := by
    intro rest
    induction rest with
    | nil => intro done acc M e ha p; rw [List.append_nil] at e; subst e; exact fin acc M ha p
    | cons x rest ih => intro done acc M e ha p; exact step done x rest acc M _ e ha p fun acc' M' ha' p' => ih (done ++ [x]) acc' M' (by rw [e, List.append_assoc]; rfl) ha' p'
  exact go xs [] [] _ rfl updM_same h0
end DL
set_option Elab.async false
set_option linter.all false
set_option maxRecDepth 100000
set_option maxHeartbeats 4000000
namespace DL
open PySem L2
open PyProof.Rows (Compare_chain isTrue_chain chain_link chain_last test_link test_last ite_tt ite_ff)
section
variable {cl : ClW} {X : Cx} {a : Addr} {oe : Obj} {cls : Value} {d : Option Addr} {pn : List (Addr × Obj)} {x : D}
end
section
variable {cl : ClW} {X : Cx} {W : WX} {pos : Pos} {a b : Expr} {τa τb : DTE}
theorem Reps.rep {K : PySem.W.Frag} {F : Hp} {vs : List V} {ds : List D} (h : Reps K cl F vs ds) : ∀ n : Nat, Reps K cl F (List.replicate n vs).flatten (List.replicate n ds).flatten
  | 0 => .nil
  | n + 1 => by
    rw [List.replicate_succ, List.replicate_succ, List.flatten_cons, List.flatten_cons]
    exact h.append (Reps.rep h n)
theorem Good.drop {K : PySem.W.Frag} {F H : Hp} {M : Mem} (g : Good K cl F H M) (p : Addr) : Good K cl F H (delM M p) := ⟨g.sub, fun a d e => by
  by_cases h : a = p
  · subst h; rw [delM_same] at e; cases e
  · rw [delM_ne h] at e; exact g.cell a d e, g.tab, g.noT⟩
def bRepD : DB2 := fun d e _ M Q _ => ∃ p xs k, d = .ref p /\ M p = some (.lst xs) /\ e = .int k /\ -(2 ^ 63) <= k /\ k < 2 ^ 63 /\ xs.length * k.toNat <= sizeLine /\ Q (.lst (List.replicate k.toNat xs).flatten) (delM M p)
theorem bin_repD : BinG cl X W (binaryOp .Mult) bRepD := by
  intro pins s σ H F ρ M v u x y d e Q Qd Xd I rx ry g sl r1 r2 h p w
  obtain ⟨b, xs, k, rfl, hM, rfl, k1, k2, hl, q⟩ := h
  obtain rfl := r1.toRef
  obtain rfl := r2.toInt
  obtain ⟨hF, vs, h1, h2⟩ := g.cell b _ hM
  exact op_rep pins s σ H _ _ v u Q I rx ry ⟨b, k, vs, rfl, rfl, h1, k1, k2, by rw [h2.length]; exact hl, fun c hc => p.newL (g.drop b) (h2.rep _) q hc⟩
end
section
variable {X : Cx} {a b c d : Expr} {ta tb tc td : TE} {pos : Pos}
end
section
variable {cl : ClW} {X : Cx} {W : WX} {a b c d : Expr} {τa τb τc τd : DTE} {pos : Pos}
@[simp] def dChain3 (f f' f'' : D -> D -> Option D) (τa τb τc τd : DTE) : DTE := fun ρ M Q X => τa ρ M (fun d M1 => τb ρ M1 (fun e M2 => ∃ k, f (vw M2 d) (vw M2 e) = some (.bl k) /\
  if k = true then τc ρ M2 (fun h M3 => ∃ k, f' (vw M3 e) (vw M3 h) = some (.bl k) /\ if k = true then τd ρ M3 (fun j M4 => ∃ z, f'' (vw M4 h) (vw M4 j) = some z /\ Q z M4) X else Q (.bl false) M3) X else Q (.bl false) M2) X) X
end
end DL
set_option Elab.async false
set_option linter.all false
set_option maxRecDepth 100000
set_option maxHeartbeats 4000000
namespace DL
open PySem L2
open PySem.SeqAt
section
open AutoSeq1 (wpAny_loadPart')
variable {prog : Program} {w : World}
inductive EqL (prog : Program) (w : World) (A : Around) (s : Shared) : List (Value × Value) -> List Bool -> Prop
  | nil : EqL prog w A s [] []
  | cons {p : Value × Value} {b : Bool} {ps : List (Value × Value)} {bs : List Bool} : EqP prog w A s p.1 p.2 b -> EqL prog w A s ps bs -> EqL prog w A s (p :: ps) (b :: bs)
section
variable {K : Type} [DecidableEq K] {knd : KeyKind prog w K} {a : Addr} {ka : List (K × Value)} {A : Around} {s : Shared} {v : Value}
end
end
mutual
def eqX : D -> D -> Bool
  | .non, .non => true
  | .bl a, .bl b => a == b
  | .bl a, .int j => (if a then 1 else 0) == j
  | .int i, .bl b => i == (if b then 1 else 0)
  | .int i, .int j => i == j
  | .str x, .str y => x == y
  | .lst xs, .lst ys => eqXs xs ys
  | .tup xs, .tup ys => eqXs xs ys
  | .dK ks ds, .dK ls es => ks.length == ls.length && eqKs ks ds ls es
  | _, _ => false
def eqXs : List D -> List D -> Bool
  | [], [] => true
  | x :: xs, y :: ys => eqX x y && eqXs xs ys
  | _, _ => false
def eqKs : List Key -> List D -> List Key -> List D -> Bool
  | k :: ks, d :: ds, ls, es => (match atK k ls es with
    | some e => eqX d e
    | none => false) && eqKs ks ds ls es
  | _, _, _, _ => true
end
mutual
def plX : Nat -> D -> Bool
  | _, .non => true
  | _, .bl _ => true
  | _, .int _ => true
  | _, .str _ => true
  | n + 1, .lst xs => plXs n xs
  | n + 1, .tup xs => plXs n xs
  | n + 1, .dK ks ds => decide ks.Nodup && ks.length == ds.length && plXs n ds
  | _, _ => false
def plXs : Nat -> List D -> Bool
  | _, [] => true
  | n, x :: xs => plX n x && plXs n xs
end
section
variable {X : Cx} {pins : List (Addr × Obj)} {σ : St} {H : Hp} {s : Shared} {cl : ClW}
inductive Side (X : Cx) (cl : ClW) (H : Hp) (s : Shared) : D -> Value -> Prop
  | non : Side X cl H s .non .none
  | bl (b : Bool) : Side X cl H s (.bl b) (.bool b)
  | int (i : Int) (t : Tok) : Side X cl H s (.int i) (.int i t)
  | str (x : Str) (t : Tok) : Side X cl H s (.str x) (.str x t)
  | lst {a : Addr} {us : List Value} {vs : List V} {ds : List D} : s.heap.IsList a us.toArray -> Vals vs us -> Reps X.K cl H vs ds -> Side X cl H s (.lst ds) (.ref a)
  | tup {a : Addr} {us : List Value} {vs : List V} {ds : List D} : s.heap.IsTuple a us.toArray -> Vals vs us -> Reps X.K cl H vs ds -> Side X cl H s (.tup ds) (.ref a)
  | dK {a : Addr} {ks : List Key} {us : List (Key × Value)} {vs : List V} {ds : List D} : (a == sysModules) = false -> s.heap.DictOf (mixKind X.prog X.w) a us -> KV (ks.zip vs) us -> ks.length = vs.length -> Reps X.K cl H vs ds -> Side X cl H s (.dK ks ds) (.ref a)
end
end DL
set_option Elab.async false
set_option linter.all false
set_option maxRecDepth 100000
set_option maxHeartbeats 4000000
namespace DL
open PySem L2
open PySem.SeqAt
section
open AutoSeq1 (wpAny_loadPart')
open MeetsSeq MeetsSeq2 MeetsSeq3 SeqRoads2
variable {prog : Program} {w : World}
end
section
variable {X : Cx} {pins : List (Addr × Obj)} {σ : St} {H : Hp} {s : Shared} {cl : ClW}
end
section
variable {K : PySem.W.Frag} {cl : ClW} {F H : Hp} {M : Mem} {X : Cx} {W : WX}
@[simp] def bEqX : DB2 := fun d e _ M Q _ => ∃ d' e' n, Dv M d d' /\ Dv M e e' /\ n <= 60 /\ plX n d' = true /\ plX n e' = true /\ Q (.bl (eqX d' e')) M
@[simp] def bNeX : DB2 := fun d e _ M Q _ => ∃ xs ys n, Dv M d (.lst xs) /\ Dv M e (.lst ys) /\ n <= 60 /\ plXs n xs = true /\ plXs n ys = true /\ Q (.bl (!eqXs xs ys)) M
end
end DL
set_option Elab.async false
set_option linter.all false
set_option maxRecDepth 100000
set_option maxHeartbeats 4000000
namespace DL
open PySem L2
end DL
set_option Elab.async false
set_option linter.all false
set_option maxRecDepth 100000
set_option maxHeartbeats 4000000
namespace FL
open PySem L2 DL
def seqs : D -> Option (List D)
  | .lst xs => some xs
  | .tup xs => some xs
  | _ => none
theorem seqs_it {d : D} {xs : List D} (h : seqs d = some xs) : itD d = some xs := by cases d <;> first | exact h | cases h
theorem seqs_en {d : D} {xs : List D} (h : seqs d = some xs) : enD d = some xs := by cases d <;> first | exact h | cases h
theorem seqs_ix {d : D} {xs : List D} (h : seqs d = some xs) (k : Int) : ixA d (.int k) = atI xs k := by cases d <;> first | (cases h; rfl) | cases h
theorem seqs_len {d : D} {xs : List D} (h : seqs d = some xs) : lenF [d] = some (.int xs.length) := by cases d <;> first | (cases h; rfl) | cases h
theorem seqs_ty {d : D} {xs : List D} (h : seqs d = some xs) : ∃ n, tyName d = some n /\ (n == "list" || n == "tuple") = true := by
  cases d <;> first | exact ⟨_, rfl, by decide⟩ | cases h
theorem seqs_no {d : D} {n : String} (h : seqs d = none) (t : tyName d = some n) : (n == "list" || n == "tuple") = false := by
  cases d <;> first | (cases t; decide) | (cases t; done) | (cases h; done)
theorem seqs_sl {d : D} {xs : List D} (h : seqs d = some xs) (lo hi : Option Int) : ∃ e, slD d lo hi = some e /\ seqs e = some (cutD xs lo hi) /\ ∀ M, vw M e = e := by
  cases d <;> first | (cases h; exact ⟨_, rfl, rfl, fun _ => rfl⟩) | cases h
theorem seqs_or {d : D} {xs : List D} (h : seqs d = some xs) : d = .lst xs \/ d = .tup xs := by cases d <;> first | (cases h; simp) | cases h
def nameC : List Nat -> Bool
  | [] => false
  | c :: r => decide (r.length <= 7) && (isL c && r.all isS)
theorem nameC_iff {cs : List Nat} : nameC cs = true ↔ NameOk cs := by
  cases cs with
  | nil => simp [nameC, NameOk]
  | cons c r =>
    simp only [nameC, Bool.and_eq_true, decide_eq_true_eq, List.all_eq_true, NameOk]
    constructor
    · rintro ⟨h1, h2, h3⟩; exact ⟨c, r, rfl, h1, h2, h3⟩
    · rintro ⟨c', r', e, h1, h2, h3⟩; cases e; exact ⟨h1, h2, h3⟩
def nameB : D -> Bool
  | .str z => nameC z.cps.toList
  | _ => false
def valB : D -> Bool
  | .int i => decide (-(10 ^ 30) <= i) && decide (i <= 10 ^ 30)
  | _ => false
def hd3 (y : D) : D := match seqs y with
  | some [n, _, _] => n
  | _ => .non
def wordD : Option String -> D
  | some w => .str w
  | none => .non
structure Pl (d : D) : Prop where
  ty : ∃ n, tyName d = some n
  st : ∀ z, d = .str z -> z.length <= 1000 /\ ∀ c ∈ z.cps.toList, c < 1114112
structure PlRow (y : D) : Prop where
  pl : Pl y
  it : ∀ l, seqs y = some l -> ∀ c ∈ l, Pl c
theorem Pl.vw {d : D} (h : Pl d) (M : Mem) : DL.vw M d = d := by
  obtain ⟨n, hn⟩ := h.ty
  cases d <;> first | rfl | cases hn
structure Handed (M : Mem) (d : D) : Prop where
  ty : ∃ n, tyName (vw M d) = some n
  rows : ∀ xs, seqs (vw M d) = some xs -> xs.length <= 60 -> ∀ y ∈ xs, PlRow (vw M y)
theorem lcG_fn {C : Mem -> Prop} {γ : DTG} {υ : DTT} {τ : DTE} {vs : List Nat} {a : Addr} {Q : DV} {ρ : DL.Env} {M : Mem} (f : D -> Option D) (xs : List D) (hl : xs.length <= 16777216) (hM : M a = none) (hC : ∀ M1, (∀ b, b ≠ a -> M1 b = M b) -> C M1)
    (step : ∀ x ∈ xs, ∀ (M1 : Mem) (T : Option D -> Mem -> Prop), (∀ b, b ≠ a -> M1 b = M b) -> T (f x) M1 -> γ x (wipeD ρ vs) M1 (fun ρ2 M2 => υ ρ2 M2 (fun b M3 => if b = true then τ ρ2 M3 (fun d M4 => T (some d) M4) noX else T none M3) noX) noX)
    (q : Q (.lst (xs.filterMap f)) M) : lcG C γ υ τ vs a xs ρ (updM M a (.lst [])) (endF a Q) := by
  have far : ∀ (d : D) b, b ≠ a -> updM M a d b = M b := fun d b hb => updM_ne hb
  refine lcG_run xs (fun done acc M1 => acc = done.filterMap f /\ M1 = updM M a (.lst acc)) ?_ ?_ ⟨rfl, rfl⟩
  · rintro done x rest acc M1 Nx e ha ⟨rfl, rfl⟩ nx
    have hx : x ∈ xs := by rw [e]; simp
    have hlen : (done.filterMap f).length < sizeLine := by
      have h1 := List.length_filterMap_le f done
      have h2 : done.length < xs.length := by rw [e]; simp
      rw [size_line]; omega
    refine ⟨hC _ (far _), step x hx _ (fun o M' => match o with
      | some d => ∃ acc, M' a = some (.lst acc) /\ acc.length < sizeLine /\ Nx (updM M' a (.lst (acc ++ [d])))
      | none => Nx M') (far _) ?_⟩
    cases hf : f x with
    | none => exact nx _ _ updM_same ⟨by simp [hf], by simp [hf]⟩
    | some d => exact ⟨_, updM_same, hlen, nx _ _ updM_same ⟨by simp [hf], by simp [hf, updM_updM]⟩⟩
  · rintro acc M1 ha ⟨rfl, rfl⟩
    exact ⟨hC _ (far _), _, updM_same, by rw [delM_updM hM]; exact q⟩
theorem dcG_fn {C : Mem -> Prop} {γ : DTG} {υ : DTT} {τk τv : DTE} {vs : List Nat} {a : Addr} {Q : DV} {ρ : DL.Env} {M : Mem} (kf vf : D -> D) (kk : D -> Key) (xs : List D) (hl : xs.length <= 16777216) (hM : M a = none) (hC : ∀ M1, (∀ b, b ≠ a -> M1 b = M b) -> C M1) (hnd : (xs.map kk).Nodup) (hk : ∀ x ∈ xs, keyD (kf x) = some (kk x))
    (step : ∀ x ∈ xs, ∀ (M1 : Mem) (T : D -> D -> Mem -> Prop) (N : Mem -> Prop), (∀ b, b ≠ a -> M1 b = M b) -> T (kf x) (vf x) M1 -> γ x (wipeD ρ vs) M1 (fun ρ2 M2 => υ ρ2 M2 (fun b M3 => if b = true then τk ρ2 M3 (fun kd M4 => τv ρ2 M4 (fun d M5 => T kd d M5) noX) noX else N M3) noX) noX)
    (q : Q (.dK (xs.map kk) (xs.map vf)) M) : dcG C γ υ τk τv vs a xs ρ (updM M a (.dK [] [])) Q := by
  have far : ∀ (d : D) b, b ≠ a -> updM M a d b = M b := fun d b hb => updM_ne hb
  have go : ∀ (rest done : List D), xs = done ++ rest -> dcG C γ υ τk τv vs a rest ρ (updM M a (.dK (done.map kk) (done.map vf))) Q := by
    intro rest
    induction rest with
    | nil =>
      intro done e
      rw [List.append_nil] at e
      subst e
      exact ⟨hC _ (far _), _, _, updM_same, by rw [delM_updM hM]; exact q⟩
    | cons x rest ih =>
      intro done e
      have hx : x ∈ xs := by rw [e]; simp
      refine ⟨hC _ (far _), step x hx _ (fun kd d M5 => ∃ k ks ds, keyD kd = some k /\ M5 a = some (.dK ks ds) /\ ks.length < sizeLine /\ dcG C γ υ τk τv vs a rest ρ (updM M5 a (.dK (putKs k ks) (putVs k d ks ds))) Q) _ (far _) ?_⟩
      have hnk : ((done.map kk).any fun j => decide (j = kk x)) = false := by
        rw [e, List.map_append, List.map_cons] at hnd
        have h3 := (List.nodup_append.mp hnd).2.2
        rw [List.any_eq_false]
        intro z hz
        have := h3 z hz (kk x) (by simp)
        simpa using this
      refine ⟨kk x, _, _, hk x hx, updM_same, ?_, ?_⟩
      · have h2 : done.length < xs.length := by rw [e]; simp
        simp; omega
      · have h5 := ih (done ++ [x]) (by rw [e, List.append_assoc]; rfl)
        rw [updM_updM]
        unfold putKs putVs
        rw [hnk]
        simpa using h5
  exact go xs [] rfl
theorem pl_of {d : D} {n : String} (h : tyName d = some n) (hs : ∀ z, d ≠ .str z) : Pl d := ⟨⟨n, h⟩, fun z e => absurd e (hs z)⟩
theorem pl_lit (z : String) (h1 : (Str.ofString z).length <= 1000) (h2 : (Str.ofString z).cps.toList.all (fun c => decide (c < 1114112)) = true) : Pl (.str z) := ⟨⟨_, rfl⟩, fun w e => by
  cases e
  exact ⟨h1, fun c hc => by simpa using List.all_eq_true.mp h2 c hc⟩⟩
theorem pl_name {x : List Nat} (h : NameOk x) (k : List Nat) (hk : k.length <= 10) (hk2 : ∀ c ∈ k, c < 1114112) : Pl (strD (x ++ k)) := ⟨⟨_, rfl⟩, fun w e => by
  cases e
  have := h.len
  refine ⟨by simp; omega, fun c hc => ?_⟩
  simp [S] at hc
  rcases hc with hc | hc
  · exact isS_lt (h.all c hc)
  · exact hk2 c hc⟩
theorem pl_nm {x : List Nat} (h : NameOk x) : Pl (strD x) := by simpa using pl_name h [] (by simp) (by simp)
end FL
set_option Elab.async false
set_option linter.all false
set_option maxRecDepth 100000
set_option maxHeartbeats 4000000
namespace DL
open PySem L2
section
variable {X : Cx} {cl : ClW}
end
def dPairs : List (DTE × DTE) -> DL.Env -> Mem -> (List (D × D) -> Mem -> Prop) -> DX -> Prop
  | [] => fun _ M Q _ => Q [] M
  | (τk, τv) :: r => fun ρ M Q X => τk ρ M (fun d M1 => τv ρ M1 (fun e M2 => dPairs r ρ M2 (fun ps M3 => Q ((d, e) :: ps) M3) X) X) X
section
variable {X : Cx} {cl : ClW} {W : WX} {pos : Pos}
structure DPs (cl : ClW) (X : Cx) (W : WX) (pos : Pos) (keys : List (Option Expr)) (values : List Expr) (prs : List (DTE × DTE)) : Prop where
  pps : PPs X pos keys values (prs.map fun q => (lowE X.K cl W q.1, lowE X.K cl W q.2))
theorem dps_nil : DPs cl X W pos [] [] [] := ⟨pps_nil⟩
theorem dps_cons {k v : Expr} {ks : List (Option Expr)} {vs : List Expr} {τk τv : DTE} {prs : List (DTE × DTE)} (hk : DE cl X W k τk) (hv : DE cl X W v τv) (hr : DPs cl X W pos ks vs prs) : DPs cl X W pos (some k :: ks) (v :: vs) ((τk, τv) :: prs) := ⟨pps_cons hk.pe hv.pe hr.pps⟩
inductive Pairs2 (K : PySem.W.Frag) (cl : ClW) (F : Hp) : List (V × V) -> List (D × D) -> Prop
  | nil : Pairs2 K cl F [] []
  | cons {x y : V} {d e : D} {ps : List (V × V)} {qs : List (D × D)} : Rep K cl F x d -> Rep K cl F y e -> Pairs2 K cl F ps qs -> Pairs2 K cl F ((x, y) :: ps) ((d, e) :: qs)
theorem pairs_low {K : PySem.W.Frag} {σ : St} : ∀ (prs : List (DTE × DTE)) {F H : Hp} {ρ : DL.Env} {M : Mem} {Q : List (V × V) -> Hp -> Prop} {Qd : List (D × D) -> Mem -> Prop} {Xd : DX}, Good K cl F H M -> Slots K cl F σ ρ -> dPairs prs ρ M Qd Xd ->
    (∀ ps qs H' F' M', Same F F' -> Good K cl F' H' M' -> Pairs2 K cl F' ps qs -> Qd qs M' -> Q ps H') -> WOk K cl W F Xd -> tPairs (prs.map fun q => (lowE K cl W q.1, lowE K cl W q.2)) σ H Q
  | [], F, H, ρ, M, Q, Qd, Xd, g, s, q, p, w => p [] [] H F M (Same.refl F) g .nil q
  | (τk, τv) :: prs, F, H, ρ, M, Q, Qd, Xd, g, s, q, p, w => by
    refine ⟨F, ρ, M, _, Xd, g, s, q, fun v H1 F1 d M1 sm1 g1 r1 q1 => ?_, w⟩
    refine ⟨F1, ρ, M1, _, Xd, g1, s.mono sm1, q1, fun u H2 F2 e M2 sm2 g2 r2 q2 => ?_, w.mono sm1⟩
    exact pairs_low prs g2 (s.mono (sm1.trans sm2)) q2 (fun ps qs H3 F3 M3 sm3 g3 r3 q3 => p _ _ H3 F3 M3 ((sm1.trans sm2).trans sm3) g3 (.cons (r1.mono (sm2.trans sm3)) (r2.mono sm3) r3) q3) (w.mono (sm1.trans sm2))
end
end DL
set_option Elab.async false
set_option linter.all false
set_option maxRecDepth 100000
set_option maxHeartbeats 4000000
namespace DL
open PySem L2
section
variable {cl : ClW} {X : Cx} {W : WX} {elt tg iter tg1 iter1 : Expr} {ifs ifs1 : List Expr} {scope : Scope} {own : List (Str × Nat)} {vs1 : List Nat} {pos : Pos} {ι ι1 : DTIg} {is is1 : List Nat} {γ γ1 : DTG} {υ υ1 : DTT} {τ : DTE}
end
end DL
set_option Elab.async false
set_option linter.all false
set_option maxRecDepth 100000
set_option maxHeartbeats 4000000
namespace DL
open PySem L2
def cmpX (k : Int -> Int -> Bool) (f : Ordering -> Bool) : D -> D -> Option D
  | .byt x, .byt y => some (.bl (f (Builtin.Bytes.order x.toList y.toList)))
  | d, e => cmpD k d e
section
variable {K : PySem.W.Frag} {cl : ClW}
end
section
variable {X : Cx}
end
def is8 (ns : List Int) : Bool := ns.all fun n => decide (0 <= n) && decide (n < 256)
theorem is8_iff {ns : List Int} : is8 ns = true ↔ ∀ n ∈ ns, 0 <= n /\ n < 256 := by simp [is8, List.all_eq_true]
def bytesF : List D -> Option D
  | [.lst xs] => (intsOf xs).bind fun ns => if is8 ns = true then some (.byt (byteArr ns)) else none
  | [.tup xs] => (intsOf xs).bind fun ns => if is8 ns = true then some (.byt (byteArr ns)) else none
  | [.byt b] => some (.byt b)
  | _ => none
theorem intsSome {xs : List D} {z : D} {f : List Int -> D} (h : ((intsOf xs).bind fun ns => if is8 ns = true then some (f ns) else none) = some z) : ∃ ns, xs = ns.map D.int /\ (∀ n ∈ ns, 0 <= n /\ n < 256) /\ z = f ns := by
  cases e : intsOf xs with
  | none => rw [e] at h; cases h
  | some ns =>
    rw [e] at h
    simp only [Option.bind_some] at h
    by_cases k : is8 ns = true
    · rw [if_pos k] at h
      cases h
      exact ⟨ns, intsOf_eq e, is8_iff.mp k, rfl⟩
    · rw [if_neg k] at h; cases h
section
variable {K : PySem.W.Frag} {cl : ClW} {X : Cx}
def rBytes (K : PySem.W.Frag) : List V -> Hp -> VK -> Prop := fun xs H Q => r1 (kByts K) xs H Q \/ ∃ p ns, xs = [.ref p] /\ SqT K H p (ns.map V.int) /\ B8 ns /\ Q (.byt (byteArr ns)) H
theorem call_bytesA (hc : X.calm = true) : CallR X (.type "bytes") (rBytes X.K) := by
  intro pins s σ H xs us Q I r h
  rcases h with h | h
  · exact call_r1 (rl_bytes hc) pins s σ H xs us Q I r h
  · exact call_bytes_tup hc pins s σ H xs us Q I r h
theorem lc_bytes : LCall K cl (rBytes K) bytesF := by
  intro F H M xs ds z Q Qd g r h p q
  generalize e : ds.map (vw M) = es at h
  unfold bytesF at h
  split at h
  · obtain ⟨x, rfl, hv⟩ := reps1 g r e
    obtain ⟨a, vs, rfl, h1, h2⟩ := hv.lst g.sub
    obtain ⟨ns, rfl, h8, rfl⟩ := intsSome (f := fun ns => D.byt (byteArr ns)) h
    rw [h2.ints] at h1
    exact .inl (.inr ⟨a, ns, rfl, h1, h8, p.val g (.byt _) q⟩)
  · obtain ⟨x, rfl, hv⟩ := reps1 g r e
    obtain ⟨a, vs, rfl, h1, h2⟩ := hv.tup g.sub
    obtain ⟨ns, rfl, h8, rfl⟩ := intsSome (f := fun ns => D.byt (byteArr ns)) h
    rw [h2.ints] at h1
    exact .inr ⟨a, ns, rfl, h1, h8, p.val g (.byt _) q⟩
  · cases h
    obtain ⟨x, rfl, hv⟩ := reps1 g r e
    obtain rfl := hv.byt
    exact .inl (.inl ⟨_, rfl, p.val g (.byt _) q⟩)
  · cases h
def slB : D -> Option Int -> Option Int -> Option D
  | .byt b, lo, hi => if b.size <= 16777216 then some (.byt (PySem.W.KBy.picked b lo hi)) else none
  | _, _, _ => none
theorem d_sliceB {W : WX} {e : Expr} {τ : DTE} {lo hi : Option Expr} {τl τh : DTO} {p2 pos : Pos} (he : DE cl X W e τ) (hl : DO cl X W lo τl) (hu : DO cl X W hi τh) : DE cl X W (.Subscript e (.Slice lo hi none p2) pos) (dSl slB τ τl τh) :=
  ⟨pe_imp (pe_slice sl_byt he.pe hl.po hu.po) fun σ H Q ⟨F, ρ, M, Qd, Xd, g, s, t, p, w⟩ =>
    ⟨F, ρ, M, _, Xd, g, s, t, fun v H1 F1 d M1 sm1 g1 r1 q1 => ⟨F1, ρ, M1, _, Xd, g1, s.mono sm1, q1, fun l H2 F2 M2 sm2 g2 q2 => ⟨F2, ρ, M2, _, Xd, g2, s.mono (sm1.trans sm2), q2, fun h H3 F3 M3 sm3 g3 q3 => (by
      obtain ⟨z, e1, e2⟩ := q3
      have hv := vw_ok g3 (r1.mono (sm2.trans sm3))
      have p' := p.mono ((sm1.trans sm2).trans sm3)
      cases hd : vw M3 d with
      | byt b =>
        rw [hd] at hv e1
        simp only [slB] at e1
        split at e1
        · cases e1
          obtain rfl := hv.byt
          exact ⟨b, rfl, by assumption, p'.val g3 (.byt _) e2⟩
        · cases e1
      | _ => rw [hd] at e1; cases e1), w.mono (sm1.trans sm2)⟩, w.mono sm1⟩, w⟩⟩
def rIxB : R2 := fun x y H Q => ∃ (b : Array UInt8) (i : Int) (k : Nat) (c : UInt8), x = .byt b /\ y = .int i /\ b.size <= 16777216 /\ seqIndex? i b.size = some k /\ b[k]? = some c /\ Q (.int (c.toNat : Nat)) H
theorem ix_byt : IxR X rIxB := by
  intro value slice pins s σ H x y v u Q I rx ry h hs
  obtain ⟨b, i, k, c, rfl, rfl, hz, hk, hc, q⟩ := h
  obtain ⟨t, rfl⟩ := rx
  obtain ⟨t', rfl⟩ := ry
  refine PyProof.Rows.tail_any (PySem.W.typeIs_bytes s b t) PySem.W.FB.slot_bytes_getitem.lookup (PySem.getItem_gives (PySem.W.typeIs_bytes s _ t) (by decide) PySem.W.FB.slot_bytes_getitem PySem.W.FB.entry_bytes_getitem (PySem.W.FB.args_bytes_getitem_2 _ _) (PySem.W.gives_bytes_getitem _ i t t' c ?_ ?_) ⟨.int (c.toNat : Nat), H, I.tok _, ⟨_, rfl⟩, q⟩) hs
  · unfold seqIndex? at hk
    simp only [Builtin.Bytes.fitsIndex, Bool.and_eq_true, decide_eq_true_eq]
    dsimp only at hk
    split at hk <;> split at hk <;> simp_all <;> omega
  · rw [hk]; simpa using hc
def ixB : D -> D -> Option D
  | .byt b, .int i => if b.size <= 16777216 then (seqIndex? i b.size).bind fun k => (b[k]?).map fun c => .int (c.toNat : Nat) else none
  | _, _ => none
theorem lixB : LOp K cl rIxB ixB := by
  intro F H M x y d e z Q Qd g hx hy h p q
  unfold ixB at h
  split at h
  · rename_i b i
    obtain rfl := hx.byt; obtain rfl := hy.int
    split at h
    · cases e1 : seqIndex? i b.size with
      | none => rw [e1] at h; cases h
      | some k =>
        rw [e1] at h
        simp only [Option.bind_some] at h
        cases e2 : b[k]? with
        | none => rw [e2] at h; cases h
        | some c =>
          rw [e2] at h
          cases h
          exact ⟨b, i, k, c, rfl, rfl, by assumption, e1, e2, p.val g (.int _) q⟩
    · cases h
  · cases h
theorem d_ixB {W : WX} {a b : Expr} {pos : Pos} {τa τb : DTE} (ha : DE cl X W a τa) (hb : DE cl X W b τb) (hs : PlainIx b := by exact fun _ _ => rfl) : DE cl X W (.Subscript a b pos) (dOp ixB τa τb) :=
  ⟨pe_imp (pe_ix ix_byt ha.pe hb.pe hs) fun σ H Q ⟨F, ρ, M, Qd, Xd, g, s, t, p, w⟩ =>
    ⟨F, ρ, M, _, Xd, g, s, t, fun v H' F' d M' sm g' r' q => ⟨F', ρ, M', _, Xd, g', s.mono sm, q, fun u H2 F2 e M2 sm2 g2 r2 q2 => by
      obtain ⟨z, e1, e2⟩ := q2
      exact lixB F2 H2 M2 v u _ _ z Q Qd g2 (vw_ok g2 (r'.mono sm2)) (vw_ok g2 r2) e1 (p.mono (sm.trans sm2)) e2, w.mono sm⟩, w⟩⟩
end
end DL
set_option Elab.async false
set_option linter.all false
set_option maxRecDepth 100000
set_option maxHeartbeats 4000000
set_option autoImplicit false
namespace DL
open PySem L2
section
variable {cl : ClW} {X : Cx} {W : WX} {x : Str} {pos : Pos}
end
end DL
set_option Elab.async false
set_option linter.all false
set_option maxRecDepth 100000
set_option maxHeartbeats 4000000
set_option autoImplicit false
namespace DL
open PySem L2 PySem.SeqAt
section
variable {A : Around} {s : Shared}
end
def bulky : D -> Bool
  | .lst _ => true
  | .tup _ => true
  | .dK _ _ => true
  | _ => false
@[simp] def bInX (neg : Bool) : DB2 := fun d e _ M Q _ => ∃ (d' : D) (n : Nat) (zs : List Str), Dv M d d' /\ plX n d' = true /\ bulky d' = true /\ vw M e = .lst (zs.map D.str) /\ Q (.bl neg) M
section
variable {cl : ClW} {X : Cx} {W : WX} {pins : List (Addr × Obj)} {σ : St} {H : Hp} {s : Shared}
end
end DL
set_option Elab.async false
set_option linter.all false
set_option maxRecDepth 100000
set_option autoImplicit false
namespace DL
open PySem L2
theorem opt_pair {α β γ : Type} {o : Option α} {f : α -> β} {g : α -> γ} {a : β} {b : γ} (h1 : o.map f = some a) (h2 : o.map g = some b) : ∃ s, o = some s /\ f s = a /\ g s = b := by
  cases o with
  | none => cases h1
  | some s => exact ⟨s, rfl, Option.some.inj h1, Option.some.inj h2⟩
end DL
set_option Elab.async false
set_option linter.all false
set_option maxRecDepth 100000
set_option maxHeartbeats 4000000
namespace DL
open PySem L2
def dSlM (τ : DTE) (lo hi : DTO) : DTE := fun ρ M Q X => τ ρ M (fun d M1 => lo ρ M1 (fun l M2 => hi ρ M2 (fun h M3 => ∃ xs, vw M3 d = .lst xs /\ ∀ a, M3 a = none -> Q (.ref a) (updM M3 a (.lst (cutD xs l h)))) X) X) X
section
variable {cl : ClW} {X : Cx} {W : WX} {e : Expr} {τ : DTE} {pos : Pos}
theorem d_sliceM {lo hi : Option Expr} {τl τh : DTO} {p2 : Pos} (he : DE cl X W e τ) (hl : DO cl X W lo τl) (hu : DO cl X W hi τh) : DE cl X W (.Subscript e (.Slice lo hi none p2) pos) (dSlM τ τl τh) :=
  ⟨pe_imp (pe_slice sl_list he.pe hl.po hu.po) fun σ H Q ⟨F, ρ, M, Qd, Xd, g, s, t, p, w⟩ =>
    ⟨F, ρ, M, _, Xd, g, s, t, fun v H1 F1 d M1 sm1 g1 r1 q1 => ⟨F1, ρ, M1, _, Xd, g1, s.mono sm1, q1, fun l H2 F2 M2 sm2 g2 q2 => ⟨F2, ρ, M2, _, Xd, g2, s.mono (sm1.trans sm2), q2, fun h H3 F3 M3 sm3 g3 q3 => (by
      obtain ⟨xs, e1, e2⟩ := q3
      have hv := vw_ok g3 (r1.mono (sm2.trans sm3))
      rw [e1] at hv
      obtain ⟨a, vs, rfl, h1, h2⟩ := hv.lst g3.sub
      exact ⟨a, vs, rfl, h1, fun c hc => p _ _ F3 _ _ ((sm1.trans sm2).trans sm3) (g3.newM (d := .lst (cutD xs l h)) hc ⟨_, upd_same, reps_cut h2 l h⟩) (.ref c) (e2 c (g3.freshM hc))⟩), w.mono (sm1.trans sm2)⟩, w.mono sm1⟩, w⟩⟩
end
@[simp] def bEqE : DB2 := fun d e _ M Q _ => ∃ xs ys, vw M d = .lst xs /\ vw M e = .lst ys /\ (xs = [] \/ ys = []) /\ Q (.bl (xs.isEmpty && ys.isEmpty)) M
@[simp] def bNeE : DB2 := fun d e _ M Q _ => ∃ xs ys, vw M d = .lst xs /\ vw M e = .lst ys /\ (xs = [] \/ ys = []) /\ Q (.bl (!(xs.isEmpty && ys.isEmpty))) M
section
open PySem.SeqAt
variable {cl : ClW} {X : Cx} {W : WX}
theorem bin_eqE (hu : X.A.units + 64 < cLine) : BinG cl X W (compareOp .Eq) bEqE := fun pins s σ H F ρ M v u x y d e Q Qd Xd I rx ry g sl r1 r2 q p w => by
  obtain ⟨xs, ys, e1, e2, hz, q⟩ := q
  have h1 := vw_ok g r1
  have h2 := vw_ok g r2
  rw [e1] at h1
  rw [e2] at h2
  obtain ⟨a, vs, rfl, a1, a2⟩ := h1.lst g.sub
  obtain ⟨b, us, rfl, b1, b2⟩ := h2.lst g.sub
  cases rx
  cases ry
  obtain ⟨is, i1, i2, _⟩ := I.list a1
  obtain ⟨js, j1, j2, _⟩ := I.list b1
  have l1 := i1.length
  have l2 := j1.length
  have l3 := a2.length
  have l4 := b2.length
  by_cases hl : xs.length = ys.length
  · have x0 : xs = [] := by rcases hz with z | z <;> subst z <;> simpa using hl
    have y0 : ys = [] := by subst x0; simpa using hl.symm
    subst x0 y0
    have i0 : is = [] := by simpa [l3] using l1.symm
    have j0 : js = [] := by simpa [l4] using l2.symm
    subst i0 j0
    exact RcAt.lists (e := fun _ => true) i2.isList j2.isList rfl (by omega) (fun j h => absurd h (by simp)) X.prog X.w X.xe _ ⟨.bl true, H, I, rfl, p.val g (.bl _) q⟩
  · have e0 : (xs.isEmpty && ys.isEmpty) = false := by cases xs <;> cases ys <;> simp at hl ⊢
    rw [e0] at q
    exact RcAt.lists_lengths i2.isList j2.isList (by simp; omega) (by omega) X.prog X.w X.xe _ ⟨.bl false, H, I, rfl, p.val g (.bl _) q⟩
theorem bin_neE (hu : X.A.units + 64 < cLine) : BinG cl X W (compareOp .NotEq) bNeE := fun pins s σ H F ρ M v u x y d e Q Qd Xd I rx ry g sl r1 r2 q p w => by
  obtain ⟨xs, ys, e1, e2, hz, q⟩ := q
  have h1 := vw_ok g r1
  have h2 := vw_ok g r2
  rw [e1] at h1
  rw [e2] at h2
  obtain ⟨a, vs, rfl, a1, a2⟩ := h1.lst g.sub
  obtain ⟨b, us, rfl, b1, b2⟩ := h2.lst g.sub
  cases rx
  cases ry
  obtain ⟨is, i1, i2, _⟩ := I.list a1
  obtain ⟨js, j1, j2, _⟩ := I.list b1
  have l1 := i1.length
  have l2 := j1.length
  have l3 := a2.length
  have l4 := b2.length
  by_cases hl : xs.length = ys.length
  · have x0 : xs = [] := by rcases hz with z | z <;> subst z <;> simpa using hl
    have y0 : ys = [] := by subst x0; simpa using hl.symm
    subst x0 y0
    have i0 : is = [] := by simpa [l3] using l1.symm
    have j0 : js = [] := by simpa [l4] using l2.symm
    subst i0 j0
    exact RcNeAt.lists (e := fun _ => true) i2.isList j2.isList rfl (by omega) (fun j h => absurd h (by simp)) X.prog X.w X.xe _ ⟨.bl false, H, I, rfl, p.val g (.bl _) q⟩
  · have e0 : (xs.isEmpty && ys.isEmpty) = false := by cases xs <;> cases ys <;> simp at hl ⊢
    rw [e0] at q
    exact RcNeAt.lists_lengths i2.isList j2.isList (by simp; omega) (by omega) X.prog X.w X.xe _ ⟨.bl true, H, I, rfl, p.val g (.bl _) q⟩
end
end DL
set_option Elab.async false
set_option linter.all false
set_option maxRecDepth 100000
set_option maxHeartbeats 4000000
namespace DL
open PySem L2
end DL
set_option Elab.async false
set_option linter.all false
set_option maxRecDepth 100000
set_option maxHeartbeats 4000000
namespace DL
open PySem L2
mutual
def toPyX : D -> Option PyData
  | .non => some .none
  | .bl b => some (.bool b)
  | .int i => some (.int i)
  | .str x => some (.str x)
  | .lst xs => (toPyXs xs).map .list
  | .tup xs => (toPyXs xs).map .tuple
  | .dK [] [] => some (.dict [])
  | _ => none
def toPyXs : List D -> Option (List PyData)
  | [] => some []
  | d :: ds => (toPyX d).bind fun p => (toPyXs ds).map fun ps => p :: ps
end
def SmOk (K : PySem.W.Frag) : Prop := ∃ o, K.lookup sysModules = some o /\ o.cls = .type "dict"
def smB (K : PySem.W.Frag) : Bool := match K.lookup sysModules with
  | some o => o.cls == .type "dict"
  | none => false
theorem smB_ok {K : PySem.W.Frag} (h : smB K = true) : SmOk K := by
  unfold smB at h
  split at h
  · exact ⟨_, by assumption, beq_iff_eq.mp h⟩
  · cases h
section
variable {X : Cx} {cl : ClW} {pins : List (Addr × Obj)} {σ : St} {H : Hp} {s : Shared}
theorem sm_ne (I : Inv X pins σ H s) (sm : SmOk X.K) {a : Addr} {o : Obj} (h : s.heap.get? a = some o) (hc : o.cls = .type "list") : sysModules ≠ a := fun e => by
  obtain ⟨o', h1, h2⟩ := sm
  have := I.kIn _ _ h1
  rw [e, h] at this
  have e2 := Option.some.inj this
  rw [<- e2, hc] at h2
  exact absurd h2 (by decide)
mutual
theorem reads_of (I : Inv X pins σ H s) (sm : SmOk X.K) : ∀ {x : V} {d : D}, Rep X.K cl H x d -> ∀ {u : Value} {p : PyData}, RelV x u -> toPyX d = some p -> ∃ as, Reads s.heap u p as /\ sysModules ∉ as
  | _, _, .non, u, p, r, e => by cases (show u = Value.none from r); cases e; exact ⟨[], .none, by simp⟩
  | _, _, .bl b, u, p, r, e => by cases (show u = Value.bool b from r); cases e; exact ⟨[], .bool b, by simp⟩
  | _, _, .int i, u, p, r, e => by obtain ⟨t, rfl⟩ := r; cases e; exact ⟨[], .int i t, by simp⟩
  | _, _, .str z, u, p, r, e => by obtain ⟨t, rfl⟩ := r; cases e; exact ⟨[], .str z t, by simp⟩
  | _, _, .lst h1 h2, u, p, r, e => by
    cases (show u = Value.ref _ from r)
    obtain ⟨us, r1, p1, _⟩ := I.list h1
    obtain ⟨o, ho, hc, n, hd⟩ := p1.isList
    simp only [toPyX] at e
    obtain ⟨ps, e1, rfl⟩ := Option.map_eq_some_iff.mp e
    obtain ⟨as, q1, q2⟩ := readss_of I sm h2 r1 e1
    refine ⟨_, .list ho hc hd q1, ?_⟩
    intro z
    rcases List.mem_cons.mp z with z | z
    · exact sm_ne I sm ho hc z
    · exact q2 z
  | _, _, .tup h1 h2, u, p, r, e => by
    cases (show u = Value.ref _ from r)
    obtain ⟨us, r1, p1, _⟩ := I.tuple h1.sq
    obtain ⟨o, ho, hc, n, hd⟩ := p1
    simp only [toPyX] at e
    obtain ⟨ps, e1, rfl⟩ := Option.map_eq_some_iff.mp e
    obtain ⟨as, q1, q2⟩ := readss_of I sm h2 r1 e1
    exact ⟨_, .tuple ho hc hd q1, q2⟩
  | _, _, .dK (a := a) (ks := ks) (ds := ds) h1 h2 h3, u, p, r, e => by
    cases (show u = Value.ref _ from r)
    obtain ⟨_, y, us, r1, dd⟩ := (show ObjOk X.prog X.w H s.heap _ (.dK _) from I.hok _ _ h1)
    cases ks with
    | cons k ks => simp [toPyX] at e
    | nil =>
      cases ds with
      | cons d ds => simp [toPyX] at e
      | nil =>
        cases e
        have hu : us = [] := by
          have := KV.length r1
          simp at this
          exact List.eq_nil_of_length_eq_zero this.symm
        subst hu
        obtain ⟨o, es, ep, ho, hx, hd, _, hp, _⟩ := dd
        have he : es.toList = [] := List.eq_nil_of_length_eq_zero (by rw [hp.length]; rfl)
        refine ⟨a :: [] ++ [], .dict ho hx.1 hd (kvs := []) (by rw [he]; exact .nil) (by rw [he]; exact .nil), ?_⟩
        simp only [List.append_nil, List.mem_singleton]
        intro z
        rw [<- z] at y
        cases y
  | _, _, .byt b, u, p, r, e => by simp [toPyX] at e
  | _, _, .ty b, u, p, r, e => by simp [toPyX] at e
  | _, _, .ref b, u, p, r, e => by simp [toPyX] at e
  | _, _, .cls b, u, p, r, e => by simp [toPyX] at e
  | _, _, .dT _ _ _ _, u, p, r, e => by simp [toPyX] at e
  | _, _, .obj _ _ _, u, p, r, e => by simp [toPyX] at e
  | _, _, .exc _ _ _, u, p, r, e => by simp [toPyX] at e
  | _, _, .xob _ _ _, u, p, r, e => by simp [toPyX] at e
  | _, _, .thk _ _, u, p, r, e => by simp [toPyX] at e
  | _, _, .dN _ _ _, u, p, r, e => by simp [toPyX] at e
theorem readss_of (I : Inv X pins σ H s) (sm : SmOk X.K) : ∀ {xs : List V} {ds : List D}, Reps X.K cl H xs ds -> ∀ {us : List Value} {ps : List PyData}, Vals xs us -> toPyXs ds = some ps -> ∃ as, ReadsAll s.heap us ps as /\ sysModules ∉ as
  | _, _, .nil, us, ps, r, e => by cases r; cases e; exact ⟨[], .nil, by simp⟩
  | _, _, .cons h t, us, ps, r, e => by
    cases r with
    | cons r1 r2 =>
      simp only [toPyXs] at e
      obtain ⟨p, e1, e2⟩ := Option.bind_eq_some_iff.mp e
      obtain ⟨ps, e3, rfl⟩ := Option.map_eq_some_iff.mp e2
      obtain ⟨as, a1, a2⟩ := reads_of I sm h r1 e1
      obtain ⟨bs, b1, b2⟩ := readss_of I sm t r2 e3
      exact ⟨_, .cons a1 b1, fun z => (List.mem_append.mp z).elim a2 b2⟩
end
end
section
variable {K : PySem.W.Frag} {cl : ClW} {X : Cx}
end
end DL
set_option Elab.async false
set_option linter.all false
set_option maxRecDepth 100000
set_option maxHeartbeats 4000000
set_option autoImplicit false
namespace DL
open PySem L2 PyProof.Rows
structure KeyS (x : Str) (scope : Scope) : Prop where
  kind : scope.kind = .function
  co : scope.isCoroutine = false
  gen : scope.isGenerator = false
  own : scope.names.lookup x = some .local
  nc : ∀ y ∈ scope.names, y.2 ≠ .cell
  nf : ∀ y ∈ scope.names, y.2 ≠ .free
def keySB (x : Str) (scope : Scope) : Bool := decide (scope.kind = .function) && (!scope.isCoroutine && (!scope.isGenerator && (decide (scope.names.lookup x = some .local) && scope.names.all fun y => !decide (y.2 = .cell) && !decide (y.2 = .free))))
theorem keyS_by {x : Str} {scope : Scope} (h : keySB x scope = true) : KeyS x scope := by
  unfold keySB at h
  simp only [Bool.and_eq_true, Bool.not_eq_true', decide_eq_true_eq, decide_eq_false_iff_not, List.all_eq_true] at h
  obtain ⟨h1, h2, h3, h4, h5⟩ := h
  exact ⟨h1, h2, h3, h4, fun y hy => (h5 y hy).1, fun y hy => (h5 y hy).2⟩
theorem clo_nil {cells : List (Str × Addr)} : ∀ {ns : List (Str × NameKind)}, (∀ y ∈ ns, y.2 ≠ .free) -> cloFrom cells ns [] = [] := fun {ns} h => by
  cases e : cloFrom cells ns [] with
  | nil => rfl
  | cons p r =>
    have hm : p ∈ cloFrom cells ns [] := by rw [e]; simp
    rcases cloFrom_mem (cells := cells) (names := ns) (acc := []) (n := p.1) (c := p.2) hm with z | ⟨z, _⟩
    · cases z
    · exact absurd rfl (h _ z)
section
variable {P : Program} {w : World} {A : Around} {s : Shared}
theorem call_item {f c' t : Addr} {q x : Str} {params : Arguments} {scope : Scope} {pm ctv u : Value} {i : Nat} {p1 p2 p3 : Pos} {j : Nat} {its : Array Value} (hroom : A.depth < recursionLimit)
    (hf : s.heap.get? f = some (PySem.W.kla_obj "<lambda>" q params (.Subscript (.Name x p1) (.Constant (.int i) j p2) p3) scope [] pm c' ctv))
    (hc : ∃ (oc : Obj) (vs : Array Value) (t : Tok), s.heap.get? c' = some oc /\ oc.data = .fields vs /\ vs[1]? = some (.str q t)) (lim : s.heap.NoLimit) (L : KeyS x scope)
    (hbind : ∀ v : Value, bindArgs (PySem.W.kla_fn "<lambda>" q params (.Subscript (.Name x p1) (.Constant (.int i) j p2) p3) scope [] pm (.ref c') ctv) ⟨[v], []⟩ = pure [(x, v)]) (hd : (x == ("__debug__" : Str)) = false)
    (ht : IsTup s.heap t its) (hi : its[i]? = some u) (hi2 : i < 1000) (hs : PlainIx (.Constant (.int i) j p2)) :
    wpAny (model P w) A (call (.ref f) [.ref t]) (fun r s' => r = u /\ ∃ h' tk, s' = { s with heap := h', toks := tk } /\ ∀ b o, s.heap.get? b = some o -> h'.get? b = some o) (fun _ _ => False) s := by
  obtain ⟨oc, vs, tq, hoc, hdc, hvc⟩ := hc
  refine wpAny_call (codeAny_mono (R := fun r s' => ∃ v, r = .ok (.ret v) /\ v = u /\ ∃ h' tk, s' = { s with heap := h', toks := tk } /\ ∀ b o, s.heap.get? b = some o -> h'.get? b = some o) ?_ fun r s' hq => ?_)
  · refine PySem.W.kla_callFunE hroom hf rfl L.co L.gen rfl ⟨c', oc, vs, tq, rfl, hoc, hdc, hvc⟩ ?_
    rw [hbind]
    refine wpAny_pure (wpAny_newFunctionEnv (fun y hy => L.nc y hy) (fun y hy => by rw [List.mem_singleton.mp hy]; exact L.own) (fun h₁ hns hsb => ⟨lim.fresh _ hsb, ?_⟩) L.kind)
    have kp : ∀ b o, s.heap.get? b = some o -> h₁.get? b = some o := fun b o e => hsb.extBut b o (Nat.ne_of_lt (Heap.lt_size e)) (Heap.get?_push_of_some _ e)
    refine PySem.W.kla_codeExpr (Subscript_ (wpAny_Name (wpAny_loadName_local L.kind L.own hns (v := .ref t) (by simp) (wpAny_Constant_int ?_)) hd))
    have ht1 : IsTup h₁ t its := ht.keeps kp
    have hil : i < its.size := by
      rcases Nat.lt_or_ge i its.size with z | z
      · exact z
      · rw [Array.getElem?_eq_none z] at hi; cases hi
    refine subscriptTail_builtinR (x := u) ht1.typeIs slot_tuple_getitem.lookup (getItem_tuple (j := i) ht1 (by omega) (by omega) ?_ hi ⟨rfl, ?_⟩) (hs _ _)
    · have := seqIndex_at (i := (i : Int)) (n := its.size) (by omega) (by omega)
      simpa using this
    · exact ⟨u, rfl, rfl, _, _, rfl, kp⟩
  · obtain ⟨v, rfl, rfl, h⟩ := hq
    exact ⟨rfl, h⟩
end
theorem Good.extN {K : PySem.W.Frag} {cl : ClW} {F H H2 : Hp} {M : Mem} (g : Good K cl F H M) (e : LamX.ExtN H H2) (t : LamX.Tabs (tabsOf cl) H2) : Good K cl F H2 M :=
  ⟨fun a u h => e a u (g.sub a u h) fun ps z => g.noT a ps (by rw [h, z]), fun a d h => by
    obtain ⟨h1, h2⟩ := g.cell a d h
    obtain ⟨o, k1, k2, _⟩ := h2.plain
    refine ⟨h1, h2.mono (Same.refl F) fun u hu => e a u hu ?_⟩
    rw [k1] at hu
    rw [<- Option.some.inj hu]
    exact k2, t, g.noT⟩
theorem each_vals {R : Value -> V × D -> Prop} {K : PySem.W.Frag} {cl : ClW} {F : Hp} (h1 : ∀ v b, R v b -> RelV b.1 v /\ Rep K cl F b.1 b.2) {vs : List Value} {bs : List (V × D)} (e : PySem.W.EachIs R vs bs) : Vals (bs.map (·.1)) vs /\ Reps K cl F (bs.map (·.1)) (bs.map (·.2)) := by
  induction e with
  | nil => exact ⟨.nil, .nil⟩
  | cons a b ih => exact ⟨.cons (h1 _ _ a).1 ih.1, .cons (h1 _ _ a).2 ih.2⟩
section
variable {cl : ClW} {X : Cx} {W : WX} {e : Expr} {α : DTA} {p p1 p2 p3 pos lpos kpos : Pos} {k i j : Nat} {cc P : Addr} {x : Str} {params : Arguments} {scope : Scope}
end
end DL
set_option Elab.async false
set_option linter.all false
set_option maxRecDepth 100000
set_option maxHeartbeats 4000000
set_option autoImplicit false
namespace DL
open PySem L2
section
variable {K : PySem.W.Frag} {cl : ClW}
end
inductive DJ (cl : ClW) (X : Cx) (W : WX) : List Expr -> List DTE -> Prop where
  | nil : DJ cl X W [] []
  | cons {e : Expr} {τ : DTE} {es : List Expr} {ts : List DTE} (h : DE cl X W e τ) (r : DJ cl X W es ts) : DJ cl X W (e :: es) (τ :: ts)
section
variable {cl : ClW} {X : Cx} {W : WX} {e e1 e2 o : Expr} {es : List Expr} {ts : List DTE} {pos tpos : Pos} {τ τo τv : DTE} {f : Str} {cs : List Nat}
end
end DL
set_option Elab.async false
set_option linter.all false
set_option maxRecDepth 100000
set_option maxHeartbeats 4000000
set_option autoImplicit false
namespace DL
open PySem L2
section
variable {cl : ClW} {X : Cx} {W : WX} {j k c : Nat} {ps : List Str} {spd : SpD} {x : Str} {p sp_ pos : Pos} {e : Expr} {τ : DTE}
end
section
variable {K : PySem.W.Frag} {cl : ClW}
end
end DL
set_option Elab.async false
set_option linter.all false
set_option autoImplicit false
set_option maxRecDepth 100000
set_option maxHeartbeats 2000000
namespace DL
open PySem L2 PySem.W PySem.Spec
structure TabsAt (K : Frag) (h : Heap) (cs : List (Addr × Addr)) : Prop where
  at_ : ∀ p ∈ cs, h.get? p.2 = some { cls := .none, data := .fields #[] }
  off : ∀ p ∈ cs, K.lookup p.2 = none
  code : ∀ p ∈ cs, CodeHd h p.1 p.2
theorem law_endT {cl : ClW} {P : Program} {w : World} {K : Frag} {mg mb : Str -> Option Value} {k : Nat} {fa a : Addr} {x : Str} {spd : SpD} {s0 : Shared} {vs : List Value} {ns : List Int} {cs : List (Addr × Addr)} {F0 : Hp}
    (KX : K.In s0.heap) (hns : s0.heap.Ns mainGlobals mg) (hb : s0.heap.Ns builtinsNs mb) (hbb : ∀ x : Str, x ≠ "__name__" -> mb x = bootBuiltins x) (hlim : s0.heap.NoLimit) (hg : s0.gens = #[]) (T : TabsAt K s0.heap cs)
    (hbm : ∃ (bm : Addr) (ob : Obj), mg "__builtins__" = some (.ref bm) /\ bm ≠ builtinsNs /\ s0.heap.get? bm = some ob /\ ob.cls = .type "module" /\ ob.dict = some builtinsNs /\ ob.data = .plain)
    (ha : s0.heap.get? a = some { cls := .type "list", data := .seq vs.toArray }) (hr : RoomG k callerA)
    (F : ∀ base : Heap, K.In base -> base.Ns mainGlobals mg -> (∀ p ∈ cs, LamX.TabB base mg p.1 p.2) -> ∃ fd, Binds K fd [x] [] /\ FnG cl P w K mg base k fa fd [x] spd)
    (hF : ∀ b, F0 b = none \/ ∃ o xs, F0 b = some (.frz o (.lst xs))) (hS : SqL K F0 a (ns.map V.int)) (hFa : ∀ b, F0 b ≠ none -> b = a) (hok : HOk P w (fun b => if b ∈ cs.map (·.2) then some (.tbl #[]) else F0 b) s0.heap) (hK : F0 a ≠ none -> K.lookup a = none)
    (hT : ∀ q ∈ tabsOf cl, q.1 ∈ cs.map (·.2)) (hsp : ∀ (M : Mem) (Qd : DV) (Ed : DEK), (∀ M', Qd (.bl true) M') -> spd [.lst (ns.map D.int)] M Qd Ed) :
    codeAny (model P w) callerA (.call (.ref fa) ⟨[.ref a], []⟩) (fun r s' => r = .ok (.ret (.bool true)) /\ OldK s0.heap s'.heap /\ s'.os = s0.os /\ PyProof.Rows.AllBare s'.gens) s0 := by
  have isT : ∀ b ∈ cs.map (·.2), s0.heap.get? b = some { cls := .none, data := .fields #[] } := fun b hbm => by
    obtain ⟨p, hp, rfl⟩ := List.mem_map.mp hbm
    exact T.at_ p hp
  have aT : a ∉ cs.map (·.2) := fun z => by
    have e := isT a z
    rw [ha] at e
    cases congrArg Obj.data (Option.some.inj e)
  generalize hH : (fun b => if b ∈ cs.map (·.2) then some (.tbl #[]) else F0 b : Hp) = H at hok
  have Ht : ∀ {b}, b ∈ cs.map (·.2) -> H b = some (.tbl #[]) := fun h => by rw [<- hH]; exact if_pos h
  have Hn : ∀ {b}, b ∉ cs.map (·.2) -> H b = F0 b := fun h => by rw [<- hH]; exact if_neg h
  have dom : ∀ {b}, H b ≠ none -> b = a \/ b ∈ cs.map (·.2) := fun {b} h => by
    by_cases hm : b ∈ cs.map (·.2)
    · exact .inr hm
    · rw [Hn hm] at h
      exact .inl (hFa b h)
  -- what is neither a list nor an empty table is not tracked
  have free : ∀ {b : Addr} {o : Obj}, s0.heap.get? b = some o -> (∀ xs n, o.data ≠ .seq xs n) -> o.data ≠ .fields #[] -> H b = none := fun {b o} e h1 h2 => by
    cases q : H b with
    | none => rfl
    | some u =>
      rcases dom (b := b) (by rw [q]; exact nofun) with z | z
      · subst z
        rw [ha] at e
        cases e
        exact (h1 _ _ rfl).elim
      · rw [isT b z] at e
        cases e
        exact (h2 rfl).elim
  have freeD : ∀ {b : Addr} {o : Obj} {es ep}, s0.heap.get? b = some o -> o.data = Data.dict es ep -> H b = none := fun e d =>
    free e (fun _ _ z => by rw [d] at z; cases z) (fun z => by rw [d] at z; cases z)
  have ns2 : ∀ {b m}, s0.heap.Ns b m -> (hidT s0.heap H).Ns b m := by
    rintro b m ⟨o, es, ep, e1, e2, r⟩
    exact ⟨o, es, ep, hidT_get e1 (freeD e1 e2), e2, r⟩
  have kin : K.In (hidT s0.heap H) := fun b o e => hidT_get (KX b o e) (by
    cases q : H b with
    | none => rfl
    | some u =>
      rcases dom (b := b) (by rw [q]; exact nofun) with z | z
      · subst z
        rw [Hn aT] at q
        rw [hK (by rw [q]; exact nofun)] at e
        cases e
      · obtain ⟨p, hp, rfl⟩ := List.mem_map.mp z
        rw [T.off p hp] at e
        cases e)
  have TB : ∀ p ∈ cs, LamX.TabB (hidT s0.heap H) mg p.1 p.2 := fun p hp => by
    have hTp := T.at_ p hp
    refine ⟨?_, ?_, fun z => ?_⟩
    · obtain ⟨o, us, file, tf, flags, tg, inF, text, tt, e1, r1, r2, r3, rest⟩ := T.code p hp
      exact ⟨o, us, file, tf, flags, tg, inF, text, tt, hidT_get e1 (free e1 (fun _ _ z => by rw [r2] at z; cases z) fun z => by rw [r2] at z; cases z; simp at r3), r1, r2, r3, rest⟩
    · obtain ⟨bm, ob, b1, b2, b3, b4, b5, b6⟩ := hbm
      have nG : bm ≠ mainGlobals := fun q => by
        obtain ⟨o, es, ep, e, hd, _⟩ := hns
        rw [q, e] at b3
        cases b3
        rw [hd] at b6
        cases b6
      have nP : bm ≠ p.2 := fun q => by
        rw [q, hTp] at b3
        cases b3
        cases b6
      exact ⟨bm, ob, b1, b2, nG, nP, hidT_get b3 (free b3 (fun _ _ z => by rw [b6] at z; cases z) fun z => by rw [b6] at z; cases z), b4, b5, b6⟩
    · obtain ⟨o, es, ep, e, hd, _⟩ := hns
      rw [z, hTp] at e
      cases e
      cases hd
  obtain ⟨mc, l1, l2⟩ := hlim
  have md : Mod K mg (hidT s0.heap H) := ⟨kin, ns2 hns, ⟨mb, ns2 hb, hbb⟩, mc, ns2 l1, l2⟩
  have env : Env0 P w K mg (hidT s0.heap H) callerA [] s0 H := ⟨rfl, md, fun _ _ e => of_hidT e, Nat.le_of_eq (hidT_size _ _), trivial, fun b z => (by cases z), hok, .of_eq hg⟩
  have noTbl : ∀ b ps, F0 b ≠ some (.tbl ps) := fun b ps z => by
    rcases hF b with e | ⟨o, xs, e⟩ <;> rw [e] at z <;> cases z
  have offT : ∀ {b u}, F0 b = some u -> b ∉ cs.map (·.2) := fun {b u} e z => by
    have := hFa b (by rw [e]; exact nofun)
    subst this
    exact aT z
  have good : Good K cl F0 H (fun _ => none) := ⟨fun b o e => by rw [Hn (offT e)]; exact e, (fun _ _ e => by cases e), fun q hq => LamX.TabS.nil (Ht (hT q hq)), noTbl⟩
  have low : lower K cl spd [.ref a] H (fun v _ => v = .bl true) (fun _ _ _ => False) :=
    ⟨F0, fun _ => none, [.lst (ns.map D.int)], fun d _ => d = .bl true, fun _ _ _ _ => False, good, .one (.lst hS (.of_ints ns)), hsp _ _ _ fun _ => rfl, fun v _ _ d _ _ _ r e => by subst e; exact r.toBl, fun _ _ _ _ _ _ _ _ _ _ z => z⟩
  obtain ⟨fd, hbd, G⟩ := F _ kin (ns2 hns) TB
  refine codeAny_mono (G.run callerA [] s0 H _ [.ref a] [.ref a] _ _ hr env (hbd s0 [.ref a] KX rfl) (.cons rfl .nil) low) fun r s' h => ?_
  cases r with
  | error e =>
    obtain ⟨_, _, _, _, _, _, _, _, _, _, _, _, z⟩ := (show L2.CX P w [] H s0 (fun _ _ _ => False) e s' from h)
    exact z.elim
  | ok fl =>
    cases fl with
    | ret u =>
      obtain ⟨v, H', os, bare, un, hok', rv, q⟩ := (show CE [] P w H s0 (fun v _ => v = .bl true) u s' from h)
      subst q
      cases rv
      have same : ∀ b o, b ∉ cs.map (·.2) -> s0.heap.get? b = some o -> s'.heap.get? b = some o := fun b o nb e => by
        rcases hF b with z | ⟨ob, xs, z⟩
        · exact un.keep b o e (by rw [Hn nb]; exact z) (fun y => by cases y) (fun y => by cases y)
        · rw [<- Hn nb] at z
          have h1 := (hok b _ z).1
          have h2 := (hok' b _ (un.frzs b ob _ z)).1
          rw [e] at h1
          cases h1
          exact h2
      have grown : ∀ p ∈ cs, ∃ more : Array Value, s'.heap.get? p.2 = some { cls := .none, data := .fields more } := fun p hp => by
        obtain ⟨more, z⟩ := un.tbls p.2 #[] (Ht (List.mem_map_of_mem hp))
        exact ⟨_, hok' p.2 _ z⟩
      refine ⟨rfl, ⟨fun b o e => ?_, fun b o e => ?_⟩, os, bare⟩
      · by_cases hm : b ∈ cs.map (·.2)
        · obtain ⟨p, hp, rfl⟩ := List.mem_map.mp hm
          obtain ⟨more, hmo⟩ := grown p hp
          rw [T.at_ p hp] at e
          cases e
          exact .inr (.inl ⟨((T.code p hp).tab (T.at_ p hp)).isCodeTable, rfl, #[], more, rfl, by rw [Array.empty_append]; exact hmo⟩)
        · exact .inl (same b o hm e)
      · by_cases hm : b ∈ cs.map (·.2)
        · obtain ⟨p, hp, rfl⟩ := List.mem_map.mp hm
          obtain ⟨more, hmo⟩ := grown p hp
          exact ⟨_, hmo⟩
        · exact ⟨o, same b o hm e⟩
    | next => exact False.elim h
    | brk => exact False.elim h
    | cont => exact False.elim h
theorem law_callDT {cl : ClW} {P : Program} {w : World} {K : Frag} {mg mb : Str -> Option Value} {k : Nat} {fa a : Addr} {x : Str} {spd : SpD} {s0 : Shared} {vs : List Value} {ns : List Int} {cs : List (Addr × Addr)}
    (KX : K.In s0.heap) (hns : s0.heap.Ns mainGlobals mg) (hb : s0.heap.Ns builtinsNs mb) (hbb : ∀ x : Str, x ≠ "__name__" -> mb x = bootBuiltins x) (hlim : s0.heap.NoLimit) (hg : s0.gens = #[]) (T : TabsAt K s0.heap cs)
    (hbm : ∃ (bm : Addr) (ob : Obj), mg "__builtins__" = some (.ref bm) /\ bm ≠ builtinsNs /\ s0.heap.get? bm = some ob /\ ob.cls = .type "module" /\ ob.dict = some builtinsNs /\ ob.data = .plain)
    (ha : s0.heap.get? a = some { cls := .type "list", data := .seq vs.toArray }) (hi : PyProof.Rows.IntsAre vs ns) (hl : ns.length <= sizeLine) (hr : RoomG k callerA)
    (F : ∀ base : Heap, K.In base -> base.Ns mainGlobals mg -> (∀ p ∈ cs, LamX.TabB base mg p.1 p.2) -> ∃ fd, Binds K fd [x] [] /\ FnG cl P w K mg base k fa fd [x] spd)
    (hsp : ∀ (M : Mem) (Qd : DV) (Ed : DEK), (∀ M', Qd (.bl true) M') -> spd [.lst (ns.map D.int)] M Qd Ed) (hT : ∀ q ∈ tabsOf cl, q.1 ∈ cs.map (·.2)) :
    codeAny (model P w) callerA (.call (.ref fa) ⟨[.ref a], []⟩) (fun r s' => r = .ok (.ret (.bool true)) /\ OldK s0.heap s'.heap /\ s'.os = s0.os /\ PyProof.Rows.AllBare s'.gens) s0 := by
  have hv := vals_ints hi
  have hle : vs.length <= sizeLine := by rw [hi.length]; exact hl
  have tblOk : ∀ {b}, b ∈ cs.map (·.2) -> s0.heap.get? b = some { cls := .none, data := .fields #[] } := fun {b} h => by
    obtain ⟨p, hp, rfl⟩ := List.mem_map.mp h
    exact T.at_ p hp
  cases hk : K.lookup a with
  | some o =>
    have e := KX a o hk
    rw [ha] at e
    cases e
    refine law_endT (F0 := fun _ => none) KX hns hb hbb hlim hg T hbm ha hr F (fun _ => .inl rfl) (.inr ⟨_, vs.toArray, _, hk, rfl, rfl, rfl, by simpa using hle, by simpa using hv⟩) (fun _ z => (z rfl).elim) (fun b u z => ?_) (fun z => (z rfl).elim) hT hsp
    simp only at z
    by_cases h : b ∈ cs.map (·.2)
    · rw [if_pos h] at z
      cases z
      exact tblOk h
    · rw [if_neg h] at z
      cases z
  | none =>
    let o : Obj := { cls := .type "list", data := .seq vs.toArray }
    have at_ : upd (fun _ => none) a (.frz o (.lst (ns.map V.int))) a = some (.frz o (.lst (ns.map V.int))) := upd_same
    have off : ∀ {b}, b ≠ a -> upd (fun _ => none) a (.frz o (.lst (ns.map V.int))) b = none := fun h => upd_ne h
    refine law_endT (F0 := upd (fun _ => none) a (.frz o (.lst (ns.map V.int)))) KX hns hb hbb hlim hg T hbm ha hr F (fun b => ?_) (.inl (.inr ⟨o, at_⟩)) (fun b z => ?_) (fun b u z => ?_) (fun _ => hk) hT hsp
    · by_cases h : b = a
      · subst h; exact .inr ⟨_, _, at_⟩
      · exact .inl (off h)
    · by_cases h : b = a
      · exact h
      · exact (z (off h)).elim
    · simp only at z
      by_cases hm : b ∈ cs.map (·.2)
      · rw [if_pos hm] at z
        cases z
        exact tblOk hm
      · rw [if_neg hm] at z
        by_cases h : b = a
        · subst h
          rw [at_] at z
          cases z
          exact ⟨ha, by rw [List.length_map]; exact hl, vs, _, hv, ha⟩
        · rw [off h] at z
          cases z
theorem walk_DT {l : OpenLaw} {n k : Nat} {q : Program} {loose : List Str} {XP : (Str -> Option Value) -> Heap -> Prop} {YP : World -> Heap -> Prop} {d : DefRec} {x : Str}
    (hn : l.most = some n) (hn2 : n <= sizeLine) (hdf : d.params.defaults = []) (hr : RoomG k callerA)
    (F : ∀ (w : World) (mg : Str -> Option Value) (fa : Addr) (h : Heap), YP w h -> h.Ns mainGlobals mg -> mg d.name = some (.ref fa) ->
      ∃ (cl : ClW) (K : Frag) (spd : SpD) (cs : List (Addr × Addr)), (∀ q ∈ tabsOf cl, q.1 ∈ cs.map (·.2)) /\ K.In h /\ TabsAt K h cs /\
        (∀ (ns : List Int) (M : Mem) (Qd : DV) (Ed : DEK), ns.length <= n -> (∀ M', Qd (.bl true) M') -> spd [.lst (ns.map D.int)] M Qd Ed) /\
        ∀ base : Heap, K.In base -> base.Ns mainGlobals mg -> (∀ p ∈ cs, LamX.TabB base mg p.1 p.2) -> ∃ fd, Binds K fd [x] [] /\ FnG cl l.prog w K mg base k fa fd [x] spd) :
    WalkO q loose XP YP l.row.toRowW d [] (fun f vs => PySem.call f vs) := by
  refine Att.attach_callB hn hdf fun w s₀ s₁ mg mb fa o pm cd doc a vs ns G Y ho hd hcd hmg hobj hints hlen hbits hg => ?_
  obtain ⟨cl, K, spd, cs, hT, KX, T, hsp, hF⟩ := F w mg fa _ Y G.T.g hmg
  exact law_callDT KX G.T.g G.T.b G.T.builtins G.T.nolimit hg T G.T.bmain hobj hints (Nat.le_trans hlen hn2) hr hF (fun M Qd Ed h => hsp ns M Qd Ed hlen h) hT
end DL
set_option Elab.async false
set_option linter.all false
set_option maxRecDepth 100000
set_option maxHeartbeats 2000000
set_option autoImplicit false
namespace DL
open PySem L2
def codeF (K : PySem.W.Frag) (f : Addr) : Addr := match K.lookup f with
  | some o => match o.data with
    | .func fd => match fd.code with
      | .ref c => c
      | _ => 0
    | _ => 0
  | none => 0
def tabF (K : PySem.W.Frag) (c : Addr) : Addr := match K.lookup c with
  | some o => match o.data with
    | .fields vs => match vs[11]? with
      | some (Value.ref p) => p
      | _ => 0
    | _ => 0
  | none => 0
def tabD (K : PySem.W.Frag) (d : Str × Option Str) : Addr := tabF K (codeF K (He.fAd K d))
def cutTab (K : PySem.W.Frag) (ds : List (Str × Option Str)) : PySem.W.Frag := K.filter fun p => !(ds.map (tabD K)).contains p.1
def emptyT (o : Obj) : Bool := match o with
  | ⟨.none, none, .fields vs, sl⟩ => vs.isEmpty && sl.isEmpty
  | _ => false
def tabOk (K0 : PySem.W.Frag) (K : PySem.W.Frag) (d : Str × Option Str) : Bool :=
  PySem.W.codeHdIn K (codeF K (He.fAd K d)) (tabD K d) && ((match K0.lookup (tabD K d) with | some o => emptyT o | none => false) && ((K.lookup (tabD K d)).isNone && (!(mainGlobals == tabD K d) && (!(tabD K d == 0) &&
    match K.lookup (He.fAd K d) with
    | some o => (match o.data with | .func fd => (match fd.code with | .ref _ => true | _ => false) | _ => false)
    | none => false))))
def obsT (n : Nat) (ts : List (Str × Option Str)) (fa : List He.Fa) (fn : List He.DefD) (ex : PySem.W.Frag -> Bool) (g : Addr -> Option Obj) : He.AlD × (Bool × Bool) :=
  (He.obsD fa fn (cutTab (He.frG g (List.range n)) ts), ex (cutTab (He.frG g (List.range n)) ts), ts.all (tabOk (He.frG g (List.range n)) (cutTab (He.frG g (List.range n)) ts)))
def hookT (n : Nat) (ts : List (Str × Option Str)) (fa : List He.Fa) (fn : List He.DefD) (ex : PySem.W.Frag -> Bool) : PySem.W.Hook where
  α := He.AlD × (Bool × Bool)
  obs := fun s => obsT n ts fa fn ex s.heap.get?
  val := fun _ => (He.valD fn, true, true)
  says := fun _ h => ∃ K0 : PySem.W.Frag, K0.In h /\ He.SaysD fa fn (cutTab K0 ts) /\ ex (cutTab K0 ts) = true /\ ts.all (tabOk K0 (cutTab K0 ts)) = true
  of := fun _ _ e => ⟨_, He.frG_in, congrArg Prod.fst e, congrArg (fun z => z.2.1) e, congrArg (fun z => z.2.2) e⟩
  keeps := fun _ _ _ ⟨K0, hK, c⟩ k => ⟨K0, PySem.W.Frag.In.keeps hK k, c⟩
theorem obsT_eq {n : Nat} {ts : List (Str × Option Str)} {fa : List He.Fa} {fn : List He.DefD} {ex : PySem.W.Frag -> Bool} {g : Addr -> Option Obj} {s : Shared} (h : ∀ a, g a = s.heap.get? a) : obsT n ts fa fn ex g = (hookT n ts fa fn ex).obs s := by
  have e : g = s.heap.get? := funext h
  rw [e] <;> rfl
theorem lookup_filter {K : PySem.W.Frag} {q : Addr × Obj -> Bool} {b : Addr} {o : Obj} (hq : ∀ o o' : Obj, q (b, o) = q (b, o')) (h : (K.filter q).lookup b = some o) : K.lookup b = some o := by
  induction K with
  | nil => cases h
  | cons p r ih =>
    obtain ⟨c, u⟩ := p
    by_cases e : b = c
    · subst e
      by_cases hp : q (b, u) = true
      · rw [List.filter_cons_of_pos hp, List.lookup_cons_self] at h
        rw [List.lookup_cons_self]
        exact h
      · rw [List.filter_cons_of_neg hp] at h
        have : ∀ r : PySem.W.Frag, (r.filter q).lookup b = none := fun r => by
          induction r with
          | nil => rfl
          | cons p2 r2 ih2 =>
            obtain ⟨c2, u2⟩ := p2
            by_cases hp2 : q (c2, u2) = true
            · rw [List.filter_cons_of_pos hp2]
              by_cases e2 : b = c2
              · subst e2
                rw [hq u u2] at hp
                exact absurd hp2 hp
              · rw [List.lookup_cons, show (b == c2) = false by simpa using e2]
                exact ih2
            · rw [List.filter_cons_of_neg hp2]
              exact ih2
        rw [this r] at h
        cases h
    · rw [List.lookup_cons, show (b == c) = false by simpa using e]
      by_cases hp : q (c, u) = true
      · rw [List.filter_cons_of_pos hp, List.lookup_cons, show (b == c) = false by simpa using e] at h
        exact ih h
      · rw [List.filter_cons_of_neg hp] at h
        exact ih h
theorem cut_in {K : PySem.W.Frag} {ts : List (Str × Option Str)} {h : Heap} (k : K.In h) : (cutTab K ts).In h := fun b o e => k b o (lookup_filter (fun _ _ => rfl) e)
theorem emptyT_eq {o : Obj} (h : emptyT o = true) : o = { cls := .none, data := .fields #[] } := by
  obtain ⟨c, d, t, sl⟩ := o
  unfold emptyT at h
  split at h
  · rename_i vs sl' e
    cases e
    simp only [Bool.and_eq_true, Array.isEmpty_iff] at h
    obtain ⟨h1, h2⟩ := h
    subst h1 h2
    rfl
  · cases h
structure TabK (h : Heap) (K : PySem.W.Frag) (d : Str × Option Str) : Prop where
  hd : PySem.W.codeHdIn K (codeF K (He.fAd K d)) (tabD K d) = true
  at_ : h.get? (tabD K d) = some { cls := .none, data := .fields #[] }
  off : K.lookup (tabD K d) = none
  gl : mainGlobals ≠ tabD K d
  nz : tabD K d ≠ 0
  code : ∀ fd o, K.lookup (He.fAd K d) = some o -> o.data = .func fd -> fd.code = .ref (codeF K (He.fAd K d))
theorem tabK_of {h : Heap} {K0 K : PySem.W.Frag} {d : Str × Option Str} (k : K0.In h) (e : tabOk K0 K d = true) : TabK h K d := by
  unfold tabOk at e
  simp only [Bool.and_eq_true] at e
  obtain ⟨e1, e2, e3, e4, e6, e5⟩ := e
  refine ⟨e1, ?_, by simpa using e3, fun z => by rw [z] at e4; simp at e4, fun z => by rw [z] at e6; simp at e6, fun fd o h1 h2 => ?_⟩
  · cases q : K0.lookup (tabD K d) with
    | none => rw [q] at e2; cases e2
    | some o =>
      rw [q] at e2
      have := k _ _ q
      rw [emptyT_eq e2] at this
      exact this
  · rw [h1] at e5
    simp only [h2] at e5
    cases hc : fd.code with
    | ref c =>
      have : codeF K (He.fAd K d) = c := by unfold codeF; rw [h1]; simp only [h2, hc]
      rw [this]
    | _ => rw [hc] at e5; cases e5
def csOf (K : PySem.W.Frag) (ts : List (Str × Option Str)) : List (Addr × Addr) := ts.map fun d => (codeF K (He.fAd K d), tabD K d)
theorem tabs_at {h : Heap} {K : PySem.W.Frag} {ts : List (Str × Option Str)} (X : K.In h) (t : ∀ d ∈ ts, TabK h K d) : TabsAt K h (csOf K ts) := by
  refine ⟨fun p hp => ?_, fun p hp => ?_, fun p hp => ?_⟩ <;> obtain ⟨d, hd, rfl⟩ := List.mem_map.mp hp
  · exact (t d hd).at_
  · exact (t d hd).off
  · exact PySem.W.codeHd_of_K X (t d hd).hd
open PySem.W PySem.Calls PyProof.Rows HandSHeadRun in
theorem runT_of {r : OpenRow} {q : Program} {n : Nat} {ts : List (Str × Option Str)} {fa : List He.Fa} {fn : List He.DefD} {ex : PySem.W.Frag -> Bool} {M : Nat} {loose : List PySem.Str} {w : World}
    (h1 : ∀ os, (HandSHeadRun.endF (stepQ (denQ tabQ) r.prog w) M r.prog w os).map (fun s => (looksF r.prog (boot_heap w.params) s.abs, seenQ q loose (importedModules r.prog.main.body) (fun s => xlAt q [] s && recOk r.toRowW.records s) s.abs)) = some (true, openGood q loose))
    (h2 : ∀ os, (HandSHeadRun.endF (stepQ (denQ tabQ) r.prog w) M r.prog w os).map (fun s => fa.all fun f => f.ok (cutTab (He.frG (getT s) (List.range n)) ts)) = some true)
    (h3 : ∀ os, (HandSHeadRun.endF (stepQ (denQ tabQ) r.prog w) M r.prog w os).map (fun s => (fn.all fun d => d.ok (cutTab (He.frG (getT s) (List.range n)) ts), fn.map fun d => He.fnW (cutTab (He.frG (getT s) (List.range n)) ts) d.at_)) = some (true, fn.map He.DefD.val))
    (h4 : ∀ os, (HandSHeadRun.endF (stepQ (denQ tabQ) r.prog w) M r.prog w os).map (fun s => (ex (cutTab (He.frG (getT s) (List.range n)) ts), ts.all (tabOk (He.frG (getT s) (List.range n)) (cutTab (He.frG (getT s) (List.range n)) ts)))) = some (true, true)) :
    RunEq r q (hookT n ts fa fn ex) (fun s => obsT n ts fa fn ex (getT s)) M loose w := by
  intro os
  obtain ⟨s, e, a1, a2⟩ := opt_pair (h1 os) (h2 os)
  have b3 := h3 os
  have b4 := h4 os
  rw [e] at b3 b4 ⊢
  have b3 := Option.some.inj b3
  have b4 := Option.some.inj b4
  have c1 := congrArg Prod.fst a1
  have c2 := congrArg Prod.snd a1
  have d1 := congrArg Prod.fst b3
  have d2 := congrArg Prod.snd b3
  have f1 := congrArg Prod.fst b4
  have f2 := congrArg Prod.snd b4
  simp only at c1 c2 d1 d2 f1 f2 a2
  show some (looksF r.prog (boot_heap w.params) s.abs, seenQ q loose (importedModules r.prog.main.body) (fun s => xlAt q [] s && recOk r.toRowW.records s) s.abs, ((((fa.all fun f => f.ok (cutTab (He.frG (getT s) (List.range n)) ts)) && fn.all fun d => d.ok (cutTab (He.frG (getT s) (List.range n)) ts)), fn.map fun d => He.fnW (cutTab (He.frG (getT s) (List.range n)) ts) d.at_), (ex (cutTab (He.frG (getT s) (List.range n)) ts), ts.all (tabOk (He.frG (getT s) (List.range n)) (cutTab (He.frG (getT s) (List.range n)) ts))))) = _
  rw [c1, c2, a2, d1, d2, f1, f2]
  rfl
theorem fnD_code {K : PySem.W.Frag} {h : Heap} {d : Str × Option Str} {x qual : Str} {params : Arguments} {body : List Stmt} {scope : Scope} {dvs : List V} {kws : List (Str × V)} {fd : FuncData} (T : TabK h K d) (F : FunD K x qual params body scope dvs kws (He.fAd K d) fd) : fd.code = .ref (codeF K (He.fAd K d)) := by
  obtain ⟨oc, od, dV, kV, doc, pm, an, cdv, ct, osl, rfl, lk, _⟩ := F.ex
  exact T.code _ _ lk rfl
end DL
set_option Elab.async false
set_option linter.all false
set_option maxRecDepth 100000
set_option maxHeartbeats 2000000
set_option autoImplicit false
namespace DL
open PySem L2
theorem fn_dC {cl : ClW} {P : Program} {w : World} {K : PySem.W.Frag} {mg : Str -> Option Value} {base : Heap} {k : Nat} {f : Addr} {x qual : Str} {params : Arguments} {body : List Stmt} {scope : Scope} {dvs : List V} {kws : List (Str × V)} {fd : FuncData} {N ps : List Str} {spd : SpD}
    (F : FunD K x qual params body scope dvs kws f fd) (S : FnScope N ps scope) (t : DTS)
    (hbody : ∀ (cdv : Value), fd.code = cdv -> ∀ (A : Around) (outer : List PySem.Env) (s : Shared) (H : Hp) (E : XK), Cap (cxOf (L2.CX P w) P w K mg base N qual scope f cdv A outer s H E) (fun cls d _ H => E cls d H) k ->
      DSs cl (cxOf (L2.CX P w) P w K mg base N qual scope f cdv A outer s H E) (fun cls d _ H => E cls d H) body t)
    (hsp : ∀ ds M Q E, spd ds M Q E -> ds.length = ps.length /\ t (dEnds Q E) (startD N ds) M) : FnG cl P w K mg base (k + 1) f fd ps spd := by
  refine ⟨fun ds M Q E h => (hsp ds M Q E h).1, fun A outer s H args us vs Q E hr e0 hb r hl => ?_⟩
  obtain ⟨oc, od, dV, kV, doc, pm, an, cdv, ct, osl, rfl, lk, hcd, _, _⟩ := F.ex
  have lenV : ∀ vs H Q E, lower K cl spd vs H Q E -> vs.length = ps.length := fun vs H Q E ⟨_, M, ds, Qd, Ed, _, r, q, _⟩ => by
    rw [r.length]
    exact (hsp ds M Qd Ed q).1
  have hr' := hr.deeper (PyProof.Rows.envOfC qual scope s.heap.objs.size f cdv)
  have KX : K.In s.heap := e0.mod.kin.keeps fun b o e => (e0.bs b o e).1
  have lim : s.heap.NoLimit := e0.mod.nolimit.keeps fun b o e => (e0.bs b o e).1
  have hkind : ∀ y ∈ ps.zip us, scope.names.lookup y.1 = some .local \/ (scope.names.lookup y.1 = some .cell /\ ((cellsFrom (s.heap.objs.size + 1) scope.names []).lookup y.1).isSome = true) := fun ⟨n, v⟩ hy => by
    rcases S.par n (List.of_mem_zip hy).1 with q | q
    · exact .inl q
    · exact .inr ⟨q, PySem.W.cellsFrom_some _ _ _ (.inl q)⟩
  refine codeAny_call_function hr.room.depth (KX _ _ lk) rfl S.co S.gen rfl (PySem.W.codeRec_of KX hcd) (hb _ _ _ _ ?_)
  refine wpAny_newFunctionEnv_cells S.kind hkind fun env he s1 x => ?_
  subst he
  refine ⟨lim.keeps x.toInCall.keep, codeAny_func ?_⟩
  have ht := hbody cdv rfl A outer s H E ⟨takes_of rfl rfl rfl rfl, hr', passes_of rfl, rfl⟩
  have I : Inv (cxOf (L2.CX P w) P w K mg base N qual scope f cdv A outer s H E) [] (L2.start N vs) H s1 := inv_start S hr.room.hd e0 (lenV _ _ _ _ hl) r x
  obtain ⟨F0, M0, ds0, Qd, Ed, g0, r0, q0, p0, ep0⟩ := hl
  have hq : lowS K cl (fun cls d _ H => E cls d H) t { nx := fun _ H' => Q .non H', rt := Q } (L2.start N vs) H :=
    ⟨F0, startD N ds0, M0, dEnds Qd Ed, g0, slots_start N r0, (hsp ds0 M0 Qd Ed q0).2,
      ⟨fun σ' H' F' ρ' M' sm g' s' q' => p0 _ _ _ _ _ sm g' .non q', p0, fun _ _ _ _ _ _ _ _ q' => q', fun _ _ _ _ _ _ _ _ q' => q', fun c ns ds σ' H' F' ρ' M' dd sm g' s' ea q' => ep0 _ _ _ _ _ _ _ sm g' ea q'⟩⟩
  refine wpAny_mono (ht.pss.run [] s1 (L2.start N vs) H _ I hq) (fun fl s' hs => ?_) fun e s' hs => hs
  have fin : ∀ {σ' : St} {H' : Hp} {v : V} {u : Value}, Inv (cxOf (L2.CX P w) P w K mg base N qual scope f cdv A outer s H E) [] σ' H' s' -> RelV v u -> Q v H' -> CE outer P w H s Q u s' :=
    fun {σ' H' v u} J rv q => ⟨v, H', J.os, J.bare, J.base, J.hok, rv, q⟩
  cases fl with
  | ret u =>
    obtain ⟨v, σ', H', J, rv, q⟩ := hs
    exact fin J rv q
  | next =>
    obtain ⟨σ', H', J, q⟩ := hs
    exact fin (v := V.non) (u := Value.none) J rfl q
  | brk =>
    obtain ⟨_, _, _, q⟩ := hs
    exact False.elim q
  | cont =>
    obtain ⟨_, _, _, q⟩ := hs
    exact False.elim q
section
variable {cl : ClW} {P : Program} {w : World} {K : PySem.W.Frag} {mg : Str -> Option Value} {base h : Heap} {k : Nat} {x qual : Str} {params : Arguments} {body : List Stmt} {scope : Scope} {N ps : List Str} {spd : SpD} {d : Str × Option Str} {t : DTS}
theorem fnC_ofT (T : TabK h K d) (F : ∃ fd, FunD K x qual params body scope [] [] (He.fAd K d) fd) (S : FnScope N ps scope)
    (hbody : ∀ (A : Around) (outer : List PySem.Env) (s : Shared) (H : Hp) (E : XK), Cap (cxOf (L2.CX P w) P w K mg base N qual scope (He.fAd K d) (.ref (codeF K (He.fAd K d))) A outer s H E) (fun cls d _ H => E cls d H) k ->
      DSs cl (cxOf (L2.CX P w) P w K mg base N qual scope (He.fAd K d) (.ref (codeF K (He.fAd K d))) A outer s H E) (fun cls d _ H => E cls d H) body t)
    (hsp : ∀ ds M Q E, spd ds M Q E -> ds.length = ps.length /\ t (dEnds Q E) (startD N ds) M) : FnC cl P w K mg base (k + 1) x qual params body scope (He.fAd K d) ps spd := by
  obtain ⟨fd, F⟩ := F
  refine ⟨fd, F, fn_dC F S t (fun cdv hc A outer s H E c => ?_) hsp⟩
  rw [fnD_code T F] at hc
  subst hc
  exact hbody A outer s H E c
end
end DL
set_option Elab.async false
set_option linter.all false
set_option maxRecDepth 100000
set_option maxHeartbeats 2000000
set_option autoImplicit false
namespace DL
open PySem L2
section
variable {X : Cx} {o e : Expr} {to ta : TE} {apos cpos : Pos}
def tBjoin (K : PySem.W.Frag) (to ta : TE) : TE := fun σ H Q => to σ H fun x H1 => (∃ b, x = V.byt b) /\ ta σ H1 fun y H2 => rBjoin K x [y] H2 Q
theorem pe_bjoin (ho : PE X o to) (ha : PE X e ta)
    (hbase : attributeBase o "join" X.env (eval o X.env) = eval o X.env := by rfl)
    (hfew : ((backTo cpos (starEach [e] X.env)).all (fun x => !x.1) && (backToKw cpos (keywordEach [] X.env)).all (fun x => x.1.isSome)
      && decide (([e] : List Expr).length + ([] : List Keyword).length + (if ([] : List Keyword).isEmpty then 0 else 1) < 30)) = true := by rfl)
    (hline : (apos.endLine == cpos.line) = true := by rfl) (hs : starEach [e] X.env = [(false, eval e X.env)] := by rfl) :
    PE X (.Call (.Attribute o "join" apos) [e] [] cpos) (tBjoin X.K to ta) := by
  refine ⟨fun pins s σ H Q I h => ?_⟩
  refine wpAny_Call_method_late hbase hfew hline rfl (thn (ho.run pins s σ H _ I h) fun v s1 ⟨x, H1, I1, r1, hb, q1⟩ => ?_)
  obtain ⟨b, rfl⟩ := hb
  obtain ⟨t, rfl⟩ := (show ∃ t, v = Value.bytes b t from r1)
  refine ⟨"bytes", "bytes.join", PySem.W.FB.plainAttrs_bytes, R59.slot_bjoin, R59.type_bjoin, PySem.W.typeIs_bytes s1 b t, (fun _ e => by cases e), ?_⟩
  rw [hs]
  refine Calls.callWith_builtin rfl (Calls.evalArgs_plain ?_)
  have hA := (pa_cons (X := X) ha pa_nil hs).run cpos pins s1 σ H1 (fun vs H2 => rBjoin X.K (.byt b) vs H2 Q) I1 q1
  rw [hs] at hA
  exact thn hA fun us s2 ⟨vs, H2, I2, r2, q2⟩ => mt_bjoin pins s2 σ H2 (.byt b) vs (.bytes b t) us Q I2 ⟨t, rfl⟩ r2 q2
end
section
variable {cl : ClW} {X : Cx} {W : WX} {o e : Expr} {τo τ : DTE} {apos cpos : Pos}
def dBjoin (τo τ : DTE) : DTE := fun ρ M Q X => τo ρ M (fun d M1 => ∃ sep, d = .byt sep /\ τ ρ M1 (fun z M2 => ∃ bs : List (Array UInt8), vw M2 z = .lst (bs.map D.byt) /\
  Builtin.Bytes.tooLong (bs.toArray.foldl (· + ·.size) (sep.size * (bs.length - 1))) = false /\ (Builtin.Bytes.joined sep bs).size <= sizeLine /\ Q (.byt (Builtin.Bytes.joined sep bs)) M2) X) X
theorem Reps.byts {K : PySem.W.Frag} {F : Hp} : ∀ {bs : List (Array UInt8)} {vs : List V}, Reps K cl F vs (bs.map D.byt) -> vs = bs.map V.byt
  | [], _, .nil => rfl
  | b :: bs, _, .cons r t => by rw [Reps.byts t, r.toByt]; rfl
theorem d_bjoin (ho : DE cl X W o τo) (he : DE cl X W e τ)
    (hbase : attributeBase o "join" X.env (eval o X.env) = eval o X.env := by rfl)
    (hfew : ((backTo cpos (starEach [e] X.env)).all (fun x => !x.1) && (backToKw cpos (keywordEach [] X.env)).all (fun x => x.1.isSome)
      && decide (([e] : List Expr).length + ([] : List Keyword).length + (if ([] : List Keyword).isEmpty then 0 else 1) < 30)) = true := by rfl)
    (hline : (apos.endLine == cpos.line) = true := by rfl) (hs : starEach [e] X.env = [(false, eval e X.env)] := by rfl) :
    DE cl X W (.Call (.Attribute o "join" apos) [e] [] cpos) (dBjoin τo τ) :=
  ⟨pe_imp (pe_bjoin ho.pe he.pe hbase hfew hline hs) fun σ H Q ⟨F, ρ, M, Qd, Xd, g, s, t, p, w⟩ => ⟨F, ρ, M, _, Xd, g, s, t, fun v H' F' d M' sm g' r ⟨sep, e1, q⟩ => by
    subst e1
    obtain rfl := r.toByt
    refine ⟨⟨_, rfl⟩, F', ρ, M', _, Xd, g', s.mono sm, q, fun v2 H2 F2 z M2 sm2 g2 r2 ⟨bs, hv, h1, h2, q2⟩ => ?_, w.mono sm⟩
    have hw := vw_ok g2 r2
    rw [hv] at hw
    obtain ⟨a, vs, rfl, k1, k2⟩ := hw.lst g2.sub
    rw [Reps.byts k2] at k1
    exact ⟨sep, a, bs, rfl, rfl, k1, h1, h2, p _ _ _ _ _ (sm.trans sm2) g2 (.byt _) q2⟩, w⟩⟩
end
end DL
set_option Elab.async false
set_option linter.all false
set_option maxRecDepth 100000
set_option maxHeartbeats 4000000
set_option autoImplicit false
namespace DLB
open PySem PySem.W
theorem owner_bi : Manifest.owners.lookup (String.ofList ['r', 'o', 't', 'a', 'r', 'e', 't', 'i', '_', 's', 'e', 't', 'y', 'b'].reverse) = some Manifest.sig_bytes_iterator := by kernel_rfl
theorem slot_bi_next : Slot "bytes_iterator" "__next__" "bytes_iterator.__next__" :=
  .of (owner := "bytes_iterator") (n := "__next__") (by rw [typeLookup_type, builtinLookup_eq_fast]; kernel_rfl) (by decide +kernel) (by decide +kernel) (by decide +kernel)
    (by first | exact .inl (by decide +kernel) | exact .inr (by decide +kernel)) (by rw [isSubtype_type]; kernel_rfl)
theorem entry_bi_next : entryFor table "bytes_iterator.__next__" = some Builtin.«bytes_iterator.__next__» := entryFor_of_tree (by kernel_rfl)
theorem args_bi_next_1 (a : Value) : argsOk "bytes_iterator.__next__" ⟨[a], []⟩ := by
  unfold argsOk; rw [signature?_of (id := "bytes_iterator.__next__") (n := ['_', '_', 't', 'x', 'e', 'n', '_', '_']) (o := ['r', 'o', 't', 'a', 'r', 'e', 't', 'i', '_', 's', 'e', 't', 'y', 'b']) (by kernel_rfl) owner_bi]; kernel_rfl
def IsBi (h : Heap) (it : Addr) (b : Array UInt8) (t : Tok) (i : Nat) : Prop := ∃ o, h.get? it = some o /\ o.cls = .type "bytes_iterator" /\ o.data = .fields #[.bytes b t, .int i 0]
section
variable {prog : Program} {w : World} {A : Around} {E : Value -> Shared -> Prop} {s : Shared} {it : Addr} {b : Array UInt8} {t : Tok} {i : Nat}
theorem IsBi.typeIs (h : IsBi s.heap it b t i) : s.TypeIs (.ref it) "bytes_iterator" := by
  obtain ⟨o, ho, hc, _⟩ := h
  exact ⟨o, ho, hc⟩
theorem nextOf_bi_item {c : UInt8} {Q : Value -> Shared -> Prop} (hit : IsBi s.heap it b t i) (hx : b[i]? = some c)
    (hQ : ∀ h', IsBi h' it b t (i + 1) -> Heap.SameBut it s.heap h' -> Q (.int (c.toNat : Nat) s.toks) { s with heap := h', toks := s.toks + 1 }) :
    wpAny (model prog w) A (Builtin.SmallTypes.nextOf (.ref it)) Q E s := by
  obtain ⟨o, ho, hc, hd⟩ := id hit
  unfold Builtin.SmallTypes.nextOf
  refine wpAny_bind (wpAny_callSpecial?_slot (name := Str.ofString "__next__") hit.typeIs slot_bi_next
    (wpAny_call_entry slot_bi_next hit.typeIs entry_bi_next ?_ (args_bi_next_1 _)))
  show wpAny _ _ (field (.ref it) 0 >>= _) _ _ s
  refine wpAny_bind (wpAny_field ho hd (x := .bytes b t) rfl ?_)
  show wpAny _ _ (if (Value.bytes b t == Value.none) = true then _ else _) _ _ s
  rw [if_neg (show ¬ ((Value.bytes b t == Value.none) = true) from Bool.false_ne_true)]
  show wpAny _ _ (field (.ref it) 1 >>= _) _ _ s
  refine wpAny_bind (wpAny_field ho hd (x := .int i 0) rfl ?_)
  refine wpAny_bind (wpAny_of_eq (a := b) rfl ?_)
  simp only [Int.toNat_natCast, hx]
  refine wpAny_bind (wpAny_setField ho hd (by simp) (wpAny_bind (wpAny_mkInt (wpAny_pure ⟨_, rfl, wpAny_pure (hQ _ ?_ (Heap.SameBut.update ..))⟩))))
  exact ⟨_, Heap.get?_update_self _ ho (Obj.isFreed_of_fields (Obj.data_mapFields hd _)), (Obj.cls_mapFields ..).trans hc, by
    rw [Obj.data_mapFields hd]; simp [rawInt]⟩
theorem nextOf_bi_end {Q : Value -> Shared -> Prop} (hh : A.handled = none) (hit : IsBi s.heap it b t i) (hx : b[i]? = none)
    (hE : ∀ h' e, Heap.ExtBut it s.heap h' -> (∃ o, h'.get? e = some o /\ o.cls = .type "StopIteration") -> E (.ref e) { s with heap := h' }) :
    wpAny (model prog w) A (Builtin.SmallTypes.nextOf (.ref it)) Q E s := by
  obtain ⟨o, ho, hc, hd⟩ := id hit
  unfold Builtin.SmallTypes.nextOf
  refine wpAny_bind (wpAny_callSpecial?_slot (name := Str.ofString "__next__") hit.typeIs slot_bi_next
    (wpAny_call_entry slot_bi_next hit.typeIs entry_bi_next ?_ (args_bi_next_1 _)))
  show wpAny _ _ (field (.ref it) 0 >>= _) _ _ s
  refine wpAny_bind (wpAny_field ho hd (x := .bytes b t) rfl ?_)
  show wpAny _ _ (if (Value.bytes b t == Value.none) = true then _ else _) _ _ s
  rw [if_neg (show ¬ ((Value.bytes b t == Value.none) = true) from Bool.false_ne_true)]
  show wpAny _ _ (field (.ref it) 1 >>= _) _ _ s
  refine wpAny_bind (wpAny_field ho hd (x := .int i 0) rfl ?_)
  refine wpAny_bind (wpAny_of_eq (a := b) rfl ?_)
  simp only [Int.toNat_natCast, hx]
  refine wpAny_bind (wpAny_rule (wpAny_bind (wpAny_setField ho hd (by simp) ?_)))
  show wpAny _ _ (newExc (.type "StopIteration") [] >>= _) _ _ _
  refine wpAny_bind ?_
  simp only [newExc, newTuple]
  refine wpAny_bind (wpAny_newObj_type ?_ (by size_fits))
  refine wpAny_bind (m := firstArgMember _ _) (wpAny_of_eq (a := Value.none) (by first | rfl | (simp only [firstArgMember]; rfl)) ?_)
  refine wpAny_newObj_type ?_ (by size_fits)
  simp only [raiseNew]
  refine wpAny_bind (wpAny_handled ?_)
  first | rw [show A.in1.handled = none from hh] | rw [hh]
  refine wpAny_bind (wpAny_pure (wpAny_throw ?_))
  exact hE _ _ (((Heap.SameBut.update ..).extBut.push _).push _) ⟨_, Heap.get?_push_size _ rfl, rfl⟩
theorem pyIter_bytes {Q : Value -> Shared -> Prop} (hQ : Q (.ref s.heap.objs.size) { s with heap := s.heap.push { cls := .type "bytes_iterator", data := .fields #[.bytes b t, .int 0 0] } }) : wpAny (model prog w) A (pyIter (.bytes b t)) Q E s := by
  refine wpAny_pyIter_slot (typeIs_bytes s b t) FB.slot_bytes_iter (wpAny_call_entry FB.slot_bytes_iter (typeIs_bytes s b t) FB.entry_bytes_iter ?_ (FB.args_bytes_iter_1 _))
  show wpAny _ _ (do ret (<- newFields "bytes_iterator" [.bytes b t, rawInt 0])) _ _ s
  exact wpAny_bind (wpAny_newObj_type (wpAny_pure ⟨_, rfl, "bytes_iterator", _, ⟨_, Heap.get?_push_size _ rfl, rfl⟩, slot_bi_next.lookup, hQ⟩))
end
theorem draws_bytes {prog : Program} {w : World} {A : Around} (hh : A.handled = none) (it : Addr) (b : Array UInt8) (t : Tok) :
    Draws prog w A it [it] b.size (fun i v => ∃ c u, b[i]? = some c /\ v = .int (c.toNat : Nat) u) (fun i h => IsBi h it b t i) where
  live := fun _ _ st => let ⟨o, ho, _⟩ := st; ⟨o, ho⟩
  frame := fun _ _ _ st hk => let ⟨o, ho, r⟩ := st; ⟨o, hk it (by simp) o ho, r⟩
  item := fun i s Q E hi st hQ => by
    refine nextOf_bi_item st (c := b[i]) (by simp [hi]) fun h' hit' hs' => ?_
    exact hQ _ h' (s.toks + 1) ⟨_, _, by simp [hi], rfl⟩ hit' hs'
  done := fun s Q E st hE => nextOf_bi_end hh st (by simp) hE
theorem begins_bytes (b : Array UInt8) (t : Tok) : Begins (.bytes b t) { cls := .type "bytes_iterator", data := .fields #[.bytes b t, .int 0 0] } fun _ => True where
  iter := fun prog w A E s Q _ h => pyIter_bytes h
  keeps := fun _ _ _ _ => trivial
  free := rfl
end DLB
set_option Elab.async false
set_option linter.all false
set_option maxRecDepth 100000
set_option maxHeartbeats 4000000
set_option autoImplicit false
namespace DLC
open PySem PySem.W Builtin PyProof.Rows SeqAt
section
variable {prog : Program} {w : World} {A : Around} {E Q : Value -> Shared -> Prop} {s : Shared} {b c : Array UInt8} {t u : Tok}
theorem rc_bytes (hu : A.units < cLine) (q : Q (.bool (b == c)) s) : wpAny (model prog w) A (richCompare .Eq (.bytes b t) (.bytes c u)) Q E s := by
  refine wpAny_richCompare_same_room (op := .Eq) (typeIs_bytes s b t) (typeIs_bytes s c u) FB.slot_bytes_eq (call_gives FB.slot_bytes_eq (typeIs_bytes s b t) FB.entry_bytes_eq (FB.args_bytes_eq_2 _ _) (gives_bytes_eq b c t u) ⟨(fun z => nomatch z), ?_⟩) hu
  have e : (b.toList == c.toList) = (b == c) := by
    rw [Bool.eq_iff_iff]; simp [Array.toList_inj]
  rw [e]; exact q
end
theorem slot_bytes_lt : Slot "bytes" "__lt__" "bytes.__lt__" :=
  .of (owner := "bytes") (n := "__lt__") (by rw [typeLookup_type, builtinLookup_eq_fast]; kernel_rfl) (by decide +kernel) (by decide +kernel) (by decide +kernel)
    (by first | exact .inl (by decide +kernel) | exact .inr (by decide +kernel)) (by rw [isSubtype_type]; kernel_rfl)
theorem entry_bytes_lt : entryFor table "bytes.__lt__" = some Builtin.«bytes.__lt__» := entryFor_of_tree (by kernel_rfl)
theorem args_bytes_lt_2 (a b : Value) : argsOk "bytes.__lt__" ⟨[a, b], []⟩ := by
  unfold argsOk; rw [signature?_of (id := "bytes.__lt__") (n := ['_', '_', 't', 'l', '_', '_']) (o := ['s', 'e', 't', 'y', 'b']) (by kernel_rfl) FB.owner_bytes]; kernel_rfl
theorem gives_bytes_lt (b c : Array UInt8) (t u : Tok) : Gives («bytes.__lt__» ⟨[.bytes b t, .bytes c u], []⟩) (.val (.bool (Builtin.Bytes.order b.toList c.toList == .lt))) := by
  refine .of_wp fun M A E s Q hq => ?_
  show wpAny M A (isInstance (.bytes c u) (.type "bytes") >>= fun r => _) _ E s
  refine wpAny_bind (wpAny_isInstance (typeIs_bytes s c u) F.sub_bytes_bytes ?_)
  exact wpAny_pure ⟨_, rfl, hq⟩
end DLC
set_option Elab.async false
set_option linter.all false
set_option maxRecDepth 100000
set_option maxHeartbeats 4000000
set_option autoImplicit false
namespace DL
open PySem L2
inductive Wkd where
  | txt (z : Str)
  | byt (b : Array UInt8)
  | lst (a : Addr)
  | tup (a : Addr)
namespace Wkd
def v : Wkd -> V
  | .txt z => .str z
  | .byt b => .byt b
  | .lst a => .ref a
  | .tup a => .ref a
def val (t : Tok) : Wkd -> Value
  | .txt z => .str z t
  | .byt b => .bytes b t
  | .lst a => .ref a
  | .tup a => .ref a
def has (K : PySem.W.Frag) (H : Hp) : Wkd -> List V -> Prop
  | .txt z, xs => xs = z.cps.toList.map fun c => V.str ⟨#[c]⟩
  | .byt b, xs => xs = b.toList.map fun c => V.int (c.toNat : Nat)
  | .lst a, xs => SqL K H a xs
  | .tup a, xs => SqT K H a xs
def st (t : Tok) (it : Addr) (i : Nat) (h : Heap) : Wkd -> Prop
  | .txt z => h.IsStrIter it (strIterType z) z t i
  | .byt b => DLB.IsBi h it b t i
  | .lst a => h.IsListIter it a i
  | .tup a => h.IsTupleIter it a i
def ads : Wkd -> List Addr
  | .txt _ => []
  | .byt _ => []
  | .lst a => [a]
  | .tup a => [a]
def mk (t : Tok) : Wkd -> Obj
  | .txt z => { cls := .type (strIterType z), data := .fields #[.str z t, .int 0 0] }
  | .byt b => { cls := .type "bytes_iterator", data := .fields #[.bytes b t, .int 0 0] }
  | .lst a => { cls := .type "list_iterator", data := .fields #[.ref a, .int 0 0] }
  | .tup a => { cls := .type "tuple_iterator", data := .fields #[.ref a, .int 0 0] }
variable {k : Wkd} {t : Tok} {it : Addr} {i : Nat} {h h' : Heap}
theorem st_obj (s : k.st t it i h) : ∃ o, h.get? it = some o /\ ∀ v, o.data ≠ .cell v := by
  cases k <;> exact let ⟨o, e, _, d⟩ := s; ⟨o, e, fun v z => by rw [d] at z; cases z⟩
theorem st_keep (s : k.st t it i h) (e : ∀ o, h.get? it = some o -> h'.get? it = some o) : k.st t it i h' := by
  cases k <;> exact let ⟨o, ho, r⟩ := s; ⟨o, e o ho, r⟩
theorem st_mk (e : h.get? it = some (k.mk t)) : k.st t it 0 h := by
  cases k <;> exact ⟨_, e, rfl, rfl⟩
theorem rel {u : Value} (r : RelV k.v u) : ∃ t, u = k.val t := by
  cases k with
  | txt z => exact r
  | byt b => exact r
  | lst a => exact ⟨0, r⟩
  | tup a => exact ⟨0, r⟩
variable {X : Cx} {pins : List (Addr × Obj)} {σ : St} {H : Hp} {s : Shared} {xs ys : List V}
theorem inj (I : Inv X pins σ H s) (q : k.has X.K H xs) (q' : k.has X.K H ys) : ys = xs := by
  cases k with
  | txt z => exact q'.trans q.symm
  | byt b => exact q'.trans q.symm
  | lst a => exact I.list_inj q' q
  | tup a => exact I.tuple_inj q' q
theorem lt (I : Inv X pins σ H s) (q : k.has X.K H xs) : ∀ a ∈ k.ads, a < s.heap.objs.size := by
  intro a ha
  cases k with
  | txt z => cases ha
  | byt b => cases ha
  | lst b =>
    obtain rfl := List.mem_singleton.mp ha
    obtain ⟨its, rv, p, _⟩ := I.list q
    obtain ⟨o, e, _⟩ := p.isList
    exact Heap.lt_size e
  | tup b =>
    obtain rfl := List.mem_singleton.mp ha
    obtain ⟨its, rv, p, _⟩ := I.tuple q
    obtain ⟨o, e, _⟩ := p
    exact Heap.lt_size e
theorem begins (I : Inv X pins σ H s) (q : k.has X.K H xs) (t : Tok) : ∃ G : Heap -> Prop, Begins (k.val t) (k.mk t) G /\ G s.heap := by
  cases k with
  | txt z => exact ⟨_, begins_text z t, trivial⟩
  | byt b => exact ⟨_, DLB.begins_bytes b t, trivial⟩
  | lst b =>
    obtain ⟨its, rv, p, _⟩ := I.list q
    exact ⟨_, begins_list b its.toArray, p.isList⟩
  | tup b =>
    obtain ⟨its, rv, p, _⟩ := I.tuple q
    exact ⟨_, begins_tuple b its.toArray, p⟩
theorem weak {P : Program} {w : World} {A : Around} {fp : List Addr} {n : Nat} {φ ψ : Nat -> Value -> Prop} {S : Nat -> Heap -> Prop} (D : Draws P w A it fp n φ S) (h : ∀ i v, φ i v -> ψ i v) : Draws P w A it fp n ψ S :=
  ⟨D.live, D.frame, fun i s Q E hi hs hQ => D.item i s Q E hi hs fun x h' tk hp => hQ x h' tk (h _ _ hp), D.done⟩
theorem seqD {its : List Value} (r : Vals xs its) (i : Nat) (v : Value) (e : its.toArray[i]? = some v) : ∃ x, xs[i]? = some x /\ RelV x v := by
  have e' : its[i]? = some v := by simpa using e
  have hl : xs.length = its.length := Paired.length r
  have hi : i < xs.length := by rw [hl]; exact (List.getElem?_eq_some_iff.mp e').1
  obtain ⟨u, hu, ru⟩ := r.get (List.getElem?_eq_getElem hi)
  rw [e'] at hu
  cases hu
  exact ⟨_, List.getElem?_eq_getElem hi, ru⟩
theorem draws (I : Inv X pins σ H s) (q : k.has X.K H xs) {A : Around} (hh : A.handled = none) (ne : it ∉ k.ads) (t : Tok) :
    ∃ S : Nat -> Heap -> Prop, Draws X.prog X.w A it (it :: k.ads) xs.length (fun i v => ∃ x, xs[i]? = some x /\ RelV x v) S /\ (∀ i, k.st t it i s.heap -> S i s.heap) /\ ∀ i h, S i h -> k.st t it i h := by
  cases k with
  | txt z =>
    have hn : xs.length = z.cps.size := by rw [show xs = _ from q]; simp
    rw [hn]
    refine ⟨fun i h => h.IsStrIter it (strIterType z) z t i, weak (Draws.text hh it z t) fun i v ⟨c, u, hc, ev⟩ => ⟨.str ⟨#[c]⟩, ?_, u, ev⟩, fun i h => h, fun i h s => s⟩
    rw [show xs = _ from q, List.getElem?_map]
    have : z.cps.toList[i]? = some c := by simpa using hc
    rw [this]
    rfl
  | byt b =>
    have hn : xs.length = b.size := by rw [show xs = _ from q]; simp
    rw [hn]
    refine ⟨fun i h => DLB.IsBi h it b t i, weak (DLB.draws_bytes hh it b t) fun i v ⟨c, u, hc, ev⟩ => ⟨.int (c.toNat : Nat), ?_, u, ev⟩, fun i h => h, fun i h s => s⟩
    rw [show xs = _ from q, List.getElem?_map]
    have : b.toList[i]? = some c := by simpa using hc
    rw [this]
    rfl
  | lst b =>
    obtain ⟨its, rv, p, _⟩ := I.list q
    have hn : xs.length = its.toArray.size := by simpa using Paired.length rv
    rw [hn]
    refine ⟨fun i h => h.IsListIter it b i /\ h.IsList b its.toArray, weak (Draws.list hh it b (fun e => ne (by rw [e]; exact List.mem_singleton.mpr rfl)) its.toArray) fun i v e => seqD rv i v e, fun i h => ⟨h, p.isList⟩, fun i h s => s.1⟩
  | tup b =>
    obtain ⟨its, rv, p, _⟩ := I.tuple q
    have hn : xs.length = its.toArray.size := by simpa using Paired.length rv
    rw [hn]
    refine ⟨fun i h => h.IsTupleIter it b i /\ h.IsTuple b its.toArray, weak (Draws.tuple hh it b (fun e => ne (by rw [e]; exact List.mem_singleton.mpr rfl)) its.toArray) fun i v e => seqD rv i v e, fun i h => ⟨h, p⟩, fun i h s => s.1⟩
end Wkd
def ItzG (K : PySem.W.Frag) (k1 k2 : Wkd) (n1 n2 : Nat) : It where
  go := fun i H => ∃ xs ys x y, k1.has K H xs /\ k2.has K H ys /\ xs.length = n1 /\ ys.length = n2 /\ xs[i]? = some x /\ ys[i]? = some y
  yld := fun i H v H' => ∃ T x y, v = .ref T /\ H T = none /\ H' = upd H T (.tup [x, y]) /\ (∀ xs, k1.has K H xs -> xs[i]? = some x) /\ ∀ ys, k2.has K H ys -> ys[i]? = some y
  stop := fun i H => ∃ xs ys, k1.has K H xs /\ k2.has K H ys /\ xs.length = n1 /\ ys.length = n2 /\ (n1 <= i \/ n2 <= i)
structure Five (k1 k2 : Wkd) (z TI TO i1 i2 : Addr) : Prop where
  nd : [z, TI, TO, i1, i2].Nodup
  f1 : ∀ a ∈ k1.ads, a ∉ [z, TI, TO, i1, i2]
  f2 : ∀ a ∈ k2.ads, a ∉ [z, TI, TO, i1, i2]
theorem Five.sep {k1 k2 : Wkd} {z TI TO i1 i2 : Addr} (D : Five k1 k2 z TI TO i1 i2) : ZipSep2 z TI TO i1 i2 (i1 :: k1.ads) (i2 :: k2.ads) := by
  have n := D.nd
  simp only [List.nodup_cons, List.mem_cons, List.not_mem_nil, or_false, not_or] at n
  obtain ⟨⟨a1, a2, a3, a4⟩, ⟨b1, b2, b3⟩, ⟨c1, c2⟩, d1, _⟩ := n
  have off1 : ∀ b ∈ [z, TI, TO, i1, i2], b ∉ k1.ads := fun b hb hm => D.f1 b hm hb
  have off2 : ∀ b ∈ [z, TI, TO, i1, i2], b ∉ k2.ads := fun b hb hm => D.f2 b hm hb
  have no : ∀ {b x : Addr} {l : List Addr}, b ≠ x -> b ∉ l -> b ∉ x :: l := fun h1 h2 hm => (List.mem_cons.mp hm).elim h1 h2
  exact {
    TIz := fun e => a1 e.symm
    TOz := fun e => a2 e.symm
    TITO := b1
    TIi1 := b2
    mem1 := List.mem_cons_self
    zf1 := no a3 (off1 z (by simp))
    Tf1 := no c1 (off1 TO (by simp))
    TIi2 := b3
    mem2 := List.mem_cons_self
    zf2 := no a4 (off2 z (by simp))
    Tf2 := no c2 (off2 TO (by simp))
    sep1_2 := no d1 (off2 i1 (by simp))
    sep2_1 := no (fun e => d1 e.symm) (off1 i2 (by simp)) }
theorem turn_zipG {P : Program} {w : World} {K : PySem.W.Frag} {elts : List Expr} {kk : Nat} {tpos : Pos} {k1 k2 : Wkd} {n1 n2 : Nat} {t1 t2 : Tok} {z TI TO i1 i2 : Addr} (D : Five k1 k2 z TI TO i1 i2) :
    Turn P w K (.Tuple elts kk tpos) (ItzG K k1 k2 n1 n2) [z, TI, TO, i1, i2] z (fun i h => IsZip h z TI TO .none /\ IsTupOf2 h TI (.ref i1) (.ref i2) /\ (∃ x y, IsTupOf2 h TO x y) /\ k1.st t1 i1 i h /\ k2.st t2 i2 i h /\ i <= n1 /\ i <= n2) where
  mem := List.mem_cons_self
  obj := fun i h ⟨hz, hTI, ⟨x, y, hTO⟩, s1, s2, _⟩ c hc => by
    simp only [List.mem_cons, List.not_mem_nil, or_false] at hc
    rcases hc with rfl | rfl | rfl | rfl | rfl
    · exact ⟨_, hz, fun v q => nomatch q⟩
    · exact ⟨_, hTI, fun v q => nomatch q⟩
    · exact ⟨_, hTO, fun v q => nomatch q⟩
    · exact Wkd.st_obj s1
    · exact Wkd.st_obj s2
  keep := fun i h h' ⟨hz, hTI, ⟨x, y, hTO⟩, s1, s2, l⟩ k => ⟨k z (by simp) _ hz, k TI (by simp) _ hTI, ⟨x, y, k TO (by simp) _ hTO⟩, Wkd.st_keep s1 fun o e => k i1 (by simp) o e, Wkd.st_keep s2 fun o e => k i2 (by simp) o e, l⟩
  item := by
    intro X hP hw hK hc i pins s σ H E I hf ⟨hz, hTI, ⟨x0, y0, hTO⟩, s1, s2, l1, l2⟩ ⟨xs, ys, x, y, q1, q2, e1, e2, hx, hy⟩
    subst hP hw hK
    have S := D.sep
    have hh : X.A.in1.handled = none := I.ok.hd hc
    obtain ⟨S1, D1, to1, of1⟩ := k1.draws I q1 hh (it := i1) (fun hm => D.f1 _ hm (by simp)) t1
    obtain ⟨S2, D2, to2, of2⟩ := k2.draws I q2 hh (it := i2) (fun hm => D.f2 _ hm (by simp)) t2
    have h1 : i < xs.length := (List.getElem?_eq_some_iff.mp hx).1
    have h2 : i < ys.length := (List.getElem?_eq_some_iff.mp hy).1
    have hzl : z < s.heap.objs.size := Heap.lt_size hz
    refine wpAny_pyNext_zipD2_item S D1 D2 hz hTI hTO (to1 _ s1) (to2 _ s2) h1 h2 fun v1 v2 h' tk ⟨x', hx', r1⟩ ⟨y', hy', r2⟩ z' TO' s1' s2' hT hsz hk => ?_
    obtain rfl := Option.some.inj (hx.symm.trans hx')
    obtain rfl := Option.some.inj (hy.symm.trans hy')
    refine ⟨_, rfl, wpAny_letOwnedTupleGo_zip (s := { s with heap := h', toks := tk }) z' fun h'' z'' sb => ?_⟩
    have up : ∀ b o, b ≠ z -> h'.get? b = some o -> h''.get? b = some o := fun b o hb e => (sb.2 b hb).trans e
    have hT2 : h''.get? s.heap.objs.size = some { cls := .type "tuple", data := .seq #[v1, v2] } := up _ _ (Nat.ne_of_gt hzl) hT
    have new : ObjOk X.prog X.w (upd H s.heap.objs.size (.tup [x, y])) h'' s.heap.objs.size (.tup [x, y]) :=
      ⟨by show 2 <= sizeLine; decide, [v1, v2], .cons r1 (.cons r2 .nil), ⟨_, hT2, rfl, _, rfl⟩⟩
    have off : ∀ {b : Addr}, b ∉ [z, TI, TO, i1, i2] -> b ≠ z /\ b ≠ TO /\ b ≠ i1 /\ b ≠ i2 := fun hb => by
      simp only [List.mem_cons, List.not_mem_nil, or_false, not_or] at hb
      exact ⟨hb.1, hb.2.2.1, hb.2.2.2.1, hb.2.2.2.2⟩
    have I1 : Inv X pins σ (upd H s.heap.objs.size (.tup [x, y])) { s with heap := h'', toks := tk } :=
      I.turnedNew (t' := tk) (ch := [z, TI, TO, i1, i2]) (fun b ob hb e => up b ob (off hb).1 (hk b ob (off hb).1 (off hb).2.1 (off hb).2.2.1 (off hb).2.2.2 e)) hf (Nat.le_refl _) new
    refine ⟨.ref s.heap.objs.size, _, I1, rfl, ⟨_, x, y, rfl, I.hok.fresh (Nat.le_refl _), rfl, fun l hl => by rw [k1.inj I q1 hl]; exact hx, fun l hl => by rw [k2.inj I q2 hl]; exact hy⟩,
      ⟨z'', up _ _ S.TIz (hk _ _ S.TIz S.TITO S.TIi1 S.TIi2 hTI), ⟨v1, v2, up _ _ S.TOz TO'⟩, Wkd.st_keep (of1 _ _ s1') fun o e => up _ o (Ne.symm S.zi1) e, Wkd.st_keep (of2 _ _ s2') fun o e => up _ o (Ne.symm S.zi2) e, by omega, by omega⟩, fun b hb => ?_⟩
    have hlt : b < s.heap.objs.size := by
      simp only [List.mem_cons, List.not_mem_nil, or_false] at hb
      rcases hb with rfl | rfl | rfl | rfl | rfl
      · exact hzl
      · exact Heap.lt_size hTI
      · exact Heap.lt_size hTO
      · obtain ⟨o, e, _⟩ := Wkd.st_obj s1; exact Heap.lt_size e
      · obtain ⟨o, e, _⟩ := Wkd.st_obj s2; exact Heap.lt_size e
    rw [upd_ne (Nat.ne_of_lt hlt)]
    exact (hf b hb).1
  done := by
    intro X hP hw hK hc i pins s σ H E I hf ⟨hz, hTI, ⟨x0, y0, hTO⟩, s1, s2, l1, l2⟩ ⟨xs, ys, q1, q2, e1, e2, hend⟩
    subst hP hw hK e1 e2
    have hh : X.A.in1.handled = none := I.ok.hd hc
    obtain ⟨S1, D1, to1, of1⟩ := k1.draws I q1 hh (it := i1) (fun hm => D.f1 _ hm (by simp)) t1
    obtain ⟨S2, D2, to2, of2⟩ := k2.draws I q2 hh (it := i2) (fun hm => D.f2 _ hm (by simp)) t2
    refine wpAny_pyNext_zipD2_end D.sep D1 D2 hz hTI hTO (to1 _ s1) (to2 _ s2) l1 l2 (by omega) fun h' tk hk => ⟨rfl, ?_⟩
    refine I.turnedL (t' := tk) (ch := [z, TI, TO, i1, i2]) (fun b o hb e => ?_) hf
    simp only [List.mem_cons, List.not_mem_nil, or_false, not_or] at hb
    exact hk b o hb.1 hb.2.2.1 hb.2.2.2.1 hb.2.2.2.2 e
  self := fun A i s Q E h q => wpAny_pyIter_zip h.1 q
def iZipG (K : PySem.W.Frag) (ta : TA) : TI := fun σ H R => ta σ H fun vs H1 => ∃ (k1 k2 : Wkd) (xs ys : List V), vs = [k1.v, k2.v] /\ k1.has K H1 xs /\ k2.has K H1 ys /\ R (ItzG K k1 k2 xs.length ys.length) H1
theorem pi_zipG {X : Cx} {e e2 : Expr} {ta : TA} {p pos tpos : Pos} {elts : List Expr} {kk : Nat} (hg : Gl X "zip") (hm : X.mg "zip" = none) (ha : PA X [e, e2] ta)
    (hs : starEach [e, e2] X.env = (false, eval e X.env) :: starEach [e2] X.env := by rfl) (hpl : (backTo pos (starEach [e2] X.env)).any (·.1) = false := by rfl) :
    PI X (.Tuple elts kk tpos) (.Call (.Name "zip" p) [e, e2] [] pos) (iZipG X.K ta) := by
  refine ⟨fun pins s σ H R I h => PyProof.Rows.Call_ (ld_blt I hg hm PyProof.Rows.boot_zip (PyProof.Rows.callWith_type1 (thn (ha.run pos pins s σ H _ I h) fun us s1 ⟨vs, H1, I1, r1, k1, k2, xs, ys, ev, q1, q2, q⟩ => ?_) hs hpl))⟩
  subst ev
  obtain ⟨u1, u2, rfl, r1, r2⟩ := vals2 r1
  obtain ⟨t1, rfl⟩ := Wkd.rel r1
  obtain ⟨t2, rfl⟩ := Wkd.rel r2
  obtain ⟨G1, B1, g1⟩ := k1.begins I1 q1 t1
  obtain ⟨G2, B2, g2⟩ := k2.begins I1 q2 t2
  have five : ∀ {b : Addr}, b ∈ [s1.heap.objs.size + 4, s1.heap.objs.size + 2, s1.heap.objs.size + 3, s1.heap.objs.size, s1.heap.objs.size + 1] -> s1.heap.objs.size <= b := fun {b} hb => by
    simp only [List.mem_cons, List.not_mem_nil, or_false] at hb
    rcases hb with z | z | z | z | z <;> rw [z]
    · exact Nat.le_add_right _ _
    · exact Nat.le_add_right _ _
    · exact Nat.le_add_right _ _
    · exact Nat.le_refl _
    · exact Nat.le_add_right _ _
  refine zip_begins2 B1 B2 g1 g2 fun h' hz hTI hTO ha hb hsz hk => wpAny_pyIter_zip hz ?_
  refine ⟨_, [s1.heap.objs.size + 4, s1.heap.objs.size + 2, s1.heap.objs.size + 3, s1.heap.objs.size, s1.heap.objs.size + 1], _, _, H1, rfl, I1.kept (t' := s1.toks) hk,
    turn_zipG (k1 := k1) (k2 := k2) (n1 := xs.length) (n2 := ys.length) (t1 := t1) (t2 := t2) ⟨by simp, fun a ha hm => absurd (k1.lt I1 q1 a ha) (Nat.not_lt.mpr (five hm)), fun a ha hm => absurd (k2.lt I1 q2 a ha) (Nat.not_lt.mpr (five hm))⟩,
    ⟨hz, hTI, ⟨_, _, hTO⟩, Wkd.st_mk ha, Wkd.st_mk hb, Nat.zero_le _, Nat.zero_le _⟩, fun b hb => I1.fpOk (five hb) (I1.hok.fresh (five hb)), q⟩
end DL
set_option Elab.async false
set_option linter.all false
set_option maxRecDepth 100000
set_option maxHeartbeats 4000000
set_option autoImplicit false
namespace DL
open PySem L2
theorem Wkd.shift {P : Program} {w : World} {A : Around} {it : Addr} {fp : List Addr} {n : Nat} {φ : Nat -> Value -> Prop} {S : Nat -> Heap -> Prop} (D : Draws P w A it fp n φ S) (c : Nat) : Draws P w A it fp (n + c) (fun i v => φ (i - c) v) (fun i h => c <= i /\ S (i - c) h) where
  live := fun i h s => D.live _ h s.2
  frame := fun i h h' s k => ⟨s.1, D.frame _ h h' s.2 k⟩
  item := fun i s Q E hi hs hQ => D.item (i - c) s Q E (by omega) hs.2 fun x h' tk hp s' sb => hQ x h' tk hp ⟨by omega, by rw [show i + 1 - c = i - c + 1 by omega]; exact s'⟩ sb
  done := fun s Q E hs hE => D.done s Q E (by have h2 := hs.2; rw [Nat.add_sub_cancel] at h2; exact h2) hE
def IteG (K : PySem.W.Frag) (k : Wkd) (n c : Nat) : It where
  go := fun i H => ∃ xs x, k.has K H xs /\ xs.length = n /\ xs[i]? = some x
  yld := fun i H v H' => ∃ T x, v = .ref T /\ H T = none /\ H' = upd H T (.tup [.int ((i + c : Nat)), x]) /\ ∀ xs, k.has K H xs -> xs[i]? = some x
  stop := fun i H => ∃ xs, k.has K H xs /\ xs.length = n /\ n <= i
theorem turn_enumG {P : Program} {w : World} {K : PySem.W.Frag} {elts : List Expr} {kk : Nat} {tpos : Pos} {k : Wkd} {n c : Nat} {t : Tok} {e it : Addr} (hne : e ≠ it) (h1 : ∀ a ∈ k.ads, a ≠ e /\ a ≠ it) :
    Turn P w K (.Tuple elts kk tpos) (IteG K k n c) [e, it] e (fun i h => (∃ old, IsEnum h e it ((i + c : Nat) : Int) old) /\ k.st t it i h /\ i <= n) where
  mem := List.mem_cons_self
  obj := fun i h ⟨⟨old, he⟩, s1, _⟩ b hb => by
    rcases List.mem_cons.mp hb with z | hb
    · rw [z]; exact ⟨_, he, fun v q => nomatch q⟩
    · rw [List.mem_singleton.mp hb]; exact Wkd.st_obj s1
  keep := fun i h h' ⟨⟨old, he⟩, s1, l⟩ kp => ⟨⟨old, kp e (by simp) _ he⟩, Wkd.st_keep s1 fun o q => kp it (by simp) o q, l⟩
  item := by
    intro X hP hw hK hc i pins s σ H E I hf ⟨⟨old, he⟩, s1, l⟩ ⟨xs, x, q1, e1, hx⟩
    subst hP hw hK
    have hh : X.A.in1.handled = none := I.ok.hd hc
    obtain ⟨S, D, to_, of_⟩ := k.draws I q1 hh (it := it) (fun hm => (h1 _ hm).2 rfl) t
    have hi : i < xs.length := (List.getElem?_eq_some_iff.mp hx).1
    have hel : e < s.heap.objs.size := Heap.lt_size he
    refine wpAny_pyNext_enum_itemD (Wkd.shift D c) he ⟨Nat.le_add_left c i, by rw [Nat.add_sub_cancel]; exact to_ _ s1⟩ (by omega) hne (fun hm => (List.mem_cons.mp hm).elim hne fun hm => (h1 _ hm).1 rfl) fun v h' tk hv ho hst hT hsz hk => ?_
    rw [Nat.add_sub_cancel] at hv
    obtain ⟨x', hx', rx⟩ := hv
    obtain rfl := Option.some.inj (hx.symm.trans hx')
    refine ⟨_, rfl, wpAny_letOwnedTupleGo_enum (s := { s with heap := h', toks := tk + 1 }) ho fun h'' he' sb => ?_⟩
    have hT2 : h''.get? s.heap.objs.size = some { cls := .type "tuple", data := .seq #[.int ((i + c : Nat) : Int) tk, v] } := (sb.2 _ (Nat.ne_of_gt hel)).trans hT
    have new : ObjOk X.prog X.w (upd H s.heap.objs.size (.tup [.int ((i + c : Nat)), x])) h'' s.heap.objs.size (.tup [.int ((i + c : Nat)), x]) :=
      ⟨by show 2 <= sizeLine; decide, [.int ((i + c : Nat) : Int) tk, v], .cons ⟨_, rfl⟩ (.cons rx .nil), ⟨_, hT2, rfl, _, rfl⟩⟩
    have I1 : Inv X pins σ (upd H s.heap.objs.size (.tup [.int ((i + c : Nat)), x])) { s with heap := h'', toks := tk + 1 } :=
      I.turnedNew (ch := [e, it]) (fun b ob hb q => (sb.2 b (fun z => hb (by simp [z]))).trans (hk b ob (fun z => hb (by simp [z])) (fun z => hb (by simp [z])) q)) hf (Nat.le_refl _) new
    refine ⟨.ref s.heap.objs.size, _, I1, rfl, ⟨_, x, rfl, I.hok.fresh (Nat.le_refl _), rfl, fun ys hy => by rw [k.inj I q1 hy]; exact hx⟩, ⟨⟨v, ?_⟩, ?_, by omega⟩, fun b hb => ?_⟩
    · rw [show ((i + 1 + c : Nat) : Int) = ((i + c : Nat) : Int) + 1 by omega]
      exact he'
    · have h2 := hst.2
      rw [show i + c + 1 - c = i + 1 by omega] at h2
      exact Wkd.st_keep (of_ _ _ h2) fun o q => (sb.2 it (Ne.symm hne)).trans q
    · have hlt2 : b < s.heap.objs.size := by
        rcases List.mem_cons.mp hb with z | hb
        · rw [z]; exact hel
        · rw [List.mem_singleton.mp hb]; obtain ⟨o, q, _⟩ := Wkd.st_obj s1; exact Heap.lt_size q
      rw [upd_ne (Nat.ne_of_lt hlt2)]
      exact (hf b hb).1
  done := by
    intro X hP hw hK hc i pins s σ H E I hf ⟨⟨old, he⟩, s1, l⟩ ⟨xs, q1, e1, hend⟩
    subst hP hw hK e1
    have hh : X.A.in1.handled = none := I.ok.hd hc
    obtain ⟨S, D, to_, of_⟩ := k.draws I q1 hh (it := it) (fun hm => (h1 _ hm).2 rfl) t
    obtain rfl : i = xs.length := by omega
    obtain ⟨f0, f1, f2, f3, f4, f5⟩ := hf it (by simp)
    exact wpAny_pyNext_enum_endD D he (to_ _ s1) fun h' eb => ⟨rfl, I.turned (t' := s.toks) (fun b o hb q => eb b o hb q) f0 f1 f3 f4 f5⟩
  self := fun A i s Q E ⟨⟨_, he⟩, _⟩ h => wpAny_pyIter_enum he h
def iEnW (K : PySem.W.Frag) (c : Nat) (ta : TA) : TI := fun σ H R => ta σ H fun vs H1 => ∃ (k : Wkd) (xs : List V), vs = [k.v] /\ k.has K H1 xs /\ R (IteG K k xs.length c) H1
theorem enum_pie {X : Cx} {pins : List (Addr × Obj)} {σ : St} {H1 : Hp} {s1 : Shared} {h' : Heap} {R : It -> Hp -> Prop} {k : Wkd} {xs : List V} {c : Nat} {t : Tok} {p tpos : Pos} {elts : List Expr} {kk : Nat} (I1 : Inv X pins σ H1 s1) (q1 : k.has X.K H1 xs) (q : R (IteG X.K k xs.length c) H1)
    (he : IsEnum h' (s1.heap.objs.size + 1) s1.heap.objs.size ((c : Nat) : Int) .none) (ho : h'.get? s1.heap.objs.size = some (k.mk t)) (hk : ∀ b o, s1.heap.get? b = some o -> h'.get? b = some o) :
    PIE X pins σ (.Tuple elts kk tpos) R (.ref (s1.heap.objs.size + 1)) { s1 with heap := h' } := by
  have two : ∀ b ∈ [s1.heap.objs.size + 1, s1.heap.objs.size], s1.heap.objs.size <= b := fun b hb => by
    rcases List.mem_cons.mp hb with z | hb
    · rw [z]; exact Nat.le_add_right _ _
    · rw [List.mem_singleton.mp hb]; exact Nat.le_refl _
  refine ⟨_, [s1.heap.objs.size + 1, s1.heap.objs.size], _, _, H1, rfl, I1.kept (t' := s1.toks) hk, turn_enumG (k := k) (n := xs.length) (c := c) (t := t) (Nat.succ_ne_self _) (fun a ha => ?_), ⟨⟨.none, by rw [Nat.zero_add]; exact he⟩, Wkd.st_mk ho, Nat.zero_le _⟩, fun b hb => I1.fpOk (two b hb) (I1.hok.fresh (two b hb)), q⟩
  have hl := k.lt I1 q1 a ha
  exact ⟨Nat.ne_of_lt (Nat.lt_succ_of_lt hl), Nat.ne_of_lt hl⟩
theorem pi_enumG {X : Cx} {e : Expr} {ta : TA} {p pos tpos : Pos} {elts : List Expr} {kk : Nat} (hg : Gl X "enumerate") (hm : X.mg "enumerate" = none) (ha : PA X [e] ta) (hs : starEach [e] X.env = [(false, eval e X.env)] := by rfl) :
    PI X (.Tuple elts kk tpos) (.Call (.Name "enumerate" p) [e] [] pos) (iEnW X.K 0 ta) := by
  refine ⟨fun pins s σ H R I h => PyProof.Rows.Call_ (ld_blt I hg hm PyProof.Rows.boot_enumerate (PyProof.Rows.callWith_type1 (thn (ha.run pos pins s σ H _ I h) fun us s1 ⟨vs, H1, I1, r1, k, xs, ev, q1, q⟩ => ?_) hs rfl))⟩
  subst ev
  obtain ⟨u, rfl, ru⟩ := vals1 r1
  obtain ⟨t, rfl⟩ := Wkd.rel ru
  obtain ⟨G, B, g⟩ := k.begins I1 q1 t
  exact call_enum1 B g fun h' he ho hk => wpAny_pyIter_enum he (enum_pie (p := p) I1 q1 q he ho hk)
@[simp] def wkD : D -> Option (List D)
  | .lst xs => some xs
  | .tup xs => some xs
  | .str z => some (z.cps.toList.map fun c => D.str ⟨#[c]⟩)
  | .byt b => some (b.toList.map fun c => D.int (c.toNat : Nat))
  | _ => none
theorem Rep.wkd {K : PySem.W.Frag} {cl : ClW} {F : Hp} {v : V} {d : D} {xs : List D} (r : Rep K cl F v d) (e : wkD d = some xs) : ∃ (k : Wkd) (us : List V), v = k.v /\ k.has K F us /\ Reps K cl F us xs := by
  cases d with
  | lst ys =>
    cases e
    obtain ⟨a, us, rfl, h1, h2⟩ := r.toLst
    exact ⟨.lst a, us, rfl, h1, h2⟩
  | tup ys =>
    cases e
    obtain ⟨a, us, rfl, h1, h2⟩ := r.toTup
    exact ⟨.tup a, us, rfl, h1, h2⟩
  | str z =>
    cases e
    obtain rfl := r.toStr
    refine ⟨.txt z, _, rfl, rfl, ?_⟩
    induction z.cps.toList with
    | nil => exact .nil
    | cons c l ih => exact .cons (.str _) ih
  | byt b =>
    cases e
    obtain rfl := r.toByt
    refine ⟨.byt b, _, rfl, rfl, ?_⟩
    induction b.toList with
    | nil => exact .nil
    | cons c l ih => exact .cons (.int _) ih
  | _ => cases e
theorem Wkd.same' {K : PySem.W.Frag} {k : Wkd} {H H' : Hp} {us : List V} (h : k.has K H us) (s : Same H H') : k.has K H' us := by
  cases k with
  | txt z => exact h
  | byt b => exact h
  | lst a => exact same_l s h
  | tup a => exact same_t s h
@[simp] def iZpW (τ τ' : DTE) : DTI := fun ρ M R X => τ ρ M (fun d M1 => τ' ρ M1 (fun e M2 => ∃ xs ys, wkD d = some xs /\ wkD e = some ys /\ R ((xs.zip ys).map fun p => D.tup [p.1, p.2]) M2) X) X
@[simp] def iEnN (c : Nat) (τ : DTE) : DTI := fun ρ M R X => τ ρ M (fun d M1 => ∃ xs, wkD d = some xs /\ R (xs.zipIdx.map fun p => D.tup [.int ((p.2 + c : Nat)), p.1]) M1) X
section
variable {cl : ClW} {X : Cx} {W : WX} {a b : Expr} {pos : Pos} {τa τb : DTE}
theorem enum_low {tg it : Expr} {c : Nat} (h : PI X tg it (iEnW X.K c (lowA X.K cl W (dCons τa dNil)))) : DI cl X W tg it (iEnN c τa) :=
  ⟨pi_imp h fun σ H R ⟨F, ρ, M, Rd, Xd, g, s, q, p, w⟩ =>
    ⟨F, ρ, M, fun ds M1 => ∃ d xs, ds = [d] /\ wkD d = some xs /\ Rd (xs.zipIdx.map fun p => D.tup [.int ((p.2 + c : Nat)), p.1]) M1, Xd, g, s, (by
      unfold iEnN at q
      unfold dCons dNil
      have same : (fun d M1 => ∃ xs, wkD d = some xs /\ Rd (xs.zipIdx.map fun p => D.tup [.int ((p.2 + c : Nat)), p.1]) M1) = (fun d M1 => ∃ d' xs, [d] = [d'] /\ wkD d' = some xs /\ Rd (xs.zipIdx.map fun p => D.tup [.int ((p.2 + c : Nat)), p.1]) M1) := by
        funext d M1
        simp
      rw [same] at q
      exact q), fun vs H' F' ds M' sm g' r ⟨d, xs, e1, e2, q'⟩ => (by
      subst e1
      obtain ⟨v, ws, rfl, r1, r2⟩ := r.inv
      obtain rfl := r2.inv0
      obtain ⟨k, us, rfl, h1, h2⟩ := r1.wkd e2
      refine ⟨k, us, rfl, Wkd.same' h1 g'.sub, p _ _ F' _ M' sm g' (fun i F2 H2 M2 sm2 g2 => ⟨fun d0 hd => ?_, fun hl => ⟨us, Wkd.same' h1 (sm2.trans g2.sub), rfl, by rw [h2.length]; simpa using hl⟩⟩) q'⟩
      rw [List.getElem?_map, List.getElem?_zipIdx] at hd
      cases e3 : xs[i]? with
      | none => rw [e3] at hd; cases hd
      | some d1 =>
        rw [e3] at hd
        cases hd
        obtain ⟨v0, h3, h4⟩ := h2.get e3
        refine ⟨⟨us, v0, Wkd.same' h1 (sm2.trans g2.sub), rfl, h3⟩, fun x H3 ⟨T, x0, ex, hT, eH, hy⟩ => ?_⟩
        subst ex eH
        obtain rfl := Option.some.inj (h3.symm.trans (hy us (Wkd.same' h1 (sm2.trans g2.sub))))
        have sm3 : Same F2 (upd F2 T (.tup [.int ((i + c : Nat)), v0])) := same_new (g2.freshF hT)
        refine ⟨_, sm3, g2.new hT, .tup (SqT1.of upd_same) (.cons ?_ (.one (h4.mono (sm2.trans sm3))))⟩
        simpa using Rep.int ((i + c : Nat) : Int)), w⟩⟩
theorem di_enumW {elts : List Expr} {kk : Nat} {tpos p : Pos} (hg : Gl X "enumerate") (hm : X.mg "enumerate" = none) (ha : DE cl X W a τa) (hs : starEach [a] X.env = [(false, eval a X.env)] := by rfl) :
    DI cl X W (.Tuple elts kk tpos) (.Call (.Name "enumerate" p) [a] [] pos) (iEnN 0 τa) := enum_low (pi_enumG hg hm (da_cons (W := W) (cl := cl) ha da_nil hs).pa hs)
end
end DL
set_option Elab.async false
set_option linter.all false
set_option maxRecDepth 100000
set_option maxHeartbeats 4000000
set_option autoImplicit false
namespace DL
open PySem L2
structure KTab (K : PySem.W.Frag) (w : World) (d : Addr) (tb : List (Str × Str)) : Prop where
  kd : ∃ es n, KDict K w d es n
  get : ∀ z : Str, match tb.lookup z with
    | some v => ∃ t, PySem.W.nsIn K d z = some (some (.str v t))
    | none => PySem.W.nsIn K d z = some none
section
variable {cl : ClW} {X : Cx} {W : WX} {x : Str} {d : Addr} {tb : List (Str × Str)} {a : Expr} {τ : DTE} {p pos : Pos}
end
end DL
set_option Elab.async false
set_option linter.all false
set_option maxRecDepth 100000
set_option maxHeartbeats 4000000
set_option autoImplicit false
namespace DL
open PySem L2
section
variable {K : PySem.W.Frag} {cl : ClW}
end
section
variable {K : PySem.W.Frag} {cl : ClW}
end
end DL
set_option Elab.async false
set_option linter.all false
set_option maxRecDepth 100000
set_option maxHeartbeats 4000000
set_option autoImplicit false
namespace DL
open PySem L2
section
variable {K : PySem.W.Frag} {cl : ClW} {X : Cx}
end
end DL
set_option Elab.async false
set_option linter.all false
set_option maxRecDepth 100000
set_option maxHeartbeats 4000000
set_option autoImplicit false
namespace DL
open PySem L2
section
variable {X : Cx} {e : Expr} {es : List Expr} {ta : TA} {p pos : Pos}
end
section
variable {cl : ClW} {X : Cx} {W : WX} {k : Nat} {x : Str} {c : Nat} {fs : List Str} {e : Expr} {es : List Expr} {α : DTA} {p pos : Pos}
end
def xoF (cs : List Nat) (f : Str) : D -> Option D
  | .xob c ns ds => if c ∈ cs then lookN f ns ds else none
  | _ => none
@[simp] def dXo (cs : List Nat) (f : Str) (τ : DTE) : DTE := fun ρ M Q X => τ ρ M (fun d M1 => ∃ v, xoF cs f d = some v /\ Q v M1) X
section
variable {P : Program} {w : World} {A : Around} {E : Value -> Shared -> Prop} {s : Shared} {K : PySem.W.Frag} {x C f : Addr} {ox : Obj} {od : Option Obj} {m : Str}
end
structure MethX (cl : ClW) (P : Program) (w : World) (K : PySem.W.Frag) (mg : Str -> Option Value) (base : Heap) (k c : Nat) (m : Str) (spd : SpD) : Prop where
  xf : XfC K (cl c)
  ex : ∃ f fd ps, PySem.W.findIn K (.ref (cl c)) m = some (some (.ref f)) /\ PySem.W.typeIn K (.ref f) = some (.type "function") /\ PySem.W.keepIn K (.ref f) = true /\ Binds K fd ps [] /\ FnG cl P w K mg base k f fd ps spd
section
variable {cl : ClW} {X : Cx} {W : WX} {k : Nat} {m : Str} {o : Expr} {τ : DTE} {apos pos : Pos}
end
end DL
set_option Elab.async false
set_option linter.all false
set_option maxRecDepth 100000
set_option maxHeartbeats 4000000
set_option autoImplicit false
namespace DLC
open PySem PySem.W Builtin PyProof.Rows SeqAt
theorem order_lt : ∀ (xs ys : List UInt8), (Builtin.Bytes.order xs ys == .lt) = decide (xs.map UInt8.toNat < ys.map UInt8.toNat)
  | [], [] => by simp [Bytes.order]
  | [], y :: ys => by simp [Bytes.order]
  | x :: xs, [] => by simp [Bytes.order]
  | x :: xs, y :: ys => by
    simp only [Bytes.order, List.map_cons, List.cons_lt_cons_iff]
    have e1 : x < y ↔ x.toNat < y.toNat := Iff.rfl
    have e2 : x > y ↔ y.toNat < x.toNat := Iff.rfl
    by_cases h1 : x < y
    · rw [if_pos h1]
      have := e1.mp h1
      simp [this]
    · rw [if_neg h1]
      by_cases h2 : x > y
      · rw [if_pos h2]
        have a := e2.mp h2
        have b : ¬ x.toNat < y.toNat := by omega
        have c : ¬ x.toNat = y.toNat := by omega
        simp [b, c]
      · rw [if_neg h2, order_lt xs ys]
        have b : ¬ x.toNat < y.toNat := fun z => h1 (e1.mpr z)
        have c : ¬ y.toNat < x.toNat := fun z => h2 (e2.mpr z)
        have d : x.toNat = y.toNat := by omega
        simp [d]
@[reducible] def bytKind : PyProof.Rows.KeyKind where
  α := List Nat
  blt a b := decide (a < b)
  irrefl a := by simpa using List.lt_irrefl a
  trans a b c h1 h2 := by simp only [decide_eq_true_eq] at *; exact List.lt_trans h1 h2
  negTrans a b c h := by
    simp only [decide_eq_true_eq] at *
    by_cases hab : a < b
    · exact .inl hab
    · exact .inr (List.lt_of_le_of_lt (List.not_lt.mp hab) h)
  total a b h1 h2 := by simp only [decide_eq_false_iff_not] at *; exact List.le_antisymm (List.not_lt.mp h2) (List.not_lt.mp h1)
  keyOf v := match v with | .bytes x _ => some (x.toList.map UInt8.toNat) | _ => none
  dflt := []
section
variable {prog : Program} {w : World} {A : Around} {E : Value -> Shared -> Prop} {s : Shared}
theorem oneLt_bytes {b c : Array UInt8} {t u : Tok} {Q : Bool -> Shared -> Prop} (h : Q (decide (b.toList.map UInt8.toNat < c.toList.map UInt8.toNat)) s) : wpAny (model prog w) A (oneLt' true (.bytes b t) (.bytes c u)) Q E s := by
  rw [oneLt'_eq]
  simp only [if_true]
  refine wpAny_bind (wpAny_cRoomFor_byValue rfl ?_)
  refine wpAny_bind (wpAny_callSpecialIfBound?_slot (typeIs_bytes s b t) slot_bytes_lt (call_gives slot_bytes_lt (typeIs_bytes s b t) entry_bytes_lt (args_bytes_lt_2 _ _) (gives_bytes_lt b c t u) ?_))
  refine wpAny_truthy_bool ?_
  rw [order_lt]
  exact h
theorem sortsAt_bytes {vs : List Value} (h : ∀ v ∈ vs, ∃ b t, v = .bytes b t) : SortsAt prog w A s bytKind vs := by
  refine ⟨fun v hv => ?_, oneType', fun E x y a b Q ha hb q => ?_, fun h2 E Q q => PySem.W.kas_kind (T := .type "bytes") h2 (fun v hv => ?_) rfl rfl q⟩
  · obtain ⟨b, t, rfl⟩ := h v hv
    exact ⟨_, rfl⟩
  · cases x <;> simp only [bytKind, reduceCtorEq, Option.some.injEq] at ha
    cases y <;> simp only [bytKind, reduceCtorEq, Option.some.injEq] at hb
    cases ha; cases hb
    exact oneLt_bytes q
  · obtain ⟨b, t, rfl⟩ := h v hv
    exact Looks.of_pure rfl
end
end DLC
set_option Elab.async false
set_option linter.all false
set_option maxRecDepth 100000
set_option maxHeartbeats 4000000
set_option autoImplicit false
namespace DL
open PySem L2 PyProof.Rows
def keyB : D -> List Nat
  | .byt x => x.toList.map UInt8.toNat
  | _ => []
def leByt (a b : D) : Bool := !decide (keyB b < keyB a)
inductive SortBy : List D -> (D -> D -> Bool) -> Prop where
  | byt (bs : List (Array UInt8)) : SortBy (bs.map D.byt) leByt
  | py (xs : List D) (enc : D -> PyData) : (∀ x ∈ xs, toPyX x = some (enc x)) -> PySem.W.AllAlike (xs.map enc) -> PySem.W.Sortable (xs.map enc) -> (∀ x ∈ xs, (enc x).depth <= 32) -> SortBy xs (PySem.W.dataLe false enc)
def dSorted (τ : DTE) : DTE := fun ρ M Q X => τ ρ M (fun d M1 => ∃ (xs : List D) (le : D -> D -> Bool), vw M1 d = .lst xs /\ xs.length <= sizeLine /\ SortBy xs le /\ Q (.lst (xs.mergeSort le)) M1) X
theorem zip_sort {α β : Type} {le : β -> β -> Bool} {vs : List α} {xs : List β} (h : vs.length = xs.length) : ((vs.zip xs).mergeSort fun p q => le p.2 q.2).map (·.2) = xs.mergeSort le := by
  rw [List.map_mergeSort (s := le) (fun a _ b _ => rfl), List.map_snd_zip (by omega)]
section
variable {cl : ClW} {X : Cx} {W : WX} {e : Expr} {τ : DTE} {p pos : Pos} {k : Nat}
theorem zipR {K : PySem.W.Frag} {F : Hp} {vs : List V} {us : List Value} {xs : List D} (r : Vals vs us) (r2 : Reps K cl F vs xs) : PySem.W.EachIs (fun v (b : V × D) => RelV b.1 v /\ Rep K cl F b.1 b.2 /\ b.2 ∈ xs) us (vs.zip xs) := by
  have l1 := r.length
  have l2 := r2.length
  refine PySem.W.EachIs.of_zip (by rw [List.length_zip]; omega) fun pr hpr => ?_
  obtain ⟨jx, hj⟩ := List.mem_iff_getElem?.mp hpr
  obtain ⟨e1, e2⟩ := List.getElem?_zip_eq_some.mp hj
  obtain ⟨e3, e4⟩ := List.getElem?_zip_eq_some.mp e2
  obtain ⟨u, k1, k2⟩ := r.get e3
  rw [e1] at k1
  obtain ⟨v', k3, k4⟩ := r2.get e4
  rw [e3] at k3
  have a1 := Option.some.inj k1
  have a3 := Option.some.inj k3
  exact ⟨by rw [a1]; exact k2, by rw [a3]; exact k4, List.mem_of_getElem? e4⟩
theorem d_sorted (c : Cap X W k) (sm : SmOk X.K) (hu : X.A.units + 64 < cLine) (hg : Gl X "sorted") (hm : X.mg "sorted" = none) (he : DE cl X W e τ) (hs : starEach [e] X.env = (false, eval e X.env) :: starEach [] X.env := by rfl) : DE cl X W (.Call (.Name "sorted" p) [e] [] pos) (dSorted τ) := by
  refine ⟨⟨fun pins s σ H Q I ⟨F, ρ, M, Qd, Xd, g, sl, t, pq, w⟩ => ?_⟩⟩
  refine wpAny_Call_Name_kw (ld_blt I hg hm (by rfl) ?_ (by decide) (by decide))
  have arg : DA cl X W [e] (dCons τ dNil) := da_cons he da_nil hs
  refine PyProof.Rows.callWith_builtin1 (thn (arg.pa.run pos pins s σ H (fun vs H1 => ∃ F1 M1 v d, vs = [v] /\ Same F F1 /\ Good X.K cl F1 H1 M1 /\ Rep X.K cl F1 v d /\ ∃ (xs : List D) (le : D -> D -> Bool), vw M1 d = .lst xs /\ xs.length <= sizeLine /\ SortBy xs le /\ Qd (.lst (xs.mergeSort le)) M1) I
    ⟨F, ρ, M, fun ds M1 => ∃ d, ds = [d] /\ ∃ (xs : List D) (le : D -> D -> Bool), vw M1 d = .lst xs /\ xs.length <= sizeLine /\ SortBy xs le /\ Qd (.lst (xs.mergeSort le)) M1, Xd, g, sl, ?_, fun vs H' F' ds M' sm' g' r ⟨d, ed, q⟩ => ?_, w⟩) fun us s1 ⟨vs, H1, I1, r1, F1, M1, v, d, ev, sm', g1, rd, xs, le, hv, hl, hk, q⟩ => ?_) hs rfl
  · have same : (fun (d : D) (M1 : Mem) => ∃ (xs : List D) (le : D -> D -> Bool), vw M1 d = .lst xs /\ xs.length <= sizeLine /\ SortBy xs le /\ Qd (.lst (xs.mergeSort le)) M1) = (fun d M1 => ∃ d', [d] = [d'] /\ ∃ (xs : List D) (le : D -> D -> Bool), vw M1 d' = .lst xs /\ xs.length <= sizeLine /\ SortBy xs le /\ Qd (.lst (xs.mergeSort le)) M1) := by
      funext d M1
      simp
    unfold dSorted at t
    unfold dCons dNil
    rw [same] at t
    exact t
  · subst ed
    obtain ⟨v, ws, rfl, r1, r2⟩ := r.inv
    obtain rfl := r2.inv0
    exact ⟨F', M', v, d, rfl, sm', g', r1, q⟩
  · subst ev
    have hw := vw_ok g1 rd
    rw [hv] at hw
    obtain ⟨a, vs, rfl, h1, h2⟩ := hw.lst g1.sub
    obtain ⟨u, rfl, ru⟩ := vals1 r1
    obtain rfl : u = Value.ref a := ru
    obtain ⟨its, rvs, hil, hz⟩ := I1.list h1
    have lv := h2.length
    have li := rvs.length
    have zr := zipR rvs h2
    have fin : ∀ out : List Value, PySem.W.EachIs (fun v (b : V × D) => RelV b.1 v /\ Rep X.K cl F1 b.1 b.2 /\ b.2 ∈ xs) out ((vs.zip xs).mergeSort fun p q => le p.2 q.2) -> EP X pins σ Q (.ref (s1.heap.objs.size + 1)) { s1 with heap := sortedAll s1.heap its out.toArray } := fun out hout => by
      obtain ⟨w1, w2⟩ := each_vals (K := X.K) (cl := cl) (F := F1) (fun v b z => ⟨z.1, z.2.1⟩) hout
      rw [zip_sort (by omega)] at w2
      have pm1 := List.mergeSort_perm (vs.zip xs) (fun p q => le p.2 q.2)
      have hl2 : (((vs.zip xs).mergeSort fun p q => le p.2 q.2).map (·.1)).length <= sizeLine := by
        rw [List.length_map, pm1.length_eq, List.length_zip]; omega
      obtain ⟨ep, he'⟩ := PyProof.Rows.sortedAll_at s1.heap its out.toArray
      refine ⟨.ref _, upd H1 (s1.heap.objs.size + 1) (.lst (((vs.zip xs).mergeSort fun p q => le p.2 q.2).map (·.1))), I1.laid (t' := s1.toks) (fun _ _ => PyProof.Rows.sortedAll_old) (Nat.le_succ _) ⟨hl2, out, ep, w1, by simpa using he'⟩, rfl, ?_⟩
      exact (pq.mono sm').newL g1 w2 q (I1.hok.fresh (Nat.le_succ _))
    cases hk with
    | byt bs =>
      have hb : ∀ v ∈ its, ∃ b t, v = Value.bytes b t := fun v hv => by
        obtain ⟨b, hb, r, r2, r3⟩ := zr.left v hv
        obtain ⟨x, hx, ex⟩ := List.mem_map.mp r3
        rw [<- ex] at r2
        rw [r2.toByt] at r
        obtain ⟨t, rfl⟩ := r
        exact ⟨_, _, rfl⟩
      refine PySem.W.sorted_vals (κ := DLC.bytKind) hil.isList (DLC.sortsAt_bytes hb) (by omega) (fin _ ?_)
      have z := PySem.W.sortVals_each (κ := DLC.bytKind) (rev := false) (ks := its) (fun b : V × D => keyB b.2) zr ?_
      · exact z
      · refine (PySem.W.each_mem zr).mono fun v b ⟨⟨r, r2, r3⟩, _⟩ => ?_
        obtain ⟨x, hx, ex⟩ := List.mem_map.mp r3
        rw [<- ex] at r2 ⊢
        rw [r2.toByt] at r
        obtain ⟨t, rfl⟩ := r
        rfl
    | py _ enc h1 h2 h3 h4 =>
      have hr : PySem.W.EachIs (fun v (b : V × D) => ∃ as, PySem.Reads s1.heap v (enc b.2) as) its (vs.zip xs) := zr.mono fun v b ⟨r, r2, r3⟩ => by
        obtain ⟨as, k1, _⟩ := reads_of I1 sm (r2.mono g1.sub) r (h1 _ r3)
        exact ⟨as, k1⟩
      have em : (vs.zip xs).map (fun b => enc b.2) = xs.map enc := by
        rw [show (fun b : V × D => enc b.2) = enc ∘ (·.2) from rfl, <- List.map_map, List.map_snd_zip (by omega)]
      refine PySem.W.sorted_data (enc := fun b : V × D => enc b.2) hil.isList zr hr (by rw [em]; exact h2) (by rw [em]; exact h3) (by rw [List.length_zip]; omega) (fun b hb => ?_) fun out ho heach => fin out ?_
      · have hb2 : b.2 ∈ xs := (List.of_mem_zip (show (b.1, b.2) ∈ vs.zip xs from hb)).2
        have := h4 _ hb2
        omega
      · exact heach
end
end DL
set_option Elab.async false
set_option linter.all false
set_option maxRecDepth 100000
set_option maxHeartbeats 4000000
set_option autoImplicit false
namespace DL
open PySem L2
open PySem.SeqAt
mutual
def eqY : Nat -> D -> D -> Option Bool
  | _, .byt a, .byt b => some (a == b)
  | _, .byt _, .non => some false
  | _, .non, .byt _ => some false
  | n + 1, .lst xs, .lst ys => if xs.length = ys.length then eqYs n xs ys else some false
  | n + 1, .tup xs, .tup ys => eqYs n xs ys
  | n, d, e => if plX n d && plX n e then some (eqX d e) else none
def eqYs : Nat -> List D -> List D -> Option Bool
  | _, [], [] => some true
  | n, x :: xs, y :: ys => match eqY n x y, eqYs n xs ys with
    | some a, some b => some (a && b)
    | _, _ => none
  | _, [], _ :: _ => some false
  | _, _ :: _, [] => some false
end
section
variable {X : Cx} {pins : List (Addr × Obj)} {σ : St} {H : Hp} {s : Shared} {cl : ClW}
@[simp] def bEqY : DB2 := fun d e _ M Q _ => ∃ d' e' n b, Dv M d d' /\ Dv M e e' /\ n <= 60 /\ eqY n d' e' = some b /\ Q (.bl b) M
@[simp] def bNeY : DB2 := fun d e _ M Q _ => ∃ d' e', Dv M d d' /\ Dv M e e' /\ ((∃ a b, d' = .byt a /\ e' = .byt b /\ Q (.bl (a != b)) M) \/ (∃ a, d' = .byt a /\ e' = .non /\ Q (.bl true) M) \/ (∃ a, d' = .non /\ e' = .byt a /\ Q (.bl true) M) \/
  ∃ xs ys n b, d' = .lst xs /\ e' = .lst ys /\ n <= 60 /\ eqY (n + 1) d' e' = some b /\ Q (.bl (!b)) M)
end
end DL
set_option Elab.async false
set_option linter.all false
set_option maxRecDepth 100000
set_option maxHeartbeats 4000000
set_option autoImplicit false
namespace DL
open PySem L2 PyProof.Rows
section
variable {X : Cx} {a b c : Expr} {ta : TA} {p1 p2 p3 p4 : Pos}
end
def rgD (a c : Int) (n : Nat) : List D := (List.range n).map fun i => D.int (a + (i : Nat) * c)
@[simp] def dListRg3 (α : DTA) : DTE := fun ρ M Q X => α ρ M (fun ds M1 => ∃ (i j k : Int) (n : Nat), ds = [.int i, .int j, .int k] /\ RgC i j k n /\ n <= 2 ^ 24 /\ Q (.lst (rgD i k n)) M1) X
@[simp] def iR3 (α : DTA) : DTI := fun ρ M R X => α ρ M (fun ds M1 => ∃ (i j k : Int) (n : Nat), ds = [.int i, .int j, .int k] /\ RgC i j k n /\ R (rgD i k n) M1) X
section
variable {cl : ClW} {X : Cx} {W : WX} {a b c : Expr} {α : DTA} {p1 p2 p3 p4 p pos : Pos}
end
end DL
set_option Elab.async false
set_option linter.all false
set_option maxRecDepth 100000
set_option maxHeartbeats 4000000
set_option autoImplicit false
namespace DL
open PySem L2 PyProof.Rows
section
variable {X : Cx} {a b : Expr} {ta : TA} {p1 p2 p3 p4 : Pos}
end
@[simp] def dListRg2 (α : DTA) : DTE := fun ρ M Q X => α ρ M (fun ds M1 => ∃ (i j : Int) (n : Nat), ds = [.int i, .int j] /\ RgC i j 1 n /\ n <= 2 ^ 24 /\ Q (.lst (rgD i 1 n)) M1) X
section
variable {cl : ClW} {X : Cx} {W : WX} {a b : Expr} {α : DTA} {p1 p2 p3 p4 p pos : Pos}
end
end DL
set_option Elab.async false
set_option linter.all false
set_option maxRecDepth 100000
set_option maxHeartbeats 4000000
set_option autoImplicit false
namespace DL
open PySem L2 PySem.W
end DL
set_option Elab.async false
set_option linter.all false
set_option maxRecDepth 100000
set_option maxHeartbeats 4000000
set_option autoImplicit false
namespace DL
open PySem PySem.Spec PyProof.Rows L2 LamX
abbrev lamFd (q : Str) (params : Arguments) (body : Expr) (scope : Scope) (clo : List (Str × Addr)) (dV doc pm cv ctv : Value) : FuncData := PySem.W.kdv_fn "<lambda>" q params (.expr body) scope clo dV doc pm cv ctv
inductive LamDf (params : Arguments) (body : Expr) (scope : Scope) (env : PySem.Env) : Prop
  | no : defaultsOf params env = ([], []) -> (∀ (q : Str) (cl : List (Str × Addr)) (pm cv ctv : Value), bindArgs (lamFd q params body scope cl .none .none pm cv ctv) ⟨[], []⟩ = pure []) -> LamDf params body scope env
  | one (y : Str) (i : Int) (j : Nat) (p : Pos) : defaultsOf params env = ([eval (.Constant (.int i) j p) env], []) -> scope.names.lookup y = some .local ->
      (∀ (q : Str) (cl : List (Str × Addr)) (doc pm cv ctv : Value) (T : Addr) (t : Tok), ∃ k, bindArgs (lamFd q params body scope cl (.ref T) doc pm cv ctv) ⟨[], []⟩ = seqItems? (.ref T) >>= k /\ k (some #[.int i t]) = pure [(y, .int i t)]) -> LamDf params body scope env
section
variable {X : Cx} {pins : List (Addr × Obj)} {σ : L2.St} {H : Hp} {s : Shared}
end
structure LamS2 (N : List Str) (sc scope : Scope) : Prop where
  kind : scope.kind = .function
  co : scope.isCoroutine = false
  gen : scope.isGenerator = false
  own : ∀ y ∈ scope.names, y.2 ≠ .cell /\ (y.2 = .local -> y.1 ∉ N)
  free : ∀ y ∈ scope.names, y.2 = .free -> sc.names.lookup y.1 = some .cell \/ sc.names.lookup y.1 = some .free
section
variable {X : Cx} {pins : List (Addr × Obj)} {σ : L2.St} {H HZ : Hp} {s s1 : Shared}
end
abbrev THD := Mem -> DV -> DEK -> Prop
section
variable {cl : ClW} {X : Cx} {pins : List (Addr × Obj)} {σ : L2.St} {H : Hp} {s : Shared}
end
section
variable {cl : ClW} {P : Program} {w : World} {K : PySem.W.Frag} {mg : Str -> Option Value} {base : Heap} {k : Nat} {f : Addr} {x qual a : Str} {params : Arguments} {body : List Stmt} {scope : Scope} {fd : FuncData} {N : List Str} {spT : THD -> THD} {t : D -> THD -> DTS}
end
section
variable {cl : ClW} {X : Cx} {W : WX} {k : Nat} {x a : Str} {spT : THD -> THD} {τ : DTE} {params : Arguments} {body : Expr} {scope : Scope} {cc P : Addr} {p pos lpos : Pos}
end
end DL
set_option Elab.async false
set_option linter.all false
set_option maxRecDepth 100000
set_option maxHeartbeats 4000000
set_option autoImplicit false
namespace DL
open PySem L2
section
variable {K : PySem.W.Frag} {cl : ClW} {X : Cx}
end
end DL
set_option Elab.async false
set_option linter.all false
set_option maxRecDepth 100000
set_option maxHeartbeats 4000000
set_option autoImplicit false
namespace DL
open PySem L2
abbrev NKey := Option Key
def nkD : NKey -> D
  | none => .non
  | some (.inl i) => .int i
  | some (.inr x) => .str x
def nkO : D -> Option NKey
  | .non => some none
  | .int i => some (some (.inl i))
  | .str x => some (some (.inr x))
  | _ => none
@[simp] theorem nkO_nkD (k : NKey) : nkO (nkD k) = some k := by rcases k with _ | _ | _ <;> rfl
theorem nk_is {k : NKey} {u : Value} (h : RelV (nkV k) u) : nkIs k u = true := by
  rcases k with _ | i | x
  · cases h; rfl
  · obtain ⟨t, rfl⟩ := h; simp [nkIs, keyIs, Value.isInt]
  · obtain ⟨t, rfl⟩ := h; simp [nkIs, keyIs, Value.isStrOf]
theorem nk_of {k : NKey} {u : Value} (h : nkIs k u = true) : RelV (nkV k) u := by
  rcases k with _ | i | x
  · cases u <;> simp [nkIs] at h; rfl
  · cases u <;> simp [nkIs, keyIs, Value.isInt] at h
    subst h; exact ⟨_, rfl⟩
  · cases u <;> simp [nkIs, keyIs, Value.isStrOf] at h
    subst h; exact ⟨_, rfl⟩
theorem nk_rep {K : PySem.W.Frag} {cl : ClW} {F H : Hp} {v : V} {d : D} {k : NKey} (r : Vw K cl F H v d) (e : nkO d = some k) : v = nkV k := by
  cases d with
  | non => cases e; exact r.non
  | int i => cases e; exact r.int
  | str x => cases e; exact r.str
  | _ => cases e
def putN {α : Type} (kvs : List (NKey × α)) (k : NKey) (v : α) : List (NKey × α) :=
  if (kvs.any fun kv => decide (kv.1 = k)) = true then kvs.map (fun kv => if kv.1 = k then (kv.1, v) else kv) else kvs ++ [(k, v)]
theorem kv_len {κ : Type} : ∀ {kvs : List (κ × V)} {vs : List (κ × Value)}, KV kvs vs -> kvs.length = vs.length
  | _, _, .nil => rfl
  | _, _, .cons _ t => by rw [List.length_cons, List.length_cons, kv_len t]
theorem kv_keys {κ : Type} : ∀ {kvs : List (κ × V)} {vs : List (κ × Value)}, KV kvs vs -> kvs.map (·.1) = vs.map (·.1)
  | _, _, .nil => rfl
  | _, _, .cons h t => by rw [List.map_cons, List.map_cons, h.1, kv_keys t]
theorem put_kv {kvs : List (NKey × V)} {vs : List (NKey × Value)} {k : NKey} {v : V} {u : Value} (h : KV kvs vs) (r : RelV v u) : KV (putN kvs k v) (stored vs k u) := by
  have any : ∀ {kvs : List (NKey × V)} {vs : List (NKey × Value)}, KV kvs vs -> (kvs.any fun kv => decide (kv.1 = k)) = vs.any fun kv => decide (kv.1 = k) := fun h => by
    induction h with
    | nil => rfl
    | cons p t ih => rw [List.any_cons, List.any_cons, p.1, ih]
  have set : ∀ {kvs : List (NKey × V)} {vs : List (NKey × Value)}, KV kvs vs -> KV (kvs.map fun kv => if kv.1 = k then (kv.1, v) else kv) (vs.map fun kv => if kv.1 = k then (kv.1, u) else kv) := fun h => by
    induction h with
    | nil => exact .nil
    | @cons x y _ _ p t ih =>
      refine .cons ?_ ih
      by_cases hk : x.1 = k
      · have hk2 : y.1 = k := by rw [<- p.1]; exact hk
        simp only [hk, hk2, if_true]
        exact ⟨trivial, r⟩
      · have hk2 : ¬ y.1 = k := by rw [<- p.1]; exact hk
        simp only [hk, hk2, if_false]
        exact p
  have snoc : ∀ {kvs : List (NKey × V)} {vs : List (NKey × Value)}, KV kvs vs -> KV (kvs ++ [(k, v)]) (vs ++ [(k, u)]) := fun h => by
    induction h with
    | nil => exact .cons ⟨rfl, r⟩ .nil
    | cons p t ih => exact .cons p ih
  unfold putN stored
  rw [any h]
  split
  · exact set h
  · exact snoc h
theorem val_kv {kvs : List (NKey × V)} {vs : List (NKey × Value)} {k : NKey} {v : V} (h : KV kvs vs) (e : valV kvs k = some v) : ∃ u, valueAt vs k = some u /\ RelV v u := by
  induction h with
  | nil => cases e
  | cons p t ih =>
    obtain ⟨p1, p2⟩ := p
    unfold valV at e
    unfold valueAt
    rw [List.find?_cons] at e ⊢
    rw [<- p1]
    split at e
    · cases e; exact ⟨_, rfl, p2⟩
    · exact ih e
section
variable {P : Program} {w : World} {H : Hp} {h : Heap} {a : Addr} {ep : Nat} {kvs : List (NKey × V)}
theorem nd_ok (n : NDict P w a ep kvs h) : ObjOk P w H h a (ndO P w a ep kvs) := by
  unfold ObjOk
  refine ⟨n, ?_, ?_⟩
  · obtain ⟨_, _, vs, _, o, es, ho, _⟩ := n
    exact ⟨o, ho⟩
  · rintro h1 h2 ⟨e1, e2, vs, e3, o, es, ho, r⟩ k
    exact ⟨e1, e2, vs, e3, o, es, k o ho, r⟩
theorem nd_of (ok : HOk P w H h) (e : H a = some (ndO P w a ep kvs)) : NDict P w a ep kvs h := by
  have := ok a _ e
  unfold ObjOk at this
  exact this.1
theorem dictAt_of {K : Type} [DecidableEq K] {knd : KeyKind P w K} {vs : List (K × Value)} (d : Heap.DictOf knd h a vs) : ∃ ep, Heap.DictAt knd h a vs ep := by
  obtain ⟨o, es, ep, h1, h2, h3, h4⟩ := d
  exact ⟨ep, o, es, h1, h2, h3, h4⟩
end
def rNIx (P : Program) (w : World) : R2 := fun x y H Q => ∃ a ep kvs k v, x = .ref a /\ y = nkV k /\ H a = some (ndO P w a ep kvs) /\ valV kvs k = some v /\ Q v H
theorem ix_N {X : Cx} : IxR X (rNIx X.prog X.w) := by
  intro value slice pins s σ H x y v u Q I rx ry h hs
  obtain ⟨a, ep, kvs, k, z, rfl, rfl, hH, hv, q⟩ := h
  cases rx
  obtain ⟨_, _, vs, kv, da⟩ := nd_of I.hok hH
  obtain ⟨uz, h1, h2⟩ := val_kv kv hv
  exact PyProof.Rows.tail_any da.dictOf.typeIs PySem.F.slot_dict_getitem.lookup (wpAny_getItem_of (knd := noneKind X.prog X.w) (nk_is ry) da.dictOf.mapOf h1 ⟨z, H, I.kept (t' := s.toks + 1) (fun _ _ e => e), h2, q⟩) hs
def ixNd : D -> D -> Option D
  | .dN _ ks ds, k => (nkO k).bind fun k => atK k ks ds
  | _, _ => none
section
variable {cl : ClW} {X : Cx} {W : WX} {a b o i : Expr} {pos : Pos} {τa τb τo τi : DTE}
theorem vw_dN {K : PySem.W.Frag} {F H : Hp} {v : V} {ep : Nat} {ks : List NKey} {ds : List D} (sm : Same F H) (h : Vw K cl F H v (.dN ep ks ds)) : ∃ a vs, v = .ref a /\ H a = some (ndO cl.p cl.w a ep (ks.zip vs)) /\ ks.length = vs.length /\ Reps K cl F vs ds := by
  rcases h with h | ⟨a, rfl, vs, h1, h2, h3⟩
  · cases h with
    | dN h1 h2 h3 => exact ⟨_, _, rfl, sm _ _ h1, h2, h3⟩
  · exact ⟨a, vs, rfl, h1, h2, h3⟩
theorem d_ixN (ha : DE cl X W a τa) (hb : DE cl X W b τb) (hpw : cl.p = X.prog /\ cl.w = X.w := by exact ⟨rfl, rfl⟩) (hs : PlainIx b := by exact fun _ _ => rfl) : DE cl X W (.Subscript a b pos) (dOp ixNd τa τb) :=
  ⟨pe_imp (pe_ix ix_N ha.pe hb.pe hs) fun σ H Q ⟨F, ρ, M, Qd, Xd, g, s, t, p, w⟩ =>
    ⟨F, ρ, M, _, Xd, g, s, t, fun v H' F' d M' sm g' r' q => ⟨F', ρ, M', _, Xd, g', s.mono sm, q, fun u H2 F2 e M2 sm2 g2 r2 q2 => (by
      obtain ⟨z, e1, e2⟩ := q2
      have hd := vw_ok g2 (r'.mono sm2)
      have he := vw_ok g2 r2
      generalize vw M2 d = d' at hd e1
      generalize vw M2 e = e' at he e1
      cases d' with
      | dN ep ks ds =>
        obtain ⟨k, hk, hz⟩ := Option.bind_eq_some_iff.mp e1
        obtain ⟨a, vs, rfl, h1, h2, h3⟩ := vw_dN g2.sub hd
        obtain ⟨v0, h4, h5⟩ := reps_atK h3 hz
        exact ⟨a, ep, ks.zip vs, k, v0, rfl, nk_rep he hk, by rw [<- hpw.1, <- hpw.2]; exact h1, by rw [valV_zip]; exact h4, p _ _ F2 z M2 (sm.trans sm2) g2 h5 e2⟩
      | _ => cases e1), w.mono sm⟩, w⟩⟩
end
theorem put_len {α : Type} (kvs : List (NKey × α)) (k : NKey) (v : α) : (putN kvs k v).length <= kvs.length + 1 := by
  unfold putN
  split <;> simp
def KR (K : PySem.W.Frag) (cl : ClW) (F : Hp) : List (NKey × V) -> List (NKey × D) -> Prop
  | [], [] => True
  | p :: ps, q :: qs => p.1 = q.1 /\ Rep K cl F p.2 q.2 /\ KR K cl F ps qs
  | _, _ => False
section
variable {K : PySem.W.Frag} {cl : ClW} {F F' : Hp}
theorem kr_zip : ∀ {ks : List NKey} {vs : List V} {ds : List D}, ks.length = vs.length -> Reps K cl F vs ds -> KR K cl F (ks.zip vs) (ks.zip ds)
  | [], _, _, _, _ => by simp [KR]
  | k :: ks, [], _, h, _ => by simp at h
  | k :: ks, v :: vs, _, h, .cons r t => ⟨rfl, r, kr_zip (by simpa using h) t⟩
theorem kr_any {k : NKey} : ∀ {ps : List (NKey × V)} {qs : List (NKey × D)}, KR K cl F ps qs -> (ps.any fun kv => decide (kv.1 = k)) = qs.any fun kv => decide (kv.1 = k)
  | [], [], _ => rfl
  | p :: ps, q :: qs, ⟨e, _, t⟩ => by rw [List.any_cons, List.any_cons, e, kr_any t]
  | [], _ :: _, h => h.elim
  | _ :: _, [], h => h.elim
theorem kr_set {k : NKey} {v : V} {d : D} (r : Rep K cl F v d) : ∀ {ps : List (NKey × V)} {qs : List (NKey × D)}, KR K cl F ps qs -> KR K cl F (ps.map fun kv => if kv.1 = k then (kv.1, v) else kv) (qs.map fun kv => if kv.1 = k then (kv.1, d) else kv)
  | [], [], _ => trivial
  | p :: ps, q :: qs, ⟨e, rq, t⟩ => by
    by_cases hk : p.1 = k
    · have hk2 : q.1 = k := by rw [<- e]; exact hk
      refine ⟨?_, ?_, kr_set r t⟩
      · simp only [hk, hk2, if_true]
      · simp only [hk, hk2, if_true]; exact r
    · have hk2 : ¬ q.1 = k := by rw [<- e]; exact hk
      refine ⟨?_, ?_, kr_set r t⟩
      · simp only [hk, hk2, if_false]; exact e
      · simp only [hk, hk2, if_false]; exact rq
  | [], _ :: _, h => h.elim
  | _ :: _, [], h => h.elim
theorem kr_snoc {k : NKey} {v : V} {d : D} (r : Rep K cl F v d) : ∀ {ps : List (NKey × V)} {qs : List (NKey × D)}, KR K cl F ps qs -> KR K cl F (ps ++ [(k, v)]) (qs ++ [(k, d)])
  | [], [], _ => ⟨rfl, r, trivial⟩
  | p :: ps, q :: qs, ⟨e, rq, t⟩ => ⟨e, rq, kr_snoc r t⟩
  | [], _ :: _, h => h.elim
  | _ :: _, [], h => h.elim
theorem kr_put {k : NKey} {v : V} {d : D} (r : Rep K cl F v d) {ps : List (NKey × V)} {qs : List (NKey × D)} (h : KR K cl F ps qs) : KR K cl F (putN ps k v) (putN qs k d) := by
  unfold putN
  rw [kr_any h]
  split
  · exact kr_set r h
  · exact kr_snoc r h
theorem kr_split : ∀ {ps : List (NKey × V)} {qs : List (NKey × D)}, KR K cl F ps qs -> ps.map (·.1) = qs.map (·.1) /\ Reps K cl F (ps.map (·.2)) (qs.map (·.2))
  | [], [], _ => ⟨rfl, .nil⟩
  | p :: ps, q :: qs, ⟨e, rq, t⟩ => by
    obtain ⟨h1, h2⟩ := kr_split t
    exact ⟨by rw [List.map_cons, List.map_cons, e, h1], .cons rq h2⟩
  | [], _ :: _, h => h.elim
  | _ :: _, [], h => h.elim
theorem zip_maps {α β : Type} : ∀ l : List (α × β), (l.map (·.1)).zip (l.map (·.2)) = l
  | [] => rfl
  | p :: l => by rw [List.map_cons, List.map_cons, List.zip_cons_cons, zip_maps l]
abbrev dNP (ep : Nat) (ps : List (NKey × D)) : D := .dN ep (ps.map (·.1)) (ps.map (·.2))
theorem repTop_N {H : Hp} {a : Addr} {ep : Nat} {ps : List (NKey × V)} {qs : List (NKey × D)} (h : KR K cl F ps qs) (e : H a = some (ndO cl.p cl.w a ep ps)) : RepTop K cl F H a (dNP ep qs) := by
  obtain ⟨h1, h2⟩ := kr_split h
  refine ⟨ps.map (·.2), ?_, ?_, h2⟩
  · rw [<- h1, zip_maps]; exact e
  · have := congrArg List.length h1
    simpa using this.symm
end
def tSetN (P : Program) (w : World) : TSet := fun o i v H Q => ∃ a ep k kvs, o = .ref a /\ i = nkV k /\ H a = some (ndO P w a ep kvs) /\ kvs.length < sizeLine /\ ∀ ep', Q (upd H a (ndO P w a ep' (putN kvs k v)))
theorem set_N {X : Cx} : PSet X (tSetN X.prog X.w) := by
  intro pins s σ H o i v ov iv u Q I ro ri rv h
  obtain ⟨a, ep, k, kvs, rfl, rfl, hH, hl, q⟩ := h
  cases ro
  obtain ⟨hz, hsys, vs, kv, da⟩ := nd_of I.hok hH
  refine wpAny_setItem_pairs (knd := noneKind X.prog X.w) (nk_is ri) da.dictOf (fun h' d' sb => ?_) (by rw [<- kv_len kv]; exact hz)
  obtain ⟨ep', da'⟩ := dictAt_of d'
  have hl2 := put_len kvs k v
  have nd' : NDict X.prog X.w a ep' (putN kvs k v) h' := ⟨by omega, hsys, _, put_kv kv rv, da'⟩
  have there : ∃ u, h'.get? a = some u := by obtain ⟨_, _, _, _, o, es, ho, _⟩ := nd'; exact ⟨o, ho⟩
  exact ⟨_, I.write (x := a) (e := a) (by rw [hH]; trivial) (.inl rfl) (fun b u hb e => by rw [sb.2 b hb]; exact e) there (nd_ok nd'), q ep'⟩
def gSubN (τo τi : DTE) : DTG := fun d ρ M Q X => τo ρ M (fun o M1 => τi ρ M1 (fun i M2 => ∃ a ep ps k, o = .ref a /\ M2 a = some (dNP ep ps) /\ nkO (vw M2 i) = some k /\ ps.length < sizeLine /\ ∀ ep', Q ρ (updM M2 a (dNP ep' (putN ps k d)))) X) X
section
variable {cl : ClW} {X : Cx} {W : WX} {a b o i : Expr} {pos : Pos} {τa τb τo τi : DTE}
theorem dg_subN (ho : DE cl X W o τo) (hi : DE cl X W i τi) (hpw : cl.p = X.prog /\ cl.w = X.w := by exact ⟨rfl, rfl⟩) (ha : ∀ v, assign (.Subscript o i pos) X.env v = (do
      let ov <- holding [v] (eval o X.env)
      let iv <- holding [v, ov] (eval i X.env)
      standAt pos
      holding [v, ov, iv] (setItem ov iv v)
      release [v, ov, iv] []) := by intro _; rfl) : DG cl X W (.Subscript o i pos) [] (gSubN τo τi) :=
  ⟨pg_imp (pg_sub ho.pe hi.pe set_N ha) fun v σ H Q ⟨F, ρ, M, d, Qd, Xd, g, s, r, q, p, w⟩ =>
    ⟨F, ρ, M, _, Xd, g, s, q, fun x H1 F1 od M1 sm1 g1 r1 q1 => ⟨F1, ρ, M1, _, Xd, g1, s.mono sm1, q1, fun y H2 F2 jd M2 sm2 g2 r2 q2 => (by
      obtain ⟨a, ep, ps, k, e1, e2, e3, e4, e5⟩ := q2
      subst e1
      obtain rfl := r1.toRef
      have hy := nk_rep (vw_ok g2 r2) e3
      obtain ⟨hF, vs, h1, h2, h3⟩ := g2.cell a _ e2
      have kr := kr_zip h2 h3
      rw [zip_maps] at kr
      refine ⟨a, ep, k, (ps.map (·.1)).zip vs, rfl, hy, by rw [<- hpw.1, <- hpw.2]; exact h1, ?_, fun ep' => ?_⟩
      · have := h3.length
        rw [List.length_zip, List.length_map, this, List.length_map]; omega
      · refine p _ _ F2 ρ _ (sm1.trans sm2) (g2.put (d := dNP ep' (putN ps k d)) e2 (repTop_N (kr_put (r.mono (sm1.trans sm2)) kr) ?_)) (s.mono (sm1.trans sm2)) (fun _ _ => rfl) (e5 ep')
        rw [upd_same, hpw.1, hpw.2]), w.mono sm1⟩, w⟩⟩
def dDict0N : DTE := fun ρ M Q X => ∀ a, M a = none -> ∀ ep, Q (.ref a) (updM M a (dNP ep []))
theorem d_dict0N (hpw : cl.p = X.prog /\ cl.w = X.w := by exact ⟨rfl, rfl⟩) : DE cl X W (.Dict [] [] pos) dDict0N := by
  refine ⟨⟨fun pins s σ H Q I ⟨F, ρ, M, Qd, Xd, g, sl, q, p, w⟩ => ?_⟩⟩
  refine wpAny_mono ((pe_dnewK (X := X) (pos := pos)).run pins s σ H (fun v H' => ∃ a, v = .ref a /\ H a = none /\ H' = upd H a (.dK [])) I fun a ha => ⟨a, rfl, ha, rfl⟩) (fun u s' ⟨v, H', I', r', a, e1, e2, e3⟩ => ?_) fun e s' hq => hq
  subst e1 e3
  obtain ⟨h1, h2, vs, kv, o, es, ep, h3, h4, h5, h6, h7, h8⟩ := dk_of I'.hok (upd_same (a := a))
  cases kv
  have hes : es.toList = [] := by cases hh : es.toList with
    | nil => rfl
    | cons x y => rw [hh] at h7; cases h7
  have nd : NDict X.prog X.w a ep [] s'.heap := by
    refine ⟨Nat.zero_le _, h2, [], .nil, o, es, h3, h4, h5, fun e he => ?_, ?_, by simp⟩
    · have : e ∈ es.toList := by simpa using he
      rw [hes] at this; cases this
    · rw [hes]; exact .nil
  have I2 := I'.write (x := a) (e := a) (h' := s'.heap) (t' := s'.toks) (o := ndO X.prog X.w a ep []) (by rw [upd_same]; trivial) (.inl rfl) (fun b u _ e => e) ⟨o, h3⟩ (nd_ok nd)
  rw [upd_upd] at I2
  refine ⟨.ref a, _, I2, r', ?_⟩
  exact p _ _ F _ _ (Same.refl F) (g.newM (d := dNP ep []) e2 (repTop_N (ps := []) (qs := []) trivial (by rw [upd_same, hpw.1, hpw.2]))) (.ref a) (q a (g.freshM e2) ep)
end
theorem carry {P : Program} {w : World} : ∀ {kvs : List (NKey × V)} {vs : List (Value × Value)}, VV (kvs.map fun kv => (nkV kv.1, kv.2)) vs -> ∃ us, Carries (noneKind P w) vs us /\ KV kvs us
  | [], _, .nil => ⟨[], trivial, .nil⟩
  | (k, v) :: kvs, _, .cons ⟨r1, r2⟩ t => by
    obtain ⟨us, h1, h2⟩ := carry (kvs := kvs) t
    exact ⟨(k, _) :: us, ⟨nk_is r1, rfl, h1⟩, .cons ⟨rfl, r2⟩ h2⟩
theorem merged_nd : ∀ (more acc : List (NKey × Value)), ((acc ++ more).map (·.1)).Nodup -> merged acc more = acc ++ more
  | [], acc, _ => by simp [merged]
  | (k, v) :: more, acc, h => by
    have hk : (acc.any fun kv => decide (kv.1 = k)) = false := by
      rw [List.any_eq_false]
      intro q hq
      rw [List.map_append, List.nodup_append] at h
      have := h.2.2 q.1 (List.mem_map_of_mem hq) k (by simp)
      simpa using this
    have e : stored acc k v = acc ++ [(k, v)] := by unfold stored; rw [hk]; simp
    show merged (stored acc k v) more = _
    rw [e, merged_nd more (acc ++ [(k, v)]) (by simpa using h)]
    simp
def tDispN (P : Program) (w : World) (trs : List (TE × TE)) : TE := fun σ H Q => ∀ p, H p = none -> ∀ ep, tPairs trs σ (upd H p (ndO P w p ep [])) fun ps H2 => ∃ kvs : List (NKey × V), ps = kvs.map (fun kv => (nkV kv.1, kv.2)) /\ H2 p = some (ndO P w p ep []) /\ (kvs.map (·.1)).Nodup /\ kvs.length <= 15 /\ ∀ ep', Q (.ref p) (upd H2 p (ndO P w p ep' kvs))
section
variable {cl : ClW} {X : Cx} {W : WX} {pos : Pos} {keys : List (Option Expr)} {values : List Expr}
theorem pe_dispN {trs : List (TE × TE)} (h : PPs X pos keys values trs) (hz : (evalEachOpt keys X.env).zip (List.map (fun v => do
            let x <- v
            standAt pos
            pure x) (evalEach values X.env)) = List.map (fun p => (some p.fst, p.snd)) (pairTrees keys values X.env pos)) (h0 : pairTrees keys values X.env pos ≠ []) (h15 : (pairTrees keys values X.env pos).length <= 15) : PE X (.Dict keys values pos) (tDispN X.prog X.w trs) := by
  refine ⟨fun pins s σ H Q I t => wpAny_Dict_pairs (knd := noneKind X.prog X.w) (pairs := pairTrees keys values X.env pos) hz h0 h15 ?_⟩
  have hp : H s.heap.objs.size = none := I.hok.fresh (Nat.le_refl _)
  have d0 : Heap.DictOf (noneKind X.prog X.w) (s.heap.push { cls := .type "dict", data := .dict #[] }) s.heap.objs.size [] := Heap.DictOf.new s.heap
  obtain ⟨ep, da⟩ := dictAt_of d0
  have hsys : (s.heap.objs.size == sysModules) = false := by
    have := I.big
    exact beq_false_of_ne (Nat.ne_of_gt this)
  have nd0 : NDict X.prog X.w s.heap.objs.size ep [] (s.heap.push { cls := .type "dict", data := .dict #[] }) := ⟨Nat.zero_le _, hsys, [], .nil, da⟩
  have I1 := I.laid (a := s.heap.objs.size) (h' := s.heap.push { cls := .type "dict", data := .dict #[] }) (t' := s.toks) (o := ndO X.prog X.w s.heap.objs.size ep []) (fun b u e => Heap.get?_push_of_some _ e) (Nat.le_refl _) (nd_ok nd0)
  refine wpAny_mono (h.run pins _ σ _ _ I1 (t _ hp ep)) (fun vs s1 ⟨ps, H2, I2, vv, kvs, e, hH, nd, l15, q⟩ => ?_) fun e s' hq => hq
  subst e
  obtain ⟨us, cr, kv⟩ := carry (P := X.prog) (w := X.w) vv
  obtain ⟨_, _, vs0, kv0, da0⟩ := nd_of I2.hok hH
  cases kv0
  refine ⟨us, cr, da0.dictOf, fun h' d' sb => ?_⟩
  rw [merged_nd us [] (by rw [List.nil_append, <- kv_keys kv]; exact nd), List.nil_append] at d'
  obtain ⟨ep', da'⟩ := dictAt_of d'
  have nd' : NDict X.prog X.w s.heap.objs.size ep' kvs h' := ⟨by rw [sizeLine_eq]; omega, hsys, us, kv, da'⟩
  have there : ∃ u, h'.get? s.heap.objs.size = some u := by obtain ⟨_, _, _, _, o, es, ho, _⟩ := nd'; exact ⟨o, ho⟩
  exact ⟨.ref s.heap.objs.size, _, I2.write (x := s.heap.objs.size) (e := s.heap.objs.size) (by rw [hH]; trivial) (.inl rfl) (fun b u hb e => by rw [sb.2 b hb]; exact e) there (nd_ok nd'), rfl, q ep'⟩
def dDispN (prs : List (DTE × DTE)) : DTE := fun ρ M Q X => ∀ p, M p = none -> ∀ ep, dPairs prs ρ (updM M p (dNP ep [])) (fun ps M2 => ∃ kds : List (NKey × D), ps.map (fun q => nkO q.1) = kds.map (fun kd => some kd.1) /\ ps.map (·.2) = kds.map (·.2) /\ (kds.map (·.1)).Nodup /\ kds.length <= 15 /\ M2 p = some (dNP ep []) /\ ∀ ep', Q (.ref p) (updM M2 p (dNP ep' kds))) X
theorem pairsN_split {K : PySem.W.Frag} {F H : Hp} : ∀ {ps : List (V × V)} {qs : List (D × D)} {kds : List (NKey × D)}, Pairs2 K cl F ps qs -> qs.map (fun q => nkO q.1) = kds.map (fun kd => some kd.1) -> qs.map (·.2) = kds.map (·.2) -> ∃ kvs : List (NKey × V), ps = kvs.map (fun kv => (nkV kv.1, kv.2)) /\ KR K cl F kvs kds
  | _, _, [], .nil, _, _ => ⟨[], rfl, trivial⟩
  | _, _, k :: ks, .nil, e, _ => by cases e
  | _, _, [], .cons _ _ _, e, _ => by cases e
  | _, _, k :: ks, .cons r1 r2 r, e, e2 => by
    simp only [List.map_cons, List.cons.injEq] at e e2
    obtain ⟨kvs, h1, h2⟩ := pairsN_split (H := H) r e.2 e2.2
    have hk := nk_rep (H := H) (.inl r1) e.1
    exact ⟨(k.1, _) :: kvs, by rw [h1, hk]; rfl, rfl, by rw [<- e2.1]; exact r2, h2⟩
theorem kr_len {K : PySem.W.Frag} {F : Hp} : ∀ {ps : List (NKey × V)} {qs : List (NKey × D)}, KR K cl F ps qs -> ps.length = qs.length
  | [], [], _ => rfl
  | _ :: _, _ :: _, ⟨_, _, t⟩ => by rw [List.length_cons, List.length_cons, kr_len t]
  | [], _ :: _, h => h.elim
  | _ :: _, [], h => h.elim
theorem d_dispN {prs : List (DTE × DTE)} (h : DPs cl X W pos keys values prs) (hpw : cl.p = X.prog ∧ cl.w = X.w := by exact ⟨rfl, rfl⟩) (hz : (evalEachOpt keys X.env).zip (List.map (fun v => do
            let x <- v
            standAt pos
            pure x) (evalEach values X.env)) = List.map (fun p => (some p.fst, p.snd)) (pairTrees keys values X.env pos) := by rfl) (h0 : pairTrees keys values X.env pos ≠ [] := by intro h; cases h) (h15 : (pairTrees keys values X.env pos).length <= 15 := by exact Nat.le_of_ble_eq_true rfl) : DE cl X W (.Dict keys values pos) (dDispN prs) :=
  ⟨pe_imp (pe_dispN h.pps hz h0 h15) fun σ H Q ⟨F, ρ, M, Qd, Xd, g, s, q, p, w⟩ a ha ep => by
    have g1 : Good X.K cl F (upd H a (ndO X.prog X.w a ep [])) (updM M a (dNP ep [])) := g.newM (d := dNP ep []) ha (repTop_N (ps := []) (qs := []) trivial (by rw [upd_same, hpw.1, hpw.2]))
    refine pairs_low prs g1 s (q a (g.freshM ha) ep) (fun ps qs H2 F2 M2 sm2 g2 r2 q2 => ?_) w
    obtain ⟨kds, e1, e2, nd, l15, hM, q2⟩ := q2
    obtain ⟨hF, vs0, hH, _, _⟩ := g2.cell a _ hM
    obtain ⟨kvs, rfl, kr⟩ := pairsN_split (H := H2) r2 e1 e2
    have hlen := kr_len kr
    refine ⟨kvs, rfl, by rw [<- hpw.1, <- hpw.2]; exact hH, by rw [(kr_split kr).1]; exact nd, by omega, fun ep' => ?_⟩
    exact p _ _ F2 _ _ sm2 (g2.put (o := ndO X.prog X.w a ep' kvs) (d := dNP ep' kds) hM (repTop_N kr (by rw [upd_same, hpw.1, hpw.2]))) (.ref a) (q2 ep')⟩
end
end DL
set_option Elab.async false
set_option linter.all false
set_option maxRecDepth 100000
set_option maxHeartbeats 4000000
set_option autoImplicit false
namespace DL
open PySem L2
def ItN (P : Program) (w : World) (a : Addr) (ep : Nat) (ks : List NKey) : It where
  go := fun i H => (∃ kvs, H a = some (ndO P w a ep kvs) /\ kvs.map (·.1) = ks) /\ i < ks.length
  yld := fun i H x H' => H' = H /\ ∃ k, ks[i]? = some k /\ x = nkV k
  stop := fun i H => (∃ kvs, H a = some (ndO P w a ep kvs) /\ kvs.map (·.1) = ks) /\ ks.length <= i
theorem turn_N {P : Program} {w : World} {K : PySem.W.Frag} {tg : Expr} {d : Addr} {ep : Nat} {ks : List NKey} (it : Addr) : Turn P w K tg (ItN P w d ep ks) [it] it (fun i h => h.IsKeyIter it d i ks.length ep) where
  mem := by simp
  obj := fun i h t b hb => by
    rw [List.mem_singleton.mp hb]
    obtain ⟨o, h1, _, h3⟩ := t
    exact ⟨o, h1, fun v e => by rw [h3] at e; cases e⟩
  keep := fun i h h' t k => t.at (fun o e => k it (by simp) o e)
  item := fun X eP ew eK hc i pins s σ H E I fp t ⟨⟨kvs, hH, hks⟩, hi⟩ => by
    subst eP ew
    obtain ⟨hz, hsys, vs, kv, da⟩ := nd_of I.hok hH
    have hkeys := kv_keys kv
    rw [hks] at hkeys
    have hlen : vs.length = ks.length := by rw [hkeys, List.length_map]
    have hi2 : i < vs.length := by omega
    have hk : ks[i]? = some vs[i].1 := by rw [hkeys, List.getElem?_map, List.getElem?_eq_getElem hi2]; rfl
    have hu : vs[i]? = some (vs[i].1, vs[i].2) := List.getElem?_eq_getElem hi2
    obtain ⟨f1, f2, f3, f4, f5, f6⟩ := fp it (by simp)
    refine wpAny_pyNext_dict_item (knd := noneKind X.prog X.w) (by rw [hlen]; exact t) da hu (fun key h' hkey tk sb => ⟨key, rfl, PyProof.Rows.letGo_keyiter tk ⟨nkV vs[i].1, H, ?_, nk_of hkey, ⟨rfl, _, hk, rfl⟩, by rw [<- hlen]; exact tk, fun b hb => by rw [List.mem_singleton.mp hb]; exact f1⟩⟩)
    exact I.turned (t' := s.toks) (it := it) (fun b o hb e => by rw [sb.2 b hb]; exact e) f1 f2 f4 f5 f6
  done := fun X eP ew eK hc i pins s σ H E I fp t ⟨⟨kvs, hH, hks⟩, hi⟩ => by
    subst eP ew
    obtain ⟨hz, hsys, vs, kv, da⟩ := nd_of I.hok hH
    have hkeys := kv_keys kv
    rw [hks] at hkeys
    have hlen : vs.length = ks.length := by rw [hkeys, List.length_map]
    obtain ⟨f1, f2, f3, f4, f5, f6⟩ := fp it (by simp)
    refine wpAny_pyNext_dict_end (knd := noneKind X.prog X.w) (I.ok.hd hc) (by rw [hlen]; exact t) da (List.getElem?_eq_none (by omega)) fun h' eb => ⟨rfl, ?_⟩
    exact I.turned (t' := s.toks) (it := it) (fun b o hb e => eb b o hb e) f1 f2 f4 f5 f6
  self := fun A i s Q E t q => wpAny_pyIter_keyiter t q
def iKeysN (P : Program) (w : World) (td : TE) : TI := fun σ H R => td σ H fun x H1 => ∃ d ep kvs, x = .ref d /\ H1 d = some (ndO P w d ep kvs) /\ R (ItN P w d ep (kvs.map (·.1))) H1
theorem pairs_len {P : Program} {w : World} {K : Type} [DecidableEq K] {knd : KeyKind P w K} : ∀ {es : List DictEntry} {kvs : List (K × Value)}, Pairs knd es kvs -> es.length = kvs.length
  | _, _, .nil => rfl
  | _, _, .cons _ _ t => by rw [List.length_cons, List.length_cons, pairs_len t]
theorem pi_keysN {X : Cx} {tg e : Expr} {td : TE} (h : PE X e td) : PI X tg e (iKeysN X.prog X.w td) := ⟨fun pins s σ H R I q => thn (h.run pins s σ H _ I q) fun u s1 ⟨v, H1, I1, r1, d, ep, kvs, e1, hH, hR⟩ => by
  subst e1
  cases r1
  obtain ⟨hz, hsys, vs, kv, o, es, h1, h2, h3, h4, h5, h6⟩ := nd_of I1.hok hH
  have hl : es.size = (kvs.map (·.1)).length := by
    have := pairs_len h5
    rw [List.length_map, kv_len kv, <- this]; simp
  refine iter_keys hsys h1 h2 h3 (pi_one I1 _ (turn_N _) ⟨_, Heap.get?_push_size _ rfl, rfl, ?_⟩ hR)
  rw [hl]; rfl⟩
@[simp] def iKN (τ : DTE) : DTIg := fun ρ M R X => τ ρ M (fun d M1 => ∃ ep ks ds, vw M1 d = .dN ep ks ds /\ R (fun M => vw M d = .dN ep ks ds) (ks.map nkD) M1) X
section
variable {cl : ClW} {X : Cx} {W : WX} {e : Expr} {τ : DTE}
theorem nk_rep' {K : PySem.W.Frag} {F : Hp} (k : NKey) : Rep K cl F (nkV k) (nkD k) := by
  rcases k with _ | _ | _
  · exact .non
  · exact .int _
  · exact .str _
theorem di_keysN {tg : Expr} (h : DE cl X W e τ) (hpw : cl.p = X.prog /\ cl.w = X.w := by exact ⟨rfl, rfl⟩) : DIg cl X W tg e (iKN τ) := ⟨pi_imp (pi_keysN h.pe) fun σ H R ⟨F, ρ, M, Rd, Xd, g, s, q, p, w⟩ =>
  ⟨F, ρ, M, _, Xd, g, s, q, fun v H' F' d M' sm g' r ⟨ep, ks, ds, e1, q'⟩ => by
    have hv := vw_ok g' r
    rw [e1] at hv
    obtain ⟨a, vs, rfl, h1, h2, h3⟩ := vw_dN g'.sub hv
    have hm : ∀ vs : List V, ks.length = vs.length -> (ks.zip vs).map (·.1) = ks := fun vs h => List.map_fst_zip (by omega)
    refine ⟨a, ep, ks.zip vs, rfl, by rw [<- hpw.1, <- hpw.2]; exact h1, ?_⟩
    rw [hm vs h2]
    refine p _ _ F' _ _ M' sm g' (fun i F2 H2 M2 sm2 g2 hC => ?_) q'
    have hv2 := vw_ok g2 (r.mono sm2)
    rw [hC] at hv2
    obtain ⟨a2, vs2, ea, k1, k2, k3⟩ := vw_dN g2.sub hv2
    cases ea
    have there : ∃ kvs, H2 a = some (ndO X.prog X.w a ep kvs) /\ kvs.map (·.1) = ks := ⟨ks.zip vs2, by rw [<- hpw.1, <- hpw.2]; exact k1, hm vs2 k2⟩
    refine ⟨fun d' hd => ?_, fun hl => ⟨there, by simpa using hl⟩⟩
    rw [List.getElem?_map] at hd
    obtain ⟨k, hk, rfl⟩ := Option.map_eq_some_iff.mp hd
    refine ⟨⟨there, (List.getElem?_eq_some_iff.mp hk).1⟩, fun x H3 ⟨e2, k', hk', e3⟩ => ?_⟩
    rw [hk] at hk'
    cases hk'
    subst e2 e3
    exact ⟨F2, Same.refl F2, g2, nk_rep' k⟩, w⟩⟩
end
end DL
set_option Elab.async false
set_option linter.all false
set_option maxRecDepth 100000
set_option maxHeartbeats 2000000
set_option autoImplicit false
namespace DL
open PySem L2
def getterB (K : PySem.W.Frag) (g : Addr) (f : Str) : Bool := match K.lookup g with
  | some ⟨_, _, .func fd, _⟩ => match fd with
    | ⟨_, qual, ⟨[], [a], none, [], [], none, []⟩, .stmts [.Return (some (.Attribute (.Name s _) f' _)) _], sc, gl, [], .none, .none, _, _, _, code, _, bu⟩ =>
      (a.arg == "self") && ((s == "self") && ((f' == f) && (decide (gl = mainGlobals) && (decide (bu = builtinsNs) && (PySem.W.codeIn K code qual && (decide (sc.kind = .function) && ((!sc.isCoroutine) && ((!sc.isGenerator) && (decide (sc.names.lookup ("self" : Str) = some NameKind.local) && sc.names.all fun y => decide (y.2 ≠ NameKind.free))))))))))
    | _ => false
  | _ => false
structure PropX (K : PySem.W.Frag) (C : Addr) (nm f : Str) : Prop where
  cls : Cls K C
  no : NoAttr K C f
  ok : ∃ p g, PropOf K C nm p g /\ getterB K g f = true
section
variable {cl : ClW} {X : Cx} {W : WX} {o : Expr} {pos : Pos} {τ : DTE} {nm f : Str} {cs : List Nat} {k : Nat}
end
end DL
set_option Elab.async false
set_option linter.all false
set_option maxRecDepth 100000
set_option maxHeartbeats 2000000
set_option autoImplicit false
namespace DL
open PySem L2
section
variable {cl : ClW} {X : Cx} {W : WX} {j k c n n0 n1 : Nat} {ps ks : List Str} {ord : List Nat} {spd : SpD} {x m : Str} {p pos apos : Pos} {o e : Expr} {es : List Expr} {kws : List Keyword} {τ : DTE} {α β : DTA} {pl : Sem Bool}
end
end DL
set_option Elab.async false
set_option linter.all false
set_option maxRecDepth 100000
set_option maxHeartbeats 4000000
set_option autoImplicit false
namespace DL
open PySem PySem.Spec PyProof.Rows L2
section
variable {P : Program} {w : World}
end
section
variable {X : Cx} {pins : List (Addr × Obj)} {σ : L2.St} {H : Hp} {s : Shared} {a : Addr} {kvs : List (Key × V)}
end
section
variable {cl : ClW} {X : Cx} {W : WX} {kx vx tg iter : Expr} {ifs : List Expr} {scope : Scope} {own : List (Str × Nat)} {pos : Pos} {ι : DTI} {is : List Nat} {γ : DTG} {υ : DTT} {τk τv : DTE}
end
section
variable {X : Cx}
end
section
variable {cl : ClW} {X : Cx} {W : WX} {e : Expr} {τ : DTE} {p pos : Pos} {k : Nat}
end
end DL
set_option Elab.async false
set_option linter.all false
set_option maxRecDepth 100000
set_option maxHeartbeats 4000000
set_option autoImplicit false
namespace DL
open PySem PySem.Spec PyProof.Rows L2
section
variable {X : Cx}
end
def dropN {α : Type} (ps : List (NKey × α)) (k : NKey) : List (NKey × α) := ps.filter fun p => decide (p.1 ≠ k)
theorem drop_kv {kvs : List (NKey × V)} {vs : List (NKey × Value)} {k : NKey} (h : KV kvs vs) : KV (dropN kvs k) (without vs k) := by
  unfold dropN without
  induction h with
  | nil => exact .nil
  | @cons p q _ _ a t ih =>
    by_cases e : p.1 = k
    · have e2 : q.1 = k := by rw [<- a.1]; exact e
      rw [List.filter_cons_of_neg (by simp [e]), List.filter_cons_of_neg (by simp [e2])]
      exact ih
    · have e2 : ¬ q.1 = k := by rw [<- a.1]; exact e
      rw [List.filter_cons_of_pos (by simp [e]), List.filter_cons_of_pos (by simp [e2])]
      exact .cons a ih
def rPopN (P : Program) (w : World) : V -> List V -> Hp -> VK -> Prop := fun x xs H Q => ∃ a ep kvs k v, x = .ref a /\ xs = [nkV k] /\ H a = some (ndO P w a ep kvs) /\ valV kvs k = some v /\ ∀ ep', Q v (upd H a (ndO P w a ep' (dropN kvs k)))
theorem mt_popN {X : Cx} : MtR X "dict.pop" (rPopN X.prog X.w) := by
  intro pins s σ H x xs v us Q I rx rxs h
  obtain ⟨a, ep, kvs, k, z, rfl, rfl, ha, hv, q⟩ := h
  cases rx
  obtain ⟨u, rfl, r1⟩ := vals1 rxs
  obtain ⟨hz, hsys, vs, kv, da⟩ := nd_of I.hok ha
  obtain ⟨uz, h1, h2⟩ := val_kv kv hv
  have hkp : (keyPart u).isSome = true := by
    rcases k with _ | i | y
    · cases r1; rfl
    · obtain ⟨t, rfl⟩ := r1; rfl
    · obtain ⟨t, rfl⟩ := r1; rfl
  refine call_meetsIn PySem.F.slot_dict_pop da.dictOf.typeIs PySem.F.entry_dict_pop (PySem.F.args_dict_pop_2 _ _) (meets_dict_pop_there (knd := noneKind X.prog X.w) (d := a) (nk_is r1) [] (.inl rfl) hkp)
    ⟨vs, uz, da.dictOf, by rw [<- kv_len kv]; exact hz, h1, fun h' d' sb => ?_⟩
  obtain ⟨ep', da'⟩ := dictAt_of d'
  have hl : (dropN kvs k).length <= kvs.length := List.length_filter_le _ _
  have nd' : NDict X.prog X.w a ep' (dropN kvs k) h' := ⟨by omega, hsys, _, drop_kv kv, da'⟩
  have there : ∃ u, h'.get? a = some u := by obtain ⟨_, _, _, _, o, es, ho, _⟩ := nd'; exact ⟨o, ho⟩
  exact ⟨z, _, I.write (x := a) (e := a) (by rw [ha]; trivial) (.inl rfl) (fun b u hb e => by rw [sb.2 b hb]; exact e) there (nd_ok nd'), h2, q ep'⟩
def tPopN (P : Program) (w : World) (to : TE) (t : TA) : TE := fun σ H Q => to σ H fun x H1 => (∃ a ep kvs, x = .ref a /\ H1 a = some (ndO P w a ep kvs)) /\ t σ H1 fun xs H2 => rPopN P w x xs H2 Q
section
variable {X : Cx} {o e : Expr} {es : List Expr} {to : TE} {t : TA} {apos cpos : Pos}
theorem pe_popN (pa : PlainAttrs "dict") (hty : typeOf (.builtin "dict.pop") = pure (.type "method_descriptor")) (ho : PE X o to) (ha : PA X (e :: es) t)
    (hbase : attributeBase o "pop" X.env (eval o X.env) = eval o X.env := by rfl)
    (hfew : ((backTo cpos (starEach (e :: es) X.env)).all (fun x => !x.1) && (backToKw cpos (keywordEach [] X.env)).all (fun x => x.1.isSome)
      && decide ((e :: es).length + ([] : List Keyword).length + (if ([] : List Keyword).isEmpty then 0 else 1) < 30)) = true := by rfl)
    (hline : (apos.endLine == cpos.line) = true := by rfl) (hs : starEach (e :: es) X.env = (false, eval e X.env) :: starEach es X.env := by rfl) (hplain : (backTo cpos (starEach es X.env)).any (·.1) = false := by rfl) :
    PE X (.Call (.Attribute o "pop" apos) (e :: es) [] cpos) (tPopN X.prog X.w to t) := by
  refine ⟨fun pins s σ H Q I h => ?_⟩
  refine wpAny_Call_method_late hbase hfew hline rfl (thn (ho.run pins s σ H _ I h) fun v s1 ⟨x, H1, I1, r1, ⟨a, ep, kvs, e1, e2⟩, q1⟩ => ?_)
  subst e1
  cases r1
  obtain ⟨hz, hsys, vs, kv, da⟩ := nd_of I1.hok e2
  have h2 : ∀ b, Value.ref a = .ref b -> ∃ ob, s1.heap.get? b = some ob /\ ob.dict = none := by
    rintro b ⟨⟩
    obtain ⟨ob, es, g1, g2, _⟩ := da
    exact ⟨ob, g1, g2.2.1⟩
  refine ⟨"dict", "dict.pop", pa, PySem.F.slot_dict_pop, hty, da.dictOf.typeIs, h2, ?_⟩
  have hA := ha.run cpos pins s1 σ H1 _ I1 q1
  rw [hs] at hA ⊢
  refine Calls.callWith_builtin (by show (false || (backTo cpos (starEach es X.env)).any (·.1)) = false; rw [hplain] <;> rfl) (Calls.evalArgs_plain ?_)
  exact thn hA fun us s2 ⟨vs, H2, I2, r2, q2⟩ => mt_popN pins s2 σ H2 (.ref a) vs (.ref a) us Q I2 rfl r2 q2
end
section
variable {K : PySem.W.Frag} {cl : ClW} {F F' : Hp}
theorem kr_drop {k : NKey} : ∀ {ps : List (NKey × V)} {qs : List (NKey × D)}, KR K cl F ps qs -> KR K cl F (dropN ps k) (dropN qs k)
  | [], [], _ => trivial
  | p :: ps, q :: qs, ⟨e, rq, t⟩ => by
    have ih := kr_drop (k := k) t
    unfold dropN at ih ⊢
    by_cases hk : p.1 = k
    · have hk2 : q.1 = k := by rw [<- e]; exact hk
      rw [List.filter_cons_of_neg (by simp [hk]), List.filter_cons_of_neg (by simp [hk2])]
      exact ih
    · have hk2 : ¬ q.1 = k := by rw [<- e]; exact hk
      rw [List.filter_cons_of_pos (by simp [hk]), List.filter_cons_of_pos (by simp [hk2])]
      exact ⟨e, rq, ih⟩
  | [], _ :: _, h => h.elim
  | _ :: _, [], h => h.elim
end
def dPopN (τ : DTE) (α : DTA) : DTE := fun ρ M Q X => τ ρ M (fun o M1 => (∃ a ep ps, o = .ref a /\ M1 a = some (dNP ep ps)) /\ α ρ M1 (fun ds M2 => ∃ a ep ps i k v, o = .ref a /\ ds = [i] /\ M2 a = some (dNP ep ps) /\ nkO (vw M2 i) = some k /\ atK k (ps.map (·.1)) (ps.map (·.2)) = some v /\ ∀ ep', Q v (updM M2 a (dNP ep' (dropN ps k)))) X) X
section
variable {cl : ClW} {X : Cx} {W : WX} {o e : Expr} {es : List Expr} {apos cpos pos p : Pos} {τ : DTE} {α : DTA}
theorem d_popN (ho : DE cl X W o τ) (ha : DA cl X W (e :: es) α) (hpw : cl.p = X.prog /\ cl.w = X.w := by exact ⟨rfl, rfl⟩)
    (hbase : attributeBase o "pop" X.env (eval o X.env) = eval o X.env := by rfl)
    (hfew : ((backTo cpos (starEach (e :: es) X.env)).all (fun x => !x.1) && (backToKw cpos (keywordEach [] X.env)).all (fun x => x.1.isSome)
      && decide ((e :: es).length + ([] : List Keyword).length + (if ([] : List Keyword).isEmpty then 0 else 1) < 30)) = true := by rfl)
    (hline : (apos.endLine == cpos.line) = true := by rfl) (hs : starEach (e :: es) X.env = (false, eval e X.env) :: starEach es X.env := by rfl) (hplain : (backTo cpos (starEach es X.env)).any (·.1) = false := by rfl) :
    DE cl X W (.Call (.Attribute o "pop" apos) (e :: es) [] cpos) (dPopN τ α) :=
  ⟨pe_imp (pe_popN PySem.F.plainAttrs_dict PySem.F.type_dict_pop ho.pe ha.pa hbase hfew hline hs hplain) fun σ H Q ⟨F, ρ, M, Qd, Xd, g, s, t, p, w⟩ => ⟨F, ρ, M, _, Xd, g, s, t, fun v H' F' d M' sm g' r' ⟨⟨a, ep, ps, e1, e2⟩, q⟩ => (by
      subst e1
      obtain rfl := r'.toRef
      obtain ⟨hF, vs, h1, h2, h3⟩ := g'.cell a _ e2
      refine ⟨⟨a, ep, _, rfl, by rw [<- hpw.1, <- hpw.2]; exact h1⟩, F', ρ, M', _, Xd, g', s.mono sm, q, fun vs H2 F2 ds M2 sm2 g2 r2 q2 => ?_, w.mono sm⟩
      obtain ⟨a', ep, ps, i, k, z, ea, rfl, e2, e3, e4, e5⟩ := q2
      cases ea
      obtain ⟨u, ws, rfl, r3, r4⟩ := r2.inv
      obtain rfl := r4.inv0
      have hy := nk_rep (vw_ok g2 r3) e3
      obtain ⟨hF, vs, h1, h2, h3⟩ := g2.cell a _ e2
      obtain ⟨v0, h4, h5⟩ := reps_atK h3 e4
      have kr := kr_zip h2 h3
      rw [zip_maps] at kr
      refine ⟨a, ep, (ps.map (·.1)).zip vs, k, v0, rfl, by rw [hy], by rw [<- hpw.1, <- hpw.2]; exact h1, by rw [valV_zip]; exact h4, fun ep' => ?_⟩
      refine p _ _ F2 _ _ (sm.trans sm2) (g2.put (d := dNP ep' (dropN ps k)) e2 (repTop_N (kr_drop kr) ?_)) h5 (e5 ep')
      rw [upd_same, hpw.1, hpw.2]), w⟩⟩
end
end DL
set_option Elab.async false
set_option linter.all false
set_option maxRecDepth 100000
set_option maxHeartbeats 4000000
set_option autoImplicit false
namespace DL
open PySem L2 PyProof.Rows
section
variable {P : Program} {w : World} {A : Around} {s : Shared}
end
section
variable {cl : ClW} {X : Cx} {W : WX} {e : Expr} {α : DTA} {p p1 p2 p3 q1 q2 q3 pt pos lpos kpos : Pos} {k i j k1 k2 k3 : Nat} {cc P : Addr} {x : Str} {params : Arguments} {scope : Scope}
end
end DL
set_option Elab.async false
set_option linter.all false
set_option maxRecDepth 100000
set_option maxHeartbeats 4000000
set_option autoImplicit false
namespace DL
open PySem L2
@[simp] def bInP (neg : Bool) : DB2 := fun d e _ M Q _ => ∃ (p : PyData) (xs : List D) (ps : List PyData), (e = .lst xs \/ e = .tup xs) /\ toPyX d = some p /\ toPyXs xs = some ps /\ p.plain = true /\ PyData.plainAll ps = true /\ p.depth <= 16 /\ Q (.bl (neg != ps.any fun y => PyData.eqv y p)) M
section
variable {cl : ClW} {X : Cx} {W : WX}
end
end DL
set_option Elab.async false
set_option linter.all false
set_option maxRecDepth 100000
set_option autoImplicit false
namespace DL
open PySem L2
def relS (scope sc : Scope) : Scope := { scope with names := scope.names.map fun (n, k) => if (k == .free && sc.kind == .function && sc.names.lookup n == some .cell) then (n, .cell) else (n, k) }
theorem blkOk_two {N : List Str} {sc0 scope1 scope2 : Scope} {own : List (Str × Nat)} {env : PySem.Env} {cs : List (Str × Addr)} {C : Addr} (he : env.scope = sc0) (h : blkC N (relS scope1 sc0) scope2 own = true) : BlkOk N (compEnvC scope1 cs C env).scope scope2 own := by
  subst he
  exact blkOk_by h
end DL
set_option Elab.async false
set_option linter.all false
set_option maxRecDepth 100000
set_option maxHeartbeats 4000000
set_option autoImplicit false
namespace DL
open PySem PySem.W PySem.Calls PyProof.Rows
section
variable {prog : Program} {w : World} {A : Around} {E : Value -> Shared -> Prop} {s : Shared}
end
end DL
set_option Elab.async false
set_option linter.all false
set_option maxRecDepth 100000
set_option maxHeartbeats 4000000
set_option autoImplicit false
namespace DL
open PySem L2
open PySem.SeqAt
theorem eqAt_byt {A : Around} {s : Shared} {b c : Array UInt8} {t u : Tok} (hu : A.units < cLine) : EqAt A s (.bytes b t) (.bytes c u) (b == c) := fun prog w E Q hq => by
  unfold eqBool
  refine wpAny_holding ?_
  refine wpAny_ite_split (fun hab => ?_) (fun _ => wpAny_bind (DLC.rc_bytes hu (wpAny_truthy_bool hq)))
  have e := eq_of_beq hab
  injection e with e1 e2
  rw [e1, beq_self_eq_true] at hq
  exact wpAny_bind (wpAny_rule (wpAny_pure hq))
def hasB (bs : List (Array UInt8)) (b : Array UInt8) : Bool := bs.any fun c => c == b
theorem hasB_iff {bs : List (Array UInt8)} {b : Array UInt8} : hasB bs b = true ↔ b ∈ bs := by
  unfold hasB
  rw [List.any_eq_true]
  constructor
  · rintro ⟨c, hc, e⟩
    rw [<- eq_of_beq e]; exact hc
  · intro h
    exact ⟨b, h, beq_self_eq_true b⟩
@[simp] def bInB (neg : Bool) : DB2 := fun d e _ M Q _ => ∃ (b : Array UInt8) (bs : List (Array UInt8)), vw M d = .byt b /\ (vw M e = .lst (bs.map D.byt) \/ vw M e = .tup (bs.map D.byt)) /\ Q (.bl (neg != hasB bs b)) M
def isB (b : Array UInt8) (y : Value) : Bool := match y with
  | .bytes c _ => c == b
  | _ => false
theorem byt_items {bs : List (Array UInt8)} {us : List Value} (r : Vals (bs.map V.byt) us) (b : Array UInt8) : (∀ u ∈ us, ∃ c t, u = .bytes c t) /\ us.any (isB b) = hasB bs b := by
  induction bs generalizing us with
  | nil =>
    cases r
    refine ⟨fun u hu => ?_, rfl⟩
    cases hu
  | cons z zs ih =>
    cases r with
    | cons r1 r2 =>
      obtain ⟨h1, h2⟩ := ih r2
      obtain ⟨t, rfl⟩ := r1
      refine ⟨fun u hu => ?_, ?_⟩
      · rcases List.mem_cons.mp hu with rfl | hu
        · exact ⟨_, _, rfl⟩
        · exact h1 u hu
      · rw [List.any_cons, h2]
        rfl
section
variable {cl : ClW} {X : Cx} {W : WX} {pins : List (Addr × Obj)} {σ : St} {H F : Hp} {M : Mem} {s : Shared}
theorem byt_seq {e : D} {y : V} {bs : List (Array UInt8)} (g : Good X.K cl F H M) (r2 : Rep X.K cl F y e) (he : vw M e = .lst (bs.map D.byt) \/ vw M e = .tup (bs.map D.byt)) : ∃ p, y = .ref p /\ (SqL X.K H p (bs.map V.byt) \/ SqT X.K H p (bs.map V.byt)) := by
  have hv := vw_ok g r2
  rcases he with he | he
  · rw [he] at hv
    obtain ⟨a, vs, rfl, h1, h2⟩ := hv.lst g.sub
    rw [Reps.byts h2] at h1
    exact ⟨a, rfl, .inl h1⟩
  · rw [he] at hv
    obtain ⟨a, vs, rfl, h1, h2⟩ := hv.tup g.sub
    rw [Reps.byts h2] at h1
    exact ⟨a, rfl, .inr h1⟩
theorem byt_val {d : D} {x : V} {v : Value} {b : Array UInt8} (g : Good X.K cl F H M) (r1 : Rep X.K cl F x d) (he : vw M d = .byt b) (rx : RelV x v) : ∃ t, v = .bytes b t := by
  have hv := vw_ok g r1
  rw [he] at hv
  obtain rfl := hv.byt
  exact rx
theorem bin_inB (hu : X.A.units + 64 < cLine) : BinG cl X W (compareOp .In) (bInB false) := fun pins s σ H F ρ M v u x y d e Q Qd Xd I rx ry g sl r1 r2 q p w => by
  obtain ⟨b, bs, hd, he, q⟩ := q
  obtain ⟨t, rfl⟩ := byt_val g r1 hd rx
  obtain ⟨a, rfl, hq⟩ := byt_seq g r2 he
  cases ry
  rw [Bool.false_bne] at q
  have hA : X.A.in1.units < cLine := by show X.A.units + 1 < cLine; omega
  rcases hq with hq | hq
  · obtain ⟨its, r, pl, hz⟩ := I.list hq
    obtain ⟨h1, h2⟩ := byt_items r b
    refine in_listAt (isB b) pl.isList (fun w hw => ?_) ⟨.bl _, H, I, rfl, ?_⟩
    · obtain ⟨c, u, rfl⟩ := h1 w (by simpa using hw)
      exact eqAt_byt hA
    · rw [List.any_toArray, h2]
      exact p.val g (.bl _) q
  · obtain ⟨its, r, pl, hz⟩ := I.tuple hq
    obtain ⟨h1, h2⟩ := byt_items r b
    refine in_tupleAt (isB b) pl (fun w hw => ?_) ⟨.bl _, H, I, rfl, ?_⟩
    · obtain ⟨c, u, rfl⟩ := h1 w (by simpa using hw)
      exact eqAt_byt hA
    · rw [List.any_toArray, h2]
      exact p.val g (.bl _) q
end
end DL
set_option Elab.async false
set_option linter.all false
set_option maxRecDepth 100000
set_option maxHeartbeats 4000000
set_option autoImplicit false
namespace DL
open PySem L2
section
open PySem.Builtin PySem.W.FB PySem.W
def litB (b : Array UInt8) : Str := Bytes.literal b false
end
mutual
def shY : D -> Option Str
  | .non => some "None"
  | .bl b => some (if b then "True" else "False")
  | .int i => if i.natAbs.log2 < 1920 then some (toString i) else none
  | .str x => if (reprText x).length <= sizeLine then some (reprText x) else none
  | .byt b => if 4 * b.size + 3 <= sizeLine /\ (litB b).length <= sizeLine then some (litB b) else none
  | .lst xs => (shYs xs).bind fun ts => if (listText ts).length <= sizeLine then some (listText ts) else none
  | .tup xs => (shYs xs).bind fun ts => if (tupleText ts).length <= sizeLine then some (tupleText ts) else none
  | .dK [] [] => some (dictText [])
  | _ => none
def shYs : List D -> Option (List Str)
  | [] => some []
  | x :: xs => (shY x).bind fun t => (shYs xs).map fun ts => t :: ts
end
mutual
def depY : D -> Nat
  | .lst xs => depYs xs + 1
  | .tup xs => depYs xs + 1
  | .dK [] [] => 1
  | _ => 0
def depYs : List D -> Nat
  | [] => 0
  | x :: xs => max (depY x) (depYs xs)
end
mutual
inductive RdY (h : Heap) : Value -> D -> Prop where
  | non : RdY h .none .non
  | bl (b : Bool) : RdY h (.bool b) (.bl b)
  | int (i : Int) (t : Tok) : RdY h (.int i t) (.int i)
  | str (x : Str) (t : Tok) : RdY h (.str x t) (.str x)
  | byt (b : Array UInt8) (t : Tok) : RdY h (.bytes b t) (.byt b)
  | lst {a : Addr} {o : Obj} {its : Array Value} {n : Nat} {ds : List D} : h.get? a = some o -> o.cls = .type "list" -> o.data = .seq its n -> RdYs h its.toList ds -> RdY h (.ref a) (.lst ds)
  | tup {a : Addr} {o : Obj} {its : Array Value} {n : Nat} {ds : List D} : h.get? a = some o -> o.cls = .type "tuple" -> o.data = .seq its n -> RdYs h its.toList ds -> RdY h (.ref a) (.tup ds)
  | dic {a : Addr} {o : Obj} {es : Array DictEntry} {ep : Nat} : h.get? a = some o -> o.cls = .type "dict" -> o.data = .dict es ep -> es.toList = [] -> (a == sysModules) = false -> RdY h (.ref a) (.dK [] [])
inductive RdYs (h : Heap) : List Value -> List D -> Prop where
  | nil : RdYs h [] []
  | cons {v : Value} {d : D} {vs : List Value} {ds : List D} : RdY h v d -> RdYs h vs ds -> RdYs h (v :: vs) (d :: ds)
end
section
variable {prog : Program} {w : World} {h₀ : Heap}
end
section
open HT
variable {X : Cx} {cl : ClW} {pins : List (Addr × Obj)} {σ : St} {H : Hp} {s : Shared}
end
section
variable {K : PySem.W.Frag} {cl : ClW} {X : Cx}
end
end DL
set_option Elab.async false
set_option linter.all false
set_option maxRecDepth 100000
set_option maxHeartbeats 4000000
set_option autoImplicit false
namespace DL
open PySem PySem.W PySem.Calls PyProof.Rows
section
variable {prog : Program} {w : World} {A : Around} {E : Value -> Shared -> Prop} {s : Shared}
def KeyByt (k : Array UInt8) (s₁ : Shared) (v : Value) (s₂ : Shared) : Prop := ∃ g tk, s₂ = { s₁ with heap := g, toks := tk } /\ (∀ b o, s₁.heap.get? b = some o -> g.get? b = some o) /\ ∃ t, v = .bytes k t
theorem rest_byt {f : Value} {a kS : Addr} {base : Heap} {kz : List (Array UInt8)} {vs : List Value} {e1 : Nat} {T : PySem.Fin -> Shared -> Prop}
    (kp : KeepsBut a base s.heap) (free : base.get? kS = none) (nk : s.heap.get? kS = some (seqObj "list" #[] 0)) (na : s.heap.get? a = some (seqObj "list" #[] e1)) (hne : kS ≠ a)
    (hlen : kz.length = vs.length) (hZ : vs.length <= sizeLine)
    (turn : ∀ (i : Nat) (v : Value) (k : Array UInt8), vs[i]? = some v -> kz[i]? = some k -> ∀ (g : Heap) (tk : Nat), KeepsBut a base g ->
      wpAny (model prog w) A (call f [v]) (KeyByt k { s with heap := g, toks := tk }) (fun _ _ => False) { s with heap := g, toks := tk })
    (fin : ∀ g tk ks c, KeepsBut a base g -> g.get? a = some (seqObj "list" (sortVals DLC.bytKind false ks vs).toArray c) -> EachIs (fun v (k : Array UInt8) => ∃ t, v = Value.bytes k t) ks kz -> T (.done (.ret .none)) { s with heap := g, toks := tk }) :
    wpAny (model prog w) A (ksk_rest a f false vs.toArray e1 (.ref kS)) T E s := by
  unfold ksk_rest
  refine wpAny_bind (wpAny_rule ?_)
  rw [List.forIn_toArray]
  let told (v : Value) (k : Array UInt8) : Prop := ∃ t, v = Value.bytes k t
  let Now (i : Nat) (t : Shared) : Prop := ∃ g tk ks c, t = { s with heap := g, toks := tk } /\ KeepsBut a base g /\ g.get? kS = some (seqObj "list" ks c) /\ g.get? a = some (seqObj "list" #[] e1) /\ EachIs told ks.toList (kz.take i)
  have now0 : Now 0 s := ⟨s.heap, s.toks, #[], 0, rfl, kp, nk, na, by rw [List.take_zero]; exact .nil⟩
  refine wpAny_bind (ksk_fold Now vs 0 s now0 (fun j v t hv hn => ?_) fun t hn => ?_)
  · rw [Nat.zero_add] at hn ⊢
    obtain ⟨g, tk, ks, c, rfl, kp', nk', na', hk⟩ := hn
    have hj : j < kz.length := by have := (List.getElem?_eq_some_iff.mp hv).1; omega
    have hkz : kz[j]? = some kz[j] := List.getElem?_eq_getElem hj
    have small : ks.size <= vs.length := by
      have e := hk.length
      rw [Array.length_toList, List.length_take] at e
      omega
    refine wpAny_bind (wpAny_attempt (wpAny_mono (turn j v kz[j] hv hkz g tk kp') (fun r t2 hr => ?_) fun _ _ z => z.elim))
    obtain ⟨g2, tk2, rfl, keep, rd⟩ := hr
    dsimp only at keep ⊢
    have nk2 := keep _ _ nk'
    have sb := Heap.SameBut.update g2 kS (Obj.mapSeq (·.push r))
    obtain ⟨c2, at2⟩ : ∃ c2, (g2.update kS (Obj.mapSeq (·.push r))).get? kS = some (seqObj "list" (ks.push r) c2) := ⟨_, get?_update_seq nk2 (·.push r)⟩
    refine wpAny_bind (listUpdate_at nk2 rfl ?_ (Nat.le_trans small hZ) (Nat.le_trans (Nat.le_of_eq (Array.size_push ..)) (Nat.succ_le_succ (Nat.le_trans small hZ))))
    refine wpAny_pure ⟨rfl, _, _, ks.push r, c2, rfl, (kp'.trans_all keep).same sb (.inr free), at2, (sb.2 a hne.symm).trans (keep _ _ na'), ?_⟩
    rw [Array.toList_push, List.take_add_one, hkz]
    exact each_snoc (R := told) rd hk
  · obtain ⟨g, tk, ks, c, rfl, kp', nk', na', hk⟩ := hn
    rw [Nat.zero_add, List.take_of_length_le (Nat.le_of_eq hlen)] at hk
    have size : ks.size = vs.length := by
      have e := hk.length
      rw [Array.length_toList] at e
      omega
    have hb : ∀ v ∈ ks.toList, ∃ b t, v = Value.bytes b t := fun v hv => by
      obtain ⟨b, _, t, e⟩ := hk.left v hv
      exact ⟨b, t, e⟩
    try dsimp only
    refine wpAny_bind (listItems_at nk' rfl ?_)
    exact keyH_end (κ := DLC.bytKind) (h₁ := base) kp' free nk' na' hne (DLC.sortsAt_bytes hb) size hZ fun g3 tk3 c3 k3 n3 => fin g3 tk3 _ c3 k3 n3 hk
theorem sorted_byt {β : Type} {vs : List Value} {bs : List β} {R : Value -> β -> Prop} {l : Addr} {f : Value} {kw : List (Str × Value)} {Q : Value -> Shared -> Prop} (k : β -> Array UInt8) (hl : s.heap.IsList l vs.toArray) (e : EachIs R vs bs) (hL : bs.length <= sizeLine)
    (ha1 : argsOk "sorted" ⟨[.ref l], kw⟩) (ha2 : ∀ x, argsOk "list.sort" ⟨[.ref x], kw⟩) (ht : ∀ x, Builtin.«list.sort» ⟨[.ref x], kw⟩ = ksk_tree x f false)
    (turn : ∀ (v : Value) (x : β), R v x -> x ∈ bs -> ∀ (g : Heap) (tk : Nat), (∀ b o, s.heap.get? b = some o -> g.get? b = some o) ->
      wpAny (model prog w) A.in1.in1 (call f [v]) (KeyByt (k x) { s with heap := g, toks := tk }) (fun _ _ => False) { s with heap := g, toks := tk })
    (fin : ∀ out c g tk, (∀ b o, s.heap.get? b = some o -> g.get? b = some o) -> g.get? (s.heap.objs.size + 1) = some (seqObj "list" (List.toArray out) c) -> EachIs R out (bs.mergeSort fun x y => leByt (.byt (k x)) (.byt (k y))) -> Q (.ref (s.heap.objs.size + 1)) { s with heap := g, toks := tk }) :
    wpAny (model prog w) A (call (.builtin "sorted") [.ref l] kw) Q E s := by
  have hv := e.length
  have hZ : vs.length <= sizeLine := by rw [hv]; exact hL
  refine sorted_of_sort hl hZ ha1 ha2 fun E' => ?_
  rw [ht]
  generalize hb : copyHeap s.heap vs = h0
  generalize ha : s.heap.objs.size + 1 = a
  have at0 : h0.get? a = some (seqObj "list" vs.toArray 0) := by rw [<- hb, <- ha]; exact copyHeap_at s.heap vs
  have old : ∀ b o, s.heap.get? b = some o -> b ≠ a /\ h0.get? b = some o := fun b o q => ⟨by rw [<- ha]; exact Nat.ne_of_lt (Nat.lt_succ_of_lt (Heap.lt_size q)), by rw [<- hb]; exact copyHeap_old q⟩
  have up : ∀ {g : Heap}, KeepsBut a h0 g -> ∀ b o, s.heap.get? b = some o -> g.get? b = some o := fun kp b o q => kp b o (old b o q).1 (old b o q).2
  have low : a < h0.objs.size := Heap.lt_size at0
  obtain ⟨e1, at1⟩ : ∃ e1, (h0.update a (Obj.mapSeq fun _ => (#[] : Array Value))).get? a = some (seqObj "list" #[] e1) := ⟨_, get?_update_seq at0 fun _ => #[]⟩
  have place : ((h0.update a (Obj.mapSeq fun _ => (#[] : Array Value))).push (seqObj "tuple" vs.toArray 0)).objs.size = h0.objs.size + 1 := by rw [size_push', Heap.size_update]
  unfold ksk_tree
  refine wpAny_bind (listItems_at at0 rfl ?_)
  refine wpAny_bind (listUpdate_at at0 rfl ?_ (by rw [List.size_toArray]; exact hZ) (Nat.zero_le _))
  refine wpAny_bind (seqEpoch_at at1 rfl ?_)
  refine wpAny_bind (wpAny_newTuple ?_ (by show vs.length <= _; exact hZ))
  refine wpAny_bind (wpAny_newList ?_ (Nat.zero_le _))
  refine wpAny_holding ?_
  refine rest_byt (kz := bs.map k) (base := h0) (s := { s with heap := ((h0.update a (Obj.mapSeq fun _ => (#[] : Array Value))).push (seqObj "tuple" vs.toArray 0)).push (seqObj "list" #[] 0) }) (kS := ((h0.update a (Obj.mapSeq fun _ => (#[] : Array Value))).push (seqObj "tuple" vs.toArray 0)).objs.size)
    (fun b o hne q => sortingHeap_old hne q) (Heap.get?_none_of_le (by rw [place]; exact Nat.le_succ _)) (Heap.get?_push_size _ rfl) (Heap.get?_push_of_some _ (Heap.get?_push_of_some _ at1)) (by rw [place]; exact Nat.ne_of_gt (Nat.lt_succ_of_lt low)) (by rw [List.length_map]; exact hv.symm) hZ (fun i v d hi hd g tk kp => ?_) fun g tk ks c kp at3 ko => ⟨rfl, ?_⟩
  · rw [List.getElem?_map] at hd
    obtain ⟨x, hx, rfl⟩ := Option.map_eq_some_iff.mp hd
    have hz : (v, x) ∈ vs.zip bs := List.mem_of_getElem? (i := i) (List.getElem?_zip_eq_some.mpr ⟨hi, hx⟩)
    exact turn v x (e.zip _ hz) (List.mem_of_getElem? hx) g tk (up kp)
  · rw [<- ha] at at3 ⊢
    refine fin _ c g tk (by rw [<- ha] at kp; exact fun b o q => by rw [<- ha] at up; exact up kp b o q) at3 ?_
    have z := sortVals_each (κ := DLC.bytKind) (rev := false) (ks := ks) (fun b : β => keyB (.byt (k b))) e ((each_of_map k ko).mono fun v b ⟨t, ev⟩ => by rw [ev]; rfl)
    exact z
end
open L2
def dSortKB (i : Nat) (α : DTA) : DTE := fun ρ M Q X => α ρ M (fun ds M1 => ∃ (d : D) (xs : List D) (ks : D -> Array UInt8), ds = [d] /\ vw M1 d = .lst xs /\ xs.length <= sizeLine /\ (∀ x ∈ xs, ∃ zs, x = .tup zs /\ zs[i]? = some (.byt (ks x))) /\ Q (.lst (xs.mergeSort fun x y => leByt (.byt (ks x)) (.byt (ks y)))) M1) X
section
variable {cl : ClW} {X : Cx} {W : WX} {e : Expr} {α : DTA} {p p1 p2 p3 pos lpos kpos : Pos} {k i j : Nat} {cc P : Addr} {x : Str} {params : Arguments} {scope : Scope}
theorem d_sortLamB (c : Cap X W (k + 3)) (TB : LamX.TabB X.base X.mg cc P) (hcode : X.env.code = .ref cc) (hmT : (P, X.env.qual ++ "<lambda>") ∈ tabsOf cl) (hu : ∀ p ∈ tabsOf cl, p.1 = P -> p.2 = X.env.qual ++ "<lambda>") (L : KeyS x scope)
    (hg : Gl X "sorted") (hm : X.mg "sorted" = none) (ha : DA cl X W [e] α) (hi2 : i < 1000) (hd : (x == ("__debug__" : Str)) = false) (hs : PlainIx (.Constant (.int i) j p2)) (hdef : defaultsOf params X.env = ([], []))
    (hbind : ∀ (q : Str) (pm cv ctv v : Value), bindArgs (PySem.W.kla_fn "<lambda>" q params (.Subscript (.Name x p1) (.Constant (.int i) j p2) p3) scope [] pm cv ctv) ⟨[v], []⟩ = pure [(x, v)])
    (hst : backTo pos (starEach [e] X.env) = (false, eval e X.env) :: backTo pos (starEach [] X.env) := by rfl) (hpl : (backTo pos (starEach [e] X.env)).any (·.1) = false := by rfl) :
    DE cl X W (.Call (.Name "sorted" p) [e] [⟨some "key", .Lambda params (.Subscript (.Name x p1) (.Constant (.int i) j p2) p3) scope lpos, kpos⟩] pos) (dSortKB i α) := by
  refine ⟨⟨fun pins s σ H Q I ⟨F, ρ, M, Qd, Xd, g, sl, t, pq, w⟩ => ?_⟩⟩
  refine wpAny_Call_Name_kw (ld_blt I hg hm (by rfl) ?_ (by decide) (by decide))
  refine PyProof.Rows.callWith_kw (thn (ha.pa.run pos pins s σ H (fun vs H1 => ∃ F1 ds M1, Same F F1 /\ Good X.K cl F1 H1 M1 /\ Reps X.K cl F1 vs ds /\ ∃ (d : D) (xs : List D) (ks : D -> Array UInt8), ds = [d] /\ vw M1 d = .lst xs /\ xs.length <= sizeLine /\ (∀ x ∈ xs, ∃ zs, x = .tup zs /\ zs[i]? = some (.byt (ks x))) /\ Qd (.lst (xs.mergeSort fun x y => leByt (.byt (ks x)) (.byt (ks y)))) M1) I
    ⟨F, ρ, M, _, Xd, g, sl, t, fun vs H' F' ds M' sm g' r q => ⟨F', ds, M', sm, g', r, q⟩, w⟩) fun us s1 ⟨vs, H1, I1, r1, q1⟩ => ?_) hst hpl (by rfl) (by rfl)
  obtain ⟨F1, ds, M1, sm, g1, rs, d, xs, ks, rfl, hv, hl, hx, hq⟩ := q1
  obtain ⟨v, ws, rfl, rv, rw0⟩ := rs.inv
  obtain rfl := rw0.inv0
  show wpAny _ _ (evalAll ((do let v <- eval (.Lambda params (.Subscript (.Name x p1) (.Constant (.int i) j p2) p3) scope lpos) X.env; standAt pos; pure v) :: [])) _ _ s1
  refine wpAny_evalAll_cons (wpAny_bind (LamX.lam_make2 I1 TB hcode hmT hu g1.tab hdef (fun y hy z => absurd z (L.nf y hy)) fun f c' pm ctv H2 s2 I2 eN T2 hf hfn hfr hco => wpAny_bind (wpAny_standAt (wpAny_pure (wpAny_evalAll_nil ?_)))))
  rw [clo_nil L.nf] at hf
  have g2 := g1.extN eN T2
  have hw := vw_ok g2 rv
  rw [hv] at hw
  obtain ⟨a, vs, rfl, h1, h2⟩ := hw.lst g2.sub
  obtain ⟨u, rfl, ru⟩ := vals1 r1
  obtain rfl : u = Value.ref a := ru
  show wpAny _ _ (call (.builtin "sorted") [.ref a] [(Str.ofString "key", .ref f)]) _ _ s2
  obtain ⟨its, rvs, hil, hz⟩ := I2.list h1
  have lv := h2.length
  have li := rvs.length
  have hco2 := (I2.hok c' _ hco).1
  refine sorted_byt (β := V × D) (bs := vs.zip xs) (R := fun v b => RelV b.1 v /\ Rep X.K cl F1 b.1 b.2 /\ b.2 ∈ xs) (fun b => ks b.2) hil.isList
    (zipR rvs h2) (by rw [List.length_zip]; omega) (PyProof.Rows.ksk_s1 _ _) (fun _ => PyProof.Rows.ksk_l1 _ _) (fun y => PyProof.Rows.ksk_t1 f y)
    (fun v b hR hb h tk kp => ?_) fun out cnt h' tk kp hat heach => ?_
  · obtain ⟨r1, r2, r3⟩ := hR
    obtain ⟨zs, ez, hzs⟩ := hx b.2 r3
    rw [ez] at r2
    obtain ⟨ta, us, e1, e2, e3⟩ := r2.toTup
    rw [e1] at r1
    obtain rfl : v = Value.ref ta := r1
    obtain ⟨uz, k1, k2⟩ := e3.get hzs
    obtain rfl := k2.toByt
    obtain ⟨its2, q1, q2, q3⟩ := I2.tuple (same_t g2.sub e2)
    obtain ⟨u2, k3, k4⟩ := q1.get k1
    obtain ⟨tt, rfl⟩ := k4
    obtain ⟨oc, vs2, t2, c1, c2, c3⟩ := hco2
    refine wpAny_mono (call_item (s := { s2 with heap := h, toks := tk }) (u := .bytes (ks b.2) tt) (its := its2.toArray) ?_ (kp _ _ hf) ⟨oc, vs2, t2, kp _ _ c1, c2, c3⟩ (I2.nolimit.keeps kp) L (hbind _ _ _ _) hd (q2.keeps kp) (by simpa using k3) hi2 hs) (fun r s' hr => ?_) fun _ _ z => z
    · exact c.hr.in1.in1.room.depth
    · obtain ⟨rfl, h3, tk3, rfl, kp3⟩ := hr
      exact ⟨h3, tk3, rfl, kp3, tt, rfl⟩
  · obtain ⟨w1, w2⟩ := each_vals (K := X.K) (cl := cl) (F := F1) (fun v b z => ⟨z.1, z.2.1⟩) heach
    have pm1 := List.mergeSort_perm (vs.zip xs) (fun p q : V × D => leByt (.byt (ks p.2)) (.byt (ks q.2)))
    rw [zip_sort (le := fun x y => leByt (.byt (ks x)) (.byt (ks y))) (by omega)] at w2
    have hl2 : (((vs.zip xs).mergeSort fun p q : V × D => leByt (.byt (ks p.2)) (.byt (ks q.2))).map (·.1)).length <= sizeLine := by
      rw [List.length_map, pm1.length_eq, List.length_zip]; omega
    refine ⟨.ref _, upd H2 (s2.heap.objs.size + 1) (.lst (((vs.zip xs).mergeSort fun p q : V × D => leByt (.byt (ks p.2)) (.byt (ks q.2))).map (·.1))), I2.laid (t' := tk) (fun _ _ => kp _ _) (Nat.le_succ _) ⟨hl2, out, cnt, w1, hat⟩, rfl, ?_⟩
    exact (pq.mono sm).newL g2 w2 hq (I2.hok.fresh (Nat.le_succ _))
end
end DL
set_option Elab.async false
set_option linter.all false
set_option maxRecDepth 100000
set_option maxHeartbeats 4000000
set_option autoImplicit false
namespace DL
open PySem L2
@[simp] def iZpG (τ τ' : DTE) : DTIg := fun ρ M R X => τ ρ M (fun d M1 => τ' ρ M1 (fun e M2 => ∃ a xs ys, d = .ref a /\ itD (vw M2 (.ref a)) = some xs /\ wkD e = some ys /\ R (fun M => itD (vw M (.ref a)) = some xs) ((xs.zip ys).map fun p => D.tup [p.1, p.2]) M2) X) X
section
variable {cl : ClW} {X : Cx} {W : WX} {a b : Expr} {pos : Pos} {τa τb : DTE}
theorem di_zipC {elts : List Expr} {kk : Nat} {tpos p : Pos} (hg : Gl X "zip") (hm : X.mg "zip" = none) (ha : DE cl X W a τa) (hb : DE cl X W b τb)
    (hs : starEach [a, b] X.env = (false, eval a X.env) :: starEach [b] X.env := by rfl) (hs2 : starEach [b] X.env = [(false, eval b X.env)] := by rfl) (hpl : (backTo pos (starEach [b] X.env)).any (·.1) = false := by rfl) :
    DIg cl X W (.Tuple elts kk tpos) (.Call (.Name "zip" p) [a, b] [] pos) (iZpG τa τb) :=
  ⟨pi_imp (pi_zipG hg hm (da_cons (W := W) (cl := cl) ha (da_cons hb da_nil hs2) hs).pa hs hpl) fun σ H R ⟨F, ρ, M, Rd, Xd, g, s, q, p, w⟩ =>
    ⟨F, ρ, M, fun ds M1 => ∃ d e a xs ys, ds = [d, e] /\ d = .ref a /\ itD (vw M1 (.ref a)) = some xs /\ wkD e = some ys /\ Rd (fun M => itD (vw M (.ref a)) = some xs) ((xs.zip ys).map fun p => D.tup [p.1, p.2]) M1, Xd, g, s, (by
      unfold iZpG at q
      unfold dCons dNil
      have same : (fun d M1 => τb ρ M1 (fun e M2 => ∃ a xs ys, d = .ref a /\ itD (vw M2 (.ref a)) = some xs /\ wkD e = some ys /\ Rd (fun M => itD (vw M (.ref a)) = some xs) ((xs.zip ys).map fun p => D.tup [p.1, p.2]) M2) Xd) =
          (fun d M1 => τb ρ M1 (fun e M2 => ∃ d' e' a xs ys, [d, e] = [d', e'] /\ d' = .ref a /\ itD (vw M2 (.ref a)) = some xs /\ wkD e' = some ys /\ Rd (fun M => itD (vw M (.ref a)) = some xs) ((xs.zip ys).map fun p => D.tup [p.1, p.2]) M2) Xd) := by
        funext d M1
        congr 1
        funext e M2
        simp [and_assoc]
      rw [same] at q
      exact q), fun vs H' F' ds M' sm g' r ⟨d, e, a, xs, ys, e0, ed, e1, e2, q'⟩ => (by
      subst e0 ed
      obtain ⟨v, ws, rfl, r1, r2⟩ := r.inv
      obtain ⟨v2, ws, rfl, r3, r4⟩ := r2.inv
      obtain rfl := r4.inv0
      obtain rfl := r1.toRef
      obtain ⟨_, us, h1, h2⟩ := cellL g' (.inl e1)
      obtain ⟨k2, zs, rfl, i1, i2⟩ := r3.wkd e2
      refine ⟨.lst a, k2, us, zs, rfl, SqL.of h1, Wkd.same' i1 g'.sub, p _ _ F' _ _ M' sm g' (fun i F2 H2 M2 sm2 g2 hC => ?_) q'⟩
      obtain ⟨_, us2, h3, h4⟩ := cellL g2 (.inl hC)
      have hlu : us2.length = us.length := by rw [h4.length, h2.length]
      refine ⟨fun d0 hd => ?_, fun hl => ⟨us2, zs, SqL.of h3, Wkd.same' i1 (sm2.trans g2.sub), hlu, rfl, ?_⟩⟩
      · rw [List.getElem?_map] at hd
        obtain ⟨⟨d1, d2⟩, hz, rfl⟩ := Option.map_eq_some_iff.mp hd
        obtain ⟨z1, z2⟩ := List.getElem?_zip_eq_some.mp hz
        obtain ⟨v1, k3, k4⟩ := h4.get z1
        obtain ⟨v2, i3, i4⟩ := i2.get z2
        refine ⟨⟨us2, zs, v1, v2, SqL.of h3, Wkd.same' i1 (sm2.trans g2.sub), hlu, rfl, k3, i3⟩, fun x H3 ⟨T, x0, y0, ex, hT, eH, hx, hy⟩ => ?_⟩
        subst ex eH
        obtain rfl := Option.some.inj (k3.symm.trans (hx us2 (SqL.of h3)))
        obtain rfl := Option.some.inj (i3.symm.trans (hy zs (Wkd.same' i1 (sm2.trans g2.sub))))
        have sm3 : Same F2 (upd F2 T (.tup [v1, v2])) := same_new (g2.freshF hT)
        exact ⟨_, sm3, g2.new hT, .tup (SqT1.of upd_same) (.cons (k4.mono sm3) (.one (i4.mono (sm2.trans sm3))))⟩
      · rw [h2.length, i2.length]
        simp at hl
        omega), w⟩⟩
end
@[simp] def bInQ (neg : Bool) : DB2 := fun d e _ M Q _ => ∃ (p : PyData) (xs : List D) (ps : List PyData), vw M e = .lst xs /\ toPyX d = some p /\ toPyXs xs = some ps /\ p.plain = true /\ PyData.plainAll ps = true /\ p.depth <= 16 /\ Q (.bl (neg != ps.any fun y => PyData.eqv y p)) M
section
variable {cl : ClW} {X : Cx} {W : WX}
theorem bin_inQ (sm : SmOk X.K) (hu : X.A.units + 64 < cLine) : BinG cl X W (compareOp .In) (bInQ false) := fun pins s σ H F ρ M v u x y d e Q Qd Xd I rx ry g sl r1 r2 q p w => by
  obtain ⟨pd, xs, ps, he, t1, t2, p1, p2, hd, q⟩ := q
  obtain ⟨as, k1, _⟩ := reads_of I sm (r1.mono g.sub) rx t1
  have hdep : X.A.units + 1 + min (PyData.depthAll ps) pd.depth < cLine := by
    have : min (PyData.depthAll ps) pd.depth <= pd.depth := Nat.min_le_right _ _
    omega
  rw [Bool.false_bne] at q
  have hw := vw_ok g r2
  rw [he] at hw
  obtain ⟨a, vs, rfl, h1, h2⟩ := hw.lst g.sub
  have hr : Rep X.K cl H (.ref a) (.lst xs) := .lst h1 (h2.mono g.sub)
  obtain ⟨bs, k2, _⟩ := reads_of I sm hr ry (p := .list ps) (by simp [toPyX, t2])
  exact PySem.SeqAt.in_list_data k2 k1 p2 p1 hdep ⟨.bl _, H, I, rfl, p.val g (.bl _) q⟩
end
end DL
set_option Elab.async false
set_option linter.all false
set_option maxRecDepth 100000
set_option maxHeartbeats 4000000
set_option autoImplicit true
namespace LawProof
open PySem L2 DL
def top (i : Nat) : Stmt := PySem.Challenge.pw_forestrows_k66_largest_parts_of_key_rows.main.body.getD i (.Pass ⟨0, 0, 0, 0⟩)
def cl (K : PySem.W.Frag) : Nat -> Addr
  | 1 => He.ga K "Thing"
  | 12 => He.ga K "Fault"
  | 15 => He.ga K "KeyTable"
  | 17 => He.ga K "ForestError"
  | 28 => He.ga K "NoTable"
  | 30 => He.ga K "NoKey"
  | 1003 => tabD K ("KeyTable", some "put_rows")
  | _ => 0
theorem tabs_cl {K : PySem.W.Frag} (nz0 : tabD K ("KeyTable", some "put_rows") ≠ 0) : tabsOf (cl K) = [(tabD K ("KeyTable", some "put_rows"), ("KeyTable.put_rows.<locals>.<lambda>" : Str))] := by
  simp [tabsOf, tabNames, cl, nz0]
abbrev clw (K : PySem.W.Frag) (P : Program) (w : World) : ClW := ⟨cl K, P, w⟩
abbrev mtT0 : List ((Nat × Nat) × Bool) := [((30, 30), true), ((30, 28), false), ((30, 17), true), ((28, 30), false), ((28, 28), true), ((28, 17), true)]
abbrev s_is_integer : Stmt := top 15
abbrev s_is_sequence : Stmt := top 16
abbrev s_is_name : Stmt := top 17
abbrev s_is_value : Stmt := top 18
abbrev s_key_fault : Stmt := top 20
abbrev s_cut_key : Stmt := top 21
abbrev s_bytes_of : Stmt := top 22
abbrev s_Fault___init__ : Stmt := inClass (top 28) 0
abbrev s_plain_word : Stmt := top 29
abbrev s_key_word : Stmt := top 30
abbrev s_shorter_keys : Stmt := top 31
abbrev s_judge_keys : Stmt := top 32
abbrev s_KeyTable_put_rows : Stmt := inClass (top 47) 2
abbrev s_KeyTable___init__ : Stmt := inClass (top 47) 0
abbrev s_KeyTable_names : Stmt := inClass (top 47) 3
abbrev s_Table___len__ : Stmt := inClass (top 39) 0
abbrev s_largest_keys : Stmt := top 41
abbrev s__law_rng : Stmt := top 49
abbrev s__law_draw : Stmt := top 50
abbrev s__law_pick : Stmt := top 51
abbrev s__law_value : Stmt := top 52
abbrev s__law_forest : Stmt := top 53
abbrev s__law_inside : Stmt := top 54
abbrev s__law_parents : Stmt := top 55
abbrev s__law_line : Stmt := top 56
abbrev s__law_label : Stmt := top 57
abbrev s__law_labels : Stmt := top 58
abbrev s__law_keys : Stmt := top 59
abbrev s__law_joined : Stmt := top 60
abbrev s__law_key_rows : Stmt := top 61
abbrev s__law_said : Stmt := top 62
abbrev s__law_right : Stmt := top 63
abbrev s_law : Stmt := top 64
abbrev s_NoKey___init__ : Stmt := inClass (top 8) 0
abbrev s_NoTable___init__ : Stmt := inClass (top 7) 0
end LawProof
set_option Elab.async false
set_option linter.all false
set_option maxRecDepth 100000
set_option maxHeartbeats 4000000
set_option autoImplicit true
namespace LawProof
open PySem L2 DL
def d_is_integer : He.DefD := ⟨("is_integer", none), "is_integer", "is_integer", defArgs s_is_integer, defBody s_is_integer, defScope s_is_integer, [], []⟩
def d_is_sequence : He.DefD := ⟨("is_sequence", none), "is_sequence", "is_sequence", defArgs s_is_sequence, defBody s_is_sequence, defScope s_is_sequence, [], []⟩
def d_is_name : He.DefD := ⟨("is_name", none), "is_name", "is_name", defArgs s_is_name, defBody s_is_name, defScope s_is_name, [], []⟩
def d_is_value : He.DefD := ⟨("is_value", none), "is_value", "is_value", defArgs s_is_value, defBody s_is_value, defScope s_is_value, [], []⟩
def d_key_fault : He.DefD := ⟨("key_fault", none), "key_fault", "key_fault", defArgs s_key_fault, defBody s_key_fault, defScope s_key_fault, [], []⟩
def d_cut_key : He.DefD := ⟨("cut_key", none), "cut_key", "cut_key", defArgs s_cut_key, defBody s_cut_key, defScope s_cut_key, [], []⟩
def d_bytes_of : He.DefD := ⟨("bytes_of", none), "bytes_of", "bytes_of", defArgs s_bytes_of, defBody s_bytes_of, defScope s_bytes_of, [], []⟩
def d_plain_word : He.DefD := ⟨("plain_word", none), "plain_word", "plain_word", defArgs s_plain_word, defBody s_plain_word, defScope s_plain_word, [], []⟩
def d_key_word : He.DefD := ⟨("key_word", none), "key_word", "key_word", defArgs s_key_word, defBody s_key_word, defScope s_key_word, [], []⟩
def d_shorter_keys : He.DefD := ⟨("shorter_keys", none), "shorter_keys", "shorter_keys", defArgs s_shorter_keys, defBody s_shorter_keys, defScope s_shorter_keys, [], []⟩
def d_judge_keys : He.DefD := ⟨("judge_keys", none), "judge_keys", "judge_keys", defArgs s_judge_keys, defBody s_judge_keys, defScope s_judge_keys, [], []⟩
def d_largest_keys : He.DefD := ⟨("largest_keys", none), "largest_keys", "largest_keys", defArgs s_largest_keys, defBody s_largest_keys, defScope s_largest_keys, [], []⟩
def d__law_rng : He.DefD := ⟨("_law_rng", none), "_law_rng", "_law_rng", defArgs s__law_rng, defBody s__law_rng, defScope s__law_rng, [], []⟩
def d__law_draw : He.DefD := ⟨("_law_draw", none), "_law_draw", "_law_draw", defArgs s__law_draw, defBody s__law_draw, defScope s__law_draw, [], []⟩
def d__law_pick : He.DefD := ⟨("_law_pick", none), "_law_pick", "_law_pick", defArgs s__law_pick, defBody s__law_pick, defScope s__law_pick, [], []⟩
def d__law_value : He.DefD := ⟨("_law_value", none), "_law_value", "_law_value", defArgs s__law_value, defBody s__law_value, defScope s__law_value, [], []⟩
def d__law_forest : He.DefD := ⟨("_law_forest", none), "_law_forest", "_law_forest", defArgs s__law_forest, defBody s__law_forest, defScope s__law_forest, [], []⟩
def d__law_inside : He.DefD := ⟨("_law_inside", none), "_law_inside", "_law_inside", defArgs s__law_inside, defBody s__law_inside, defScope s__law_inside, [], []⟩
def d__law_parents : He.DefD := ⟨("_law_parents", none), "_law_parents", "_law_parents", defArgs s__law_parents, defBody s__law_parents, defScope s__law_parents, [], []⟩
def d__law_line : He.DefD := ⟨("_law_line", none), "_law_line", "_law_line", defArgs s__law_line, defBody s__law_line, defScope s__law_line, [], []⟩
def d__law_label : He.DefD := ⟨("_law_label", none), "_law_label", "_law_label", defArgs s__law_label, defBody s__law_label, defScope s__law_label, [], []⟩
def d__law_labels : He.DefD := ⟨("_law_labels", none), "_law_labels", "_law_labels", defArgs s__law_labels, defBody s__law_labels, defScope s__law_labels, [], []⟩
def d__law_keys : He.DefD := ⟨("_law_keys", none), "_law_keys", "_law_keys", defArgs s__law_keys, defBody s__law_keys, defScope s__law_keys, [], []⟩
def d__law_joined : He.DefD := ⟨("_law_joined", none), "_law_joined", "_law_joined", defArgs s__law_joined, defBody s__law_joined, defScope s__law_joined, [], []⟩
def d__law_key_rows : He.DefD := ⟨("_law_key_rows", none), "_law_key_rows", "_law_key_rows", defArgs s__law_key_rows, defBody s__law_key_rows, defScope s__law_key_rows, [], []⟩
def d__law_said : He.DefD := ⟨("_law_said", none), "_law_said", "_law_said", defArgs s__law_said, defBody s__law_said, defScope s__law_said, [], []⟩
def d__law_right : He.DefD := ⟨("_law_right", none), "_law_right", "_law_right", defArgs s__law_right, defBody s__law_right, defScope s__law_right, [], []⟩
def d_law : He.DefD := ⟨("law", none), "law", "law", defArgs s_law, defBody s_law, defScope s_law, [], []⟩
def d_NoKey____init__ : He.DefD := ⟨("NoKey", some "__init__"), "__init__", "NoKey.__init__", defArgs s_NoKey___init__, defBody s_NoKey___init__, defScope s_NoKey___init__, [], []⟩
def d_Fault____init__ : He.DefD := ⟨("Fault", some "__init__"), "__init__", "Fault.__init__", defArgs s_Fault___init__, defBody s_Fault___init__, defScope s_Fault___init__, [], []⟩
def d_KeyTable__put_rows : He.DefD := ⟨("KeyTable", some "put_rows"), "put_rows", "KeyTable.put_rows", defArgs s_KeyTable_put_rows, defBody s_KeyTable_put_rows, defScope s_KeyTable_put_rows, [], []⟩
def d_NoTable____init__ : He.DefD := ⟨("NoTable", some "__init__"), "__init__", "NoTable.__init__", defArgs s_NoTable___init__, defBody s_NoTable___init__, defScope s_NoTable___init__, [], []⟩
def d_KeyTable__names : He.DefD := ⟨("KeyTable", some "names"), "names", "KeyTable.names", defArgs s_KeyTable_names, defBody s_KeyTable_names, defScope s_KeyTable_names, [], []⟩
def d_KeyTable____len__ : He.DefD := ⟨("KeyTable", some "__len__"), "__len__", "Table.__len__", defArgs s_Table___len__, defBody s_Table___len__, defScope s_Table___len__, [], []⟩
def d_KeyTable____init__ : He.DefD := ⟨("KeyTable", some "__init__"), "__init__", "KeyTable.__init__", defArgs s_KeyTable___init__, defBody s_KeyTable___init__, defScope s_KeyTable___init__, [], []⟩
def fn : List He.DefD := [d_is_integer, d_is_sequence, d_is_name, d_is_value, d_key_fault, d_cut_key, d_bytes_of, d_plain_word, d_key_word, d_shorter_keys, d_judge_keys, d_largest_keys, d__law_rng, d__law_draw, d__law_pick, d__law_value, d__law_forest, d__law_inside, d__law_parents, d__law_line, d__law_label, d__law_labels, d__law_keys, d__law_joined, d__law_key_rows, d__law_said, d__law_right, d_law, d_NoKey____init__, d_Fault____init__, d_KeyTable__put_rows, d_NoTable____init__, d_KeyTable__names, d_KeyTable____len__, d_KeyTable____init__]
def fa : List He.Fa := [.glo "is_integer", .glo "is_sequence", .glo "is_name", .glo "is_value", .glo "key_fault", .glo "cut_key", .glo "bytes_of", .glo "plain_word", .glo "key_word", .glo "shorter_keys", .glo "judge_keys", .glo "largest_keys", .glo "_law_rng", .glo "_law_draw", .glo "_law_pick", .glo "_law_value", .glo "_law_forest", .glo "_law_inside", .glo "_law_parents", .glo "_law_line", .glo "_law_label", .glo "_law_labels", .glo "_law_keys", .glo "_law_joined", .glo "_law_key_rows", .glo "_law_said", .glo "_law_right", .glo "law", .glo "Fault", .cls "Fault", .glo "KeyTable", .cls "KeyTable", .glo "Thing", .cls "Thing", .glo "NoKey", .glo "NoTable", .glo "ForestError", .noat "Fault" "word", .noat "Fault" "place", .mkr "Fault", .noat "KeyTable" "by_name", .noat "KeyTable" "rows", .meth "KeyTable" "put_rows", .meth "KeyTable" "names", .meth "KeyTable" "__len__", .mkr "KeyTable", .free "isinstance", .free "int", .free "bool", .free "tuple", .free "list", .free "all", .free "str", .free "len", .free "enumerate", .free "bytes", .free "range", .free "sorted", .free "abs", .free "zip", .str "LETTERS" "abcdefghijklmnopqrstuvwxyz", .str "SIGNS" "abcdefghijklmnopqrstuvwxyz0123456789", .int "MOST_SIGNS" 8, .int "MOST_VALUE" 1000000000000000000000000000000, .int "MOST_ROWS" 60]
def ex (K : PySem.W.Frag) : Bool := oexB K (He.ga K "NoKey") && (xnB K (He.ga K "NoKey") (He.fAd K ("NoKey", some "__init__")) ["place"] && (oexB K (He.ga K "NoTable") && (xnB K (He.ga K "NoTable") (He.fAd K ("NoTable", some "__init__")) ["place", "why"] && (smB K && (mtB K (cl K) mtT0 && (xfOkB K (cl K) [28] "why" && (xfOkB K (cl K) [28, 30] "place" && true)))))))
theorem ex_0 {K : PySem.W.Frag} (h : ex K = true) : oexB K (He.ga K "NoKey") = true := (He.ba h).1
theorem ex_1 {K : PySem.W.Frag} (h : ex K = true) : xnB K (He.ga K "NoKey") (He.fAd K ("NoKey", some "__init__")) ["place"] = true := (He.ba (He.ba h).2).1
theorem ex_2 {K : PySem.W.Frag} (h : ex K = true) : oexB K (He.ga K "NoTable") = true := (He.ba (He.ba (He.ba h).2).2).1
theorem ex_3 {K : PySem.W.Frag} (h : ex K = true) : xnB K (He.ga K "NoTable") (He.fAd K ("NoTable", some "__init__")) ["place", "why"] = true := (He.ba (He.ba (He.ba (He.ba h).2).2).2).1
theorem ex_4 {K : PySem.W.Frag} (h : ex K = true) : smB K = true := (He.ba (He.ba (He.ba (He.ba (He.ba h).2).2).2).2).1
theorem ex_5 {K : PySem.W.Frag} (h : ex K = true) : mtB K (cl K) mtT0 = true := (He.ba (He.ba (He.ba (He.ba (He.ba (He.ba h).2).2).2).2).2).1
theorem ex_6 {K : PySem.W.Frag} (h : ex K = true) : xfOkB K (cl K) [28] "why" = true := (He.ba (He.ba (He.ba (He.ba (He.ba (He.ba (He.ba h).2).2).2).2).2).2).1
theorem ex_7 {K : PySem.W.Frag} (h : ex K = true) : xfOkB K (cl K) [28, 30] "place" = true := (He.ba (He.ba (He.ba (He.ba (He.ba (He.ba (He.ba (He.ba h).2).2).2).2).2).2).2).1
abbrev R : PySem.W.OpenRow := PySem.W.OpenLaw.row PySem.Challenge.rw_forestrows_k66_largest_parts_of_key_rows
def ts : List (Str × Option Str) := [("KeyTable", some "put_rows")]
abbrev hk : PySem.W.Hook := DL.hookT 4000 ts fa fn ex
abbrev ob (s : PySem.W.SharedT) : He.AlD × (Bool × Bool) := DL.obsT 4000 ts fa fn ex (HandSHeadRun.getT s)
theorem ob_eq (s : PySem.W.SharedT) : ob s = hk.obs s.abs := DL.obsT_eq (HandSHeadRun.getT_eq s)
def loose : List PySem.Str := (["_wall", "__name__", "ForestError", "NoValue", "NoForest", "Twice", "NoNode", "NoTable", "NoKey", "LETTERS", "SIGNS", "MOST_SIGNS", "MOST_VALUE", "Thing", "is_integer", "is_sequence", "is_name", "is_value", "key_fault", "cut_key", "bytes_of", "allowed", "longer", "found_between", "MOST_ROWS", "Fault", "plain_word", "key_word", "shorter_keys", "judge_keys"] : List PySem.Str) ++ (["Asked", "row_fault", "Forest", "Table", "largest_keys", "families", "labelled", "keys_for", "KeyTable", "_law_rng", "_law_draw", "_law_pick", "_law_value", "_law_forest", "_law_inside", "_law_parents", "_law_line", "_law_label", "_law_labels", "_law_keys", "_law_joined", "_law_key_rows", "_law_said", "_law_right"] : List PySem.Str)
abbrev vq : Program := PySem.W.view R.prog [64]
open PySem PySem.W PySem.Calls PyProof.Rows in
theorem run1 (w : World) (os : OsState) : (HandSHeadRun.endF (HandSHeadRun.stepQ (HandSHeadRun.denQ HandSHeadRun.tabQ) R.prog w) 20000 R.prog w os).map (fun s => (HandSHeadRun.looksF R.prog (boot_heap w.params) s.abs, HandSHeadRun.seenQ vq loose (importedModules R.prog.main.body) (fun s => PySem.W.xlAt vq [] s && PySem.W.recOk R.toRowW.records s) s.abs)) = some (true, PySem.W.openGood vq loose) := by
  kernel_rfl
theorem run2 (w : World) (os : OsState) : (HandSHeadRun.endF (HandSHeadRun.stepQ (HandSHeadRun.denQ HandSHeadRun.tabQ) R.prog w) 20000 R.prog w os).map (fun s => fa.all fun f => f.ok (cutTab (He.frG (HandSHeadRun.getT s) (List.range 4000)) ts)) = some true := by
  kernel_rfl
theorem run3 (w : World) (os : OsState) : (HandSHeadRun.endF (HandSHeadRun.stepQ (HandSHeadRun.denQ HandSHeadRun.tabQ) R.prog w) 20000 R.prog w os).map (fun s => (fn.all fun d => d.ok (cutTab (He.frG (HandSHeadRun.getT s) (List.range 4000)) ts), fn.map fun d => He.fnW (cutTab (He.frG (HandSHeadRun.getT s) (List.range 4000)) ts) d.at_)) = some (true, fn.map He.DefD.val) := by
  kernel_rfl
theorem run4 (w : World) (os : OsState) : (HandSHeadRun.endF (HandSHeadRun.stepQ (HandSHeadRun.denQ HandSHeadRun.tabQ) R.prog w) 20000 R.prog w os).map (fun s => (ex (cutTab (He.frG (HandSHeadRun.getT s) (List.range 4000)) ts), ts.all (tabOk (He.frG (HandSHeadRun.getT s) (List.range 4000)) (cutTab (He.frG (HandSHeadRun.getT s) (List.range 4000)) ts)))) = some (true, true) := by
  kernel_rfl
theorem run (w : World) : HandSHeadRun.RunEq R vq hk ob 20000 loose w := DL.runT_of (run1 w) (run2 w) (run3 w) (run4 w)
end LawProof
set_option Elab.async false
set_option linter.all false
set_option maxRecDepth 100000
set_option maxHeartbeats 4000000
set_option autoImplicit false
namespace FL
open PySem L2 DL
def Lad : Int -> List Int -> Prop
  | _, [] => True
  | m, l :: r => 0 <= l /\ l <= m + 1 /\ Lad l r
def up (c : Int) (r : Row) : Row := ⟨r.nm, r.va, r.lv + c⟩
def subT (rs : List Row) (p : Nat) : List Row := (rs.drop p).take (1 + kids (lvs rs) p)
def blk (rs : List Row) : Option Nat -> List Row
  | none => rs
  | some p => (rs.drop (p + 1)).take (kids (lvs rs) p)
end FL
set_option Elab.async false
set_option linter.all false
set_option maxRecDepth 100000
set_option maxHeartbeats 4000000
set_option autoImplicit false
namespace FL
open PySem L2 DL
def RV (r : Row) : Prop := NameOk r.nm /\ -(10 ^ 30) <= r.va /\ r.va <= 10 ^ 30
def treesR (rs : List Row) (o : Option Nat) : List (List Row) := (sibs (lvs rs) o).map fun c => (subT rs c).map (up (-((lvs rs).getD c 0)))
def withT (rs : List Row) : Option Nat -> List (List Row) -> List Row
  | none, ts => ts.flatten
  | some p, ts => rs.take (p + 1) ++ ts.flatten.map (up ((lvs rs).getD p 0 + 1)) ++ rs.drop (p + 1 + kids (lvs rs) p)
def cutR (rs : List Row) (p : Nat) : List Row := rs.take p ++ rs.drop (p + 1 + kids (lvs rs) p)
def liftR (rs : List Row) (p : Nat) : List Row := rs.take p ++ ((rs.drop (p + 1)).take (kids (lvs rs) p)).map (up (-1)) ++ rs.drop (p + 1 + kids (lvs rs) p)
def subR (rs : List Row) (p : Nat) : List Row := (subT rs p).map (up (-((lvs rs).getD p 0)))
structure TrOk (t : List Row) : Prop where
  lad : Lad (-1) (lvs t)
  rv : ∀ r ∈ t, RV r
section
variable {rs : List Row}
end
end FL
set_option Elab.async false
set_option linter.all false
set_option maxRecDepth 100000
set_option maxHeartbeats 4000000
set_option autoImplicit false
namespace FL
open PySem L2 DL
theorem wipeD_length (ρ : DL.Env) : ∀ vs : List Nat, (wipeD ρ vs).length = ρ.length
  | [] => rfl
  | v :: vs => by simp [wipeD_length ρ vs]
theorem updM_self {M : Mem} {a : Addr} {d : D} (h : M a = some d) : updM M a d = M := by
  funext b
  by_cases e : b = a
  · rw [e, updM_same, h]
  · rw [updM_ne e]
theorem lc_all {j : Nat} {vs1 : List Nat} {a : Addr} {ρ : DL.Env} (hj : j < ρ.length) : ∀ (ys acc : List D) (M : Mem) (R : Mem -> Prop), M a = some (.lst acc) -> acc.length + ys.length <= 16777216 -> R (updM M a (.lst (acc ++ ys))) ->
    lcG (fun _ => True) (gN j) dYes (dVar j) vs1 a ys ρ M R := by
  intro ys
  induction ys with
  | nil => intro acc M R h _ q; rw [List.append_nil, updM_self h] at q; exact ⟨trivial, q⟩
  | cons y ys ih =>
    intro acc M R h hl q
    simp only [List.length_cons] at hl
    refine ⟨trivial, ?_⟩
    simp only [gN, dYes, dVar, if_true]
    refine ⟨y, by rw [List.getElem?_set_self (by rw [wipeD_length]; exact hj)], acc, h, by rw [size_line]; omega, ih _ _ R updM_same (by simp; omega) ?_⟩
    rw [updM_updM, List.append_assoc]
    exact q
def hasN (rs : List Row) : D -> Bool
  | .str z => decide (z.cps.toList ∈ rs.map Row.nm)
  | _ => false
def nmOf : D -> List Nat
  | .str z => z.cps.toList
  | _ => []
def ixOf (rs : List Row) (d : D) : Nat := (rs.map Row.nm).idxOf (nmOf d)
end FL
set_option Elab.async false
set_option linter.all false
set_option maxRecDepth 100000
set_option maxHeartbeats 4000000
set_option autoImplicit false
namespace FL
open PySem L2 DL
inductive Tr where
  | mk (nm : List Nat) (va : Int) (ks : List Tr)
mutual
def flatT (lv : Int) : Tr -> List Row
  | .mk nm va ks => ⟨nm, va, lv⟩ :: flatTs (lv + 1) ks
def flatTs (lv : Int) : List Tr -> List Row
  | [] => []
  | t :: ts => flatT lv t ++ flatTs lv ts
end
theorem flatTs_append (lv : Int) (a b : List Tr) : flatTs lv (a ++ b) = flatTs lv a ++ flatTs lv b := by
  induction a with
  | nil => simp [flatTs]
  | cons t a ih => simp [flatTs, ih]
end FL
set_option Elab.async false
set_option linter.all false
set_option maxRecDepth 100000
set_option maxHeartbeats 4000000
set_option autoImplicit false
namespace FL
open PySem L2 DL
def fpx : D -> List Addr
  | .ref b => [b]
  | _ => []
def isR : D -> Bool
  | .ref _ => true
  | _ => false
def nodeD (nm : List Nat) (va : Int) (x : D) : D := .lst [strD nm, .int va, x]
mutual
inductive TA (M : Mem) : D -> Tr -> List Addr -> Prop
  | mk {nm : List Nat} {va : Int} {x : D} {ks : List D} {ts : List Tr} {fp : List Addr} : isR x = true -> vw M x = .lst ks -> TAs M ks ts fp -> TA M (nodeD nm va x) (.mk nm va ts) (fpx x ++ fp)
inductive TAs (M : Mem) : List D -> List Tr -> List Addr -> Prop
  | nil : TAs M [] [] []
  | cons {d : D} {t : Tr} {f : List Addr} {ds : List D} {ts : List Tr} {g : List Addr} : TA M d t f -> TAs M ds ts g -> TAs M (d :: ds) (t :: ts) (f ++ g)
end
inductive Sp (M : Mem) : Addr -> List D -> List Tr -> List Addr -> Prop
  | nil {a : Addr} {ks : List D} {ts : List Tr} {fp : List Addr} : M a = some (.lst ks) -> TAs M ks ts fp -> (a :: fp).Nodup -> Sp M a [] ts (a :: fp)
  | cons {a b : Addr} {ks : List D} {ts us : List Tr} {f1 f2 : List Addr} {nm : List Nat} {va : Int} {line : List D} : M a = some (.lst (ks ++ [nodeD nm va (.ref b)])) -> TAs M ks ts f1 -> Sp M b line us f2 -> (a :: (f1 ++ f2)).Nodup ->
      Sp M a (nodeD nm va (.ref b) :: line) (ts ++ [.mk nm va us]) (a :: (f1 ++ f2))
theorem nodup_mid {α : Type} {a : α} {f1 f2 f3 : List α} {b : α} (h : (a :: (f1 ++ f2)).Nodup) (hb : b ∉ a :: (f1 ++ f2)) (h3 : f3.Nodup) (hs : ∀ x ∈ f3, x ∈ f2 \/ x = b) : (a :: (f1 ++ f3)).Nodup := by
  simp only [List.nodup_cons, List.nodup_append, List.mem_append, List.mem_cons, not_or] at h hb ⊢
  obtain ⟨⟨n1, n2⟩, n3, n4, n5⟩ := h
  refine ⟨⟨n1, fun ha => ?_⟩, n3, h3, fun x hx y hy e => ?_⟩
  · rcases hs a ha with q | q
    · exact n2 q
    · exact hb.1 q.symm
  · subst e
    rcases hs x hy with q | q
    · exact n5 x hx x q rfl
    · subst q; exact hb.2.1 hx
theorem len_flat (lv : Int) : ∀ ts : List Tr, ts.length <= (flatTs lv ts).length
  | [] => Nat.le_refl _
  | .mk n v ks :: ts => by
    have := len_flat lv ts
    simp only [flatTs, flatT, List.length_append, List.length_cons]
    omega
inductive Sub (M : Mem) : List D -> D -> Prop
  | here {ds : List D} {d : D} : d ∈ ds -> Sub M ds d
  | down {ds ks : List D} {d : D} {nm : List Nat} {va : Int} {x : D} : nodeD nm va x ∈ ds -> vw M x = .lst ks -> Sub M ks d -> Sub M ds d
inductive Loc (p : List Nat) (va : Int) (us : List Tr) : List Tr -> Prop
  | here {t1 t2 : List Tr} : Loc p va us (t1 ++ .mk p va us :: t2)
  | down {t1 t2 ks : List Tr} {n : List Nat} {v : Int} : Loc p va us ks -> Loc p va us (t1 ++ .mk n v ks :: t2)
mutual
def setT (p : List Nat) (us : List Tr) : Tr -> Tr
  | .mk n v ks => .mk n v (if n = p then us else setTs p us ks)
def setTs (p : List Nat) (us : List Tr) : List Tr -> List Tr
  | [] => []
  | t :: ts => setT p us t :: setTs p us ts
end
def woTs (p : List Nat) : List Tr -> List Tr
  | [] => []
  | .mk n v ks :: ts => if n = p then woTs p ts else .mk n v (woTs p ks) :: woTs p ts
def liTs (p : List Nat) : List Tr -> List Tr
  | [] => []
  | .mk n v ks :: ts => if n = p then ks ++ liTs p ts else .mk n v (liTs p ks) :: liTs p ts
def nmTs (ts : List Tr) : List (List Nat) := (flatTs 0 ts).map Row.nm
mutual
theorem nm_lvT (lv lw : Int) : ∀ t : Tr, (flatT lv t).map Row.nm = (flatT lw t).map Row.nm
  | .mk n v ks => by simp only [flatT, List.map_cons]; rw [nm_lv (lv + 1) (lw + 1) ks]
theorem nm_lv (lv lw : Int) : ∀ ts : List Tr, (flatTs lv ts).map Row.nm = (flatTs lw ts).map Row.nm
  | [] => rfl
  | t :: ts => by simp only [flatTs, List.map_append]; rw [nm_lvT lv lw t, nm_lv lv lw ts]
end
theorem nmTs_append (a b : List Tr) : nmTs (a ++ b) = nmTs a ++ nmTs b := by simp [nmTs, flatTs_append]
theorem nmTs_cons (n : List Nat) (v : Int) (ks ts : List Tr) : nmTs (.mk n v ks :: ts) = n :: (nmTs ks ++ nmTs ts) := by
  simp [nmTs, flatTs, flatT, nm_lv 1 0 ks]
mutual
theorem setT_id {p : List Nat} {us : List Tr} : ∀ t : Tr, p ∉ nmTs [t] -> setT p us t = t
  | .mk n v ks, h => by
    rw [nmTs_cons] at h
    simp only [List.mem_cons, List.mem_append, not_or] at h
    simp only [setT]
    rw [if_neg (fun z => h.1 z.symm), setTs_id ks h.2.1]
theorem setTs_id {p : List Nat} {us : List Tr} : ∀ ts : List Tr, p ∉ nmTs ts -> setTs p us ts = ts
  | [], _ => rfl
  | t :: ts, h => by
    rw [show t :: ts = [t] ++ ts from rfl, nmTs_append] at h
    simp only [List.mem_append, not_or] at h
    simp only [setTs]
    rw [setT_id t h.1, setTs_id ts h.2]
end
theorem setTs_append (p : List Nat) (us a b : List Tr) : setTs p us (a ++ b) = setTs p us a ++ setTs p us b := by
  induction a with
  | nil => rfl
  | cons t a ih => simp [setTs, ih]
theorem Loc.mem {p : List Nat} {va : Int} {us ts : List Tr} (h : Loc p va us ts) : p ∈ nmTs ts := by
  induction h with
  | here => rw [nmTs_append, nmTs_cons]; simp
  | down _ ih => rw [nmTs_append, nmTs_cons]; simp [ih]
end FL
set_option Elab.async false
set_option linter.all false
set_option maxRecDepth 100000
set_option maxHeartbeats 4000000
set_option autoImplicit false
namespace FL
open PySem L2 DL
structure NodeAt (rs : List Row) (p : List Nat) (us ts : List Tr) (i : Nat) : Prop where
  ix : ixOf rs (strD p) = i
  lt : i < rs.length
  has : hasN rs (strD p) = true
  trees : treesR rs (some i) = us.map (flatT 0)
  set : ∀ us', withT rs (some i) (us'.map (flatT 0)) = flatTs 0 (setTs p us' ts)
  cut : cutR rs i = flatTs 0 (woTs p ts)
  lift : liftR rs i = flatTs 0 (liTs p ts)
  sub : subR rs i = flatTs 0 [.mk p ((rs.map Row.va).getD i 0) us]
  many : (sibs (lvs rs) (some i)).length = us.length
section
variable {pre B post : List Row} {r : Row}
end
def insT (ts : List Tr) (k : Nat) (t : Tr) : List Tr := ts.take k ++ [t] ++ ts.drop k
def wrapT (us : List Tr) (nm : List Nat) (va : Int) (f l : Nat) : List Tr := us.take f ++ [.mk nm va ((us.drop f).take (l - f))] ++ us.drop l
theorem Loc.more {p : List Nat} {va : Int} {us ts : List Tr} (h : Loc p va us ts) (t : Tr) : Loc p va us (t :: ts) := by
  cases h with
  | @here t1 t2 => exact .here (t1 := t :: t1)
  | @down t1 t2 ks n v hk => exact .down (t1 := t :: t1) hk
end FL
set_option Elab.async false
set_option linter.all false
set_option maxRecDepth 100000
set_option maxHeartbeats 4000000
set_option autoImplicit false
namespace FL
open PySem L2 DL
def PlaceT (rs : List Row) (ts : List Tr) (p : D) (us : List Tr) : Prop := (p = .non /\ us = ts) \/ ∃ nm va, p = strD nm /\ nm ∈ rs.map Row.nm /\ Loc nm va us ts
section
variable {rs : List Row} {ts us : List Tr} {p : D}
end
structure TrS (M : Mem) (rs : List Row) (r a c : Addr) (ks kc : List D) (ts us : List Tr) (fp fc : List Addr) (p : D) : Prop where
  ha : M a = some (.lst ks)
  T : TAs M ks ts fp
  hc : M c = some (.lst kc)
  Tc : TAs M kc us fc
  P : PlaceT rs ts p us
  hf : flatTs 0 ts = rs
  hr : r ∉ a :: fp
  hcm : c ∈ a :: fp
  hfc : ∀ y ∈ fc, y ∈ fp
end FL
set_option Elab.async false
set_option linter.all false
set_option maxRecDepth 100000
set_option maxHeartbeats 4000000
set_option autoImplicit false
namespace FL
open PySem L2 DL
section
variable {rs : List Row} {ts us vs : List Tr} {p : D} {x : List Nat} {va : Int}
end
section
variable {rs : List Row} {ts us vs : List Tr} {p : D} {x : List Nat} {va : Int}
end
end FL
set_option Elab.async false
set_option linter.all false
set_option maxRecDepth 100000
set_option maxHeartbeats 4000000
set_option autoImplicit false
namespace FL
open PySem L2 DL
def iOf : D -> Int
  | .int i => i
  | _ => 0
def plainW (k : Nat) (y : D) : Option String := match seqs y with
  | none => some "row"
  | some l => if l.length ≠ k then some "row" else if nameB (l.getD 0 .non) = true then if valB (l.getD 1 .non) = true then none else some "value" else some "name"
def itm (y : D) (i : Nat) : D := match seqs y with
  | some l => l.getD i .non
  | none => .non
def crossI (a b c d : Int) : Bool := (decide (a < c) && (decide (c < b) && decide (b < d))) || (decide (c < a) && (decide (a < d) && decide (d < b)))
structure SRow (m : Int) (y : D) : Prop where
  ex : ∃ n v a b, seqs y = some [strD n, .int v, .int a, .int b] /\ NameOk n /\ -(10 ^ 30) <= v /\ v <= 10 ^ 30 /\ 0 <= a /\ a < m /\ 0 <= b /\ b < m /\ a < b
theorem plain_none {k : Nat} {y : D} (h : plainW k y = none) : ∃ l, seqs y = some l /\ l.length = k /\ nameB (l.getD 0 .non) = true /\ valB (l.getD 1 .non) = true := by
  unfold plainW at h
  cases e : seqs y with
  | none => rw [e] at h; cases h
  | some l =>
    rw [e] at h
    simp only at h
    by_cases h1 : l.length ≠ k
    · rw [if_pos h1] at h; cases h
    · rw [if_neg h1] at h
      by_cases h2 : nameB (l.getD 0 .non) = true
      · rw [if_pos h2] at h
        by_cases h3 : valB (l.getD 1 .non) = true
        · exact ⟨l, rfl, by omega, h2, h3⟩
        · rw [if_neg h3] at h; cases h
      · rw [if_neg h2] at h; cases h
def nmS (y : D) : List Nat := nmOf (itm y 0)
def aS (y : D) : Int := iOf (itm y 2)
def bS (y : D) : Int := iOf (itm y 3)
theorem nm_strS (p : List Nat) : nmOf (strD p) = p := by simp [nmOf, strD, S]
theorem find_step {α β : Type} {f : α -> Option β} {l : List α} {k : Nat} (h : ∀ j, j < k -> ∀ x, l[j]? = some x -> f x = none) {x : α} {b : β} (hx : l[k]? = some x) (hb : f x = some b) : l.findSome? f = some b := by
  induction l generalizing k with
  | nil => simp at hx
  | cons y l ih =>
    cases k with
    | zero =>
      have : y = x := by simpa using hx
      rw [List.findSome?_cons, this, hb]
    | succ k =>
      rw [List.findSome?_cons, h 0 (by omega) y rfl]
      exact ih (k := k) (fun j hj x hx => h (j + 1) (Nat.succ_lt_succ hj) x (by simpa using hx)) (by simpa using hx)
end FL
set_option Elab.async false
set_option linter.all false
set_option maxRecDepth 100000
set_option maxHeartbeats 4000000
set_option autoImplicit false
namespace FL
open PySem L2 DL
abbrev EPt := Nat × Option Nat
structure EndsP (ps : List EPt) (line : List Nat) (n : Nat) : Prop where
  asc : ∀ (i j : Nat) (p q : EPt), i < j -> ps[i]? = some p -> ps[j]? = some q -> p.1 < q.1
  low : ∀ (i : Nat) (p : EPt), ps[i]? = some p -> p.1 < n
  cl : ∀ (i : Nat) (p : EPt) (e : Nat), ps[i]? = some p -> p.2 = some e -> p.1 < e /\ e < n
  nest : ∀ (i j : Nat) (p q : EPt) (e : Nat), i < j -> ps[i]? = some p -> ps[j]? = some q -> p.2 = some e -> e < q.1 \/ ∃ e', q.2 = some e' /\ e' < e
  opn : ∀ i, i ∈ line ↔ ∃ b, ps[i]? = some (b, none)
  lasc : line.Pairwise (· < ·)
  cnt : n + line.length = 2 * ps.length
structure EndsFin (es : List (Nat × Nat)) : Prop where
  in_ : ∀ (i : Nat) (p : Nat × Nat), es[i]? = some p -> p.1 < p.2 /\ p.2 < 2 * es.length
  two : ∀ (i j : Nat) (p q : Nat × Nat), i < j -> es[i]? = some p -> es[j]? = some q -> p.1 < q.1 /\ (p.2 < q.1 \/ q.2 < p.2)
def Apart (y z : D) : Prop := nmS y ≠ nmS z /\ (aS y ≠ aS z /\ aS y ≠ bS z /\ bS y ≠ aS z /\ bS y ≠ bS z) /\ crossI (aS y) (bS y) (aS z) (bS z) = false
structure SpOk (m : Int) (ys : List D) : Prop where
  len : ys.length <= 60
  row : ∀ y ∈ ys, SRow m y
  pw : ys.Pairwise Apart
def SH (k n : Nat) (d : D) : Prop := ∃ p, toPyX d = some p /\ p.showable = true /\ p.depth <= k /\ p.shown.length <= n
structure CelX (t : Nat) (c : D) : Prop where
  pl : Pl c
  sh : SH (t + 1) (10100 + 10 * t) c
  bd : ∀ i, c = .int i -> -(10 ^ 31) - (t : Int) <= i /\ i <= 10 ^ 31 + (t : Int)
end FL
set_option Elab.async false
set_option linter.all false
set_option maxRecDepth 100000
set_option maxHeartbeats 4000000
set_option autoImplicit false
namespace FL
open PySem L2 DL
def bA (l : List Nat) : Array UInt8 := (l.map UInt8.ofNat).toArray
def bD (l : List Nat) : D := .byt (bA l)
def N8 (l : List Nat) : Prop := ∀ n ∈ l, n < 256
theorem N8.cons {a : Nat} {l : List Nat} : N8 (a :: l) ↔ a < 256 /\ N8 l := by simp [N8]
theorem N8.nil : N8 [] := fun _ h => nomatch h
theorem N8.app {l m : List Nat} : N8 (l ++ m) ↔ N8 l /\ N8 m := by
  constructor
  · intro h; exact ⟨fun n hn => h n (List.mem_append_left _ hn), fun n hn => h n (List.mem_append_right _ hn)⟩
  · rintro ⟨h1, h2⟩ n hn
    rcases List.mem_append.mp hn with z | z
    · exact h1 n z
    · exact h2 n z
theorem N8.one {a : Nat} (h : a < 256) : N8 [a] := N8.cons.mpr ⟨h, N8.nil⟩
@[simp] theorem bA_size (l : List Nat) : (bA l).size = l.length := by simp [bA]
theorem u8_nat {n : Nat} (h : n < 256) : (UInt8.ofNat n).toNat = n := by rw [UInt8.toNat_ofNat']; exact Nat.mod_eq_of_lt h
theorem bA_nat {l : List Nat} (h : N8 l) : (bA l).toList.map UInt8.toNat = l := by
  unfold bA
  simp only [List.map_map]
  induction l with
  | nil => rfl
  | cons a l ih =>
    obtain ⟨h1, h2⟩ := N8.cons.mp h
    rw [List.map_cons, ih h2]
    congr 1
    exact u8_nat h1
theorem bA_inj {l m : List Nat} (h : N8 l) (k : N8 m) (e : bA l = bA m) : l = m := by rw [<- bA_nat h, <- bA_nat k, e]
theorem bA_app (l m : List Nat) : bA l ++ bA m = bA (l ++ m) := by simp [bA]
theorem byteArr_bA (l : List Nat) : byteArr (l.map fun (n : Nat) => (n : Int)) = bA l := by
  unfold byteArr bA
  rw [List.map_map]
  rfl
theorem pk_toN (l : List Nat) (k : Nat) : PySem.W.KBy.picked (bA l) none (some (k : Int)) = bA (l.take k) := by
  rw [PySem.W.KBc.picked_eq]
  show (((bA l).toList.drop 0).take (clipAt (bA l).size (k : Int) - 0)).toArray = bA (l.take k)
  rw [clipAt_nat, bA_size]
  unfold bA
  simp only [List.drop_zero, Nat.sub_zero, <- List.map_take]
  congr 2
  rw [List.take_eq_take_iff]
  omega
theorem pk_midN {l : List Nat} {i j : Nat} (hi : i <= l.length) (hj : j <= l.length) : PySem.W.KBy.picked (bA l) (some (i : Int)) (some (j : Int)) = bA ((l.drop i).take (j - i)) := by
  unfold bA
  rw [L2.pk_mid (by simpa using hi) (by simpa using hj)]
  simp only [<- List.map_drop, <- List.map_take]
theorem slB_mid {l : List Nat} {i j : Nat} (hi : i <= l.length) (hj : j <= l.length) (h : l.length <= 16777216) : slB (bD l) (some (i : Int)) (some (j : Int)) = some (bD ((l.drop i).take (j - i))) := by
  show (if (bA l).size <= 16777216 then _ else _) = _
  rw [if_pos (by simpa using h), pk_midN hi hj]; rfl
theorem bA_get {l : List Nat} {i a : Nat} (h : l[i]? = some a) : (bA l)[i]? = some (UInt8.ofNat a) := by simp [bA, h]
theorem ixB_last {l : List Nat} {a : Nat} (h : l.getLast? = some a) (k : N8 l) (hl : l.length <= 16777216) : ixB (bD l) (.int (-1)) = some (.int (a : Int)) := by
  rw [List.getLast?_eq_getElem?] at h
  have hi : l.length - 1 < l.length := (List.getElem?_eq_some_iff.mp h).1
  have e : seqIndex? (-1) (bA l).size = some (l.length - 1) := by
    have h0 : (-1 : Int) < 0 := by decide
    have h1 : 0 <= (-1 : Int) + (l.length : Int) := by omega
    have h2 : (-1 : Int) + (l.length : Int) < (l.length : Int) := by omega
    simp only [seqIndex?, bA_size, if_pos h0, h1, h2, decide_true, Bool.and_self, if_true]
    congr 1
    omega
  show (if (bA l).size <= 16777216 then _ else _) = _
  rw [if_pos (by simpa using hl), e]
  simp only [Option.bind_some, bA_get h, Option.map_some]
  rw [u8_nat (k a (List.mem_of_getElem? h))]
theorem wkD_bD {l : List Nat} (h : N8 l) : wkD (bD l) = some (l.map fun (n : Nat) => D.int (n : Int)) := by
  show some ((bA l).toList.map fun c => D.int (c.toNat : Nat)) = _
  have e := bA_nat h
  rw [show ((bA l).toList.map fun c => D.int (c.toNat : Nat)) = ((bA l).toList.map UInt8.toNat).map fun (n : Nat) => D.int (n : Int) by rw [List.map_map]; rfl, e]
theorem lenF_bD {l : List Nat} (h : l.length <= 16777216) : lenF [bD l] = some (.int l.length) := by
  show (if (bA l).size <= sizeLine then _ else _) = _
  rw [if_pos (by rw [sizeLine_eq]; simpa using h), bA_size]
def Lab (l : List Nat) : Prop := ∃ p e, l = p ++ [e] /\ (∀ x ∈ p, x % 2 = 1 /\ x < 256) /\ e % 2 = 0 /\ 0 < e /\ e < 256
theorem Lab.n8 {l : List Nat} (h : Lab l) : N8 l := by
  obtain ⟨p, e, rfl, h1, h2, h3, h4⟩ := h
  exact N8.app.mpr ⟨fun n hn => (h1 n hn).2, N8.one h4⟩
abbrev Op := Option (List Nat)
structure Pair (low high : Op) : Prop where
  lo : ∀ l, low = some l -> Lab l
  hi : ∀ h, high = some h -> Lab h
  lt : ∀ l h, low = some l -> high = some h -> l < h
end FL
set_option Elab.async false
set_option linter.all false
set_option maxRecDepth 100000
set_option maxHeartbeats 4000000
set_option autoImplicit false
namespace FL
open PySem L2 DL
def nmT : Tr -> List Nat
  | .mk n _ _ => n
structure NI where
  nm : List Nat
  va : Int
  ks : List (List Nat)
def inf : List Tr -> List NI
  | [] => []
  | .mk n v us :: ts => ⟨n, v, us.map nmT⟩ :: (inf us ++ inf ts)
theorem inf_nil : inf [] = [] := by rw [inf]
theorem inf_cons (n : List Nat) (v : Int) (us ts : List Tr) : inf (.mk n v us :: ts) = ⟨n, v, us.map nmT⟩ :: (inf us ++ inf ts) := by rw [inf]
theorem inf_append (a b : List Tr) : inf (a ++ b) = inf a ++ inf b := by
  induction a with
  | nil => rw [inf_nil]; rfl
  | cons t a ih =>
    obtain ⟨n, v, us⟩ := t
    rw [List.cons_append, inf_cons, inf_cons, ih]
    simp
theorem nmTs_nil : nmTs [] = [] := rfl
theorem inf_nm : ∀ (n : Nat) (ts : List Tr), sizeOf ts <= n -> (inf ts).map NI.nm = nmTs ts := by
  intro n
  induction n with
  | zero => intro ts h; cases ts with
    | nil => rw [inf_nil]; rfl
    | cons t ts => simp at h
  | succ k ih =>
    intro ts h
    cases ts with
    | nil => rw [inf_nil]; rfl
    | cons t ts =>
      obtain ⟨m, v, us⟩ := t
      rw [inf_cons, nmTs_cons, List.map_cons, List.map_append, ih us (by simp at h; omega), ih ts (by simp at h; omega)]
theorem inf_names (ts : List Tr) : (inf ts).map NI.nm = nmTs ts := inf_nm _ ts (Nat.le_refl _)
theorem inf_len (ts : List Tr) : (inf ts).length = (nmTs ts).length := by rw [<- inf_names, List.length_map]
theorem setT_nm (p : List Nat) (us' : List Tr) (t : Tr) : nmT (setT p us' t) = nmT t := by
  obtain ⟨n, v, ks⟩ := t
  simp [setT, nmT]
theorem setTs_nms (p : List Nat) (us' : List Tr) : ∀ ts : List Tr, (setTs p us' ts).map nmT = ts.map nmT
  | [] => rfl
  | t :: ts => by rw [setTs, List.map_cons, List.map_cons, setT_nm, setTs_nms p us' ts]
theorem Loc.inf {p : List Nat} {va : Int} {us ts : List Tr} (h : Loc p va us ts) : (nmTs ts).Nodup -> ∃ pre post, inf ts = pre ++ ⟨p, va, us.map nmT⟩ :: (FL.inf us ++ post) /\ ∀ us', FL.inf (setTs p us' ts) = pre ++ ⟨p, va, us'.map nmT⟩ :: (FL.inf us' ++ post) := by
  induction h with
  | @here t1 t2 =>
    intro nd
    rw [nmTs_append, nmTs_cons] at nd
    simp only [List.nodup_append, List.nodup_cons, List.mem_append, List.mem_cons, not_or] at nd
    obtain ⟨n1, ⟨⟨n2, n3⟩, n4⟩, n5⟩ := nd
    have a1 : p ∉ nmTs t1 := fun z => n5 p z p (.inl rfl) rfl
    refine ⟨FL.inf t1, FL.inf t2, by rw [inf_append, inf_cons], fun us' => ?_⟩
    rw [setTs_append, setTs_id t1 a1, inf_append, setTs, setT, if_pos rfl, setTs_id t2 n3, inf_cons]
  | @down t1 t2 ks n v L ih =>
    intro nd
    rw [nmTs_append, nmTs_cons] at nd
    simp only [List.nodup_append, List.nodup_cons, List.mem_append, List.mem_cons, not_or] at nd
    obtain ⟨n1, ⟨⟨n2, n3⟩, n4, n5, n6⟩, n7⟩ := nd
    have hm := L.mem
    obtain ⟨pre, post, e1, e2⟩ := ih n4
    have a1 : p ∉ nmTs t1 := fun z => n7 p z p (.inr (.inl hm)) rfl
    have a2 : p ∉ nmTs t2 := fun z => n6 p hm p z rfl
    have a3 : n ≠ p := fun z => n2 (z ▸ hm)
    refine ⟨FL.inf t1 ++ ⟨n, v, ks.map nmT⟩ :: pre, post ++ FL.inf t2, by rw [inf_append, inf_cons, e1]; simp, fun us' => ?_⟩
    rw [setTs_append, setTs_id t1 a1, inf_append, setTs, setT, if_neg a3, setTs_id t2 a2, inf_cons, e2, setTs_nms]
    simp
theorem loc_inf {p : List Nat} {ts : List Tr} {i : NI} (h : i ∈ inf ts) : ∃ us, Loc i.nm i.va us ts /\ i.ks = us.map nmT := by
  have : ∀ (n : Nat) (ts : List Tr), sizeOf ts <= n -> ∀ i ∈ inf ts, ∃ us, Loc i.nm i.va us ts /\ i.ks = us.map nmT := by
    intro n
    induction n with
    | zero => intro ts h; cases ts with
      | nil => rw [inf_nil]; intro i hi; cases hi
      | cons t ts => simp at h
    | succ k ih =>
      intro ts h i hi
      cases ts with
      | nil => rw [inf_nil] at hi; cases hi
      | cons t ts =>
        obtain ⟨m, v, us⟩ := t
        rw [inf_cons] at hi
        rcases List.mem_cons.mp hi with rfl | hi
        · exact ⟨us, Loc.here (t1 := []), rfl⟩
        · rcases List.mem_append.mp hi with hi | hi
          · obtain ⟨ws, h1, h2⟩ := ih us (by simp at h; omega) i hi
            exact ⟨ws, Loc.down (t1 := []) h1, h2⟩
          · obtain ⟨ws, h1, h2⟩ := ih ts (by simp at h; omega) i hi
            exact ⟨ws, h1.more _, h2⟩
  exact this _ ts (Nat.le_refl _) i h
theorem Loc.info {p : List Nat} {va : Int} {us ts : List Tr} (h : Loc p va us ts) : ⟨p, va, us.map nmT⟩ ∈ FL.inf ts := by
  induction h with
  | here => rw [inf_append, inf_cons]; simp
  | down _ ih => rw [inf_append, inf_cons]; simp [ih]
theorem Loc.sub {p : List Nat} {va : Int} {us ts : List Tr} (h : Loc p va us ts) : ∀ i ∈ FL.inf us, i ∈ FL.inf ts := by
  induction h with
  | here => intro i hi; rw [inf_append, inf_cons]; simp [hi]
  | down _ ih => intro i hi; rw [inf_append, inf_cons]; simp [ih i hi]
def endsT : Nat -> List Tr -> List (Nat × Nat)
  | _, [] => []
  | k, .mk _ _ us :: ts => (k, k + 1 + 2 * (nmTs us).length) :: (endsT (k + 1) us ++ endsT (k + 2 + 2 * (nmTs us).length) ts)
def nkN (o : Option (List Nat)) : NKey := o.map fun p => .inr (S p)
def kD : Option (List Nat) -> D
  | none => .non
  | some p => strD p
theorem nkO_kD (o : Option (List Nat)) : nkO (kD o) = some (nkN o) := by cases o <;> rfl
theorem nkD_nkN (o : Option (List Nat)) : nkD (nkN o) = kD o := by cases o <;> rfl
theorem vw_kD (M : Mem) (o : Option (List Nat)) : vw M (kD o) = kD o := by cases o <;> rfl
theorem nkN_inj {a b : Option (List Nat)} : nkN a = nkN b ↔ a = b := by
  cases a <;> cases b <;> simp [nkN]
structure Ent where
  k : Option (List Nat)
  a : Addr
  l : List (List Nat)
def KT (M : Mem) (kd : Addr) (es : List Ent) : Prop := (∃ ep, M kd = some (dNP ep (es.map fun e => (nkN e.k, .ref e.a)))) /\ (∀ e ∈ es, M e.a = some (.lst (e.l.map strD))) /\ (kd :: es.map Ent.a).Nodup
def VT (M : Mem) (vd : Addr) (vs : List (List Nat × Int)) : Prop := ∃ ep, M vd = some (dNP ep (vs.map fun p => (nkN (some p.1), .int p.2)))
def ents (ts : List Tr) : List (Option (List Nat) × List (List Nat)) := (none, ts.map nmT) :: (inf ts).map fun i => (some i.nm, i.ks)
def Kids (M : Mem) (kd vd : Addr) (ts : List Tr) (fp : List Addr) : Prop := ∃ es vs, KT M kd es /\ VT M vd vs /\ vd ∉ kd :: es.map Ent.a /\ fp = vd :: kd :: es.map Ent.a /\ (es.map fun e => (e.k, e.l)).Perm (ents ts) /\ vs.Perm ((inf ts).map fun i => (i.nm, i.va)) /\ (nmTs ts).Nodup
theorem KT.frame {M M' : Mem} {kd : Addr} {es : List Ent} (h : KT M kd es) (e : ∀ a ∈ kd :: es.map Ent.a, M' a = M a) : KT M' kd es := by
  obtain ⟨⟨ep, h1⟩, h2, h3⟩ := h
  exact ⟨⟨ep, by rw [e kd (by simp)]; exact h1⟩, fun x hx => by rw [e x.a (by simp; exact .inr ⟨x, hx, rfl⟩)]; exact h2 x hx, h3⟩
theorem VT.frame {M M' : Mem} {vd : Addr} {vs : List (List Nat × Int)} (h : VT M vd vs) (e : M' vd = M vd) : VT M' vd vs := by
  obtain ⟨ep, h⟩ := h
  exact ⟨ep, by rw [e]; exact h⟩
section
variable {M M' : Mem} {kd vd r : Addr} {ts : List Tr} {fp : List Addr}
theorem Kids.frame (h : Kids M kd vd ts fp) (e : ∀ a ∈ fp, M' a = M a) : Kids M' kd vd ts fp := by
  obtain ⟨es, vs, h1, h2, h3, rfl, h4⟩ := h
  exact ⟨es, vs, h1.frame fun a ha => e a (List.mem_cons_of_mem _ ha), h2.frame (e vd (by simp)), h3, rfl, h4⟩
theorem Kids.there (h : Kids M kd vd ts fp) : ∀ a ∈ fp, ∃ d, M a = some d /\ ((∃ ep ps, d = dNP ep ps) \/ ∃ l : List (List Nat), d = .lst (l.map strD)) := by
  obtain ⟨es, vs, ⟨⟨ep, h1⟩, h2, _⟩, ⟨ep2, h3⟩, _, rfl, _⟩ := h
  intro a ha
  rcases List.mem_cons.mp ha with rfl | ha
  · exact ⟨_, h3, .inl ⟨_, _, rfl⟩⟩
  · rcases List.mem_cons.mp ha with rfl | ha
    · exact ⟨_, h1, .inl ⟨_, _, rfl⟩⟩
    · obtain ⟨e, he, rfl⟩ := List.mem_map.mp ha
      exact ⟨_, h2 e he, .inr ⟨_, rfl⟩⟩
theorem Kids.rn (h : Kids M kd vd ts fp) (hr : Rn M r) : r ∉ fp := fun hm => by
  obtain ⟨d, h1, h2⟩ := h.there r hm
  obtain ⟨a, b, c, h3, _⟩ := hr
  rw [h3] at h1
  cases h1
  rcases h2 with ⟨ep, ps, e⟩ | ⟨l, e⟩
  · cases e
  · cases l with
    | nil => simp at e
    | cons x l => simp [strD] at e
theorem Kids.rto (h : Kids M kd vd ts fp) (hr : Rn M r) (t : RTo M M' r) : Kids M' kd vd ts fp := h.frame fun a ha => by
  obtain ⟨d, h1, _⟩ := h.there a ha
  rw [h1]
  exact t.keep a d (fun z => h.rn hr (z ▸ ha)) h1
theorem Kids.keep (h : Kids M kd vd ts fp) (k : Keep M M') : Kids M' kd vd ts fp := h.frame fun a ha => by
  obtain ⟨d, h1, _⟩ := h.there a ha
  rw [h1]
  exact k a d h1
theorem atK_map {α β γ : Type} [DecidableEq β] {f : α -> β} {g : α -> γ} (inj : ∀ a b, f a = f b -> a = b -> True) {es : List α} {e : α} (he : e ∈ es) (nd : (es.map f).Nodup) : atK (f e) (es.map f) (es.map g) = some (g e) := by
  induction es with
  | nil => cases he
  | cons x es ih =>
    rw [List.map_cons, List.map_cons]
    unfold atK
    rw [List.map_cons, List.nodup_cons] at nd
    rcases List.mem_cons.mp he with rfl | he
    · rw [if_pos rfl]
    · have : f x ≠ f e := fun z => nd.1 (z ▸ List.mem_map_of_mem he)
      rw [if_neg this]
      exact ih he nd.2
theorem ents_keys (ts : List Tr) : (ents ts).map (·.1) = none :: (nmTs ts).map some := by
  unfold ents
  rw [List.map_cons, List.map_map, <- inf_names, List.map_map]
  rfl
theorem ents_nd (nd : (nmTs ts).Nodup) : ((ents ts).map (·.1)).Nodup := by
  rw [ents_keys, List.nodup_cons]
  refine ⟨by simp, ?_⟩
  rw [List.nodup_iff_pairwise_ne, List.pairwise_map]
  exact (List.nodup_iff_pairwise_ne.mp nd).imp fun h z => h (Option.some.inj z)
theorem KT.ix {es : List Ent} {e : Ent} (h : KT M kd es) (he : e ∈ es) (nd : (es.map Ent.k).Nodup) : ixNd (vw M (.ref kd)) (vw M (kD e.k)) = some (.ref e.a) := by
  obtain ⟨⟨ep, h1⟩, _⟩ := h
  rw [vw_ref h1, vw_kD]
  show (nkO (kD e.k)).bind _ = _
  rw [nkO_kD, Option.bind_some, List.map_map, List.map_map]
  have nd2 : (es.map fun e => nkN e.k).Nodup := by
    rw [List.nodup_iff_pairwise_ne, List.pairwise_map] at nd ⊢
    exact nd.imp fun h z => h (nkN_inj.mp z)
  exact atK_map (f := fun e => nkN e.k) (g := fun e => D.ref e.a) (fun _ _ _ _ => trivial) he nd2
theorem VT.ix {vs : List (List Nat × Int)} {p : List Nat × Int} (h : VT M vd vs) (hp : p ∈ vs) (nd : (vs.map (·.1)).Nodup) : ixNd (vw M (.ref vd)) (vw M (strD p.1)) = some (.int p.2) := by
  obtain ⟨ep, h1⟩ := h
  rw [vw_ref h1, show vw M (strD p.1) = strD p.1 from rfl]
  rw [show strD p.1 = kD (some p.1) from rfl]
  show (nkO (kD (some p.1))).bind (fun k => atK k _ _) = _
  rw [nkO_kD, Option.bind_some, List.map_map, List.map_map]
  have nd2 : (vs.map fun e => nkN (some e.1)).Nodup := by
    rw [List.nodup_iff_pairwise_ne, List.pairwise_map] at nd ⊢
    exact nd.imp fun h z => h (Option.some.inj (nkN_inj.mp z))
  exact atK_map (f := fun e => nkN (some e.1)) (g := fun e => D.int e.2) (fun _ _ _ _ => trivial) hp nd2
theorem Kids.at {k : Option (List Nat)} {l : List (List Nat)} (h : Kids M kd vd ts fp) (hk : (k, l) ∈ ents ts) : ∃ a, ixNd (vw M (.ref kd)) (vw M (kD k)) = some (.ref a) /\ M a = some (.lst (l.map strD)) /\ a ∈ fp := by
  obtain ⟨es, vs, h1, h2, h3, rfl, h4, h5, h6⟩ := h
  have nd : (es.map Ent.k).Nodup := by
    have := (h4.map (·.1)).nodup_iff.mpr (ents_nd h6)
    rwa [List.map_map] at this
  obtain ⟨e, he, ee⟩ := List.mem_map.mp (h4.symm.subset hk)
  obtain ⟨e1, e2⟩ := Prod.mk.inj ee
  subst e1 e2
  exact ⟨e.a, h1.ix he nd, h1.2.1 e he, by simp; exact .inr (.inr ⟨e, he, rfl⟩)⟩
theorem Kids.val {i : NI} (h : Kids M kd vd ts fp) (hi : i ∈ inf ts) : ixNd (vw M (.ref vd)) (vw M (strD i.nm)) = some (.int i.va) := by
  obtain ⟨es, vs, h1, h2, h3, rfl, h4, h5, h6⟩ := h
  have nd : (vs.map (·.1)).Nodup := by
    have := (h5.map (·.1)).nodup_iff
    rw [List.map_map] at this
    refine this.mpr ?_
    have e : (inf ts).map ((·.1) ∘ fun i => (i.nm, i.va)) = nmTs ts := inf_names ts
    rw [e]; exact h6
  have hp : (i.nm, i.va) ∈ vs := h5.symm.subset (List.mem_map_of_mem hi)
  exact h2.ix hp nd
end
end FL
set_option Elab.async false
set_option linter.all false
set_option maxRecDepth 100000
set_option maxHeartbeats 4000000
set_option autoImplicit false
namespace FL
open PySem L2 DL
def Nm (j : Nat) (x : List Nat) : Prop := ∃ p, x = p ++ dg j /\ (∀ c ∈ p, isL c = true) /\ p ≠ [] /\ p.length <= 6
theorem dig_noL {c : Nat} (h : 48 <= c /\ c <= 57) : isL c = false := by
  unfold isL
  simp
  omega
theorem dig_S {c : Nat} (h : 48 <= c /\ c <= 57) : isS c = true := by
  unfold isS isL
  simp
  omega
theorem Nm.ok {j : Nat} {x : List Nat} (h : Nm j x) (hj : j < 60) : NameOk x := by
  obtain ⟨p, rfl, h1, h2, h3⟩ := h
  obtain ⟨d1, d2⟩ := dg_ok ⟨j, hj⟩
  cases p with
  | nil => exact absurd rfl h2
  | cons c p =>
    refine ⟨c, p ++ dg j, rfl, ?_, h1 c (by simp), fun e he => ?_⟩
    · simp at h3 ⊢; have : (dg j).length <= 2 := d2; omega
    · rcases List.mem_append.mp he with he | he
      · exact isL_S (h1 e (by simp [he]))
      · exact dig_S (d1 e he)
theorem tail_eq : ∀ {p q d e : List Nat}, p ++ d = q ++ e -> (∀ c ∈ p, isL c = true) -> (∀ c ∈ q, isL c = true) -> (∀ c ∈ d, isL c = false) -> (∀ c ∈ e, isL c = false) -> d = e
  | [], [], d, e, h, _, _, _, _ => h
  | [], b :: q, d, e, h, _, h2, h3, _ => by
    have : b ∈ d := by rw [show d = b :: q ++ e from h]; simp
    have a := h3 b this
    rw [h2 b (by simp)] at a
    cases a
  | a :: p, [], d, e, h, h1, _, _, h4 => by
    have : a ∈ e := by rw [show e = a :: p ++ d from h.symm]; simp
    have b := h4 a this
    rw [h1 a (by simp)] at b
    cases b
  | a :: p, b :: q, d, e, h, h1, h2, h3, h4 => by
    simp only [List.cons_append, List.cons.injEq] at h
    exact tail_eq h.2 (fun c hc => h1 c (by simp [hc])) (fun c hc => h2 c (by simp [hc])) h3 h4
theorem Nm.inj {i j : Nat} {x : List Nat} (h : Nm i x) (k : Nm j x) (hi : i < 60) (hj : j < 60) : i = j := by
  obtain ⟨p, e1, h1, _⟩ := h
  obtain ⟨q, e2, h2, _⟩ := k
  have d1 := (dg_ok ⟨i, hi⟩).1
  have d2 := (dg_ok ⟨j, hj⟩).1
  have := tail_eq (e1.symm.trans e2) h1 h2 (fun c hc => dig_noL (d1 c hc)) (fun c hc => dig_noL (d2 c hc))
  exact congrArg Fin.val (dg_inj ⟨i, hi⟩ ⟨j, hj⟩ this)
def insL (l : List (List Nat)) (j : Nat) (m : List Nat) : List (List Nat) := l.take j ++ [m] ++ l.drop j
theorem insT_nm (us : List Tr) (j : Nat) (t : Tr) : (insT us j t).map nmT = insL (us.map nmT) j (nmT t) := by simp [insT, insL]
theorem insT_inf (us : List Tr) (j : Nat) (m : List Nat) (v : Int) : (inf (insT us j (.mk m v []))).Perm (⟨m, v, []⟩ :: inf us) := by
  unfold insT
  rw [inf_append, inf_append, inf_cons, inf_nil]
  have e : inf us = inf (us.take j) ++ inf (us.drop j) := by rw [<- inf_append, List.take_append_drop]
  rw [e]
  simp only [List.map_nil, List.nil_append, List.append_assoc, List.cons_append]
  exact List.perm_middle
theorem perm_at {α : Type} {e1 e2 A B : List α} {x y : α} (h : (e1 ++ x :: e2).Perm (A ++ x :: B)) : (e1 ++ y :: e2).Perm (A ++ y :: B) :=
  List.perm_middle.trans ((List.Perm.cons y ((List.perm_cons x).mp (List.perm_middle.symm.trans (h.trans List.perm_middle)))).trans List.perm_middle.symm)
theorem leaf {ts : List Tr} {o : Option (List Nat)} {l : List (List Nat)} (nd : (nmTs ts).Nodup) (h : (o, l) ∈ ents ts) (j : Nat) (m : List Nat) (v : Int) :
    ∃ ts', ((inf ts').map fun i => (i.nm, i.va)).Perm ((m, v) :: (inf ts).map fun i => (i.nm, i.va)) /\
      ∀ e1 e2 : List (Option (List Nat) × List (List Nat)), (e1 ++ (o, l) :: e2).Perm (ents ts) -> (e1 ++ (o, insL l j m) :: e2 ++ [(some m, [])]).Perm (ents ts') := by
  have key : ∀ {e1 e2 A B : List (Option (List Nat) × List (List Nat))} {l' : List (List Nat)}, (e1 ++ (o, l) :: e2).Perm (A ++ (o, l) :: B) -> (e1 ++ (o, l') :: e2 ++ [(some m, [])]).Perm ((some m, []) :: (A ++ (o, l') :: B)) := fun h =>
    List.perm_append_comm.trans (List.Perm.cons _ (perm_at h))
  unfold ents at h
  rcases List.mem_cons.mp h with h | h
  · obtain ⟨rfl, rfl⟩ := Prod.mk.inj h
    have pi := insT_inf ts j m v
    refine ⟨insT ts j (.mk m v []), pi.map _, fun e1 e2 hp => ?_⟩
    have := key (A := []) (l' := insL (ts.map nmT) j m) hp
    refine this.trans ?_
    unfold ents
    rw [insT_nm]
    refine (List.Perm.swap _ _ _).trans (List.Perm.cons _ ?_)
    exact (pi.map fun i => (some i.nm, i.ks)).symm
  · obtain ⟨i, hi, e⟩ := List.mem_map.mp h
    obtain ⟨rfl, rfl⟩ := Prod.mk.inj e
    obtain ⟨us, L, hks⟩ := loc_inf (p := []) hi
    obtain ⟨pre, post, e1, e2⟩ := L.inf nd
    have pi := insT_inf us j m v
    have en := e2 (insT us j (.mk m v []))
    have pn : (inf (setTs i.nm (insT us j (.mk m v [])) ts)).Perm (⟨m, v, []⟩ :: (pre ++ ⟨i.nm, i.va, (insT us j (.mk m v [])).map nmT⟩ :: (inf us ++ post))) := by
      rw [en]
      refine (List.Perm.append_left pre (List.Perm.cons _ (pi.append_right post))).trans ?_
      refine (List.Perm.append_left pre (List.Perm.swap _ _ _)).trans List.perm_middle
    refine ⟨setTs i.nm (insT us j (.mk m v [])) ts, ?_, fun f1 f2 hp => ?_⟩
    · refine (pn.map _).trans ?_
      rw [e1]
      simp
    · unfold ents at hp ⊢
      rw [e1, List.map_append, List.map_cons] at hp
      have hp' : (f1 ++ (some i.nm, i.ks) :: f2).Perm (((none, ts.map nmT) :: pre.map fun i => (some i.nm, i.ks)) ++ (some i.nm, i.ks) :: ((inf us ++ post).map fun i => (some i.nm, i.ks))) := by
        rw [hks]; rw [hks] at hp; exact hp
      refine (key (l' := insL i.ks j m) hp').trans ?_
      rw [setTs_nms]
      refine List.Perm.symm ((List.Perm.cons _ (pn.map fun i => (some i.nm, i.ks))).trans ?_)
      rw [List.map_cons, List.map_append, List.map_cons, insT_nm, <- hks]
      exact List.Perm.swap _ _ _
section
variable {M : Mem} {kd vd : Addr} {es e1 e2 : List Ent} {e : Ent}
theorem KT.ins (h : KT M kd (e1 ++ e :: e2)) (l' : List (List Nat)) : KT (updM M e.a (.lst (l'.map strD))) kd (e1 ++ ⟨e.k, e.a, l'⟩ :: e2) := by
  obtain ⟨⟨ep, h1⟩, h2, h3⟩ := h
  have hk : kd ≠ e.a := fun z => by
    have := (List.nodup_cons.mp h3).1
    exact this (by simp [z])
  refine ⟨⟨ep, by rw [updM_ne hk, h1]; simp⟩, fun x hx => ?_, by simpa using h3⟩
  have nd := (List.nodup_cons.mp h3).2
  rw [List.map_append, List.map_cons, List.nodup_append] at nd
  obtain ⟨n1, n2, n3⟩ := nd
  rcases List.mem_append.mp hx with hx | hx
  · have : x.a ≠ e.a := n3 x.a (List.mem_map_of_mem hx) e.a (by simp)
    rw [updM_ne this]; exact h2 x (by simp [hx])
  · rcases List.mem_cons.mp hx with rfl | hx
    · exact updM_same
    · have : x.a ≠ e.a := fun z => (List.nodup_cons.mp n2).1 (z ▸ List.mem_map_of_mem hx)
      rw [updM_ne this]; exact h2 x (by simp [hx])
theorem putN_new {α : Type} {kvs : List (NKey × α)} {k : NKey} {v : α} (h : k ∉ kvs.map (·.1)) : putN kvs k v = kvs ++ [(k, v)] := by
  unfold putN
  have : (kvs.any fun kv => decide (kv.1 = k)) = false := by
    rw [List.any_eq_false]
    intro q hq
    have : q.1 ≠ k := fun z => h (z ▸ List.mem_map_of_mem hq)
    simp [this]
  rw [this]; rfl
theorem KT.add (h : KT M kd es) {k : Option (List Nat)} {a : Addr} {l : List (List Nat)} (hk : k ∉ es.map Ent.k) (ha : M a = some (.lst (l.map strD))) (hn : a ∉ kd :: es.map Ent.a) (ep : Nat) : KT (updM M kd (dNP ep (putN (es.map fun e => (nkN e.k, .ref e.a)) (nkN k) (.ref a)))) kd (es ++ [⟨k, a, l⟩]) := by
  obtain ⟨⟨ep0, h1⟩, h2, h3⟩ := h
  have hk2 : nkN k ∉ (es.map fun e => (nkN e.k, D.ref e.a)).map (·.1) := fun z => by
    rw [List.map_map] at z
    obtain ⟨e, he, ee⟩ := List.mem_map.mp z
    exact hk (nkN_inj.mp ee ▸ List.mem_map_of_mem he)
  simp only [List.mem_cons, not_or] at hn
  refine ⟨⟨ep, by rw [updM_same, putN_new hk2]; simp⟩, fun x hx => ?_, ?_⟩
  · rcases List.mem_append.mp hx with hx | hx
    · have : x.a ≠ kd := fun z => (List.nodup_cons.mp h3).1 (z ▸ List.mem_map_of_mem hx)
      rw [updM_ne this]; exact h2 x hx
    · rw [List.mem_singleton.mp hx, updM_ne hn.1]; exact ha
  · rw [List.nodup_cons] at h3 ⊢
    rw [List.map_append, List.nodup_append]
    refine ⟨by simp; exact ⟨by simpa using h3.1, Ne.symm hn.1⟩, h3.2, by simp, fun x hx y hy z => ?_⟩
    simp at hy
    subst hy
    exact hn.2 (z ▸ hx)
theorem VT.add {vs : List (List Nat × Int)} (h : VT M vd vs) {m : List Nat} {v : Int} (hm : m ∉ vs.map (·.1)) (ep : Nat) : VT (updM M vd (dNP ep (putN (vs.map fun p => (nkN (some p.1), .int p.2)) (nkN (some m)) (.int v)))) vd (vs ++ [(m, v)]) := by
  have hk2 : nkN (some m) ∉ (vs.map fun p => (nkN (some p.1), D.int p.2)).map (·.1) := fun z => by
    rw [List.map_map] at z
    obtain ⟨e, he, ee⟩ := List.mem_map.mp z
    exact hm (Option.some.inj (nkN_inj.mp ee) ▸ List.mem_map_of_mem he)
  exact ⟨ep, by rw [updM_same, putN_new hk2]; simp⟩
end
end FL
set_option Elab.async false
set_option linter.all false
set_option maxRecDepth 100000
set_option maxHeartbeats 4000000
set_option autoImplicit false
namespace FL
open PySem L2 DL
structure LF (M M1 : Mem) (r kd vd nr : Addr) (es : List Ent) (vs : List (List Nat × Int)) (nl : List (List Nat)) : Prop where
  kt : KT M1 kd es
  vt : VT M1 vd vs
  nm : M1 nr = some (.lst (nl.map strD))
  nd : (nr :: vd :: kd :: es.map Ent.a).Nodup
  fr : ∀ a ∈ nr :: vd :: kd :: es.map Ent.a, M a = none
  rt : RTo M M1 r
theorem rn_some {M : Mem} {r : Addr} (h : Rn M r) : M r ≠ none := by
  obtain ⟨a, b, c, h, _⟩ := h
  rw [h]; simp
theorem RTo.none {M M1 : Mem} {r a : Addr} (h : RTo M M1 r) (e : M1 a = none) : M a = none := by
  cases hM : M a with
  | none => rfl
  | some d =>
    have : a ≠ r := fun z => rn_some h.ok (z ▸ e)
    have := h.keep a d this hM
    rw [e] at this; cases this
section
variable {M M1 M2 : Mem} {r kd vd nr : Addr} {es e1 e2 : List Ent} {e : Ent} {vs : List (List Nat × Int)} {nl : List (List Nat)}
theorem LF.there (h : LF M M1 r kd vd nr es vs nl) : ∀ a ∈ nr :: vd :: kd :: es.map Ent.a, ∃ d, M1 a = some d := by
  intro a ha
  rcases List.mem_cons.mp ha with rfl | ha
  · exact ⟨_, h.nm⟩
  rcases List.mem_cons.mp ha with rfl | ha
  · obtain ⟨ep, h⟩ := h.vt; exact ⟨_, h⟩
  rcases List.mem_cons.mp ha with rfl | ha
  · obtain ⟨⟨ep, h⟩, _⟩ := h.kt; exact ⟨_, h⟩
  · obtain ⟨x, hx, rfl⟩ := List.mem_map.mp ha
    exact ⟨_, h.kt.2.1 x hx⟩
theorem LF.ner (h : LF M M1 r kd vd nr es vs nl) (hr : Rn M r) : ∀ a ∈ nr :: vd :: kd :: es.map Ent.a, a ≠ r := fun a ha z => rn_some hr (z ▸ h.fr a ha)
theorem LF.rto (h : LF M M1 r kd vd nr es vs nl) (hr : Rn M r) (t : RTo M1 M2 r) : LF M M2 r kd vd nr es vs nl := by
  have same : ∀ a ∈ nr :: vd :: kd :: es.map Ent.a, M2 a = M1 a := fun a ha => by
    obtain ⟨d, hd⟩ := h.there a ha
    rw [hd]; exact t.keep a d (h.ner hr a ha) hd
  exact ⟨h.kt.frame fun a ha => same a (List.mem_cons_of_mem _ (List.mem_cons_of_mem _ ha)), h.vt.frame (same vd (by simp)), by rw [same nr (by simp)]; exact h.nm, h.nd, h.fr, h.rt.trans t⟩
theorem LF.new (h : LF M M1 r kd vd nr es vs nl) (hr : Rn M r) {a : Addr} (ha : M1 a = none) : a ∉ nr :: vd :: kd :: es.map Ent.a /\ M a = none /\ a ≠ r := by
  refine ⟨fun hm => ?_, h.rt.none ha, fun z => rn_some h.rt.ok (z ▸ ha)⟩
  obtain ⟨d, hd⟩ := h.there a hm
  rw [ha] at hd; cases hd
theorem LF.ins (h : LF M M1 r kd vd nr (e1 ++ e :: e2) vs nl) (hr : Rn M r) (l' : List (List Nat)) : LF M (updM M1 e.a (.lst (l'.map strD))) r kd vd nr (e1 ++ ⟨e.k, e.a, l'⟩ :: e2) vs nl := by
  have hm : e.a ∈ kd :: (e1 ++ e :: e2).map Ent.a := by simp
  have hmap : (e1 ++ ⟨e.k, e.a, l'⟩ :: e2).map Ent.a = (e1 ++ e :: e2).map Ent.a := by simp
  have nd := h.nd
  simp only [List.nodup_cons, List.mem_cons, not_or] at nd
  obtain ⟨⟨n1, n2, n3⟩, ⟨n4, n5⟩, n6⟩ := nd
  have nv : vd ≠ e.a := fun z => n5 (z ▸ by simp)
  have nn : nr ≠ e.a := fun z => n3 (z ▸ by simp)
  refine ⟨h.kt.ins l', h.vt.frame (updM_ne nv), by rw [updM_ne nn]; exact h.nm, by rw [hmap]; exact h.nd, by rw [hmap]; exact h.fr, ?_⟩
  exact h.rt.upd (h.fr e.a (List.mem_cons_of_mem _ (List.mem_cons_of_mem _ hm))) (h.ner hr e.a (List.mem_cons_of_mem _ (List.mem_cons_of_mem _ hm)))
theorem LF.add (h : LF M M1 r kd vd nr es vs nl) (hr : Rn M r) {k : Option (List Nat)} {a : Addr} (hk : k ∉ es.map Ent.k) (ha : M1 a = none) (ep : Nat) :
    LF M (updM (updM M1 a (.lst [])) kd (dNP ep (putN (es.map fun e => (nkN e.k, .ref e.a)) (nkN k) (.ref a)))) r kd vd nr (es ++ [⟨k, a, []⟩]) vs nl := by
  obtain ⟨h1, h2, h3⟩ := h.new hr ha
  have nd := h.nd
  simp only [List.nodup_cons, List.mem_cons, not_or] at nd h1
  obtain ⟨⟨n1, n2, n3⟩, ⟨n4, n5⟩, n6, n7⟩ := nd
  obtain ⟨m1, m2, m3, m4⟩ := h1
  have kt1 : KT (updM M1 a (.lst [])) kd es := h.kt.frame fun b hb => updM_ne fun z => by
    rcases List.mem_cons.mp hb with hb | hb
    · exact m3 (z ▸ hb)
    · exact m4 (z ▸ hb)
  refine ⟨kt1.add hk (l := []) updM_same (by simp only [List.mem_cons, not_or]; exact ⟨m3, m4⟩) ep, h.vt.frame (by rw [updM_ne n4, updM_ne (Ne.symm m2)]), by rw [updM_ne n2, updM_ne (Ne.symm m1)]; exact h.nm, ?_, fun b hb => ?_, ?_⟩
  · rw [List.map_append]
    have h0 := h.nd
    have : (nr :: vd :: kd :: (es.map Ent.a ++ [a])) = (nr :: vd :: kd :: es.map Ent.a) ++ [a] := rfl
    show (nr :: vd :: kd :: (es.map Ent.a ++ [a])).Nodup
    rw [this, List.nodup_append]
    refine ⟨h0, by simp, fun x hx y hy z => ?_⟩
    rw [List.mem_singleton.mp hy] at z
    exact (h.new hr ha).1 (z ▸ hx)
  · rw [List.map_append] at hb
    have : b ∈ (nr :: vd :: kd :: es.map Ent.a) ++ [a] := hb
    rcases List.mem_append.mp this with hb | hb
    · exact h.fr b hb
    · rw [List.mem_singleton.mp hb]; exact h2
  · exact (h.rt.upd h2 h3).upd (h.fr kd (by simp)) (h.ner hr kd (by simp))
theorem LF.val (h : LF M M1 r kd vd nr es vs nl) (hr : Rn M r) {m : List Nat} {v : Int} (hm : m ∉ vs.map (·.1)) (ep : Nat) :
    LF M (updM M1 vd (dNP ep (putN (vs.map fun p => (nkN (some p.1), .int p.2)) (nkN (some m)) (.int v)))) r kd vd nr es (vs ++ [(m, v)]) nl := by
  have nd := h.nd
  simp only [List.nodup_cons, List.mem_cons, not_or] at nd
  obtain ⟨⟨n1, n2, n3⟩, ⟨n4, n5⟩, n6, n7⟩ := nd
  refine ⟨h.kt.frame fun b hb => updM_ne fun z => ?_, h.vt.add hm ep, by rw [updM_ne n1]; exact h.nm, h.nd, h.fr, h.rt.upd (h.fr vd (by simp)) (h.ner hr vd (by simp))⟩
  rcases List.mem_cons.mp hb with hb | hb
  · exact n4 (z ▸ hb)
  · exact n5 (z ▸ hb)
theorem LF.app (h : LF M M1 r kd vd nr es vs nl) (hr : Rn M r) (m : List Nat) : LF M (updM M1 nr (.lst (nl.map strD ++ [strD m]))) r kd vd nr es vs (nl ++ [m]) := by
  have nd := h.nd
  simp only [List.nodup_cons, List.mem_cons, not_or] at nd
  obtain ⟨⟨n1, n2, n3⟩, _⟩ := nd
  refine ⟨h.kt.frame fun b hb => updM_ne fun z => ?_, h.vt.frame (updM_ne (Ne.symm n1)), by rw [updM_same]; simp, h.nd, h.fr, h.rt.upd (h.fr nr (by simp)) (h.ner hr nr (by simp))⟩
  rcases List.mem_cons.mp hb with hb | hb
  · exact n2 (z ▸ hb)
  · exact n3 (z ▸ hb)
end
structure LT (es : List Ent) (vs : List (List Nat × Int)) (nl : List (List Nat)) (ts : List Tr) : Prop where
  kp : (es.map fun e => (e.k, e.l)).Perm (ents ts)
  vp : vs.Perm ((inf ts).map fun i => (i.nm, i.va))
  vn : vs.map (·.1) = nl
  nm : ∀ j x, nl[j]? = some x -> Nm j x
  bd : ∀ p ∈ vs, -(10 ^ 30) <= p.2 /\ p.2 <= 10 ^ 30
theorem LT.names {es : List Ent} {vs : List (List Nat × Int)} {nl : List (List Nat)} {ts : List Tr} (h : LT es vs nl ts) : nl.Perm (nmTs ts) := by
  have := h.vp.map (·.1)
  rw [h.vn, List.map_map] at this
  exact this.trans (by rw [<- inf_names]; exact List.Perm.refl _)
theorem LT.nd {es : List Ent} {vs : List (List Nat × Int)} {nl : List (List Nat)} {ts : List Tr} (h : LT es vs nl ts) (hl : nl.length <= 60) : (nmTs ts).Nodup := by
  refine h.names.nodup_iff.mp ?_
  rw [List.nodup_iff_pairwise_ne, List.pairwise_iff_getElem]
  intro i j hi hj hij z
  have a := h.nm i _ (List.getElem?_eq_getElem hi)
  have b := h.nm j _ (List.getElem?_eq_getElem hj)
  rw [z] at a
  have := a.inj b (by omega) (by omega)
  omega
theorem LT.new {es : List Ent} {vs : List (List Nat × Int)} {nl : List (List Nat)} {ts : List Tr} (h : LT es vs nl ts) (hl : nl.length < 60) {m : List Nat} (hm : Nm nl.length m) : m ∉ nl := fun hx => by
  obtain ⟨i, hi, rfl⟩ := List.getElem_of_mem hx
  have := (h.nm i _ (List.getElem?_eq_getElem hi)).inj hm (by omega) (by omega)
  omega
theorem LT.at {es : List Ent} {vs : List (List Nat × Int)} {nl : List (List Nat)} {ts : List Tr} (h : LT es vs nl ts) {o : Option (List Nat)} (ho : o = none \/ ∃ x ∈ nl, o = some x) : ∃ e ∈ es, e.k = o := by
  have hk : (es.map Ent.k).Perm (none :: (nmTs ts).map some) := by
    have := h.kp.map (·.1)
    rw [List.map_map, ents_keys] at this
    exact this
  have : o ∈ es.map Ent.k := hk.symm.subset (by
    rcases ho with rfl | ⟨x, hx, rfl⟩
    · simp
    · exact List.mem_cons_of_mem _ (List.mem_map_of_mem (h.names.subset hx)))
  obtain ⟨e, he, rfl⟩ := List.mem_map.mp this
  exact ⟨e, he, rfl⟩
theorem LT.keys {es : List Ent} {vs : List (List Nat × Int)} {nl : List (List Nat)} {ts : List Tr} (h : LT es vs nl ts) (hl : nl.length <= 60) : (es.map Ent.k).Nodup /\ ∀ m, m ∉ nl -> some m ∉ es.map Ent.k := by
  have hk : (es.map Ent.k).Perm (none :: (nmTs ts).map some) := by
    have := h.kp.map (·.1)
    rw [List.map_map, ents_keys] at this
    exact this
  refine ⟨hk.nodup_iff.mpr (by rw [<- ents_keys]; exact ents_nd (h.nd hl)), fun m hm z => ?_⟩
  have := hk.subset z
  simp at this
  exact hm (h.names.symm.subset this)
theorem LT.leaf {e1 e2 : List Ent} {e : Ent} {vs : List (List Nat × Int)} {nl : List (List Nat)} {ts : List Tr} (h : LT (e1 ++ e :: e2) vs nl ts) (hl : nl.length < 60) (j : Nat) {m : List Nat} (hm : Nm nl.length m) {v : Int} (h0 : -(10 ^ 30) <= v) (h1 : v <= 10 ^ 30) (a : Addr) :
    ∃ ts', LT ((e1 ++ ⟨e.k, e.a, insL e.l j m⟩ :: e2) ++ [⟨some m, a, []⟩]) (vs ++ [(m, v)]) (nl ++ [m]) ts' := by
  have hin : (e.k, e.l) ∈ ents ts := h.kp.subset (by simp)
  obtain ⟨ts', p1, p2⟩ := FL.leaf (h.nd (by omega)) hin j m v
  refine ⟨ts', ?_, ?_, by rw [List.map_append, h.vn]; rfl, fun k x hx => ?_, fun p hp => ?_⟩
  · have := p2 (e1.map fun e => (e.k, e.l)) (e2.map fun e => (e.k, e.l)) (by have := h.kp; rw [List.map_append, List.map_cons] at this; exact this)
    simpa using this
  · refine (List.perm_append_comm (l₂ := [(m, v)])).trans ?_
    exact (List.Perm.cons _ h.vp).trans p1.symm
  · rcases Nat.lt_or_ge k nl.length with z | z
    · rw [List.getElem?_append_left z] at hx; exact h.nm k x hx
    · rw [List.getElem?_append_right z] at hx
      have : k = nl.length := by
        by_cases h0 : k - nl.length = 0
        · omega
        · rw [List.getElem?_eq_none (by simp; omega)] at hx; cases hx
      subst this
      simp at hx
      exact hx ▸ hm
  · rcases List.mem_append.mp hp with hp | hp
    · exact h.bd p hp
    · rw [List.mem_singleton.mp hp]; exact ⟨h0, h1⟩
theorem LF.kids {M M1 : Mem} {r kd vd nr : Addr} {es : List Ent} {vs : List (List Nat × Int)} {nl : List (List Nat)} {ts : List Tr} (h : LF M M1 r kd vd nr es vs nl) (t : LT es vs nl ts) (hl : nl.length <= 60) :
    Kids M1 kd vd ts (vd :: kd :: es.map Ent.a) /\ (∀ i ∈ inf ts, NameOk i.nm /\ -(10 ^ 30) <= i.va /\ i.va <= 10 ^ 30) /\ (nmTs ts).length = nl.length := by
  have nd := h.nd
  refine ⟨⟨es, vs, h.kt, h.vt, (List.nodup_cons.mp (List.nodup_cons.mp nd).2).1, rfl, t.kp, t.vp, t.nd hl⟩, fun i hi => ?_, t.names.length_eq.symm⟩
  have hp : (i.nm, i.va) ∈ vs := t.vp.symm.subset (List.mem_map_of_mem hi)
  refine ⟨?_, t.bd _ hp⟩
  have : i.nm ∈ nl := by rw [<- t.vn]; exact List.mem_map_of_mem (f := (·.1)) hp
  obtain ⟨j, hj, e⟩ := List.getElem_of_mem this
  rw [<- e]
  exact (t.nm j _ (List.getElem?_eq_getElem hj)).ok (by omega)
end FL
set_option Elab.async false
set_option linter.all false
set_option maxRecDepth 100000
set_option maxHeartbeats 4000000
set_option autoImplicit false
namespace FL
open PySem L2 DL
def WhN (υ : DTT) (t : DTS) (E : DEnds) : Nat -> DL.Env -> Mem -> Prop
  | 0 => fun ρ M => υ ρ M (fun b M1 => if b = true then False else E.nx ρ M1) E.ex
  | n + 1 => fun ρ M => υ ρ M (fun b M1 => if b = true then t { E with nx := WhN υ t E n, ct := WhN υ t E n, bk := E.nx } ρ M1 else E.nx ρ M1) E.ex
theorem while_n {υ : DTT} {t : DTS} {E : DEnds} (mono : ∀ ρ M (K K' : Bool -> Mem -> Prop) X, (∀ b M', K b M' -> K' b M') -> υ ρ M K X -> υ ρ M K' X) {n : Nat} {ρ : DL.Env} {M : Mem} (h : WhN υ t E n ρ M) : dWhile υ t E ρ M := by
  refine ⟨fun m ρ M => WhN υ t E m ρ M, ⟨n, h⟩, fun m ρ M hm => ?_⟩
  cases m with
  | zero =>
    refine mono ρ M _ _ _ (fun b M' k => ?_) hm
    cases b with
    | true => exact k.elim
    | false => exact k
  | succ m =>
    refine mono ρ M _ _ _ (fun b M' k => ?_) hm
    cases b with
    | true => exact ⟨WhN υ t E m, fun ρ' M' z => ⟨m, Nat.lt_succ_self m, z⟩, k⟩
    | false => exact k
theorem snoc_get {α : Type} (S : List α) (x : α) : (S ++ [x])[(S ++ [x]).length - 1]? = some x := by simp
theorem snoc_drop {α : Type} (S : List α) (x : α) : (S ++ [x]).dropLast = S := by simp
theorem keepU {M0 M : Mem} {a : Addr} {d : D} (k : Keep M0 M) (h : M0 a = none) : Keep M0 (updM M a d) := fun c e hc => by
  have : c ≠ a := fun z => by rw [z, h] at hc; cases hc
  rw [updM_ne this]; exact k c e hc
theorem sz_nm (ts : List Tr) : (ts.map nmT).length <= (nmTs ts).length := by
  have := len_flat 0 ts
  simpa [nmTs] using this
structure FEn where
  n : List Nat
  a : Addr
  l : List Nat
structure FE (M0 M : Mem) (fd wr : Addr) (fs : List FEn) : Prop where
  d : ∃ ep, M fd = some (dNP ep (fs.map fun f => (nkN (some f.n), .ref f.a)))
  c : ∀ f ∈ fs, M f.a = some (.lst (f.l.map fun (i : Nat) => D.int (i : Int)))
  nd : (fd :: wr :: fs.map FEn.a).Nodup
  fr : ∀ a ∈ fd :: wr :: fs.map FEn.a, M0 a = none
  kp : Keep M0 M
  ky : (fs.map FEn.n).Nodup
section
variable {M0 M : Mem} {fd wr : Addr} {fs f1 f2 : List FEn} {f : FEn}
end
end FL
set_option Elab.async false
set_option linter.all false
set_option maxRecDepth 100000
set_option maxHeartbeats 4000000
set_option autoImplicit false
namespace FL
open PySem L2 DL
end FL
set_option Elab.async false
set_option linter.all false
set_option maxRecDepth 100000
set_option maxHeartbeats 4000000
set_option autoImplicit false
namespace FL
open PySem L2 DL
end FL
set_option Elab.async false
set_option linter.all false
set_option maxRecDepth 100000
set_option maxHeartbeats 4000000
set_option autoImplicit false
namespace FL
open PySem L2 DL
end FL
set_option Elab.async false
set_option linter.all false
set_option maxRecDepth 100000
set_option maxHeartbeats 4000000
set_option autoImplicit false
namespace FL
open PySem L2 DL
def chT : List (List Nat) -> List Tr -> List (List Nat × List (List Nat))
  | _, [] => []
  | P, .mk n _ us :: ts => (n, P) :: (chT (n :: P) us ++ chT P ts)
theorem chT_nil (P : List (List Nat)) : chT P [] = [] := by rw [chT]
theorem chT_cons (P : List (List Nat)) (n : List Nat) (v : Int) (us ts : List Tr) : chT P (.mk n v us :: ts) = (n, P) :: (chT (n :: P) us ++ chT P ts) := by rw [chT]
theorem chT_lev : ∀ (n : Nat) (ts : List Tr) (P : List (List Nat)), sizeOf ts <= n -> (chT P ts).map (fun x => (x.1, (x.2.length : Int))) = (flatTs (P.length : Nat) ts).map fun r => (r.nm, r.lv) := by
  intro n
  induction n with
  | zero => intro ts P h; cases ts with
    | nil => rw [chT_nil]; rfl
    | cons t ts => simp at h
  | succ k ih =>
    intro ts P h
    cases ts with
    | nil => rw [chT_nil]; rfl
    | cons t ts =>
      obtain ⟨m, v, us⟩ := t
      have h1 := ih us (m :: P) (by simp at h; omega)
      have h2 := ih ts P (by simp at h; omega)
      rw [chT_cons]
      simp only [flatTs, flatT, List.cons_append, List.map_cons, List.map_append, h2]
      rw [h1]
      simp
theorem chT_nm (ts : List Tr) (P : List (List Nat)) : (chT P ts).map (·.1) = nmTs ts := by
  have := congrArg (List.map Prod.fst) (chT_lev _ ts P (Nat.le_refl _))
  rw [List.map_map, List.map_map] at this
  refine Eq.trans ?_ (this.trans ?_)
  · rfl
  · show (flatTs _ ts).map Row.nm = _
    rw [nm_lv _ 0]
    rfl
theorem chT_short : ∀ (n : Nat) (ts : List Tr) (P : List (List Nat)), sizeOf ts <= n -> ∀ x ∈ chT P ts, x.2.length < P.length + (nmTs ts).length := by
  intro n
  induction n with
  | zero => intro ts P h; cases ts with
    | nil => intro x hx; rw [chT_nil] at hx; cases hx
    | cons t ts => simp at h
  | succ k ih =>
    intro ts P h x hx
    cases ts with
    | nil => rw [chT_nil] at hx; cases hx
    | cons t ts =>
      obtain ⟨m, v, us⟩ := t
      rw [chT_cons] at hx
      rw [nmTs_cons]
      simp only [List.length_cons, List.length_append]
      rcases List.mem_cons.mp hx with rfl | hx
      · simp only; omega
      · rcases List.mem_append.mp hx with hx | hx
        · have := ih us (m :: P) (by simp at h; omega) x hx
          simp at this
          omega
        · have := ih ts P (by simp at h; omega) x hx
          omega
theorem chT_up : ∀ (n : Nat) (ts : List Tr) (P : List (List Nat)), sizeOf ts <= n -> ∀ x ∈ chT P ts, (x.2 = P /\ x.1 ∈ ts.map nmT) \/ ∃ p c l, x.2 = p :: c /\ (p, c) ∈ chT P ts /\ (∃ i ∈ inf ts, i.nm = p /\ i.ks = l /\ x.1 ∈ l) := by
  intro n
  induction n with
  | zero => intro ts P h; cases ts with
    | nil => intro x hx; rw [chT_nil] at hx; cases hx
    | cons t ts => simp at h
  | succ k ih =>
    intro ts P h x hx
    cases ts with
    | nil => rw [chT_nil] at hx; cases hx
    | cons t ts =>
      obtain ⟨m, v, us⟩ := t
      rw [chT_cons] at hx ⊢
      rw [inf_cons]
      rcases List.mem_cons.mp hx with rfl | hx
      · exact .inl ⟨rfl, by simp [nmT]⟩
      · rcases List.mem_append.mp hx with hx | hx
        · rcases ih us (m :: P) (by simp at h; omega) x hx with ⟨h1, h2⟩ | ⟨p, c, l, h1, h2, i, h3, h4⟩
          · exact .inr ⟨m, P, us.map nmT, h1, by simp, ⟨m, v, us.map nmT⟩, by simp, rfl, rfl, h2⟩
          · exact .inr ⟨p, c, l, h1, by simp [h2], i, by simp [h3], h4⟩
        · rcases ih ts P (by simp at h; omega) x hx with ⟨h1, h2⟩ | ⟨p, c, l, h1, h2, i, h3, h4⟩
          · exact .inl ⟨h1, by simp at h2 ⊢; exact .inr h2⟩
          · exact .inr ⟨p, c, l, h1, by simp [h2], i, by simp [h3], h4⟩
theorem kids_perm : ∀ (n : Nat) (ts : List Tr), sizeOf ts <= n -> (ts.map nmT ++ (inf ts).flatMap NI.ks).Perm (nmTs ts) := by
  intro n
  induction n with
  | zero => intro ts h; cases ts with
    | nil => rw [inf_nil]; exact List.Perm.refl _
    | cons t ts => simp at h
  | succ k ih =>
    intro ts h
    cases ts with
    | nil => rw [inf_nil]; exact List.Perm.refl _
    | cons t ts =>
      obtain ⟨m, v, us⟩ := t
      have h1 := ih us (by simp at h; omega)
      have h2 := ih ts (by simp at h; omega)
      rw [inf_cons, nmTs_cons, List.map_cons, List.flatMap_cons, List.flatMap_append]
      refine List.Perm.cons _ ?_
      have : (ts.map nmT ++ (us.map nmT ++ ((inf us).flatMap NI.ks ++ (inf ts).flatMap NI.ks))).Perm ((us.map nmT ++ (inf us).flatMap NI.ks) ++ (ts.map nmT ++ (inf ts).flatMap NI.ks)) := by
        rw [<- List.append_assoc (us.map nmT)]
        have a := List.perm_append_comm (l₁ := ts.map nmT) (l₂ := us.map nmT ++ (inf us).flatMap NI.ks)
        have b := a.append_right ((inf ts).flatMap NI.ks)
        simpa [List.append_assoc] using b
      exact this.trans (h1.append h2)
theorem ents_perm (ts : List Tr) : ((ents ts).flatMap (·.2)).Perm (nmTs ts) := by
  unfold ents
  rw [List.flatMap_cons, List.flatMap_map]
  exact kids_perm _ ts (Nat.le_refl _)
inductive Clo : List FEn -> List (List Nat) -> Nat -> List FEn -> List (List Nat) -> Nat -> Prop
  | nil (fs : List FEn) (op : List (List Nat)) (k : Nat) : Clo fs op k fs op k
  | pop {f1 f2 fs' : List FEn} {n : List Nat} {a : Addr} {b k k' : Nat} {op op' : List (List Nat)} : Clo (f1 ++ ⟨n, a, [b, k]⟩ :: f2) op (k + 1) fs' op' k' -> Clo (f1 ++ ⟨n, a, [b]⟩ :: f2) (op ++ [n]) k fs' op' k'
end FL
set_option Elab.async false
set_option linter.all false
set_option maxRecDepth 100000
set_option maxHeartbeats 4000000
set_option autoImplicit false
namespace FL
open PySem L2 DL
abbrev Nam := List Nat
def peT (k : Nat) (ts : List Tr) : List (Nam × (Nat × Nat)) := (nmTs ts).zip (endsT k ts)
def posT (ts : List Tr) (x : Nam) : Nat × Nat := ((peT 0 ts).lookup x).getD (0, 0)
section
variable {ts : List Tr} {x y z b : Nam}
end
def bef (ts : List Tr) (x y : Nam) : Prop := (posT ts x).2 < (posT ts y).1
def ins (ts : List Tr) (x y : Nam) : Prop := (posT ts y).1 < (posT ts x).1 /\ (posT ts x).2 < (posT ts y).2
instance (ts : List Tr) (x y : Nam) : Decidable (bef ts x y) := inferInstanceAs (Decidable (_ < _))
instance (ts : List Tr) (x y : Nam) : Decidable (ins ts x y) := inferInstanceAs (Decidable (_ /\ _))
def boxT (ts : List Tr) : Option Nam -> List Nam
  | none => nmTs ts
  | some b => (nmTs ts).filter fun x => decide (ins ts x b)
abbrev Shs := List (Nam × (Int × Int))
def sf (Sh : Shs) (x : Nam) : Int := ((Sh.lookup x).getD (0, 0)).1
def sl (Sh : Shs) (x : Nam) : Int := ((Sh.lookup x).getD (0, 0)).2
def inS (Sh : Shs) (x : Nam) : Bool := (Sh.lookup x).isSome
def fol (Sh : Shs) (x y : Nam) : Prop := sl Sh x <= sf Sh y
def wit (Sh : Shs) (x : Nam) : Option Nam -> Prop
  | none => True
  | some b => sf Sh b <= sf Sh x /\ sl Sh x <= sl Sh b
instance (Sh : Shs) (x y : Nam) : Decidable (fol Sh x y) := inferInstanceAs (Decidable (_ <= _))
instance (Sh : Shs) (x : Nam) : (b : Option Nam) -> Decidable (wit Sh x b)
  | none => inferInstanceAs (Decidable True)
  | some b => inferInstanceAs (Decidable (_ /\ _))
structure ShOk (ts : List Tr) (Sh : Shs) (slack : Int) : Prop where
  nd : (nmTs ts).Nodup
  keys : (Sh.map (·.1)).Nodup
  sub : ∀ p ∈ Sh, p.1 ∈ nmTs ts
  bd : ∀ p ∈ Sh, 0 <= p.2.1 /\ p.2.1 <= p.2.2 /\ p.2.2 <= slack
def insd (ts : List Tr) (Sh : Shs) (b : Option Nam) : List Nam := (boxT ts b).filter fun x => inS Sh x && decide (wit Sh x b)
structure Chn (ts : List Tr) (Sh : Shs) (c : Option Nam -> List Nam) : Prop where
  sub : ∀ b, ∀ x ∈ c b, x ∈ insd ts Sh b
  pw : ∀ b, (c b).Pairwise fun x y => bef ts x y /\ fol Sh x y
inductive KR (c : Option Nam -> List Nam) : Option Nam -> Nam -> Prop
  | here {b : Option Nam} {x : Nam} : x ∈ c b -> KR c b x
  | deep {b : Option Nam} {d x : Nam} : d ∈ c b -> KR c (some d) x -> KR c b x
def Fit (ts : List Tr) (Sh : Shs) (x y : Nam) : Prop := (bef ts x y -> fol Sh x y) /\ (bef ts y x -> fol Sh y x) /\ (ins ts x y -> wit Sh x (some y)) /\ (ins ts y x -> wit Sh y (some x))
section
variable {ts : List Tr} {Sh : Shs} {slack : Int} {c : Option Nam -> List Nam}
end
end FL
set_option Elab.async false
set_option linter.all false
set_option maxRecDepth 100000
set_option maxHeartbeats 4000000
set_option autoImplicit false
namespace FL
open PySem L2 DL
structure SprOk (fx : Nat -> Int) (slack : Int) (at_ last : Int) (ps : List Nat) : Prop where
  up : ps.Pairwise (· < ·)
  first : ∀ p ∈ ps, at_ < (p : Int) /\ last - at_ <= fx p - (p : Int) /\ fx p - (p : Int) <= slack
  mono : ps.Pairwise fun p q => fx p - (p : Int) <= fx q - (q : Int)
end FL
set_option Elab.async false
set_option linter.all false
set_option maxRecDepth 100000
set_option maxHeartbeats 4000000
set_option autoImplicit false
namespace FL
open PySem L2 DL
structure HE where
  n : Nam
  h : Int
  a : Option Nam
def pick1 (ts : List Tr) (Sh : Shs) (y : Nam) (m : Int × Option Nam) (o : HE) : Int × Option Nam := if bef ts o.n y /\ fol Sh o.n y /\ m.1 < o.h then (o.h, some o.n) else m
def pickB (ts : List Tr) (Sh : Shs) (l : List HE) (y : Nam) : Int × Option Nam := l.foldl (pick1 ts Sh y) (0, none)
def bhL (ts : List Tr) (Sh : Shs) (w : Nam -> Int) : List Nam -> List HE -> List HE
  | [], acc => acc
  | y :: ys, acc => bhL ts Sh w ys (acc ++ [⟨y, (pickB ts Sh acc y).1 + w y, (pickB ts Sh acc y).2⟩])
def bh (ts : List Tr) (Sh : Shs) (w : Nam -> Int) (b : Option Nam) : List HE := bhL ts Sh w (insd ts Sh b) []
section
variable {ts : List Tr} {Sh : Shs} {w : Nam -> Int} {slack : Int}
inductive Ch (l : List HE) : Option Nam -> List Nam -> Prop
  | nil : Ch l none []
  | cons {e : HE} {cs : List Nam} : e ∈ l -> Ch l e.a cs -> Ch l (some e.n) (e.n :: cs)
def here1 (m : Option (Nam × Int)) (o : HE) : Option (Nam × Int) := match m with
  | none => some (o.n, o.h)
  | some p => if p.2 < o.h then some (o.n, o.h) else some p
def hereB (l : List HE) : Option (Nam × Int) := l.foldl here1 none
open Classical in
noncomputable def chn (ts : List Tr) (Sh : Shs) (w : Nam -> Int) (b : Option Nam) : List Nam := if h : ∃ cs, Ch (bh ts Sh w b) ((hereB (bh ts Sh w b)).map (·.1)) cs then (Classical.choose h).reverse else []
end
end FL
set_option Elab.async false
set_option linter.all false
set_option maxRecDepth 100000
set_option maxHeartbeats 4000000
set_option autoImplicit false
namespace FL
open PySem L2 DL
structure Full (ts : List Tr) (Sh : Shs) : Prop where
  nd : (nmTs ts).Nodup
  all : ∀ x ∈ nmTs ts, inS Sh x = true
  bf : ∀ x ∈ nmTs ts, ∀ y ∈ nmTs ts, bef ts x y -> fol Sh x y
  in_ : ∀ x ∈ nmTs ts, ∀ y ∈ nmTs ts, ins ts x y -> wit Sh x (some y)
def rk (ts : List Tr) (b : Option Nam) (y : Nam) : Nat := (boxT ts b).countP fun z => decide ((posT ts z).2 <= (posT ts y).2)
def cnt (ts : List Tr) (x : Nam) : Nat := 1 + (boxT ts (some x)).length
section
variable {ts : List Tr} {Sh : Shs} {w : Nam -> Int} {b : Option Nam} {x y z : Nam}
def mxh (l : List HE) : Int := ((0 :: l.map HE.h).max?).getD 0
end
end FL
set_option Elab.async false
set_option linter.all false
set_option maxRecDepth 100000
set_option maxHeartbeats 4000000
set_option autoImplicit false
namespace FL
open PySem L2 DL
end FL
set_option Elab.async false
set_option linter.all false
set_option maxRecDepth 100000
set_option maxHeartbeats 4000000
set_option autoImplicit false
namespace FL
open PySem L2 DL
end FL
set_option Elab.async false
set_option linter.all false
set_option maxRecDepth 100000
set_option maxHeartbeats 4000000
set_option autoImplicit false
namespace FL
open PySem L2 DL
def cands (ts : List Tr) (Sh : Shs) : List Nam := (nmTs ts).filter (inS Sh)
end FL
set_option Elab.async false
set_option linter.all false
set_option maxRecDepth 100000
set_option maxHeartbeats 4000000
set_option autoImplicit false
namespace FL
open PySem L2 DL
abbrev Wrs := List (Nam × Int)
def wL (L : Wrs) (x : Nam) : Int := (L.lookup x).getD 0
end FL
set_option Elab.async false
set_option linter.all false
set_option maxRecDepth 100000
set_option maxHeartbeats 4000000
set_option autoImplicit false
namespace FL
open PySem L2 DL
structure WP (ts : List Tr) (Sh : Shs) (L : Wrs) (done : List Nam) : Prop where
  keys : L.map (·.1) = done
  rc : ∀ x ∈ done, wL L x = 1 + mxh (bh ts Sh (wL L) (some x))
section
variable {ts : List Tr} {Sh : Shs} {slack : Int} {L : Wrs} {done rest : List Nam} {y : Nam}
end
end FL
set_option Elab.async false
set_option linter.all false
set_option maxRecDepth 100000
set_option maxHeartbeats 4000000
set_option autoImplicit false
namespace FL
open PySem L2 DL
theorem nd_sub_len {α : Type} [DecidableEq α] : ∀ {F l : List α}, F.Nodup -> (∀ x ∈ F, x ∈ l) -> F.length <= l.length
  | [], _, _, _ => Nat.zero_le _
  | x :: F, l, nd, h => by
    rw [List.nodup_cons] at nd
    have hx := h x (by simp)
    have ih := nd_sub_len (F := F) (l := l.erase x) nd.2 fun y hy => (List.mem_erase_of_ne (by rintro rfl; exact nd.1 hy)).mpr (h y (by simp [hy]))
    rw [List.length_erase_of_mem hx] at ih
    have := List.length_pos_of_mem hx
    rw [List.length_cons]
    omega
structure KInv (ts : List Tr) (c : Option Nam -> List Nam) (W : List (Option Nam)) (F : List Nam) : Prop where
  nd : F.Nodup
  sub : ∀ d, some d ∈ W -> d ∈ F
  kr : ∀ x ∈ F, KR c none x
  all : ∀ x, KR c none x -> x ∈ F \/ ∃ b ∈ W, KR c b x
section
variable {ts : List Tr} {Sh : Shs} {slack : Int} {c : Option Nam -> List Nam} {W : List (Option Nam)} {F : List Nam} {b : Option Nam}
open Classical in
noncomputable def kept (ts : List Tr) (Sh : Shs) (w : Nam -> Int) : List Nam := (cands ts Sh).filter fun x => decide (KR (chn ts Sh w) none x)
end
end FL
set_option Elab.async false
set_option linter.all false
set_option maxRecDepth 100000
set_option maxHeartbeats 4000000
set_option autoImplicit false
namespace FL
open PySem L2 DL
abbrev Fxs := List (Nat × Int)
section
variable {X : Fxs} {ep : Nat}
structure FxOk (X : Fxs) (many : Nat) (most : Int) : Prop where
  nd : (X.map (·.1)).Nodup
  lt : ∀ p ∈ X, p.1 < many
  bd : ∀ p ∈ X, 0 <= p.2 - (p.1 : Int) /\ p.2 - (p.1 : Int) <= most - many
  mono : ∀ p ∈ X, ∀ q ∈ X, p.1 < q.1 -> p.2 - (p.1 : Int) <= q.2 - (q.1 : Int)
end
end FL
set_option Elab.async false
set_option linter.all false
set_option maxRecDepth 100000
set_option maxHeartbeats 4000000
set_option autoImplicit false
namespace FL
open PySem L2 DL
section
variable {ts : List Tr} {Sh : Shs} {slack m : Int} {R : List D} {ks : List Nam} {n : Nam}
end
section
variable {ts : List Tr} {N : List Int} {last m m' : Int}
end
end FL
set_option Elab.async false
set_option linter.all false
set_option maxRecDepth 100000
set_option maxHeartbeats 4000000
set_option autoImplicit false
namespace FL
open PySem L2 DL
theorem str_ok (s : String) : PyData.strOk (Str.ofString s) = true := by
  unfold PyData.strOk
  rw [Str.ofString_eq_toList]
  show (List.toArray _).all _ = true
  rw [List.all_toArray, List.all_eq_true]
  intro c hc
  obtain ⟨ch, _, rfl⟩ := List.mem_map.mp hc
  refine decide_eq_true ?_
  have h := ch.valid
  have hd : ch.toNat = ch.val.toNat := rfl
  rcases h with h | ⟨_, h⟩
  · rw [hd]
    have : ch.val.toNat < 55296 := h
    omega
  · exact h
end FL
set_option Elab.async false
set_option linter.all false
set_option maxRecDepth 100000
set_option maxHeartbeats 4000000
set_option autoImplicit false
namespace FL
open PySem L2 DL
abbrev Ek := Option Nam × List Nam
def KX (M : Mem) (kd vd : Addr) (E : List Ek) (V : List (Nam × Int)) (fp : List Addr) : Prop := ∃ es vs, KT M kd es /\ VT M vd vs /\ vd ∉ kd :: es.map Ent.a /\ fp = vd :: kd :: es.map Ent.a /\ (es.map fun e => (e.k, e.l)).Perm E /\ vs.Perm V /\ (E.map (·.1)).Nodup /\ (V.map (·.1)).Nodup
def vals (ts : List Tr) : List (Nam × Int) := (inf ts).map fun i => (i.nm, i.va)
def remE (E : List Ek) (k : Option Nam) : List Ek := E.filter fun e => decide (e.1 ≠ k)
section
variable {M M' : Mem} {kd vd : Addr} {E : List Ek} {V : List (Nam × Int)} {fp : List Addr} {k : Option Nam} {l : List Nam}
end
end FL
set_option Elab.async false
set_option linter.all false
set_option maxRecDepth 100000
set_option maxHeartbeats 4000000
set_option autoImplicit false
namespace FL
open PySem L2 DL
def repl (o : Option Nam) (vs ts : List Tr) : List Tr := match o with
  | none => vs
  | some p => setTs p vs ts
def Plc (o : Option Nam) (us ts : List Tr) : Prop := (o = none /\ us = ts) \/ ∃ p va, o = some p /\ Loc p va us ts
section
variable {o : Option Nam} {us ts : List Tr}
end
section
variable {o : Option Nam} {us ts : List Tr} {n : Nam} {v : Int} {i j : Nat}
end
mutual
def svT (x : Nam) (v : Int) : Tr -> Tr
  | .mk n w ks => .mk n (if n = x then v else w) (svTs x v ks)
def svTs (x : Nam) (v : Int) : List Tr -> List Tr
  | [] => []
  | t :: ts => svT x v t :: svTs x v ts
end
section
variable {o : Option Nam} {ts w1 w2 ks : List Tr} {x : Nam} {va : Int}
end
end FL
set_option Elab.async false
set_option linter.all false
set_option maxRecDepth 100000
set_option maxHeartbeats 4000000
set_option autoImplicit false
namespace FL
open PySem L2 DL
section
variable {M M' : Mem} {kd vd : Addr} {E : List Ek} {V : List (Nam × Int)} {fp : List Addr} {n : Nam} {v : Int}
end
structure KF (M M1 : Mem) (kd vd : Addr) (fp : List Addr) (E : List Ek) (V : List (Nam × Int)) : Prop where
  kx : ∃ fp1, KX M1 kd vd E V fp1 /\ ∀ c ∈ fp1, c ∈ fp \/ M c = none
  fr : ∀ c d, c ∉ fp -> M c = some d -> M1 c = some d
  kin : kd ∈ fp
  vin : vd ∈ fp
section
variable {M M1 M2 : Mem} {kd vd : Addr} {E : List Ek} {V : List (Nam × Int)} {fp : List Addr} {n : Nam} {v : Int} {k : Option Nam} {l : List Nam}
end
inductive Spc
  | wrap (put : Bool) (n : Nam) (v : Int) (o : Option Nam) (i j : Nat)
  | set (x : Nam) (v : Int)
  | rev (o : Option Nam)
  | lift (x : Nam)
  | cut (x : Nam)
  | move (x : Nam) (g : Option Nam) (k : Nat)
inductive DoT (ts : List Tr) : Spc -> List Tr -> Prop
  | wrap {put : Bool} {n : Nam} {v : Int} {o : Option Nam} {i j : Nat} {us : List Tr} : Plc o us ts -> i <= j -> j <= us.length -> (if put = true then i = j else i < j) -> n ∉ nmTs ts -> DoT ts (.wrap put n v o i j) (repl o (wrapT us n v i j) ts)
  | set {x : Nam} {v : Int} : x ∈ nmTs ts -> DoT ts (.set x v) (svTs x v ts)
  | rev {o : Option Nam} {us : List Tr} : Plc o us ts -> DoT ts (.rev o) (repl o us.reverse ts)
  | lift {o : Option Nam} {w1 w2 ks : List Tr} {x : Nam} {va : Int} : Plc o (w1 ++ .mk x va ks :: w2) ts -> DoT ts (.lift x) (repl o (w1 ++ ks ++ w2) ts)
  | cut {o : Option Nam} {w1 w2 ks : List Tr} {x : Nam} {va : Int} : Plc o (w1 ++ .mk x va ks :: w2) ts -> DoT ts (.cut x) (repl o (w1 ++ w2) ts)
  | move {o g : Option Nam} {w1 w2 ks us : List Tr} {x : Nam} {va : Int} {k : Nat} : Plc o (w1 ++ .mk x va ks :: w2) ts -> Plc g us (repl o (w1 ++ w2) ts) -> k <= us.length -> DoT ts (.move x g k) (repl g (insT us k (.mk x va ks)) (repl o (w1 ++ w2) ts))
end FL
set_option Elab.async false
set_option linter.all false
set_option maxRecDepth 100000
set_option maxHeartbeats 4000000
set_option autoImplicit false
namespace FL
open PySem L2 DL
end FL
set_option Elab.async false
set_option linter.all false
set_option maxRecDepth 100000
set_option maxHeartbeats 4000000
set_option autoImplicit false
namespace FL
open PySem L2 DL
section
variable {M : Mem} {kd vd : Addr} {ts : List Tr} {fp : List Addr}
end
end FL
set_option Elab.async false
set_option linter.all false
set_option maxRecDepth 100000
set_option maxHeartbeats 4000000
set_option autoImplicit false
namespace FL
open PySem L2 DL
section
variable {ts : List Tr} {Sh : Shs} {X : Fxs}
end
end FL
set_option Elab.async false
set_option linter.all false
set_option maxRecDepth 100000
set_option maxHeartbeats 4000000
set_option autoImplicit false
namespace FL
open PySem L2 DL
section
variable {ts : List Tr} {Sh : Shs} {w : Nam -> Int} {slack : Int} {b : Option Nam}
structure HInv (ts : List Tr) (Sh : Shs) (w : Nam -> Int) (l : List HE) : Prop where
  low : l.Pairwise fun o e => bef ts o.n e.n -> fol Sh o.n e.n -> o.h + w e.n <= e.h
  own : ∀ e ∈ l, w e.n <= e.h
  ex : ∀ e ∈ l, (e.a = none /\ e.h = w e.n) \/ ∃ f ∈ l, e.a = some f.n /\ e.h = f.h + w e.n
end
end FL
set_option Elab.async false
set_option linter.all false
set_option maxRecDepth 100000
set_option maxHeartbeats 4000000
set_option autoImplicit false
namespace FL
open PySem L2 DL
instance (ts : List Tr) (Sh : Shs) (x y : Nam) : Decidable (Fit ts Sh x y) := by unfold Fit; exact inferInstance
section
variable {ts : List Tr} {Sh : Shs} {slack : Int}
end
section
variable {ts : List Tr} {N : List Int} {m m' : Int} {R : List D} {w : Nam -> Int}
end
end FL
set_option Elab.async false
set_option linter.all false
set_option maxRecDepth 100000
set_option maxHeartbeats 4000000
set_option autoImplicit false
namespace DL
open PySem L2
abbrev TKey := List NKey
abbrev TEn := List (TKey × Addr × V)
section
variable {X : Cx} {pins : List (Addr × Obj)} {σ : St} {H : Hp} {s : Shared} {a b : Addr} {k : TKey} {ts : TEn} {ep : Nat}
end
section
variable {X : Cx}
end
def tkO : D -> Option TKey
  | .tup xs => xs.mapM nkO
  | _ => none
section
variable {K : PySem.W.Frag} {cl : ClW} {F H : Hp}
end
section
variable {cl : ClW} {X : Cx} {W : WX} {a b o i : Expr} {pos : Pos} {τa τb τo τi : DTE}
end
section
variable {K : PySem.W.Frag} {cl : ClW} {F : Hp}
end
section
variable {cl : ClW} {X : Cx} {W : WX} {a b o i : Expr} {pos : Pos} {τa τb τo τi : DTE}
end
end DL
set_option Elab.async false
set_option linter.all false
set_option maxRecDepth 100000
set_option maxHeartbeats 4000000
set_option autoImplicit false
namespace DL
open PySem L2
section
variable {X : Cx} {o e : Expr} {es : List Expr} {to : TE} {t : TA} {apos cpos : Pos} {m id : String} {r : V -> List V -> Hp -> VK -> Prop}
end
theorem vals2 {x y : V} {us : List Value} (h : Vals [x, y] us) : ∃ u v, us = [u, v] /\ RelV x u /\ RelV y v := by
  cases h with
  | cons r1 t => obtain ⟨v, rfl, r2⟩ := vals1 t; exact ⟨_, v, rfl, r1, r2⟩
section
variable {prog : Program} {w : World} {K : Type} [DecidableEq K] {knd : KeyKind prog w K} {A : Around} {E : Value -> Shared -> Prop} {s : Shared}
end
def isDct : D -> Prop
  | .dN _ _ _ => True
  | .dT _ _ _ => True
  | _ => False
@[simp] theorem isDct_N (ep : Nat) (ks : List NKey) (ds : List D) : isDct (.dN ep ks ds) = True := rfl
@[simp] theorem isDct_T (ep : Nat) (ks : List TKey) (ds : List D) : isDct (.dT ep ks ds) = True := rfl
section
variable {cl : ClW} {X : Cx} {W : WX} {o e : Expr} {es : List Expr} {apos cpos pos p : Pos} {τ : DTE} {α : DTA}
end
end DL
set_option Elab.async false
set_option linter.all false
set_option maxRecDepth 100000
set_option maxHeartbeats 4000000
set_option autoImplicit false
namespace DL
open PySem PySem.Spec PyProof.Rows L2
abbrev DPut := Addr -> V -> V -> Hp -> (Hp -> Prop) -> Prop
section
variable {X : Cx} {kx vx tg iter : Expr} {ifs : List Expr} {sc : Scope} {pos : Pos} {g : TG} {tt : TT} {tk tv : TE} {put : DPut} {vs : List Nat} {a : Addr} {σ : L2.St}
end
section
variable {X : Cx} {kx vx tg iter : Expr} {ifs : List Expr} {sc : Scope} {own : List (Str × Nat)} {pos : Pos} {wi : TI} {g : TG} {tt : TT} {tk tv : TE} {zero : Addr -> HO -> Prop} {put : DPut}
end
end DL
set_option Elab.async false
set_option linter.all false
set_option maxRecDepth 100000
set_option maxHeartbeats 4000000
set_option autoImplicit false
namespace DL
open PySem PySem.Spec PyProof.Rows L2
section
variable {cl : ClW} {X : Cx} {W : WX} {kx vx tg iter : Expr} {ifs : List Expr} {scope : Scope} {own : List (Str × Nat)} {pos : Pos} {ι : DTI} {is : List Nat} {γ : DTG} {υ : DTT} {τk τv : DTE}
end
end DL
set_option Elab.async false
set_option linter.all false
set_option maxRecDepth 100000
set_option maxHeartbeats 4000000
set_option autoImplicit false
namespace DL
open PySem L2
@[simp] def iIN (τ : DTE) : DTI := fun ρ M R X => τ ρ M (fun d M1 => ∃ ep ks ds, d = .dN ep ks ds /\ R ((ks.zip ds).map fun p => .tup [nkD p.1, p.2]) M1) X
section
variable {cl : ClW} {X : Cx} {W : WX} {e : Expr} {τ : DTE}
end
end DL
set_option Elab.async false
set_option linter.all false
set_option maxRecDepth 100000
set_option maxHeartbeats 4000000
set_option autoImplicit false
namespace DL
open PySem L2
def tkD (k : TKey) : D := .tup (k.map nkD)
@[simp] theorem tkO_tkD (k : TKey) : tkO (tkD k) = some k := by
  unfold tkO tkD
  induction k with
  | nil => rfl
  | cons j k ih =>
    simp only at ih ⊢
    rw [List.map_cons, List.mapM_cons, ih, nkO_nkD]
    rfl
@[simp] def iKT (τ : DTE) : DTI := fun ρ M R X => τ ρ M (fun d M1 => ∃ ep ks ds, d = .dT ep ks ds /\ R (ks.map tkD) M1) X
section
variable {cl : ClW} {X : Cx} {W : WX} {e : Expr} {τ : DTE}
end
end DL
set_option Elab.async false
set_option linter.all false
set_option maxRecDepth 100000
set_option maxHeartbeats 4000000
set_option autoImplicit false
namespace DL
open PySem L2 PyProof.Rows
section
variable {cl : ClW} {X : Cx} {W : WX} {e body : Expr} {α : DTA} {p pos lpos kpos : Pos} {k : Nat} {cc P : Addr} {params : Arguments} {scope : Scope} {KE : DL.Env -> List D -> (D -> PyData) -> Prop}
end
end DL
set_option Elab.async false
set_option linter.all false
set_option maxRecDepth 100000
set_option maxHeartbeats 4000000
set_option autoImplicit false
namespace DL
open PySem L2 PyProof.Rows
section
variable {P : Program} {w : World} {A : Around} {s : Shared}
end
end DL
set_option Elab.async false
set_option linter.all false
set_option maxRecDepth 100000
set_option maxHeartbeats 4000000
set_option autoImplicit false
namespace DL
open PySem L2 PyProof.Rows
structure KeyC (x y : Str) (scope : Scope) : Prop where
  kind : scope.kind = .function
  co : scope.isCoroutine = false
  gen : scope.isGenerator = false
  own : scope.names.lookup x = some .local
  nc : ∀ z ∈ scope.names, z.2 ≠ .cell
  free : scope.names.lookup y = some .free
  only : ∀ z ∈ scope.names, z.2 = .free -> z.1 = y
end DL
set_option Elab.async false
set_option linter.all false
set_option maxRecDepth 100000
set_option maxHeartbeats 4000000
set_option autoImplicit false
namespace DL
open PySem L2
end DL
set_option Elab.async false
set_option linter.all false
set_option maxRecDepth 100000
set_option maxHeartbeats 4000000
set_option autoImplicit false
namespace DL
open PySem L2
section
variable {cl : ClW} {X : Cx} {W : WX} {o : Expr} {pos : Pos} {τo : DTE} {f : Str} {cs : List Nat}
end
end DL
set_option Elab.async false
set_option linter.all false
set_option maxRecDepth 100000
set_option maxHeartbeats 4000000
set_option autoImplicit false
namespace DL
open PySem PySem.Spec PyProof.Rows L2
section
variable {X : Cx} {i : Nat} {y : Str} {py : Pos} {kx vx tg iter : Expr} {ifs : List Expr} {scope : Scope} {own : List (Str × Nat)} {pos spos : Pos} {wi : TI} {g : TG} {tt : TT} {tk tv : TE}
end
section
variable {cl : ClW} {X : Cx} {W : WX} {kx vx tg iter : Expr} {ifs : List Expr} {scope : Scope} {own : List (Str × Nat)} {pos : Pos} {ι : DTI} {is : List Nat} {γ : DTG} {υ : DTT} {τk τv : DTE}
end
end DL
set_option Elab.async false
set_option linter.all false
set_option maxRecDepth 100000
set_option maxHeartbeats 2000000
set_option autoImplicit false
namespace DL
open PySem L2
section
variable {cl : ClW} {X : Cx} {W : WX} {j k c n : Nat} {ps ks : List Str} {ord : List Nat} {spd : SpD} {m : Str} {pos apos : Pos} {o : Expr} {kws : List Keyword} {τ : DTE} {β : DTA} {pl : Sem Bool}
end
end DL
set_option Elab.async false
set_option linter.all false
set_option maxRecDepth 100000
set_option maxHeartbeats 4000000
set_option autoImplicit false
namespace FL
open PySem
end FL
set_option Elab.async false
set_option linter.all false
set_option maxRecDepth 100000
set_option maxHeartbeats 4000000
set_option autoImplicit false
namespace FL
open PySem L2 DL
def rkAt (ls : List Int) (p : Nat) : Nat := (sibs ls (ancs ls p).head?).idxOf p
def lineT (ls : List Int) (p : Nat) : List Nat := (ancs ls p).reverse ++ [p]
def encX (x : D) : PyData := (toPyX x).getD .none
end FL
set_option Elab.async false
set_option linter.all false
set_option maxRecDepth 100000
set_option maxHeartbeats 4000000
set_option autoImplicit false
namespace DL
open PySem L2 PyProof.Rows
section
variable {cl : ClW} {X : Cx} {W : WX} {k : Nat} {tb : List (Nat × SpD)} {a b : Expr} {pos : Pos} {τa τb : DTE} {φ : DB2}
end
end DL
set_option Elab.async false
set_option linter.all false
set_option maxRecDepth 100000
set_option maxHeartbeats 4000000
set_option autoImplicit false
namespace FL
open PySem L2 DL
structure PR where
  ab : List Nat
  be : List Nat
  st : Int
  rk : Int
  va : Int
def PR.key (r : PR) : List Nat × List Nat := (r.ab, r.be)
structure PR.Ok (r : PR) : Prop where
  na : NameOk r.ab
  nb : NameOk r.be
  v0 : -(10 ^ 30) <= r.va
  v1 : r.va <= 10 ^ 30
  s0 : 0 <= r.st
  self : r.st = 0 ↔ r.ab = r.be
  r0 : 0 <= r.rk
def stO (X : List PR) (a b : List Nat) : Option Int := (X.find? fun r => decide (r.key = (a, b))).map PR.st
def upsO (X : List PR) (b : List Nat) : List (List Nat) := (X.filter fun r => decide (r.st = 1) && decide (r.be = b)).map PR.ab
def selfs (X : List PR) : List PR := X.filter fun r => decide (r.st = 0)
def rkO (X : List PR) (a : List Nat) : Option Int := (X.find? fun r => decide (r.ab = a)).map PR.rk
def vaO (X : List PR) (b : List Nat) : Option Int := (X.find? fun r => decide (r.be = b)).map PR.va
def spotO (X : List PR) (a : List Nat) : Option Nat := X.findIdx? fun r => decide (r.st = 0) && decide (r.ab = a)
def selfB (X : List PR) (r : PR) : Bool := (stO X r.ab r.ab).isNone || (stO X r.be r.be).isNone
def lineB (X : List PR) (r : PR) : Bool := if r.st = 1 then decide ((upsO X r.be).head? ≠ some r.ab) else if r.st = 0 then false else !((upsO X r.be).any fun o => decide ((stO X r.ab o).getD (-1) = r.st - 1))
def gapB (X : List PR) (r : PR) : Bool := (upsO X r.ab).any fun o => decide ((stO X o r.be).getD (-1) ≠ r.st + 1)
def rankB (X : List PR) (r : PR) : Bool := decide (rkO X r.ab ≠ some r.rk)
def valuB (X : List PR) (r : PR) : Bool := decide (vaO X r.be ≠ some r.va)
def sibsP (X : List PR) (r : PR) : List PR := (selfs X).filter fun s => decide ((upsO X s.ab).head? = (upsO X r.ab).head?)
def orderB (X : List PR) (p : Nat) (r : PR) : Bool := if r.st ≠ 0 then false else if (sibsP X r).length <= r.rk then true else (sibsP X r).any fun s => decide (s.rk = r.rk) && decide ((spotO X s.ab).getD 0 < p)
def fstP (X : List PR) (f : Nat -> PR -> Bool) : Option Nat := (X.zipIdx.find? fun z => f z.2 z.1).map (·.2)
def pairF (X : List PR) : Option (Nat × String) :=
  match fstP X fun _ r => selfB X r with
  | some p => some (p, "self")
  | none => match fstP X fun _ r => lineB X r with
    | some p => some (p, "line")
    | none => match fstP X fun _ r => gapB X r with
      | some p => some (p, "gap")
      | none => match fstP X fun _ r => rankB X r with
        | some p => some (p, "ranks")
        | none => match fstP X fun _ r => valuB X r with
          | some p => some (p, "values")
          | none => (fstP X fun p r => orderB X p r).map fun p => (p, "order")
def pairP (rs : List Row) (p a k : Nat) : PR := ⟨(rs.map Row.nm).getD a [], (rs.map Row.nm).getD p [], k, (rkAt (lvs rs) a : Nat), (rs.map Row.va).getD p 0⟩
def pairsPAt (rs : List Row) (p : Nat) : List PR := (lineT (lvs rs) p).zipIdx.map fun z => pairP rs p z.1 ((lineT (lvs rs) p).length - 1 - z.2)
def pairsP (rs : List Row) : List PR := (List.range rs.length).flatMap (pairsPAt rs)
structure PX (rs : List Row) (X : List PR) : Prop where
  ok : RowsOk rs
  perm : X.Perm (pairsP rs)
section
variable {rs : List Row} {X : List PR}
end
end FL
set_option Elab.async false
set_option linter.all false
set_option maxRecDepth 100000
set_option maxHeartbeats 4000000
set_option autoImplicit false
namespace FL
open PySem L2 DL
abbrev nk (a : List Nat) : NKey := some (.inr (S a))
def optS : Option (List Nat) -> D
  | none => .non
  | some n => strD n
@[simp] theorem vw_optS {M : Mem} {o : Option (List Nat)} : vw M (optS o) = optS o := by cases o <;> rfl
theorem keep_off {M M1 : Mem} {a : Addr} (h : M a = none) (k : ∀ b, b ≠ a -> M1 b = M b) : Keep M M1 := fun b d e => by
  rw [k b (fun z => by rw [z, h] at e; cases e)]; exact e
end FL
set_option Elab.async false
set_option linter.all false
set_option maxRecDepth 100000
set_option maxHeartbeats 4000000
set_option autoImplicit false
namespace FL
open PySem L2 DL
section
variable {γ : DTG} {υ : DTT} {τk τv : DTE} {vs : List Nat} {a : Addr} {Q : DV} {ρ : DL.Env}
end
end FL
set_option Elab.async false
set_option linter.all false
set_option maxRecDepth 100000
set_option maxHeartbeats 4000000
set_option autoImplicit false
namespace FL
open PySem L2 DL
end FL
set_option Elab.async false
set_option linter.all false
set_option maxRecDepth 100000
set_option maxHeartbeats 4000000
set_option autoImplicit false
namespace FL
open PySem L2 DL
def PR.l (r : PR) : List D := [strD r.ab, strD r.be, .int r.st, .int r.rk, .int r.va]
abbrev Held (M : Mem) (zs : List D) : Prop := ∀ z ∈ zs, ∀ a, z = .ref a -> (M a).isSome
structure HandT (M : Mem) (d : D) : Prop where
  ty : ∃ n, tyName (vw M d) = some n
  at_ : ∀ a, d = .ref a -> (M a).isSome
  rows : ∀ zs, seqs (vw M d) = some zs -> (∀ y ∈ zs.map (vw M), PlRow y) /\ Held M zs /\ zs.length <= 10000000
end FL
set_option Elab.async false
set_option linter.all false
set_option maxRecDepth 100000
set_option maxHeartbeats 4000000
set_option autoImplicit false
namespace FL
open PySem L2 DL PyProof.Rows PySem.W
end FL
set_option Elab.async false
set_option linter.all false
set_option maxRecDepth 100000
set_option maxHeartbeats 4000000
set_option autoImplicit false
namespace FL
open PySem L2 DL
section
variable {γ : DTG} {υ : DTT} {τk τv : DTE} {vs : List Nat} {a : Addr} {Q : DV} {ρ : DL.Env} {M : Mem} {α : Type}
end
end FL
set_option Elab.async false
set_option linter.all false
set_option maxRecDepth 100000
set_option maxHeartbeats 4000000
set_option autoImplicit false
namespace FL
open PySem L2 DL
section
variable {γ : DTG} {υ : DTT} {τk τv : DTE} {vs : List Nat} {a : Addr} {Q : DV} {ρ : DL.Env} {M : Mem} {α : Type}
end
section
variable {α : Type} [DecidableEq α]
structure LP (M0 M : Mem) (P : List α) (cf : α -> Addr) (g : α -> List D) : Prop where
  nd : P.Nodup
  at_ : ∀ p ∈ P, M0 (cf p) = none /\ M (cf p) = some (.lst (g p))
  inj : ∀ p ∈ P, ∀ q ∈ P, cf p = cf q -> p = q
end
end FL
set_option Elab.async false
set_option linter.all false
set_option maxRecDepth 100000
set_option maxHeartbeats 4000000
set_option autoImplicit false
namespace FL
open PySem L2 DL
structure HL (M : Mem) (h : Addr) (as : List Addr) (X : List PR) : Prop where
  li : M h = some (.lst (as.map D.ref))
  len : as.length = X.length
  nh : h ∉ as
  at_ : ∀ (i : Nat) (a : Addr), as[i]? = some a -> ∃ r, X[i]? = some r /\ M a = some (.lst r.l)
end FL
set_option Elab.async false
set_option linter.all false
set_option maxRecDepth 100000
set_option maxHeartbeats 4000000
set_option autoImplicit false
namespace FL
open PySem L2 DL PyProof.Rows PySem.W
end FL
set_option Elab.async false
set_option linter.all false
set_option maxRecDepth 100000
set_option maxHeartbeats 4000000
set_option autoImplicit false
namespace FL
open PySem L2 DL
end FL
set_option Elab.async false
set_option linter.all false
set_option maxRecDepth 100000
set_option maxHeartbeats 4000000
set_option autoImplicit false
namespace FL
open PySem L2 DL
end FL
set_option Elab.async false
set_option linter.all false
set_option maxRecDepth 100000
set_option maxHeartbeats 4000000
set_option autoImplicit false
namespace FL
open PySem L2 DL
structure PN (X : List PR) : Prop where
  ok : ∀ r ∈ X, r.Ok
  nd : (X.map PR.key).Nodup
  few : ∀ l : List Nam, l.Nodup -> (∀ n ∈ l, ∃ r ∈ X, r.ab = n \/ r.be = n) -> l.length <= 60
  nf : pairF X = none
section
variable {X : List PR} (h : PN X)
include h
end
end FL
set_option Elab.async false
set_option linter.all false
set_option maxRecDepth 100000
set_option maxHeartbeats 4000000
set_option autoImplicit false
namespace FL
open PySem L2 DL
section
variable {X : List PR} (h : PN X)
include h
end
end FL
set_option Elab.async false
set_option linter.all false
set_option maxRecDepth 100000
set_option maxHeartbeats 4000000
set_option autoImplicit false
namespace FL
open PySem L2 DL
section
variable {X : List PR} (h : PN X)
include h
end
end FL
set_option Elab.async false
set_option linter.all false
set_option maxRecDepth 100000
set_option maxHeartbeats 4000000
set_option autoImplicit false
namespace FL
open PySem L2 DL
section
variable {X : List PR} (h : PN X)
include h
end
end FL
set_option Elab.async false
set_option linter.all false
set_option maxRecDepth 100000
set_option maxHeartbeats 4000000
set_option autoImplicit false
namespace FL
open PySem L2 DL
section
variable {X : List PR} (nd : (X.map PR.key).Nodup)
include nd
end
end FL
set_option Elab.async false
set_option linter.all false
set_option maxRecDepth 100000
set_option maxHeartbeats 4000000
set_option autoImplicit false
namespace FL
open PySem L2 DL
end FL
set_option Elab.async false
set_option linter.all false
set_option maxRecDepth 100000
set_option maxHeartbeats 4000000
set_option autoImplicit false
namespace FL
open PySem L2 DL
end FL
set_option Elab.async false
set_option linter.all false
set_option maxRecDepth 100000
set_option maxHeartbeats 4000000
set_option autoImplicit false
namespace FL
open PySem L2 DL PyProof.Rows PySem.W
def kyD (r : PR) : D := .tup [strD r.ab, strD r.be]
end FL
set_option Elab.async false
set_option linter.all false
set_option maxRecDepth 100000
set_option maxHeartbeats 4000000
set_option autoImplicit false
namespace FL
open PySem L2 DL
section
variable {rs : List Row} {ts : List Tr}
end
structure PutL (rs rs' : List Row) (ts ts' : List Tr) (g : Option Nam) (l : List Nam) (k : Nat) (n : Nam) (v : Int) : Prop where
  ok : RowsOk rs
  ok' : RowsOk rs'
  hf : flatTs 0 ts = rs
  hf' : flatTs 0 ts' = rs'
  he : (g, l) ∈ ents ts
  hk : k <= l.length
  hn : n ∉ rs.map Row.nm
  es : (ents ts').Perm ((g, insL l k n) :: (some n, []) :: remE (ents ts) g)
  vs : (vals ts').Perm ((n, v) :: vals ts)
section
variable {rs rs' : List Row} {ts ts' : List Tr} {g : Option Nam} {l : List Nam} {k : Nat} {n : Nam} {v : Int} (P : PutL rs rs' ts ts' g l k n v)
include P
end
end FL
set_option Elab.async false
set_option linter.all false
set_option maxRecDepth 100000
set_option maxHeartbeats 4000000
set_option autoImplicit false
namespace FL
open PySem L2 DL
section
variable {rs rs' : List Row} {ts ts' : List Tr} {g : Option Nam} {l : List Nam} {k : Nat} {n : Nam} {v : Int} (P : PutL rs rs' ts ts' g l k n v)
include P
variable {X Y : List PR} (px : PX rs X) (py : PX rs' Y)
include px py
end
end FL
set_option Elab.async false
set_option linter.all false
set_option maxRecDepth 100000
set_option maxHeartbeats 4000000
set_option autoImplicit false
namespace FL
open PySem L2 DL
section
variable {rs : List Row} {ts : List Tr} {X : List PR}
theorem chT_ent {a : Nam} {c : List Nam} (hm : (a, c) ∈ chT [] ts) : ∃ l, (c.head?, l) ∈ ents ts /\ a ∈ l := by
  rcases chT_up _ ts [] (Nat.le_refl _) _ hm with ⟨h1, h2⟩ | ⟨p, c', l, h1, h2, i, h3, h4, h5, h6⟩
  · simp only at h1 h2
    subst h1
    exact ⟨_, List.mem_cons_self .., h2⟩
  · simp only at h1 h6
    subst h1
    exact ⟨i.ks, List.mem_cons_of_mem _ (List.mem_map.mpr ⟨i, h3, by rw [h4]; rfl⟩), by rw [h5]; exact h6⟩
end
def flatR (rs : List Row) : List Row := rs.reverse.map fun r => ⟨r.nm, r.va + 1, 0⟩
section
variable {rs : List Row} (h : RowsOk rs)
include h
variable {X Y : List PR} (px : PX rs X) (hv : ∀ x ∈ rs, x.va < 10 ^ 30) (py : PX (flatR rs) Y)
include px hv py
end
end FL
set_option Elab.async false
set_option linter.all false
set_option maxRecDepth 100000
set_option maxHeartbeats 4000000
set_option autoImplicit false
namespace FL
open PySem L2 DL
def byN : D -> List Nat
  | .byt b => b.toList.map UInt8.toNat
  | _ => []
def isByt : D -> Bool
  | .byt _ => true
  | _ => false
def keyN (l : List Nat) : Bool := !l.isEmpty && (!decide (0 ∈ l) && decide (l.getLast?.getD 1 % 2 = 0))
def keyOkB (d : D) : Bool := isByt d && keyN (byN d)
theorem byN_bD {l : List Nat} (h : N8 l) : byN (bD l) = l := bA_nat h
theorem byN_8 (d : D) : N8 (byN d) := fun n hn => by
  cases d with
  | byt b =>
    obtain ⟨c, _, rfl⟩ := List.mem_map.mp hn
    exact c.toNat_lt
  | _ => cases hn
theorem byt_bD (b : Array UInt8) : D.byt b = bD (byN (.byt b)) := by
  show D.byt b = .byt (bA (b.toList.map UInt8.toNat))
  congr 1
  unfold bA
  rw [List.map_map]
  have : (UInt8.ofNat ∘ UInt8.toNat) = id := funext fun c => by simp
  rw [this, List.map_id]
theorem keyOkB_bD {d : D} (h : keyOkB d = true) : ∃ l, d = bD l /\ N8 l /\ keyN l = true := by
  unfold keyOkB at h
  rw [Bool.and_eq_true] at h
  cases d with
  | byt b => exact ⟨byN (.byt b), byt_bD b, byN_8 _, h.2⟩
  | _ => exact absurd h.1 (by simp [isByt])
def keyW (ys : List D) (y : D) : Option String := match plainW 3 y with
  | some w => some w
  | none => if keyOkB (itm y 2) = true then if (ys.any fun z => decide (nmS z = nmS y)) = true then some "twice" else if hasB (ys.map fun z => bA (byN (itm z 2))) (bA (byN (itm y 2))) = true then some "shared" else none else some "key"
def keyWAt (ys : List D) (p : Nat) : Option String := keyW (ys.take p) (ys.getD p .non)
def KRow (y : D) : Prop := plainW 3 y = none /\ keyOkB (itm y 2) = true
theorem keyW_none {ys : List D} {y : D} (h : keyW ys y = none) : KRow y := by
  unfold keyW at h
  cases e : plainW 3 y with
  | some w => rw [e] at h; cases h
  | none =>
    rw [e] at h
    refine ⟨e, ?_⟩
    by_cases c : keyOkB (itm y 2) = true
    · exact c
    · simp only at h
      rw [if_neg c] at h; cases h
end FL
set_option Elab.async false
set_option linter.all false
set_option maxRecDepth 100000
set_option maxHeartbeats 4000000
set_option autoImplicit false
namespace FL
open PySem L2 DL
structure LabOk (r : Nat) (l : List Nat) : Prop where
  ex : ∃ o e, l = o ++ [e] /\ (∀ x ∈ o, x % 2 = 1) /\ e % 2 = 0 /\ e ≠ 0
  n8 : N8 l
  len : l.length <= 4
  rk : (l.headD 0 - 1) / 2 = r
structure LabsOk (ls : List Int) (L : List (List Nat)) : Prop where
  len : L.length = ls.length
  ok : ∀ a, a < ls.length -> LabOk (rkAt ls a) (L.getD a [])
section
variable {ls : List Int} {L : List (List Nat)}
end
def SHY (k n : Nat) (d : D) : Prop := depY d <= k /\ ∃ t, shY d = some t /\ t.length <= n
structure CelY (t : Nat) (c : D) : Prop where
  pl : Pl c
  sh : SHY (t + 1) (10100 + 10 * t) c
inductive RowL (t : Nat) : D -> Prop where
  | key {n v : D} {l : List Nat} : CelY t n -> CelY t v -> N8 l -> l.length <= 300 + t -> RowL t (.tup [n, v, .lst (l.map intD)])
  | tup {n v k : D} : CelY t n -> CelY t v -> CelY t k -> (∀ xs, k ≠ .lst xs) -> isByt k = false -> RowL t (.tup [n, v, k])
  | odd {y : D} : PlRow y -> plainW 3 y = some "row" -> (∀ l, y ≠ .tup l) -> byN (itm y 2) = [] -> SHY (t + 3) 80000 y -> RowL t y
theorem pl_byt (b : Array UInt8) : Pl (.byt b) := pl_of rfl (by simp)
end FL
set_option Elab.async false
set_option linter.all false
set_option maxRecDepth 100000
set_option maxHeartbeats 4000000
set_option autoImplicit false
namespace FL
open PySem L2 DL
theorem inf_early : ∀ (n : Nat) (ts : List Tr), sizeOf ts <= n -> ∀ (A : List NI) (i : NI) (B : List NI), inf ts = A ++ i :: B -> i.nm ∈ ts.map nmT \/ ∃ j ∈ A, i.nm ∈ j.ks := fun n => by
  induction n with
  | zero =>
    intro ts h
    cases ts with
    | nil => intro A i B e; rw [inf_nil] at e; simp at e
    | cons t ts => simp at h
  | succ k ih =>
    intro ts h A i B e
    cases ts with
    | nil => rw [inf_nil] at e; simp at e
    | cons t ts =>
      obtain ⟨m, v, us⟩ := t
      rw [inf_cons] at e
      cases A with
      | nil =>
        rw [List.nil_append, List.cons.injEq] at e
        rw [<- e.1]
        exact .inl (by simp [nmT])
      | cons a A =>
        rw [List.cons_append, List.cons.injEq] at e
        obtain ⟨e1, e2⟩ := e
        rcases List.append_eq_append_iff.mp e2 with ⟨D, e3, e4⟩ | ⟨D, e3, e4⟩
        · rcases ih ts (by simp at h; omega) D i B e4 with z | ⟨j, hj, z⟩
          · exact .inl (by simp at z ⊢; exact .inr z)
          · exact .inr ⟨j, by rw [e3]; simp [hj], z⟩
        · cases D with
          | nil =>
            rw [List.nil_append] at e4
            rcases ih ts (by simp at h; omega) [] i B (by simpa using e4.symm) with z | ⟨j, hj, z⟩
            · exact .inl (by simp at z ⊢; exact .inr z)
            · cases hj
          | cons d D =>
            rw [List.cons_append, List.cons.injEq] at e4
            obtain ⟨rfl, e5⟩ := e4
            rcases ih us (by simp at h; omega) A i D e3 with z | ⟨j, hj, z⟩
            · exact .inr ⟨a, by simp, by rw [<- e1]; exact z⟩
            · exact .inr ⟨j, List.mem_cons_of_mem _ hj, z⟩
theorem ents_early {ts : List Tr} {A B : List (Option Nam × List Nam)} {o : Option Nam} {l : List Nam} (e : ents ts = A ++ (o, l) :: B) : o = none \/ ∃ p, o = some p /\ p ∈ A.flatMap (·.2) := by
  unfold ents at e
  cases A with
  | nil => rw [List.nil_append, List.cons.injEq] at e; exact .inl (by rw [<- (Prod.mk.inj e.1).1])
  | cons a A =>
    rw [List.cons_append, List.cons.injEq] at e
    obtain ⟨e1, e2⟩ := e
    obtain ⟨A', I, e3, e4, e5⟩ := List.map_eq_append_iff.mp e2
    obtain ⟨i, B', e6, e7, e8⟩ := List.map_eq_cons_iff.mp e5
    subst e6
    cases e7
    refine .inr ⟨i.nm, rfl, ?_⟩
    rw [List.flatMap_cons, List.mem_append]
    rcases inf_early _ ts (Nat.le_refl _) A' i B' e3 with z | ⟨j, hj, z⟩
    · left; rw [<- e1]; exact z
    · right
      rw [<- e4]
      exact List.mem_flatMap.mpr ⟨_, List.mem_map_of_mem hj, z⟩
def LabD (l : List Nat) : Prop := Lab l /\ l.length <= 7
abbrev KyS := List (Nam × List (List Nat))
def KAt (qs : KyS) (o : Option Nam) (k : List (List Nat)) : Prop := (o = none /\ k = []) \/ ∃ p, o = some p /\ (p, k) ∈ qs
structure KIn (A : List (Option Nam × List Nam)) (qs : KyS) : Prop where
  fst : qs.map Prod.fst = A.flatMap (·.2)
  kid : ∀ e ∈ A, ∃ k ls, KAt qs e.1 k /\ ls.length = e.2.length /\ ls.Nodup /\ (∀ l ∈ ls, LabD l) /\ ∀ x ∈ e.2.zip ls, (x.1, k ++ [x.2]) ∈ qs
theorem KAt.more {qs r : KyS} {o : Option Nam} {k : List (List Nat)} (h : KAt qs o k) : KAt (qs ++ r) o k := by
  rcases h with h | ⟨p, h1, h2⟩
  · exact .inl h
  · exact .inr ⟨p, h1, List.mem_append_left _ h2⟩
theorem zip_fst {α β : Type} : ∀ (a : List α) (b : List β), b.length = a.length -> (a.zip b).map Prod.fst = a
  | [], _, _ => rfl
  | _ :: a, [], h => by cases h
  | _ :: a, _ :: b, h => by rw [List.zip_cons_cons, List.map_cons, zip_fst a b (by simpa using h)]
theorem KIn.nil : KIn [] [] := ⟨rfl, fun _ h => nomatch h⟩
theorem KIn.more {A : List (Option Nam × List Nam)} {qs : KyS} {o : Option Nam} {l : List Nam} {k : List (List Nat)} {ls : List (List Nat)} (h : KIn A qs) (hk : KAt qs o k) (hl : ls.length = l.length) (nd : ls.Nodup) (ok : ∀ x ∈ ls, LabD x) : KIn (A ++ [(o, l)]) (qs ++ (l.zip ls).map fun x => (x.1, k ++ [x.2])) := by
  refine ⟨?_, fun e he => ?_⟩
  · rw [List.map_append, h.fst, List.map_map, List.flatMap_append]
    congr 1
    show (l.zip ls).map Prod.fst = _
    rw [zip_fst _ _ hl]
    simp
  · rcases List.mem_append.mp he with he | he
    · obtain ⟨k', ls', h1, h2, h3, h4, h5⟩ := h.kid e he
      exact ⟨k', ls', h1.more, h2, h3, h4, fun x hx => List.mem_append_left _ (h5 x hx)⟩
    · obtain rfl := List.mem_singleton.mp he
      exact ⟨k, ls, hk.more, hl, nd, ok, fun x hx => List.mem_append_right _ (List.mem_map_of_mem hx)⟩
def keyIn (qs : KyS) (n : Nam) : List (List Nat) := ((qs.find? fun q => decide (q.1 = n)).map (·.2)).getD []
theorem keyIn_at {qs : KyS} {n : Nam} {k : List (List Nat)} (nd : (qs.map Prod.fst).Nodup) (h : (n, k) ∈ qs) : keyIn qs n = k := by
  have : qs.find? (fun q => decide (q.1 = n)) = some (n, k) := by
    induction qs with
    | nil => cases h
    | cons q qs ih =>
      rw [List.map_cons, List.nodup_cons] at nd
      rcases List.mem_cons.mp h with rfl | h
      · rw [List.find?_cons_of_pos (by simp)]
      · have hne : q.1 ≠ n := fun z => nd.1 (by rw [z]; exact List.mem_map_of_mem (f := Prod.fst) h)
        rw [List.find?_cons_of_neg (by simpa using hne)]
        exact ih nd.2 h
  unfold keyIn
  rw [this]
  rfl
theorem nd_fst {α β : Type} {l : List (α × β)} (nd : (l.map (·.1)).Nodup) {a : α} {b c : β} (h1 : (a, b) ∈ l) (h2 : (a, c) ∈ l) : b = c := by
  induction l with
  | nil => cases h1
  | cons x l ih =>
    rw [List.map_cons, List.nodup_cons] at nd
    rcases List.mem_cons.mp h1 with e1 | k1
    · rcases List.mem_cons.mp h2 with e2 | k2
      · exact (Prod.mk.inj (e1.trans e2.symm)).2
      · exact absurd (by rw [<- e1]; exact List.mem_map.mpr ⟨_, k2, rfl⟩) nd.1
    · rcases List.mem_cons.mp h2 with e2 | k2
      · exact absurd (by rw [<- e2]; exact List.mem_map.mpr ⟨_, k1, rfl⟩) nd.1
      · exact ih nd.2 k1 k2
structure KeyF (ts : List Tr) (K : Nam -> List (List Nat)) : Prop where
  top : ∀ n c, (n, c) ∈ chT [] ts -> ∃ l, LabD l /\ K n = (match c with | [] => [] | p :: _ => K p) ++ [l]
  ne : ∀ n c n' c', (n, c) ∈ chT [] ts -> (n', c') ∈ chT [] ts -> c.head? = c'.head? -> (K n).getLast? = (K n').getLast? -> n = n'
theorem KIn.keyF {ts : List Tr} {qs : KyS} (h : KIn (ents ts) qs) (nd : (nmTs ts).Nodup) : KeyF ts (keyIn qs) /\ (qs.map Prod.fst).Nodup /\ ∀ n ∈ nmTs ts, (n, keyIn qs n) ∈ qs := by
  have ndq : (qs.map Prod.fst).Nodup := by rw [h.fst, (ents_perm ts).nodup_iff]; exact nd
  have par : ∀ {c : List Nam} {k : List (List Nat)}, KAt qs c.head? k -> k = (match c with | [] => [] | p :: _ => keyIn qs p) := fun {c k} hk => by
    rcases hk with ⟨h1, rfl⟩ | ⟨p, h1, h2⟩
    · cases c with
      | nil => rfl
      | cons p c => cases h1
    · cases c with
      | nil => cases h1
      | cons p' c =>
        obtain rfl : p' = p := Option.some.inj h1
        exact (keyIn_at ndq h2).symm
  have zat : ∀ {l : List Nam} {ls : List (List Nat)} {n : Nam}, ls.length = l.length -> n ∈ l -> ∃ i b, l[i]? = some n /\ ls[i]? = some b /\ (n, b) ∈ l.zip ls := fun {l ls n} hl hn => by
    obtain ⟨i, hi, rfl⟩ := List.getElem_of_mem hn
    have hi2 : i < ls.length := by omega
    refine ⟨i, ls[i], List.getElem?_eq_getElem hi, List.getElem?_eq_getElem hi2, ?_⟩
    exact List.mem_of_getElem? (i := i) (List.getElem?_zip_eq_some.mpr ⟨List.getElem?_eq_getElem hi, List.getElem?_eq_getElem hi2⟩)
  refine ⟨⟨fun n c hc => ?_, fun n c n' c' hc hc' hh hg => ?_⟩, ndq, fun n hn => ?_⟩
  · obtain ⟨l, h1, h2⟩ := chT_ent hc
    obtain ⟨k, ls, k1, k2, k3, k4, k5⟩ := h.kid _ h1
    obtain ⟨i, b, _, z2, z3⟩ := zat k2 h2
    exact ⟨b, k4 b (List.mem_of_getElem? z2), (keyIn_at ndq (k5 _ z3)).trans (congrArg (· ++ [b]) (par k1))⟩
  · obtain ⟨l, h1, h2⟩ := chT_ent hc
    obtain ⟨l', h1', h2'⟩ := chT_ent hc'
    rw [<- hh] at h1'
    have el : l = l' := by
      have nde := ents_nd nd
      exact nd_fst nde h1 h1'
    subst el
    obtain ⟨k, ls, k1, k2, k3, k4, k5⟩ := h.kid _ h1
    obtain ⟨i, b, y1, z2, z3⟩ := zat k2 h2
    obtain ⟨j, b', y1', z2', z3'⟩ := zat k2 h2'
    rw [keyIn_at ndq (k5 _ z3), keyIn_at ndq (k5 _ z3'), List.getLast?_concat, List.getLast?_concat] at hg
    obtain rfl := Option.some.inj hg
    have hij : i = j := (List.getElem?_inj (List.getElem?_eq_some_iff.mp z2).1 k3).mp (z2.trans z2'.symm)
    subst hij
    exact Option.some.inj (y1.symm.trans y1')
  · have : n ∈ qs.map Prod.fst := by rw [h.fst]; exact (ents_perm ts).mem_iff.mpr hn
    obtain ⟨⟨n', k⟩, hq, rfl⟩ := List.mem_map.mp this
    rw [keyIn_at ndq hq]
    exact hq
section
variable {ts : List Tr} {K : Nam -> List (List Nat)}
theorem chT_par {n p : Nam} {c : List Nam} (h : (n, p :: c) ∈ chT [] ts) : (p, c) ∈ chT [] ts := by
  rcases chT_up _ ts [] (Nat.le_refl _) _ h with ⟨e1, _⟩ | ⟨p', c', l', e1, e2, _⟩
  · cases e1
  · cases e1; exact e2
theorem KeyF.labs (h : KeyF ts K) : ∀ (c : List Nam) (n : Nam), (n, c) ∈ chT [] ts -> (∀ l ∈ K n, LabD l) /\ (K n).length = c.length + 1 := fun c => by
  induction c with
  | nil =>
    intro n hn
    obtain ⟨l, h1, h2⟩ := h.top n _ hn
    rw [h2]
    exact ⟨fun x hx => by simp at hx; rw [hx]; exact h1, rfl⟩
  | cons p c ih =>
    intro n hn
    obtain ⟨l, h1, h2⟩ := h.top n _ hn
    obtain ⟨i1, i2⟩ := ih p (chT_par hn)
    simp only at h2
    rw [h2]
    refine ⟨fun x hx => ?_, by simp [i2]⟩
    rcases List.mem_append.mp hx with hx | hx
    · exact i1 x hx
    · simp at hx; rw [hx]; exact h1
theorem KeyF.inj (h : KeyF ts K) : ∀ (c : List Nam) (n : Nam) (c' : List Nam) (n' : Nam), (n, c) ∈ chT [] ts -> (n', c') ∈ chT [] ts -> K n = K n' -> n = n' := fun c => by
  induction c with
  | nil =>
    intro n c' n' hn hn' e
    have l1 := (h.labs _ _ hn).2
    have l2 := (h.labs _ _ hn').2
    rw [e, l2] at l1
    have : c' = [] := List.length_eq_zero_iff.mp (by simpa using l1)
    subst this
    exact h.ne n _ n' _ hn hn' rfl (by rw [e])
  | cons p c ih =>
    intro n c' n' hn hn' e
    have l1 := (h.labs _ _ hn).2
    have l2 := (h.labs _ _ hn').2
    cases c' with
    | nil => rw [e, l2] at l1; simp at l1
    | cons p' c' =>
      obtain ⟨l, _, h2⟩ := h.top n _ hn
      obtain ⟨l', _, h2'⟩ := h.top n' _ hn'
      simp only at h2 h2'
      rw [h2, h2'] at e
      obtain ⟨e1, e2⟩ := List.append_inj' e rfl
      obtain rfl := ih p c' p' (chT_par hn) (chT_par hn') e1
      exact h.ne n _ n' _ hn hn' rfl (by rw [h2, h2', e2])
def preK (L : List (List Nat)) : List (List Nat) := (List.range (L.length - 1)).map fun i => (L.take (1 + i)).flatten
theorem preK_snoc (L : List (List Nat)) (l : List Nat) (h : L ≠ []) : preK (L ++ [l]) = preK L ++ [L.flatten] := by
  have hl := List.length_pos_iff.mpr h
  unfold preK
  have e : (L ++ [l]).length - 1 = (L.length - 1) + 1 := by simp; omega
  rw [e, List.range_succ, List.map_append]
  congr 1
  · refine List.map_congr_left fun i hi => ?_
    have := List.mem_range.mp hi
    rw [List.take_append_of_le_length (by omega)]
  · simp only [List.map_cons, List.map_nil]
    rw [List.take_append_of_le_length (by omega), List.take_of_length_le (by omega)]
theorem KeyF.pre (h : KeyF ts K) : ∀ (c : List Nam) (n : Nam), (n, c) ∈ chT [] ts -> preK (K n) = c.reverse.map fun p => (K p).flatten := fun c => by
  induction c with
  | nil =>
    intro n hn
    obtain ⟨l, _, h2⟩ := h.top n _ hn
    rw [h2]
    rfl
  | cons p c ih =>
    intro n hn
    obtain ⟨l, _, h2⟩ := h.top n _ hn
    have hp := chT_par hn
    simp only at h2
    rw [h2, preK_snoc _ _ (fun z => by have := (h.labs _ _ hp).2; rw [z] at this; simp at this), ih p hp, List.reverse_cons, List.map_append]
    rfl
theorem flat_size : ∀ (L : List (List Nat)), (∀ l ∈ L, LabD l) -> L.flatten.length <= 7 * L.length
  | [], _ => by simp
  | l :: L, h => by
    have h1 := (h l (by simp)).2
    have h2 := flat_size L fun x hx => h x (by simp [hx])
    rw [List.flatten_cons, List.length_append, List.length_cons]
    omega
theorem flat_n8 (L : List (List Nat)) (h : ∀ l ∈ L, LabD l) : N8 L.flatten := fun x hx => by
  obtain ⟨l, hl, hx⟩ := List.mem_flatten.mp hx
  exact (h l hl).1.n8 x hx
theorem flat_keyN (L : List (List Nat)) (h : ∀ l ∈ L, LabD l) (hne : L ≠ []) : keyN L.flatten = true := by
  obtain ⟨l, hl⟩ : ∃ l, L.getLast? = some l := by
    cases e : L.getLast? with
    | none => exact absurd (List.getLast?_eq_none_iff.mp e) hne
    | some l => exact ⟨l, rfl⟩
  obtain ⟨L', rfl⟩ := List.getLast?_eq_some_iff.mp hl
  obtain ⟨⟨o, e, rfl, h2, h3, h4, h5⟩, _⟩ := h l (by simp)
  have h0 : 0 ∉ (L' ++ [o ++ [e]]).flatten := fun hx => by
    obtain ⟨l, hl, hx⟩ := List.mem_flatten.mp hx
    obtain ⟨⟨o, e, rfl, h2, h3, h4, h5⟩, _⟩ := h l hl
    rcases List.mem_append.mp hx with z | z
    · have := (h2 0 z).1; omega
    · have := List.mem_singleton.mp z; omega
  unfold keyN
  rw [decide_eq_false h0, List.flatten_append]
  simp [h3]
end
end FL
set_option Elab.async false
set_option linter.all false
set_option maxRecDepth 100000
set_option maxHeartbeats 4000000
set_option autoImplicit true
namespace LawProof
open PySem L2 DL FL
theorem mem_letters {c : Nat} (h : isL c = true) : c ∈ ("abcdefghijklmnopqrstuvwxyz" : Str).cps.toList := by
  have h1 : c ∈ List.range' 97 26 := by simp [isL] at h; simp [List.mem_range'_1]; omega
  have h2 : ∀ c ∈ List.range' 97 26, c ∈ ("abcdefghijklmnopqrstuvwxyz" : Str).cps.toList := by decide +kernel
  exact h2 c h1
theorem mem_signs {c : Nat} (h : isS c = true) : c ∈ ("abcdefghijklmnopqrstuvwxyz0123456789" : Str).cps.toList := by
  have h1 : c ∈ List.range' 97 26 ++ List.range' 48 10 := by simp [isS, isL] at h; simp [List.mem_range'_1]; omega
  have h2 : ∀ c ∈ List.range' 97 26 ++ List.range' 48 10, c ∈ ("abcdefghijklmnopqrstuvwxyz0123456789" : Str).cps.toList := by decide +kernel
  exact h2 c h1
theorem letters_iff (c : Nat) : decide (c ∈ ("abcdefghijklmnopqrstuvwxyz" : Str).cps.toList) = isL c := by
  have h : ∀ c ∈ ("abcdefghijklmnopqrstuvwxyz" : Str).cps.toList, isL c = true := by decide +kernel
  rw [Bool.eq_iff_iff, decide_eq_true_eq]
  exact ⟨h c, mem_letters⟩
theorem signs_iff (c : Nat) : decide (c ∈ ("abcdefghijklmnopqrstuvwxyz0123456789" : Str).cps.toList) = isS c := by
  have h : ∀ c ∈ ("abcdefghijklmnopqrstuvwxyz0123456789" : Str).cps.toList, isS c = true := by decide +kernel
  rw [Bool.eq_iff_iff, decide_eq_true_eq]
  exact ⟨h c, mem_signs⟩
def sgB : D -> Bool
  | .str z => isS (z.cps.toList.headD 0)
  | _ => false
theorem bls_of (l : List Bool) : blsOf (l.map D.bl) = some l := blsOf_map l
theorem enN_at {l : List Nat} {f : Nat -> D} {c : Nat} {done rest : List D} {x : D} (h : ((l.map f).zipIdx.map fun p => D.tup [.int ((p.2 + c : Nat)), p.1]) = done ++ x :: rest) : ∃ a, l[done.length]? = some a /\ x = .tup [.int ((done.length + c : Nat)), f a] := by
  have e := congrArg (fun t => t[done.length]?) h
  simp only [List.getElem?_map, List.getElem?_zipIdx, List.getElem?_append_right (Nat.le_refl _), Nat.sub_self, List.getElem?_cons_zero] at e
  cases h1 : l[done.length]? with
  | none => rw [h1] at e; simp at e
  | some a => rw [h1] at e; simp at e; exact ⟨a, rfl, by rw [<- e]; simp⟩
theorem enN_len {l : List Nat} {f : Nat -> D} {c : Nat} : ((l.map f).zipIdx.map fun p => D.tup [.int ((p.2 + c : Nat)), p.1]).length = l.length := by simp
theorem idxOf_first : ∀ (l : List Nat) (j : Nat), l[j]? = some 0 -> (∀ i, i < j -> l[i]? ≠ some 0) -> l.idxOf 0 = j
  | [], _, h, _ => by simp at h
  | a :: l, 0, h, _ => by simp at h; subst h; simp
  | a :: l, j + 1, h, k => by
    have h0 : a ≠ 0 := fun z => k 0 (by omega) (by simp [z])
    rw [List.idxOf_cons, show (a == 0) = false by simpa using h0]
    simp only [Bool.false_eq_true, if_false, cond_false]
    rw [idxOf_first l j (by simpa using h) fun i hi => by have := k (i + 1) (by omega); simpa using this]
def kfD (l : List Nat) : D := match l.getLast? with
  | none => .int (-1)
  | some e => if 0 ∈ l then .int (l.idxOf 0 : Nat) else if e % 2 = 1 then .int (l.length : Nat) else .non
def cutK : List Nat -> List Nat -> List (List Nat)
  | _, [] => []
  | acc, a :: r => if a % 2 = 0 then (acc ++ [a]) :: cutK [] r else cutK (acc ++ [a]) r
theorem isiB (M : Mem) (d : D) {n : String} (h : tyName (vw M d) = some n) : isiF ([d, .ty "bytes"].map (vw M)) = some (.bl (n == "bytes")) := by
  have hn := tyName_mem h
  simp [isiF, h]
  simp [tyNames] at hn
  rcases hn with rfl | rfl | rfl | rfl | rfl | rfl | rfl | rfl <;> simp [tyNames, isTy]
def sp_is_integer : SpD := fun ds M Q _ => ∃ d n, ds = [d] /\ tyName (vw M d) = some n /\ Q (.bl (n == "int")) M
abbrev N_is_integer : List Str := ["thing"]
def t_is_integer : DTS := (dRet (dAndV (dCB isiF (dCons (dVar 0) (dCons (dC (.ty "int")) dNil))) (dNotV (dCB isiF (dCons (dVar 0) (dCons (dC (.ty "bool")) dNil))))))
theorem pure_is_integer : ∀ ds M Q E, sp_is_integer ds M Q E -> ds.length = 1 /\ t_is_integer (dEnds Q E) (startD N_is_integer ds) M := by
  rintro ds M Q E ⟨d, n, rfl, h, q⟩
  refine ⟨rfl, ?_⟩
  have hn := tyName_mem h
  simp [t_is_integer, isiF, h]
  simp [tyNames] at hn
  rcases hn with rfl | rfl | rfl | rfl | rfl | rfl | rfl | rfl <;> simpa [tyNames, isTy] using q
def sp_is_sequence : SpD := fun ds M Q _ => ∃ d n, ds = [d] /\ tyName (vw M d) = some n /\ Q (.bl (n == "list" || n == "tuple")) M
abbrev N_is_sequence : List Str := ["thing"]
def t_is_sequence : DTS := (dRet (dCB isiF (dCons (dVar 0) (dCons (dTup (dCons (dC (.ty "list")) (dCons (dC (.ty "tuple")) dNil))) dNil))))
theorem pure_is_sequence : ∀ ds M Q E, sp_is_sequence ds M Q E -> ds.length = 1 /\ t_is_sequence (dEnds Q E) (startD N_is_sequence ds) M := by
  rintro ds M Q E ⟨d, n, rfl, h, q⟩
  refine ⟨rfl, ?_⟩
  have hn := tyName_mem h
  simp [t_is_sequence, isiF, h]
  simp [tyNames] at hn
  rcases hn with rfl | rfl | rfl | rfl | rfl | rfl | rfl | rfl <;> simpa [tyNames, isTy] using q
def sp_is_name : SpD := fun ds M Q _ => ∃ d, ds = [d] /\ Pl d /\ Q (.bl (nameB d)) M
abbrev N_is_name : List Str := ["thing", "sign"]
def t_is_name : DTS := (dSeq (dIf (dOr (dNot (dTest (dCB isiF (dCons (dVar 0) (dCons (dC (.ty "str")) dNil))))) (dNot (dTest (dChain leD leD (dC (.int 1)) (dCB lenF (dCons (dVar 0) dNil)) (dC (.int 8)))))) (dRet (dC (.bl false))) dNext)
    (dRet (dAndV (dOp inD (dOp ixA (dVar 0) (dC (.int 0))) (dC (.str "abcdefghijklmnopqrstuvwxyz"))) (dCB allF (dCons (dLc (iS (dVar 0)) (gN 1) dYes (dOp inD (dVar 1) (dC (.str "abcdefghijklmnopqrstuvwxyz0123456789"))) [1]) dNil)))))
theorem pure_is_name : ∀ ds M Q E, sp_is_name ds M Q E -> ds.length = 1 /\ t_is_name (dEnds Q E) (startD N_is_name ds) M := by
  rintro ds M Q E ⟨d, rfl, h, q⟩
  refine ⟨rfl, ?_⟩
  have hv := h.vw M
  obtain ⟨n, hn⟩ := h.ty
  by_cases hs : n = "str"
  · subst hs
    obtain ⟨z, rfl⟩ : ∃ z, d = .str z := by cases d <;> simp [tyName] at hn ⊢
    have hl := (h.st z rfl).1
    obtain ⟨cs, rfl⟩ : ∃ cs, z = S cs := ⟨_, S_of z⟩
    cases cs with
    | nil =>
      simp [t_is_name, isiF, tyName, tyNames, isTy, lenF, S, Str.length]
      exact q
    | cons c r =>
      have h1 : r.length + 1 <= 16777216 := by simp [S, Str.length] at hl; omega
      have h2 : (0 : Int) <= r.length := by omega
      by_cases h7 : r.length <= 7
      · have h3 : (r.length : Int) + 1 <= 8 := by omega
        simp [t_is_name, isiF, tyName, tyNames, isTy, lenF, S, Str.length, dLc, ixD, h1, h2, h3, inStr_1]
        have e : nameB (.str ⟨(c :: r).toArray⟩) = (isL c && r.all isS) := by simp [nameB, nameC, h7]
        have e' : nameB (.str (S (c :: r))) = (isL c && r.all isS) := by simp [S, e]
        rw [e'] at q
        by_cases hc : isL c = true
        · have hc2 := mem_letters hc
          refine .inr ⟨by omega, .bl true, .inr ⟨by simpa using hc2, rfl⟩, .inr ⟨rfl, fun a ha => ?_⟩⟩
          refine lcD_fn (fun x => some (.bl (sgB x))) _ (by simp; omega) ha ?_ ?_
          · intro x hx M1 T _ hT
            obtain ⟨e, he, rfl⟩ : ∃ e, (e = c \/ e ∈ r) /\ x = .str ⟨#[e]⟩ := by simpa [eq_comm] using hx
            simp only [gN, dYes, if_true, dOp, dVar, dC, wipeD, List.set]
            exact ⟨_, rfl, .bl (isS e), by rw [vw_str, vw_str, inD_def, inB_str, inStr_1, signs_iff]; rfl, hT⟩
          · have e3 : (((c :: r).map fun e => D.str ⟨#[e]⟩).filterMap fun x => some (D.bl (sgB x))) = (((c :: r).map isS).map D.bl) := by
              rw [List.filterMap_eq_map', List.map_map, List.map_map]
              rfl
            have e4 := bls_of ((c :: r).map isS)
            simp only [List.map_cons] at e3 e4
            simp only [List.map_cons, e3, e4, vw_lst, allF_lst]
            refine ⟨_, rfl, ?_⟩
            rw [hc] at q
            simpa [isL_S hc, List.all_map] using q
        · refine .inr ⟨by omega, .bl false, .inl ⟨?_, rfl⟩, .inl ⟨rfl, ?_⟩⟩
          · have := letters_iff c
            simp [hc] at this
            simpa using this
          · simpa [hc] using q
      · have h3 : ¬ (r.length : Int) + 1 <= 8 := by omega
        simp [t_is_name, isiF, tyName, tyNames, isTy, lenF, S, Str.length, h1, h2, h3]
        have e : nameB (.str (S (c :: r))) = false := by simp [nameB, nameC, S]; intro h; omega
        rw [e] at q
        exact .inr ⟨by omega, q⟩
  · have e : nameB d = false := by cases d <;> first | rfl | (simp [tyName] at hn; exact absurd hn.symm hs)
    have hm := tyName_mem hn
    rw [e] at q
    have e2 : isTy n "str" = false := by
      simp [tyNames] at hm
      rcases hm with rfl | rfl | rfl | rfl | rfl | rfl | rfl | rfl <;> first | rfl | exact absurd rfl hs
    simp [t_is_name, isiF, hv, hn, tyNames, e2]
    exact q
def sp_is_value : SpD := fun ds M Q _ => ∃ d, ds = [d] /\ Pl d /\ Q (.bl (valB d)) M
abbrev N_is_value : List Str := ["thing"]
def t_is_value : DTS := (dRet (dAndV (dCall sp_is_integer [] (dCons (dVar 0) dNil)) (dChain leD leD (dUn negD (dC (.int 1000000000000000000000000000000))) (dVar 0) (dC (.int 1000000000000000000000000000000)))))
theorem pure_is_value : ∀ ds M Q E, sp_is_value ds M Q E -> ds.length = 1 /\ t_is_value (dEnds Q E) (startD N_is_value ds) M := by
  rintro ds M Q E ⟨d, rfl, h, q⟩
  refine ⟨rfl, ?_⟩
  have hv := h.vw M
  obtain ⟨n, hn⟩ := h.ty
  by_cases hs : n = "int"
  · subst hs
    obtain ⟨i, rfl⟩ : ∃ i, d = .int i := by cases d <;> simp [tyName] at hn ⊢
    simp [t_is_value, sp_is_integer, tyName]
    simp only [valB] at q
    have p30 : (10 : Int) ^ 30 = 1000000000000000000000000000000 := by decide
    rw [p30] at q
    by_cases h1 : -1000000000000000000000000000000 <= i
    · simp [h1] at q ⊢; exact .inr q
    · simp [h1] at q ⊢; exact ⟨by omega, q⟩
  · have e : valB d = false := by cases d <;> first | rfl | (simp [tyName] at hn; exact absurd hn.symm hs)
    rw [e] at q
    have e2 : (n == "int") = false := by simpa using hs
    simp [t_is_value, sp_is_integer, hv, hn, hs]
    exact q
end LawProof
set_option Elab.async false
set_option linter.all false
set_option maxRecDepth 100000
set_option maxHeartbeats 4000000
set_option autoImplicit true
namespace LawProof
open PySem L2 DL FL
def sp_key_fault : SpD := fun ds M Q _ => ∃ d, ds = [d] /\ ((∃ l, d = bD l /\ N8 l /\ l.length <= 1000000 /\ Q (kfD l) M) \/ (∃ n, tyName (vw M d) = some n /\ n ≠ "bytes" /\ Q (.int (-1)) M))
abbrev N_key_fault : List Str := ["key", "place", "number"]
def l_key_fault_1 : DTS := (dIf (dTest (dOp eqD (dVar 2) (dC (.int 0)))) (dRet (dVar 1)) dNext)
def l_key_fault_2 : DTS := (dSeq (dFor (iEnN 0 (dVar 0)) (gT 2 (gsCons (gN 1) (gsCons (gN 2) gsNil))) l_key_fault_1)
    (dRet (dIfE (dTest (dOp eqD (dOp modD (dCB intF (dCons (dOp ixB (dVar 0) (dUn negD (dC (.int 1)))) dNil)) (dC (.int 2))) (dC (.int 1)))) (dCB lenF (dCons (dVar 0) dNil)) (dC .non))))
def t_key_fault : DTS := (dSeq (dIf (dOr (dNot (dTest (dCB isiF (dCons (dVar 0) (dCons (dC (.ty "bytes")) dNil))))) (dTest (dOp eqD (dCB lenF (dCons (dVar 0) dNil)) (dC (.int 0))))) (dRet (dUn negD (dC (.int 1)))) dNext)
    l_key_fault_2)
theorem kf_loop {l : List Nat} {M : Mem} {Q : DV} {E : DEK} {o1 o2 : Option D} (h8 : N8 l) (hl : l.length <= 1000000) (hne : l ≠ []) (q : Q (kfD l) M) : l_key_fault_2 (dEnds Q E) [some (bD l), o1, o2] M := by
  obtain ⟨e, he⟩ : ∃ e, l.getLast? = some e := by
    cases h : l.getLast? with
    | none => exact absurd (List.getLast?_eq_none_iff.mp h) hne
    | some e => exact ⟨e, rfl⟩
  unfold kfD at q
  rw [he] at q
  simp only at q
  refine ⟨_, rfl, _, wkD_bD h8, ?_⟩
  refine forD_run _ (fun done ρ M1 => M1 = M /\ (∃ o1 o2, ρ = [some (bD l), o1, o2]) /\ ∀ j, j < done.length -> l[j]? ≠ some 0) ?_ ?_ ⟨rfl, ⟨o1, o2, rfl⟩, fun j hj => absurd hj (by simp)⟩
  · rintro done x rest ρ M1 Nx hx ⟨rfl, ⟨o1, o2, rfl⟩, hz⟩ nx
    obtain ⟨a, ha, rfl⟩ := enN_at hx
    refine ⟨_, .inl rfl, rfl, _, _, rfl, _, _, rfl, rfl, ?_⟩
    refine ⟨_, rfl, .bl ((a : Int) == 0), rfl, _, rfl, ?_⟩
    by_cases h0 : a = 0
    · subst h0
      have hm : 0 ∈ l := List.mem_of_getElem? ha
      rw [if_pos hm] at q
      have hi : l.idxOf 0 = done.length := idxOf_first l _ ha (fun i hi => hz i hi)
      rw [hi] at q
      exact ⟨_, rfl, q⟩
    · have : ((a : Int) == 0) = false := by rw [beq_eq_false_iff_ne]; omega
      rw [this]
      refine nx _ _ ⟨rfl, ⟨_, _, rfl⟩, fun j hj => ?_⟩
      simp at hj
      rcases Nat.lt_or_ge j done.length with z | z
      · exact hz j z
      · have : j = done.length := by omega
        subst this
        rw [ha]
        intro z
        exact h0 (Option.some.inj z)
  · rintro ρ M1 ⟨rfl, ⟨o1, o2, rfl⟩, hz⟩
    have hn : 0 ∉ l := fun hm => by
      obtain ⟨j, hj, e⟩ := List.mem_iff_getElem.mp hm
      exact hz j (by rw [enN_len]; exact hj) (by rw [List.getElem?_eq_getElem hj, e])
    rw [if_neg hn] at q
    refine ⟨_, rfl, _, rfl, _, ixB_last he h8 (by omega), _, rfl, _, modD_int (by decide), .bl (((e : Int) % 2) == 1), rfl, _, rfl, ?_⟩
    by_cases ho : e % 2 = 1
    · rw [if_pos ho] at q
      have : (((e : Int) % 2) == 1) = true := by rw [beq_iff_eq]; omega
      rw [this]
      exact ⟨_, rfl, _, lenF_bD (by omega), q⟩
    · rw [if_neg ho] at q
      have : (((e : Int) % 2) == 1) = false := by rw [beq_eq_false_iff_ne]; omega
      rw [this]
      exact q
theorem pure_key_fault : ∀ ds M Q E, sp_key_fault ds M Q E -> ds.length = 1 /\ t_key_fault (dEnds Q E) (startD N_key_fault ds) M := by
  rintro ds M Q E ⟨d, rfl, ⟨l, rfl, h8, hl, q⟩ | ⟨n, hn, hb, q⟩⟩
  · refine ⟨rfl, ?_⟩
    refine ⟨_, rfl, _, isiB M (bD l) (n := "bytes") rfl, _, rfl, ?_⟩
    simp only [beq_self_eq_true, Bool.not_true, Bool.false_eq_true, if_false]
    refine ⟨_, rfl, _, lenF_bD (by omega), .bl ((l.length : Int) == 0), rfl, _, rfl, ?_⟩
    by_cases h0 : l = []
    · subst h0
      exact ⟨_, rfl, q⟩
    · have : ((l.length : Int) == 0) = false := by
        rw [beq_eq_false_iff_ne]
        have := List.length_pos_iff.mpr h0
        omega
      rw [this]
      exact kf_loop h8 hl h0 q
  · refine ⟨rfl, ?_⟩
    refine ⟨_, rfl, _, isiB M d hn, _, rfl, ?_⟩
    have : (n == "bytes") = false := by simpa using hb
    rw [this]
    exact ⟨_, rfl, q⟩
def sp_cut_key : SpD := fun ds M Q _ => ∃ l, ds = [bD l] /\ N8 l /\ l.length <= 1000000 /\ Q (.lst ((cutK [] l).map bD)) M
abbrev N_cut_key : List Str := ["key", "found", "begin", "place", "number"]
def l_cut_key_1 : DTS := (dSeq (dDrop (dBM "list" φApp (dVar 1) (dCons (dSl slB (dVar 0) (dPart (dVar 2)) (dPart (dOp addD (dVar 3) (dC (.int 1))))) dNil)))
    (dAsg (dOp addD (dVar 3) (dC (.int 1))) (gN 2)))
def l_cut_key_2 : DTS := (dIf (dTest (dOp eqD (dOp modD (dCB intF (dCons (dVar 4) dNil)) (dC (.int 2))) (dC (.int 0)))) l_cut_key_1 dNext)
def l_cut_key_3 : DTS := (dSeq (dFor (iEnN 0 (dVar 0)) (gT 2 (gsCons (gN 3) (gsCons (gN 4) gsNil))) l_cut_key_2)
    (dRet (dFrz (dVar 1))))
def t_cut_key : DTS := (dSeq (dPar 1 2 (dCons (dLstM dNil) (dCons (dC (.int 0)) dNil)))
    l_cut_key_3)
theorem cutK_len : ∀ (l acc : List Nat), (cutK acc l).length <= l.length
  | [], _ => by simp [cutK]
  | a :: l, acc => by
    rw [cutK]
    split
    · have := cutK_len l []; simp; omega
    · have := cutK_len l (acc ++ [a]); simp; omega
theorem ck_loop {l : List Nat} {M : Mem} {r : Addr} {Q : DV} {E : DEK} {o3 o4 : Option D} (h8 : N8 l) (hl : l.length <= 1000000) (hr : M r = none) (q : Q (.lst ((cutK [] l).map bD)) M) : l_cut_key_3 (dEnds Q E) [some (bD l), some (.ref r), some (.int 0), o3, o4] (updM M r (.lst [])) := by
  refine ⟨_, rfl, _, wkD_bD h8, ?_⟩
  refine forD_run _ (fun done ρ M1 => ∃ (F : List (List Nat)) (b : Nat) (o3 o4 : Option D), ρ = [some (bD l), some (.ref r), some (.int (b : Nat)), o3, o4] /\ M1 = updM M r (.lst (F.map bD)) /\ b <= done.length /\ done.length <= l.length /\ F.length <= done.length /\
    F ++ cutK ((l.drop b).take (done.length - b)) (l.drop done.length) = cutK [] l) ?_ ?_ ⟨[], 0, o3, o4, rfl, rfl, Nat.le_refl _, Nat.zero_le _, Nat.zero_le _, by simp⟩
  · rintro done x rest ρ M1 Nx hx ⟨F, b, o3, o4, rfl, rfl, hb, hd, hF, he⟩ nx
    obtain ⟨a, ha, rfl⟩ := enN_at hx
    have hi : done.length < l.length := (List.getElem?_eq_some_iff.mp ha).1
    have e1 : l.drop done.length = a :: l.drop (done.length + 1) := by
      rw [List.drop_eq_getElem_cons hi, (List.getElem?_eq_some_iff.mp ha).2]
    have e2 : (l.drop b).take (done.length - b) ++ [a] = (l.drop b).take (done.length + 1 - b) := by
      rw [show done.length + 1 - b = (done.length - b) + 1 by omega, List.take_add_one, List.getElem?_drop, show b + (done.length - b) = done.length by omega, ha]
      rfl
    rw [e1, cutK, e2] at he
    refine ⟨_, .inl rfl, rfl, _, _, rfl, _, _, rfl, rfl, ?_⟩
    refine ⟨_, rfl, _, rfl, _, modD_int (by decide), .bl (((a : Int) % 2) == 0), rfl, _, rfl, ?_⟩
    by_cases h0 : a % 2 = 0
    · rw [if_pos h0] at he
      have : (((a : Int) % 2) == 0) = true := by rw [beq_iff_eq]; omega
      rw [this]
      have es : slB (bD l) (some ((b : Nat) : Int)) (some (((done.length + 1 : Nat)) : Int)) = some (bD ((l.drop b).take (done.length + 1 - b))) := slB_mid (by omega) (by omega) (by omega)
      refine ⟨_, rfl, by rw [vw_upd]; rfl, _, rfl, _, rfl, _, rfl, _, rfl, .int (((done.length + 0 : Nat) : Int) + 1), rfl, _, rfl, _, (by rw [show (((done.length + 0 : Nat) : Int) + 1) = ((done.length + 1 : Nat) : Int) by omega]; exact es), ?_⟩
      refine ⟨r, F.map bD, _, rfl, rfl, updM_same, by simp; omega, ?_⟩
      refine ⟨_, rfl, .int (((done.length + 0 : Nat) : Int) + 1), rfl, ?_⟩
      refine nx _ _ ⟨F ++ [(l.drop b).take (done.length + 1 - b)], done.length + 1, some (.int ((done.length + 0 : Nat) : Int)), some (.int (a : Int)), rfl, ?_, ?_, ?_, ?_, ?_⟩
      · rw [updM_updM]; simp
      · simp
      · simp; omega
      · simp; omega
      · simp only [List.length_append, List.length_singleton, Nat.sub_self, List.take_zero]
        rw [List.append_assoc, List.singleton_append]
        exact he
    · rw [if_neg h0] at he
      have : (((a : Int) % 2) == 0) = false := by rw [beq_eq_false_iff_ne]; omega
      rw [this]
      refine nx _ _ ⟨F, b, _, _, rfl, rfl, by simp; omega, by simp; omega, by simp; omega, ?_⟩
      simpa using he
  · rintro ρ M1 ⟨F, b, o3, o4, rfl, rfl, hb, hd, hF, he⟩
    rw [enN_len, List.drop_length] at he
    have hF2 : F = cutK [] l := by rw [<- he]; simp [cutK]
    subst hF2
    refine ⟨_, rfl, ?_⟩
    show frz (.ref r) _ _
    simp only [frz, updM_same]
    rw [delM_updM hr]
    exact q
theorem pure_cut_key : ∀ ds M Q E, sp_cut_key ds M Q E -> ds.length = 1 /\ t_cut_key (dEnds Q E) (startD N_cut_key ds) M := by
  rintro ds M Q E ⟨l, rfl, h8, hl, q⟩
  exact ⟨rfl, by simp, fun r hr => ⟨_, _, rfl, ck_loop h8 hl hr q⟩⟩
def nD (n : Nat) : D := .int (n : Int)
def okB : D -> Bool
  | .int i => decide (0 <= i) && decide (i <= 255)
  | _ => false
def Ty (d : D) : Prop := ∃ n, tyName d = some n
theorem Ty.vw {d : D} (h : Ty d) (M : Mem) : vw M d = d := by obtain ⟨n, h⟩ := h; cases d <;> first | rfl | cases h
theorem ty_nD (n : Nat) : Ty (nD n) := ⟨_, rfl⟩
theorem okB_nD {n : Nat} (h : n < 256) : okB (nD n) = true := by simp [okB, nD]; omega
def sp_bytes_of : SpD := fun ds M Q E => ∃ d, ds = [d] /\
  ((∃ l, seqs d = some (l.map nD) /\ N8 l /\ l.length <= 1000000 /\ Q (bD l) M) \/
   (∃ (xs : List D) (j : Nat) (y : D), seqs d = some xs /\ xs.length <= 1000000 /\ (∀ x ∈ xs, Ty x) /\ xs[j]? = some y /\ okB y = false /\ (∀ i x, i < j -> xs[i]? = some x -> okB x = true) /\ E 30 ["place"] [.int (j : Nat)] M) \/
   (∃ n, tyName (vw M d) = some n /\ n ≠ "list" /\ n ≠ "tuple" /\ E 30 ["place"] [.int (-1)] M))
abbrev N_bytes_of : List Str := ["numbers", "place", "number"]
def l_bytes_of_1 : DTS := (dIf (dOr (dNot (dTest (dCall sp_is_integer [] (dCons (dVar 2) dNil)))) (dNot (dTest (dChain leD leD (dC (.int 0)) (dVar 2) (dC (.int 255)))))) (dRaise 30 ["place"] (dCons (dVar 1) dNil)) dNext)
def l_bytes_of_2 : DTS := (dSeq (dFor (iEnT (dVar 0)) (gT 2 (gsCons (gN 1) (gsCons (gN 2) gsNil))) l_bytes_of_1)
    (dRet (dCB bytesF (dCons (dVar 0) dNil))))
def t_bytes_of : DTS := (dSeq (dIf (dNot (dTest (dCall sp_is_sequence [] (dCons (dVar 0) dNil)))) (dRaise 30 ["place"] (dCons (dUn negD (dC (.int 1))) dNil)) dNext)
    l_bytes_of_2)
theorem bo_en {xs : List D} {done rest : List D} {x : D} (h : (xs.zipIdx.map fun p => D.tup [.int (p.2 : Nat), p.1]) = done ++ x :: rest) : ∃ a, xs[done.length]? = some a /\ x = .tup [.int (done.length : Nat), a] := by
  have e := congrArg (fun t => t[done.length]?) h
  simp only [List.getElem?_map, List.getElem?_zipIdx, List.getElem?_append_right (Nat.le_refl _), Nat.sub_self, List.getElem?_cons_zero] at e
  cases h1 : xs[done.length]? with
  | none => rw [h1] at e; simp at e
  | some a => rw [h1] at e; simp at e; exact ⟨a, rfl, by rw [<- e]⟩
theorem bo_item {x : D} {ρ : DL.Env} {M : Mem} {E : DEnds} (h : Ty x) (h2 : ρ[2]? = some (some x)) (q1 : okB x = true -> E.nx ρ M) (q2 : okB x = false -> ∃ p, ρ[1]? = some (some p) /\ E.ex 30 ["place"] [p] ρ M) : l_bytes_of_1 E ρ M := by
  obtain ⟨n, hn⟩ := h
  refine ⟨_, h2, x, n, rfl, by rw [Ty.vw ⟨n, hn⟩]; exact hn, _, rfl, ?_⟩
  by_cases hi : n = "int"
  · subst hi
    obtain ⟨i, rfl⟩ : ∃ i, x = .int i := by cases x <;> simp [tyName] at hn ⊢
    refine ⟨_, h2, decide (0 <= i), rfl, ?_⟩
    by_cases h0 : 0 <= i
    · rw [decide_eq_true h0]
      refine ⟨.bl (decide (i <= 255)), rfl, _, rfl, ?_⟩
      by_cases h1 : i <= 255
      · rw [decide_eq_true h1]
        exact q1 (by simp [okB, h0, h1])
      · rw [decide_eq_false h1]
        obtain ⟨p, e, k⟩ := q2 (by simp [okB, h0, h1])
        exact ⟨_, e, rfl, k⟩
    · rw [decide_eq_false h0]
      obtain ⟨p, e, k⟩ := q2 (by simp [okB, h0])
      exact ⟨_, rfl, _, e, rfl, k⟩
  · have : (n == "int") = false := by simpa using hi
    rw [this]
    obtain ⟨p, e, k⟩ := q2 (by cases x <;> first | rfl | (simp [tyName] at hn; exact absurd hn.symm hi))
    exact ⟨_, e, rfl, k⟩
theorem natsOk : ∀ (l : List Nat), N8 l -> intsOf (l.map nD) = some (l.map fun (n : Nat) => (n : Int))
  | [], _ => rfl
  | a :: l, h => by
    rw [List.map_cons, show nD a = .int (a : Int) from rfl, intsOf_cons, natsOk l (N8.cons.mp h).2]; rfl
theorem bytesF_nD {d : D} {l : List Nat} (hd : seqs d = some (l.map nD)) (h : N8 l) : bytesF [d] = some (bD l) := by
  have e := natsOk l h
  have k : is8 (l.map fun (n : Nat) => (n : Int)) = true := is8_iff.mpr fun n hn => by
    obtain ⟨m, hm, rfl⟩ := List.mem_map.mp hn
    have := h m hm
    omega
  cases d with
  | lst xs => cases hd; show (intsOf _).bind _ = _; rw [e]; simp only [Option.bind_some]; rw [if_pos k, byteArr_bA]; rfl
  | tup xs => cases hd; show (intsOf _).bind _ = _; rw [e]; simp only [Option.bind_some]; rw [if_pos k, byteArr_bA]; rfl
  | _ => cases hd
theorem seqs_vw {d : D} {xs : List D} (h : seqs d = some xs) (M : Mem) : vw M d = d := by cases d <;> first | rfl | cases h
theorem seqs_isq {d : D} {xs : List D} (h : seqs d = some xs) : ∃ n, tyName d = some n /\ (n == "list" || n == "tuple") = true := by
  cases d with
  | lst => exact ⟨_, rfl, rfl⟩
  | tup => exact ⟨_, rfl, rfl⟩
  | _ => cases h
theorem pure_bytes_of : ∀ ds M Q E, sp_bytes_of ds M Q E -> ds.length = 1 /\ t_bytes_of (dEnds Q E) (startD N_bytes_of ds) M := by
  rintro ds M Q E ⟨d, rfl, ⟨l, hd, h8, hl, q⟩ | ⟨xs, j, y, hd, hl, ht, hj, hy, hb, q⟩ | ⟨n, hn, n1, n2, q⟩⟩
  · refine ⟨rfl, ?_⟩
    obtain ⟨n, hn, hs⟩ := seqs_isq hd
    refine ⟨_, rfl, d, n, rfl, by rw [seqs_vw hd]; exact hn, _, rfl, ?_⟩
    rw [hs]
    refine ⟨_, rfl, _, seqs_en hd, ?_⟩
    refine forD_run _ (fun done ρ M1 => M1 = M /\ ∃ o1 o2, ρ = [some d, o1, o2]) ?_ ?_ ⟨rfl, _, _, rfl⟩
    · rintro done x rest ρ M1 Nx hx ⟨rfl, o1, o2, rfl⟩ nx
      obtain ⟨a, ha, rfl⟩ := bo_en hx
      obtain ⟨m, hm, rfl⟩ := List.mem_map.mp (List.mem_of_getElem? ha)
      refine ⟨_, .inl rfl, rfl, _, _, rfl, _, _, rfl, rfl, ?_⟩
      refine bo_item (ty_nD m) rfl (fun _ => nx _ _ ⟨rfl, _, _, rfl⟩) fun h => ?_
      rw [okB_nD (h8 m hm)] at h
      cases h
    · rintro ρ M1 ⟨rfl, o1, o2, rfl⟩
      exact ⟨_, rfl, _, by rw [List.map_cons, List.map_nil, seqs_vw hd]; exact bytesF_nD hd h8, q⟩
  · refine ⟨rfl, ?_⟩
    obtain ⟨n, hn, hs⟩ := seqs_isq hd
    refine ⟨_, rfl, d, n, rfl, by rw [seqs_vw hd]; exact hn, _, rfl, ?_⟩
    rw [hs]
    refine ⟨_, rfl, _, seqs_en hd, ?_⟩
    have hjl : j < xs.length := (List.getElem?_eq_some_iff.mp hj).1
    refine forD_run _ (fun done ρ M1 => M1 = M /\ done.length <= j /\ ∃ o1 o2, ρ = [some d, o1, o2]) ?_ ?_ ⟨rfl, Nat.zero_le _, _, _, rfl⟩
    · rintro done x rest ρ M1 Nx hx ⟨rfl, hdj, o1, o2, rfl⟩ nx
      obtain ⟨a, ha, rfl⟩ := bo_en hx
      refine ⟨_, .inl rfl, rfl, _, _, rfl, _, _, rfl, rfl, ?_⟩
      refine bo_item (ht a (List.mem_of_getElem? ha)) rfl (fun ho => nx _ _ ⟨rfl, ?_, _, _, rfl⟩) fun h => ⟨_, rfl, ?_⟩
      · rcases Nat.lt_or_ge done.length j with z | z
        · simp; omega
        · have : done.length = j := by omega
          rw [this, hj] at ha
          cases ha
          rw [hy] at ho
          cases ho
      · rcases Nat.lt_or_ge done.length j with z | z
        · rw [hb _ _ z ha] at h
          cases h
        · have : done.length = j := by omega
          rw [this]
          exact q
    · rintro ρ M1 ⟨rfl, hdj, _⟩
      simp at hdj
      omega
  · refine ⟨rfl, ?_⟩
    refine ⟨_, rfl, d, n, rfl, hn, _, rfl, ?_⟩
    have : (n == "list" || n == "tuple") = false := by simp [n1, n2]
    rw [this]
    exact ⟨_, rfl, rfl, q⟩
def FaultD (p w : D) : D := .obj 12 ["place", "word"] [p, w]
def sp_Fault___init__ : SpD := fun ds M Q _ => ∃ (x : Addr) (f0 f1 : D), ds = [.ref x, f0, f1] /\ M x = some (.obj 12 [] []) /\ Q .non (updM M x (FaultD f0 f1))
abbrev N_Fault___init__ : List Str := ["self", "place", "word"]
def t_Fault___init__ : DTS := (dSeq (dFldSet [12] "place" (dVar 0) (dVar 1))
    (dFldSet [12] "word" (dVar 0) (dVar 2)))
theorem pure_Fault___init__ : ∀ ds M Q E, sp_Fault___init__ ds M Q E -> ds.length = 3 /\ t_Fault___init__ (dEnds Q E) (startD N_Fault___init__ ds) M := by
  rintro ds M Q E ⟨x, f0, f1, rfl, hx, q⟩
  refine ⟨rfl, ?_⟩
  simp [t_Fault___init__, dFldSet, hx, setN, setV, updM_updM]
  exact q
end LawProof
set_option Elab.async false
set_option linter.all false
set_option maxRecDepth 100000
set_option maxHeartbeats 4000000
set_option autoImplicit true
namespace LawProof
open PySem L2 DL FL
def sp_plain_word : SpD := fun ds M Q _ => ∃ (y : D) (k : Nat), ds = [y, .int (k : Int)] /\ PlRow y /\ 2 <= k /\ Q (wordD (plainW k y)) M
abbrev N_plain_word : List Str := ["row", "many"]
def t_plain_word : DTS := (dSeq (dIf (dOr (dNot (dTest (dCall sp_is_sequence [] (dCons (dVar 0) dNil)))) (dTest (dOp neD (dCB lenF (dCons (dVar 0) dNil)) (dVar 1)))) (dRet (dC (.str "row"))) dNext)
    (dSeq (dIf (dNot (dTest (dCall sp_is_name [] (dCons (dOp ixA (dVar 0) (dC (.int 0))) dNil)))) (dRet (dC (.str "name"))) dNext)
    (dRet (dIfE (dTest (dCall sp_is_value [] (dCons (dOp ixA (dVar 0) (dC (.int 1))) dNil))) (dC .non) (dC (.str "value"))))))
theorem pure_plain_word : ∀ ds M Q E, sp_plain_word ds M Q E -> ds.length = 2 /\ t_plain_word (dEnds Q E) (startD N_plain_word ds) M := by
  rintro ds M Q E ⟨y, k, rfl, h, hk, q⟩
  refine ⟨rfl, ?_⟩
  obtain ⟨n, hn⟩ := h.pl.ty
  have hv := h.pl.vw M
  cases hs : seqs y with
  | none =>
    have e : plainW k y = some "row" := by unfold plainW; rw [hs]
    rw [e] at q
    refine ⟨_, rfl, y, n, rfl, by rw [hv]; exact hn, _, rfl, ?_⟩
    rw [seqs_no hs hn]
    exact q
  | some l =>
    obtain ⟨n', hn', hb⟩ := seqs_ty hs
    have e0 : plainW k y = if l.length ≠ k then some "row" else if nameB (l.getD 0 .non) = true then if valB (l.getD 1 .non) = true then none else some "value" else some "name" := by unfold plainW; rw [hs]
    rw [e0] at q
    refine ⟨_, rfl, y, n', rfl, by rw [hv]; exact hn', _, rfl, ?_⟩
    rw [hb]
    refine ⟨_, rfl, .int (l.length : Nat), by show lenF [vw M y] = _; rw [hv]; exact seqs_len hs, _, rfl, .bl (!((l.length : Int) == (k : Int))), rfl, _, rfl, ?_⟩
    by_cases hl : l.length = k
    · have e1 : ((l.length : Int) == (k : Int)) = true := by rw [beq_iff_eq]; omega
      rw [e1]
      rw [if_neg (by simpa using hl)] at q
      have i0 : ixA (vw M y) (vw M (.int 0)) = some (l.getD 0 .non) := by
        rw [hv]
        show ixA y (.int 0) = _
        rw [seqs_ix hs]
        exact atI_get' (k := 0) (by simp [List.getD]; rw [List.getElem?_eq_getElem (by omega)]; simp)
      have i1 : ixA (vw M y) (vw M (.int 1)) = some (l.getD 1 .non) := by
        rw [hv]
        show ixA y (.int 1) = _
        rw [seqs_ix hs]
        exact atI_get' (k := 1) (by simp [List.getD]; rw [List.getElem?_eq_getElem (by omega)]; simp)
      have p0 : Pl (l.getD 0 .non) := h.it l hs _ (by simp [List.getD]; rw [List.getElem?_eq_getElem (by omega)]; simp)
      have p1 : Pl (l.getD 1 .non) := h.it l hs _ (by simp [List.getD]; rw [List.getElem?_eq_getElem (by omega)]; simp)
      refine ⟨_, rfl, _, i0, _, rfl, p0, _, rfl, ?_⟩
      cases hn0 : nameB (l.getD 0 .non) with
      | false => rw [hn0] at q; exact q
      | true =>
        rw [hn0] at q
        refine ⟨_, rfl, _, i1, _, rfl, p1, _, rfl, ?_⟩
        cases hv1 : valB (l.getD 1 .non) with
        | false => rw [hv1] at q; exact q
        | true => rw [hv1] at q; exact q
    · have e1 : ((l.length : Int) == (k : Int)) = false := by rw [beq_eq_false_iff_ne]; omega
      rw [e1]
      rw [if_pos (by simpa using hl)] at q
      exact q
def sp_key_word : SpD := fun ds M Q _ => ∃ (x : D) (ys : List D) (p : Nat), ds = [x, .int (p : Int)] /\ seqs (vw M x) = some ys /\ p < ys.length /\ ys.length <= 1000 /\ (∀ y ∈ ys, PlRow y) /\ (∀ y ∈ ys, (byN (itm y 2)).length <= 100000) /\ (∀ j, j < p -> KRow (ys.getD j .non)) /\ (∀ a, x = .ref a -> (M a).isSome) /\ ∀ M', Keep M M' -> Q (wordD (keyWAt ys p)) M'
abbrev N_key_word : List Str := ["rows", "place", "word", "name", "value", "key", "row"]
def l_key_word_1 : DTS := (dSeq (dIf (dTest (dOp inD (dVar 3) (dLc (iS (dSl slD (dVar 0) dNoPart (dPart (dVar 1)))) (gN 6) dYes (dOp ixA (dVar 6) (dC (.int 0))) [6]))) (dRet (dC (.str "twice"))) dNext)
    (dRet (dIfE (dTest (dBin (bInB false) (dVar 5) (dLc (iS (dSl slD (dVar 0) dNoPart (dPart (dVar 1)))) (gN 6) dYes (dOp ixA (dVar 6) (dC (.int 2))) [6]))) (dC (.str "shared")) (dC .non))))
def l_key_word_2 : DTS := (dSeq (dIf (dTest (dOp notNonD (dCall sp_key_fault [] (dCons (dVar 5) dNil)) (dC .non))) (dRet (dC (.str "key"))) dNext)
    l_key_word_1)
def l_key_word_3 : DTS := (dSeq (dAsg (dOp ixA (dVar 0) (dVar 1)) (gT 3 (gsCons (gN 3) (gsCons (gN 4) (gsCons (gN 5) gsNil)))))
    l_key_word_2)
def l_key_word_4 : DTS := (dSeq (dIf (dTest (dOp notNonD (dVar 2) (dC .non))) (dRet (dVar 2)) dNext)
    l_key_word_3)
def t_key_word : DTS := (dSeq (dAsg (dCall sp_plain_word [] (dCons (dOp ixA (dVar 0) (dVar 1)) (dCons (dC (.int 3)) dNil))) (gN 2))
    l_key_word_4)
theorem krow_parts {y : D} (h : KRow y) : ∃ n v l, seqs y = some [strD n, .int v, bD l] /\ N8 l /\ keyN l = true /\ nmS y = n /\ itm y 2 = bD l := by
  obtain ⟨h1, h2⟩ := h
  obtain ⟨l, e1, e2, e3, e4⟩ := plain_none h1
  match l, e2 with
  | [n, v, k], _ =>
    have i2 : itm y 2 = k := by unfold itm; rw [e1]; rfl
    have i0 : itm y 0 = n := by unfold itm; rw [e1]; rfl
    rw [i2] at h2
    obtain ⟨l, rfl, h8, hk⟩ := keyOkB_bD h2
    cases n with
    | str z =>
      cases v with
      | int v =>
        have ez : D.str z = strD z.cps.toList := by show D.str z = D.str (S z.cps.toList); rw [<- S_of]
        refine ⟨z.cps.toList, v, l, by rw [e1, ez], h8, hk, ?_, i2⟩
        unfold nmS
        rw [i0]
        rfl
      | _ => cases e4
    | _ => cases e3
section
variable {Q : DV} {E : DEK} {M M1 : Mem} {x : D} {ys : List D} {p : Nat}
theorem cut_rows {X : DX} {T : List D -> Mem -> Prop} {ρ : DL.Env} (h0 : ρ[0]? = some (some x)) (h1 : ρ[1]? = some (some (.int (p : Int)))) (hx : seqs (vw M1 x) = some ys) (q : T ((ys.take p).map fun z => z) M1) : iS (dSl slD (dVar 0) dNoPart (dPart (dVar 1))) ρ M1 T X := by
  obtain ⟨e, e1, e2, _⟩ := seqs_sl hx none (some (p : Int))
  refine ⟨_, h0, _, h1, _, rfl, e, e1, _, seqs_it e2, ?_⟩
  rw [cutD_to]
  simpa using q
theorem in_names' (x : List Nat) (ns : List (List Nat)) (M : Mem) : inD (vw M (strD x)) (vw M (.lst (ns.map strD))) = some (.bl (decide (x ∈ ns))) := by
  have h1 : (ns.map strD).all flatD = true := by simp [strD, flatD]
  have h2 := mem_made (x := x) ns
  show inD (strD x) (.lst (ns.map strD)) = _
  rw [inD_def, inB_lst, h1]
  show (some ((ns.map strD).any fun y => eqFD y (.str (S x)))).map _ = _
  rw [h2]
  rfl
abbrev kwE (x : D) (p : Nat) (o2 o3 o4 o5 : Option D) : DL.Env := [some x, some (.int (p : Int)), o2, o3, o4, o5, none]
theorem take_K (hS : ∀ j, j < p -> KRow (ys.getD j .non)) : ∀ z ∈ ys.take p, KRow z := fun z hz => by
  obtain ⟨j, hj, rfl⟩ := List.getElem_of_mem hz
  have hj2 : j < p /\ j < ys.length := by simp at hj; omega
  have := hS j hj2.1
  simpa [List.getD, hj2.2] using this
def shW (zs : List D) (l : List Nat) : Option String := if hasB (zs.map fun z => bA (byN (itm z 2))) (bA l) = true then some "shared" else none
theorem kw_1 {n : List Nat} {l : List Nat} {o2 o4 : Option D} (hx : seqs (vw M1 x) = some ys) (hr : ∀ c, x = .ref c -> (M1 c).isSome) (hl : ys.length <= 1000) (hpr : ∀ y ∈ ys, PlRow y) (hS : ∀ z ∈ ys.take p, KRow z)
    (q : ∀ M', Keep M1 M' -> Q (wordD (if ((ys.take p).any fun z => decide (nmS z = n)) = true then some "twice" else shW (ys.take p) l)) M') :
    l_key_word_1 (dEnds Q E) (kwE x p o2 (some (strD n)) o4 (some (bD l))) M1 := by
  have hvw : ∀ z ∈ ys.take p, ∀ M, vw M z = z := fun z hz M => (hpr z (List.mem_of_mem_take hz)).pl.vw M
  refine ⟨_, rfl, cut_rows rfl rfl hx fun c hc => ?_⟩
  refine lcD_ix (fun z => z) (fun z => some (strD (nmS z))) (ys.take p) (by simp; omega) hc (fun z hz M2 T k2 hT => ?_) fun M2 k2 => ?_
  · obtain ⟨n', v', l', e1, _, _, e2, _⟩ := krow_parts (hS z hz)
    refine ⟨_, rfl, strD (nmS z), ?_, hT M2 (Keep.refl M2)⟩
    rw [hvw z hz]
    show ixA z (.int 0) = _
    rw [seqs_ix e1, e2]
    rfl
  · have e : (ys.take p).filterMap (fun z => some (strD (nmS z))) = ((ys.take p).map nmS).map strD := by rw [List.filterMap_eq_map', List.map_map]; rfl
    rw [e]
    refine ⟨_, in_names' n _ M2, _, rfl, ?_⟩
    have e2 : decide (n ∈ (ys.take p).map nmS) = ((ys.take p).any fun z => decide (nmS z = n)) := by
      rw [Bool.eq_iff_iff]
      simp only [decide_eq_true_eq, List.mem_map, List.any_eq_true]
    rw [e2]
    have hx2 : seqs (vw M2 x) = some ys := by rw [k2.vw hr]; exact hx
    cases hh : ((ys.take p).any fun z => decide (nmS z = n)) with
    | true => have := q M2 k2; rw [hh] at this; exact this
    | false =>
      rw [hh] at q
      refine ⟨_, rfl, cut_rows rfl rfl hx2 fun c hc => ?_⟩
      refine lcD_ix (fun z => z) (fun z => some (.byt (bA (byN (itm z 2))))) (ys.take p) (by simp; omega) hc (fun z hz M3 T k3 hT => ?_) fun M3 k3 => ?_
      · obtain ⟨n', v', l', e1, e8, _, _, e3⟩ := krow_parts (hS z hz)
        refine ⟨_, rfl, .byt (bA (byN (itm z 2))), ?_, hT M3 (Keep.refl M3)⟩
        rw [hvw z hz]
        show ixA z (.int 2) = _
        rw [seqs_ix e1, e3, byN_bD e8]
        rfl
      · have e3 : (ys.take p).filterMap (fun z => some (D.byt (bA (byN (itm z 2))))) = ((ys.take p).map fun z => bA (byN (itm z 2))).map D.byt := by rw [List.filterMap_eq_map', List.map_map]; rfl
        rw [e3]
        refine ⟨bA l, _, rfl, .inl rfl, _, rfl, ?_⟩
        have q2 := q M3 (k2.trans k3)
        unfold shW at q2
        rw [Bool.false_bne]
        cases h3 : hasB ((ys.take p).map fun z => bA (byN (itm z 2))) (bA l) with
        | true => rw [h3] at q2; exact q2
        | false => rw [h3] at q2; exact q2
end
theorem kf_none {l : List Nat} (h : keyN l = true) : kfD l = .non := by
  unfold keyN at h
  simp only [Bool.and_eq_true, Bool.not_eq_true', decide_eq_false_iff_not, decide_eq_true_eq] at h
  obtain ⟨h1, h2, h3⟩ := h
  unfold kfD
  cases e : l.getLast? with
  | none =>
    rw [List.getLast?_eq_none_iff.mp e] at h1
    cases h1
  | some a =>
    rw [e] at h3
    simp only [Option.getD_some] at h3
    simp only
    rw [if_neg h2, if_neg (by omega)]
theorem kf_some {l : List Nat} {M : Mem} (h : keyN l = false) : notNonD (vw M (kfD l)) (vw M .non) = some (.bl true) := by
  unfold kfD
  cases e : l.getLast? with
  | none => rfl
  | some a =>
    simp only
    by_cases h2 : 0 ∈ l
    · rw [if_pos h2]; rfl
    · rw [if_neg h2]
      by_cases h3 : a % 2 = 1
      · rw [if_pos h3]; rfl
      · exfalso
        have hne : l.isEmpty = false := by cases l with
          | nil => cases e
          | cons => rfl
        unfold keyN at h
        rw [hne, decide_eq_false h2, e] at h
        simp at h
        omega
theorem pure_key_word : ∀ ds M Q E, sp_key_word ds M Q E -> ds.length = 2 /\ t_key_word (dEnds Q E) (startD N_key_word ds) M := by
  rintro ds M Q E ⟨x, ys, p, rfl, hx, hp, hl, hpl, hby, hS, hr, q⟩
  refine ⟨rfl, ?_⟩
  have hy : ys[p]? = some (ys.getD p .non) := by simp [List.getD, hp]
  have hyp : PlRow (ys.getD p .non) := hpl _ (List.mem_of_getElem? hy)
  have hbp := hby _ (List.mem_of_getElem? hy)
  have e0 : ixA (vw M x) (vw M (.int (p : Int))) = some (ys.getD p .non) := by
    show ixA (vw M x) (.int (p : Int)) = _
    rw [seqs_ix hx]
    exact atI_get' hy
  refine ⟨_, rfl, _, rfl, _, e0, ys.getD p .non, 3, rfl, hyp, by omega, ?_⟩
  unfold keyWAt keyW at q
  cases hw : plainW 3 (ys.getD p .non) with
  | some w =>
    have := q M (Keep.refl M)
    rw [hw] at this
    exact ⟨_, rfl, .bl true, rfl, true, rfl, _, rfl, this⟩
  | none =>
    rw [hw] at q
    simp only at q
    refine ⟨_, rfl, .bl false, rfl, false, rfl, ?_⟩
    obtain ⟨l, e1, e2, e3, e4⟩ := plain_none hw
    match l, e2 with
    | [n, v, k], _ =>
      have i0 : itm (ys.getD p .non) 0 = n := by unfold itm; rw [e1]; rfl
      have i2 : itm (ys.getD p .non) 2 = k := by unfold itm; rw [e1]; rfl
      have en : nmS (ys.getD p .non) = nmOf n := by unfold nmS; rw [i0]
      rw [i2, en] at q
      rw [i2] at hbp
      have hvy := hyp.pl.vw M
      have pk := hyp.it _ e1 k (by simp)
      cases n with
      | str z =>
        have ez : D.str z = strD z.cps.toList := by show D.str z = D.str (S z.cps.toList); rw [<- S_of]
        refine ⟨_, rfl, _, rfl, _, e0, [.str z, v, k], ?_, rfl, _, _, rfl, _, _, rfl, _, _, rfl, rfl, ?_⟩
        · rw [hvy]
          rcases seqs_or e1 with e | e
          · exact .inr e
          · exact .inl e
        · cases hk : keyOkB k with
          | true =>
            obtain ⟨l, rfl, h8, hkn⟩ := keyOkB_bD hk
            rw [if_pos hk, byN_bD h8] at q
            rw [byN_bD h8] at hbp
            refine ⟨_, rfl, bD l, rfl, .inl ⟨l, rfl, h8, by omega, ?_⟩⟩
            rw [kf_none hkn]
            refine ⟨.bl false, rfl, false, rfl, ?_⟩
            rw [ez]
            exact kw_1 hx hr hl hpl (take_K hS) q
          | false =>
            rw [if_neg (by rw [hk]; exact Bool.false_ne_true)] at q
            have q2 := q M (Keep.refl M)
            refine ⟨_, rfl, k, rfl, ?_⟩
            obtain ⟨nk, hnk⟩ := pk.ty
            by_cases hb : isByt k = true
            · obtain ⟨l, rfl, h8⟩ : ∃ l, k = bD l /\ N8 l := by
                cases k with
                | byt b => exact ⟨byN (.byt b), byt_bD b, byN_8 _⟩
                | _ => cases hb
              have hkn : keyN l = false := by
                unfold keyOkB at hk
                rw [hb, Bool.true_and, byN_bD h8] at hk
                exact hk
              rw [byN_bD h8] at hbp
              exact .inl ⟨l, rfl, h8, by omega, .bl true, kf_some hkn, true, rfl, q2⟩
            · refine .inr ⟨nk, by rw [pk.vw]; exact hnk, fun z => hb ?_, .bl true, rfl, true, rfl, q2⟩
              rw [z] at hnk
              cases k <;> first | rfl | exact absurd hnk (by simp [tyName])
      | _ => cases e3
def shortK (l : List Nat) : List (List Nat) := (List.range ((cutK [] l).length - 1)).map fun i => ((cutK [] l).take (1 + i)).flatten
def sp_shorter_keys : SpD := fun ds M Q _ => ∃ l, ds = [bD l] /\ N8 l /\ l.length <= 100000 /\ ∀ M', Keep M M' -> Q (.lst ((shortK l).map bD)) M'
abbrev N_shorter_keys : List Str := ["key", "labels", "many"]
def t_shorter_keys : DTS := (dSeq (dAsg (dCall sp_cut_key [] (dCons (dVar 0) dNil)) (gN 1))
    (dRet (dLc (iR2 (dC (.int 1)) (dCB lenF (dCons (dVar 1) dNil))) (gN 2) dYes (dBjoin (dC (.byt #[])) (dSl slD (dVar 1) dNoPart (dPart (dVar 2)))) [2])))
theorem bA_app (a b : List Nat) : bA a ++ bA b = bA (a ++ b) := by
  unfold bA
  rw [List.map_append, List.append_toArray]
theorem joined_go : ∀ (Ls : List (List Nat)) (k : Nat) (acc : List Nat), (((Ls.map bA).zipIdx k).foldl (fun out (p, i) => (if i > 0 then out ++ (#[] : Array UInt8) else out) ++ p) (bA acc)) = bA (acc ++ Ls.flatten)
  | [], _, acc => by simp
  | l :: Ls, k, acc => by
    rw [List.map_cons, List.zipIdx_cons, List.foldl_cons]
    have e : (if k > 0 then bA acc ++ (#[] : Array UInt8) else bA acc) ++ bA l = bA (acc ++ l) := by
      rw [<- bA_app]
      split <;> simp
    show List.foldl _ ((if k > 0 then bA acc ++ (#[] : Array UInt8) else bA acc) ++ bA l) _ = _
    rw [e, joined_go Ls (k + 1) (acc ++ l), List.flatten_cons, List.append_assoc]
theorem joined_flat (Ls : List (List Nat)) : Builtin.Bytes.joined #[] (Ls.map bA) = bA Ls.flatten := by
  have := joined_go Ls 0 []
  rw [List.nil_append] at this
  exact this
theorem cutK_flat : ∀ (l acc : List Nat), ((cutK acc l).flatten).length <= acc.length + l.length
  | [], acc => by simp [cutK]
  | a :: r, acc => by
    unfold cutK
    split
    · have := cutK_flat r []
      simp at this ⊢
      omega
    · have := cutK_flat r (acc ++ [a])
      simp at this ⊢
      omega
theorem flat_take (L : List (List Nat)) (k : Nat) : ((L.take k).flatten).length <= L.flatten.length := by
  conv => rhs; rw [<- List.take_append_drop k L, List.flatten_append, List.length_append]
  omega
theorem size_sum : ∀ (Ls : List (List Nat)) (c : Nat), ((Ls.map bA).foldl (fun n (b : Array UInt8) => n + b.size) c) = c + Ls.flatten.length
  | [], c => by simp
  | l :: Ls, c => by rw [List.map_cons, List.foldl_cons, size_sum Ls, bA_size, List.flatten_cons, List.length_append]; omega
theorem pure_shorter_keys : ∀ ds M Q E, sp_shorter_keys ds M Q E -> ds.length = 1 /\ t_shorter_keys (dEnds Q E) (startD N_shorter_keys ds) M := by
  rintro ds M Q E ⟨l, rfl, h8, hl, q⟩
  refine ⟨rfl, ?_⟩
  refine ⟨_, rfl, l, rfl, h8, by omega, ?_⟩
  have hcl := cutK_len l []
  have hcf := cutK_flat l []
  simp only [List.length_nil] at hcf
  refine ⟨_, rfl, .int ((cutK [] l).length : Nat), by show lenF [.lst _] = _; simp, 1, ((cutK [] l).length : Nat), rfl, rfl, by omega, fun a ha => ?_⟩
  have er : ((((cutK [] l).length : Nat) : Int) - 1).toNat = (cutK [] l).length - 1 := by omega
  rw [er]
  unfold shortK at q
  rw [List.map_map] at q
  refine lcD_ix (fun i : Nat => D.int (1 + (i : Int))) (fun i => some (bD (((cutK [] l).take (1 + i)).flatten))) _ (by simp; omega) ha (fun i hi M2 T k2 hT => ?_) fun M2 k2 => ?_
  · have hft := flat_take (cutK [] l) (1 + i)
    refine ⟨#[], rfl, _, rfl, _, rfl, ((1 + i : Nat) : Int), ?_, .lst (((cutK [] l).take (1 + i)).map bD), ?_, ((cutK [] l).take (1 + i)).map bA, ?_, ?_, ?_, ?_⟩
    · congr 1
    · show some (D.lst (DL.cutD _ none (some ((1 + i : Nat) : Int)))) = _
      rw [cutD_to, List.map_take]
    · rw [List.map_map]; rfl
    · unfold Builtin.Bytes.tooLong
      refine decide_eq_false ?_
      rw [List.foldl_toArray, size_sum, size_line, show (#[] : Array UInt8).size = 0 from rfl, Nat.zero_mul, Nat.zero_add]
      omega
    · rw [joined_flat, bA_size, size_line]; omega
    · rw [joined_flat]
      exact hT M2 (Keep.refl _)
  · rw [List.filterMap_eq_map']
    exact q M2 k2
def faultD : Option (Int × String) -> D
  | some (p, w) => FaultD (.int p) (.str w)
  | none => .non
def kys (ys : List D) : List (Array UInt8) := ys.map fun z => bA (byN (itm z 2))
def keyF (ys : List D) : Option (Nat × String) := (List.range ys.length).findSome? fun p => (keyWAt ys p).map fun w => (p, w)
def parB (ks : List (Array UInt8)) (l : List Nat) : Bool := match (shortK l).getLast? with
  | some m => !hasB ks (bA m)
  | none => false
def parF (ys : List D) : Option Nat := (List.range ys.length).find? fun p => parB (kys ys) (byN (itm (ys.getD p .non) 2))
def keyJ (d : D) : Option (Int × String) := match seqs d with
  | none => some (-1, "rows")
  | some ys => if 60 < ys.length then some (-1, "rows") else match keyF ys with
    | some q => some ((q.1 : Int), q.2)
    | none => (parF ys).map fun p => ((p : Int), "parent")
def sp_judge_keys : SpD := fun ds M Q _ => ∃ (x : D), ds = [x] /\ (∃ n, tyName (vw M x) = some n) /\ (∀ a, x = .ref a -> (M a).isSome) /\ (∀ ys, seqs (vw M x) = some ys -> (∀ y ∈ ys, PlRow y) /\ (∀ y ∈ ys, (byN (itm y 2)).length <= 100000) /\ ys.length <= 10000000) /\
  ∀ M', Keep M M' -> Q (faultD (keyJ (vw M x))) M'
abbrev N_judge_keys : List Str := ["rows", "place", "word", "known", "key", "row", "one"]
def l_judge_keys_1 : DTS := (dIf (dNot (dTest (dCB allF (dCons (dLc (iS (dSl slD (dCall sp_shorter_keys [] (dCons (dVar 4) dNil)) (dPart (dUn negD (dC (.int 1)))) dNoPart)) (gN 6) dYes (dBin (bInB false) (dVar 6) (dVar 3)) [6]) dNil)))) (dRet (dMake 12 sp_Fault___init__ (dCons (dVar 1) (dCons (dC (.str "parent")) dNil)))) dNext)
def l_judge_keys_2 : DTS := (dSeq (dFor (iEnT (dVar 3)) (gT 2 (gsCons (gN 1) (gsCons (gN 4) gsNil))) l_judge_keys_1)
    (dRet (dC .non)))
def l_judge_keys_3 : DTS := (dSeq (dAsg (dLcG (iSG (dVar 0)) (gN 5) dYes (dOp ixA (dVar 5) (dC (.int 2))) [5]) (gN 3))
    l_judge_keys_2)
def l_judge_keys_4 : DTS := (dSeq (dAsg (dCall sp_key_word [] (dCons (dVar 0) (dCons (dVar 1) dNil))) (gN 2))
    (dIf (dTest (dOp notNonD (dVar 2) (dC .non))) (dRet (dMake 12 sp_Fault___init__ (dCons (dVar 1) (dCons (dVar 2) dNil)))) dNext))
def l_judge_keys_5 : DTS := (dSeq (dFor (iR1 (dCB lenF (dCons (dVar 0) dNil))) (gN 1) l_judge_keys_4)
    l_judge_keys_3)
def t_judge_keys : DTS := (dSeq (dIf (dOr (dNot (dTest (dCall sp_is_sequence [] (dCons (dVar 0) dNil)))) (dTest (dOp gtD (dCB lenF (dCons (dVar 0) dNil)) (dC (.int 60))))) (dRet (dMake 12 sp_Fault___init__ (dCons (dUn negD (dC (.int 1))) (dCons (dC (.str "rows")) dNil)))) dNext)
    l_judge_keys_5)
theorem keyF_some {ys : List D} {p : Nat} {w : String} (hp : p < ys.length) (hn : ∀ j, j < p -> keyWAt ys j = none) (hw : keyWAt ys p = some w) : keyF ys = some (p, w) := by
  unfold keyF
  refine find_step (k := p) (x := p) (fun j hj x hx => ?_) (by rw [List.getElem?_range hp]) (by rw [hw]; rfl)
  have hj2 : j < ys.length := by omega
  rw [List.getElem?_range hj2] at hx
  cases hx
  rw [hn j hj]; rfl
theorem keyF_none {ys : List D} (hn : ∀ j, j < ys.length -> keyWAt ys j = none) : keyF ys = none := by
  unfold keyF
  refine List.findSome?_eq_none_iff.mpr fun j hj => ?_
  rw [hn j (List.mem_range.mp hj)]; rfl
theorem parF_some {ys : List D} {p : Nat} (hp : p < ys.length) (hn : ∀ j, j < p -> parB (kys ys) (byN (itm (ys.getD j .non) 2)) = false) (hw : parB (kys ys) (byN (itm (ys.getD p .non) 2)) = true) : parF ys = some p := by
  unfold parF
  rw [List.find?_range_eq_some]
  exact ⟨hw, List.mem_range.mpr hp, fun j hj => by rw [hn j hj]; rfl⟩
theorem parF_none {ys : List D} (hn : ∀ j, j < ys.length -> parB (kys ys) (byN (itm (ys.getD j .non) 2)) = false) : parF ys = none := by
  unfold parF
  refine List.find?_eq_none.mpr fun j hj => ?_
  rw [hn j (List.mem_range.mp hj)]; exact Bool.false_ne_true
theorem mk_fl {M : Mem} {Q : DV} {c : Nat} {o : D} (q : Q o M) : ∀ x, M x = none -> ((fun d M2 => d = D.non /\ frz (.ref x) M2 Q) .non (updM (updM M x (.obj c [] [])) x o)) := fun x hx => ⟨rfl, by simp only [frz, updM_updM, updM_same, delM_updM hx]; exact q⟩
theorem enum_at {l : List D} {done rest : List D} {y : D} (e : (l.zipIdx.map fun p => D.tup [.int (p.2 : Nat), p.1]) = done ++ y :: rest) : ∃ h : done.length < l.length, y = .tup [.int (done.length : Nat), l[done.length]] := by
  have hy : (l.zipIdx.map fun p => D.tup [.int (p.2 : Nat), p.1])[done.length]? = some y := by rw [e]; simp
  have hd : done.length < l.length := by have := congrArg List.length e; simp at this; omega
  rw [List.getElem?_map, List.getElem?_zipIdx, List.getElem?_eq_getElem hd] at hy
  exact ⟨hd, by simpa using hy.symm⟩
theorem cutD_one {xs : List D} : DL.cutD xs (some (-1)) none = xs.getLast?.toList := by
  unfold DL.cutD HT.sIx
  simp only [show ((-1 : Int) < 0) = True by simp, if_true]
  rw [List.take_of_length_le (by simp)]
  cases e : xs.getLast? with
  | none =>
    rw [List.getLast?_eq_none_iff.mp e]
    simp
  | some z =>
    obtain ⟨ys, rfl⟩ := List.getLast?_eq_some_iff.mp e
    have : ((-1 : Int) + (((ys ++ [z]).length : Nat) : Int)).toNat = ys.length := by simp; omega
    rw [this, List.drop_left']
    · rfl
    · rfl
theorem pure_judge_keys : ∀ ds M Q E, sp_judge_keys ds M Q E -> ds.length = 1 /\ t_judge_keys (dEnds Q E) (startD N_judge_keys ds) M := by
  rintro ds M Q E ⟨x, rfl, ⟨nx, hnx⟩, hr, hys, qq⟩
  refine ⟨rfl, ?_⟩
  have faulty : ∀ (ρ : DL.Env) (M1 : Mem), Keep M M1 -> keyJ (vw M x) = some (-1, "rows") -> dRet (dMake 12 sp_Fault___init__ (dCons (dUn negD (dC (.int 1))) (dCons (dC (.str "rows")) dNil))) { dEnds Q E with nx := l_judge_keys_5 (dEnds Q E) } ρ M1 := fun ρ M1 k1 e =>
    ⟨_, rfl, fun z hz => ⟨z, _, _, rfl, updM_same, mk_fl (by have := qq M1 k1; rw [e] at this; exact this) z hz⟩⟩
  refine ⟨_, rfl, x, nx, rfl, hnx, _, rfl, ?_⟩
  cases hs : seqs (vw M x) with
  | none =>
    rw [seqs_no hs hnx]
    exact faulty _ M (Keep.refl M) (by unfold keyJ; rw [hs])
  | some ys =>
    obtain ⟨n', hn', hb'⟩ := seqs_ty hs
    obtain rfl : nx = n' := Option.some.inj (hnx.symm.trans hn')
    rw [hb']
    obtain ⟨hpl, hby, hlen⟩ := hys ys hs
    refine ⟨_, rfl, .int (ys.length : Nat), seqs_len hs, .bl (decide (60 < (ys.length : Int))), rfl, _, rfl, ?_⟩
    by_cases h6 : 60 < ys.length
    · rw [decide_eq_true (by omega)]
      exact faulty _ M (Keep.refl M) (by unfold keyJ; rw [hs]; simp [h6])
    · rw [decide_eq_false (by omega)]
      have ej : keyJ (vw M x) = match keyF ys with
        | some q => some ((q.1 : Int), q.2)
        | none => (parF ys).map fun p => ((p : Int), "parent") := by unfold keyJ; rw [hs]; simp [h6]
      rw [ej] at qq
      refine ⟨_, rfl, .int (ys.length : Nat), seqs_len hs, _, rfl, by omega, by omega, ?_⟩
      refine forD_run _ (fun done ρ M1 => ∃ o1 o2 o3 o4 o5 o6, ρ = [some x, o1, o2, o3, o4, o5, o6] /\ Keep M M1 /\ ∀ j, j < done.length -> keyWAt ys j = none) ?_ ?_ ⟨_, _, _, _, _, _, rfl, Keep.refl M, fun j hj => by simp at hj⟩
      · rintro done y rest ρ M1 Nx e ⟨o1, o2, o3, o4, o5, o6, rfl, k1, hn⟩ nx
        obtain ⟨hlt, rfl⟩ := range_at e
        have hlt2 : done.length < ys.length := by simpa using hlt
        refine ⟨_, rfl, _, rfl, x, ys, done.length, rfl, by rw [k1.vw hr]; exact hs, hlt2, by omega, hpl, hby, fun j hj => keyW_none (hn j hj), fun a ea => ?_, fun M2 k2 => ?_⟩
        · have := hr a ea
          cases z : M a with
          | none => rw [z] at this; cases this
          | some d => rw [k1 a d z]; rfl
        · cases hw : keyWAt ys done.length with
          | none =>
            refine ⟨_, rfl, .bl false, rfl, false, rfl, nx _ _ ⟨_, _, _, _, _, _, rfl, k1.trans k2, fun j hj => ?_⟩⟩
            simp at hj
            by_cases hj2 : j < done.length
            · exact hn j hj2
            · rw [show j = done.length by omega]; exact hw
          | some w =>
            refine ⟨_, rfl, .bl true, rfl, true, rfl, _, rfl, _, rfl, fun z hz => ⟨z, _, _, rfl, updM_same, mk_fl ?_ z hz⟩⟩
            have := qq M2 (k1.trans k2)
            rw [keyF_some hlt2 hn hw] at this
            exact this
      · rintro ρ M1 ⟨o1, o2, o3, o4, o5, o6, rfl, k1, hn⟩
        have hn : ∀ j, j < ys.length -> keyWAt ys j = none := fun j hj => hn j (by simpa using hj)
        rw [keyF_none hn] at qq
        simp only at qq
        have hx1 : seqs (vw M1 x) = some ys := by rw [k1.vw hr]; exact hs
        have hK : ∀ z ∈ ys, KRow z := fun z hz => by
          obtain ⟨j, hj, rfl⟩ := List.getElem_of_mem hz
          have := keyW_none (hn j hj)
          simpa [List.getD, hj] using this
        refine ⟨_, rfl, ys, seqs_it hx1, fun c hc => ?_⟩
        refine lcG_fn (fun z => some (.byt (bA (byN (itm z 2))))) ys (by omega) hc (fun M3 h3 => by rw [(k1.trans (keep_off hc h3)).vw hr]; exact seqs_it hs) (fun z hz M3 T _ hT => ?_) ?_
        · obtain ⟨n', v', l', e1, e8, _, _, e3⟩ := krow_parts (hK z hz)
          refine ⟨_, rfl, .byt (bA (byN (itm z 2))), ?_, hT⟩
          rw [(hpl z hz).pl.vw M3]
          show ixA z (.int 2) = _
          rw [seqs_ix e1, e3, byN_bD e8]
          rfl
        have e3 : ys.filterMap (fun z => some (D.byt (bA (byN (itm z 2))))) = (kys ys).map D.byt := by rw [List.filterMap_eq_map', kys, List.map_map]; rfl
        rw [e3]
        have hkl : (kys ys).length = ys.length := by simp [kys]
        refine ⟨_, rfl, _, rfl, ?_⟩
        refine forD_run _ (fun done ρ M4 => ∃ o1 o2 o4 o5 o6, ρ = [some x, o1, o2, some (.lst ((kys ys).map D.byt)), o4, o5, o6] /\ Keep M M4 /\ ∀ j, j < done.length -> parB (kys ys) (byN (itm (ys.getD j .non) 2)) = false) ?_ ?_ ⟨_, _, _, _, _, rfl, k1, fun j hj => by simp at hj⟩
        · rintro done y rest ρ M4 Nx e ⟨o1, o2, o4, o5, o6, rfl, k4, hnp⟩ nx
          obtain ⟨hj, rfl⟩ := enum_at e
          simp only [List.length_map] at hj
          rw [hkl] at hj
          have hyj : ys[done.length] = ys.getD done.length .non := by simp [List.getD, hj]
          have hkj : ((kys ys).map D.byt)[done.length]'(by simp [kys]; exact hj) = bD (byN (itm (ys.getD done.length .non) 2)) := by
            rw [List.getElem_map]
            unfold kys
            rw [List.getElem_map, hyj]
            rfl
          rw [hkj]
          have hbj := hby _ (List.getElem_mem hj)
          rw [hyj] at hbj
          generalize hlj : byN (itm (ys.getD done.length .non) 2) = l at hbj
          have h8 : N8 l := by rw [<- hlj]; exact byN_8 _
          refine ⟨_, .inl rfl, rfl, _, _, rfl, _, _, rfl, rfl, ?_⟩
          refine ⟨_, rfl, l, rfl, h8, hbj, fun M5 k5 => ⟨.int (-1), rfl, -1, rfl, .lst ((shortK l).getLast?.toList.map bD), ?_, _, rfl, fun c hc => ?_⟩⟩
          · show some (D.lst (DL.cutD _ (some (-1)) none)) = _
            rw [cutD_one, List.getLast?_map]
            cases (shortK l).getLast? <;> rfl
          refine lcD_ix bD (fun m => some (.bl (hasB (kys ys) (bA m)))) _ (by cases (shortK l).getLast? <;> simp) hc (fun m hm M6 T k6 hT => ?_) fun M6 k6 => ?_
          · exact ⟨_, rfl, _, rfl, bA m, kys ys, rfl, .inl rfl, by rw [Bool.false_bne]; exact hT M6 (Keep.refl M6)⟩
          · have hpar : allF [.lst ((shortK l).getLast?.toList.filterMap fun m => some (D.bl (hasB (kys ys) (bA m))))] = some (.bl (!parB (kys ys) l)) := by
              unfold parB
              cases (shortK l).getLast? with
              | none => rfl
              | some m => simp [allF, blsOf]
            refine ⟨_, hpar, _, rfl, ?_⟩
            cases hp : parB (kys ys) l with
            | false =>
              refine nx _ _ ⟨_, _, _, _, _, rfl, (k4.trans k5).trans k6, fun j hj => ?_⟩
              simp at hj
              by_cases hj2 : j < done.length
              · exact hnp j hj2
              · rw [show j = done.length by omega, hlj]; exact hp
            | true =>
              refine ⟨_, rfl, fun z hz => ⟨z, _, _, rfl, updM_same, mk_fl ?_ z hz⟩⟩
              have := qq M6 ((k4.trans k5).trans k6)
              rw [parF_some hj hnp (by rw [hlj]; exact hp)] at this
              exact this
        · rintro ρ M4 ⟨o1, o2, o4, o5, o6, rfl, k4, hnp⟩
          have := qq M4 k4
          rw [parF_none fun j hj => hnp j (by simp [kys]; exact hj)] at this
          exact this
end LawProof
set_option Elab.async false
set_option linter.all false
set_option maxRecDepth 100000
set_option maxHeartbeats 4000000
set_option autoImplicit true
namespace LawProof
open PySem L2 DL FL
structure KR where
  nm : List Nat
  va : Int
  ky : List Nat
def KR.d (r : KR) : D := .tup [strD r.nm, .int r.va, bD r.ky]
structure KRs (X : List KR) : Prop where
  len : X.length <= 60
  row : ∀ r ∈ X, NameOk r.nm /\ -(10 ^ 30) <= r.va /\ r.va <= 10 ^ 30 /\ N8 r.ky /\ keyN r.ky = true /\ r.ky.length <= 100000
  nms : (X.map KR.nm).Nodup
  kys : (X.map KR.ky).Nodup
def KTabD (Y : List KR) (ks : List Key) (es : List D) : D := .obj 15 ["rows", "by_name"] [.tup (Y.map KR.d), .dK ks es]
def sp_KeyTable_put_rows : SpD := fun ds M Q _ => ∃ (x : Addr) (X : List KR), ds = [.ref x, .lst (X.map KR.d)] /\ M x = some (.obj 15 [] []) /\ KRs X /\ ∀ Y ks es M', Y.length = X.length -> M' x = some (KTabD Y ks es) -> (∀ b, b ≠ x -> ∀ e, M b = some e -> M' b = some e) -> Q .non M'
abbrev N_KeyTable_put_rows : List Str := ["self", "rows", "row"]
def t_KeyTable_put_rows : DTS := (dSeq (dFldSet [15] "rows" (dVar 0) (dCB tupF (dCons (dSortKB 2 (dCons (dVar 1) dNil)) dNil)))
    (dFldSet [15] "by_name" (dVar 0) (dDcG (iSG (dVar 1)) (gN 2) dYes (dOp ixA (dVar 2) (dC (.int 0))) (dVar 2) [2])))
theorem nm_kr (r : KR) : nmS r.d = r.nm := nm_strS r.nm
theorem pure_KeyTable_put_rows : ∀ ds M Q E, sp_KeyTable_put_rows ds M Q E -> ds.length = 2 /\ t_KeyTable_put_rows (dEnds Q E) (startD N_KeyTable_put_rows ds) M := by
  rintro ds M Q E ⟨x, X, rfl, hx, hX, q⟩
  refine ⟨rfl, ?_⟩
  have hl := hX.len
  let kf : D -> Array UInt8 := fun d => match d with
    | .tup [_, _, .byt b] => b
    | _ => #[]
  have srt : ((X.map KR.d).mergeSort fun a b => leByt (.byt (kf a)) (.byt (kf b))) = (X.mergeSort fun a b => leByt (.byt (kf a.d)) (.byt (kf b.d))).map KR.d := (List.map_mergeSort (f := KR.d) (s := fun a b => leByt (.byt (kf a)) (.byt (kf b))) (fun a _ b _ => rfl)).symm
  refine ⟨_, rfl, .lst (X.map KR.d), X.map KR.d, kf, rfl, rfl, by rw [size_line, List.length_map]; omega, fun z hz => ?_, ?_⟩
  · obtain ⟨r, _, rfl⟩ := List.mem_map.mp hz
    exact ⟨_, rfl, rfl⟩
  rw [srt]
  refine ⟨.tup ((X.mergeSort fun a b => leByt (.byt (kf a.d)) (.byt (kf b.d))).map KR.d), rfl, _, rfl, x, 15, [], [], rfl, hx, by simp, by simp, ?_⟩
  refine ⟨_, rfl, X.map KR.d, rfl, fun a ha => ?_⟩
  have hax : a ≠ x := fun z => by rw [z, updM_same] at ha; cases ha
  refine dcG_fn (fun d => strD (nmS d)) (fun d => d) (fun d => Sum.inr (S (nmS d))) (X.map KR.d) (by simp; omega) ha (fun M1 _ => rfl) ?_ (fun z hz => rfl) (fun z hz M1 T N hM hT => ?_) ?_
  · rw [List.map_map, List.nodup_iff_pairwise_ne, List.pairwise_map]
    have := hX.nms
    rw [List.nodup_iff_pairwise_ne, List.pairwise_map] at this
    refine this.imp fun h z => h ?_
    have := S_inj.mp (Sum.inr.inj z)
    rwa [nm_kr, nm_kr] at this
  · obtain ⟨r, _, rfl⟩ := List.mem_map.mp hz
    refine ⟨_, rfl, strD (nmS r.d), by rw [nm_kr]; rfl, _, rfl, hT⟩
  · refine ⟨_, rfl, x, 15, _, _, rfl, updM_same, by simp, by simp [setN], ?_⟩
    rw [updM_updM]
    refine q _ _ _ _ ?_ updM_same fun b hb e he => by rw [updM_ne hb]; exact he
    exact (List.mergeSort_perm _ _).length_eq
def sp_KeyTable___init__ : SpD := fun ds M Q _ => ∃ (x : Addr) (X : List KR), ds = [.ref x, .lst (X.map KR.d)] /\ M x = some (.obj 15 [] []) /\ KRs X /\ keyJ (.lst (X.map KR.d)) = none /\ ∀ Y ks es M', Y.length = X.length -> M' x = some (KTabD Y ks es) -> (∀ b, b ≠ x -> ∀ e, M b = some e -> M' b = some e) -> Q .non M'
abbrev N_KeyTable___init__ : List Str := ["self", "rows", "fault", "row"]
def l_KeyTable___init___1 : DTS := (dSeq (dIf (dTest (dOp notNonD (dVar 2) (dC .non))) (dRaise 28 ["place", "why"] (dCons (dUn (fldD [12] "place") (dVar 2)) (dCons (dUn (fldD [12] "word") (dVar 2)) dNil))) dNext)
    (dDrop (dMeth [(15, sp_KeyTable_put_rows)] "put_rows" (dVar 0) (dCons (dLcG (iSG (dVar 1)) (gN 3) dYes (dCB tupF (dCons (dVar 3) dNil)) [3]) dNil))))
def t_KeyTable___init__ : DTS := (dSeq (dAsg (dCall sp_judge_keys [] (dCons (dVar 1) dNil)) (gN 2))
    l_KeyTable___init___1)
theorem kr_pl (r : KR) (h : NameOk r.nm) : PlRow r.d := ⟨pl_of rfl (by simp [KR.d]), fun l e c hc => by
  cases e
  simp at hc
  rcases hc with rfl | rfl | rfl
  · exact pl_nm h
  · exact pl_of rfl (by simp)
  · exact pl_byt _⟩
theorem kr_byn (r : KR) (h : N8 r.ky) : byN (itm r.d 2) = r.ky := byN_bD h
theorem krs_hand {X : List KR} (h : KRs X) : (∀ y ∈ X.map KR.d, PlRow y) /\ (∀ y ∈ X.map KR.d, (byN (itm y 2)).length <= 100000) /\ (X.map KR.d).length <= 10000000 := by
  refine ⟨fun y hy => ?_, fun y hy => ?_, by have := h.len; simp; omega⟩
  · obtain ⟨r, hr, rfl⟩ := List.mem_map.mp hy
    exact kr_pl r (h.row r hr).1
  · obtain ⟨r, hr, rfl⟩ := List.mem_map.mp hy
    rw [kr_byn r (h.row r hr).2.2.2.1]
    exact (h.row r hr).2.2.2.2.2
theorem pure_KeyTable___init__ : ∀ ds M Q E, sp_KeyTable___init__ ds M Q E -> ds.length = 2 /\ t_KeyTable___init__ (dEnds Q E) (startD N_KeyTable___init__ ds) M := by
  rintro ds M Q E ⟨x, X, rfl, hx, hX, hj, q⟩
  refine ⟨rfl, ?_⟩
  have hl := hX.len
  obtain ⟨p1, p2, p3⟩ := krs_hand hX
  refine ⟨_, rfl, .lst (X.map KR.d), rfl, ⟨"list", rfl⟩, (fun a e => by cases e), (fun ys hs => by cases hs; exact ⟨p1, p2, p3⟩), fun M1 k1 => ?_⟩
  show l_KeyTable___init___1 _ [_, _, some (faultD (keyJ (.lst (X.map KR.d)))), _] M1
  rw [hj]
  have hx1 := k1 x _ hx
  refine ⟨_, rfl, .bl false, rfl, false, rfl, ?_⟩
  refine ⟨_, rfl, 15, [], [], sp_KeyTable_put_rows, vw_ref hx1, rfl, by simp, ?_⟩
  refine ⟨_, rfl, X.map KR.d, rfl, fun a ha => ?_⟩
  refine lcG_fn (fun z => some z) (X.map KR.d) (by simp; omega) ha (fun M2 h2 => rfl) (fun z hz M2 T h2 hT => ?_) ?_
  · obtain ⟨r, _, rfl⟩ := List.mem_map.mp hz
    exact ⟨_, rfl, r.d, rfl, hT⟩
  · rw [List.filterMap_some]
    exact ⟨x, X, rfl, hx1, hX, fun Y ks es M' h1 h2 kp => q Y ks es M' h1 h2 fun b hb e he => kp b hb e (k1 b e he)⟩
def sp_KeyTable_names : SpD := fun ds M Q _ => ∃ (o : D) (Y : List KR) (ks : List Key) (es : List D), ds = [o] /\ vw M o = KTabD Y ks es /\ Y.length <= 60 /\ (∀ a, o = .ref a -> (M a).isSome) /\ ∀ M', Keep M M' -> Q (.lst (Y.map fun r => strD r.nm)) M'
abbrev N_KeyTable_names : List Str := ["self", "row"]
def t_KeyTable_names : DTS := (dRet (dLc (iS (dUn (fldD [15] "rows") (dVar 0))) (gN 1) dYes (dOp ixA (dVar 1) (dC (.int 0))) [1]))
theorem pure_KeyTable_names : ∀ ds M Q E, sp_KeyTable_names ds M Q E -> ds.length = 1 /\ t_KeyTable_names (dEnds Q E) (startD N_KeyTable_names ds) M := by
  rintro ds M Q E ⟨o, Y, ks, es, rfl, ho, hl, hr, q⟩
  refine ⟨rfl, ?_⟩
  refine ⟨_, rfl, .tup (Y.map KR.d), by rw [ho]; rfl, _, rfl, fun a ha => ?_⟩
  refine lcD_ix KR.d (fun r => some (strD r.nm)) Y (by omega) ha (fun r hr M2 T k2 hT => ⟨_, rfl, strD r.nm, rfl, hT M2 (Keep.refl M2)⟩) fun M2 k2 => ?_
  rw [List.filterMap_eq_map']
  exact q M2 k2
def sp_Table___len__ : SpD := fun ds M Q _ => ∃ (o : D) (Y : List KR) (ks : List Key) (es : List D), ds = [o] /\ vw M o = KTabD Y ks es /\ Y.length <= 60 /\ (∀ a, o = .ref a -> (M a).isSome) /\ ∀ M', Keep M M' -> Q (.int (Y.length : Nat)) M'
abbrev N_Table___len__ : List Str := ["self"]
def t_Table___len__ : DTS := (dRet (dCB lenF (dCons (dMeth [(15, sp_KeyTable_names)] "names" (dVar 0) dNil) dNil)))
theorem pure_Table___len__ : ∀ ds M Q E, sp_Table___len__ ds M Q E -> ds.length = 1 /\ t_Table___len__ (dEnds Q E) (startD N_Table___len__ ds) M := by
  rintro ds M Q E ⟨o, Y, ks, es, rfl, ho, hl, hr, q⟩
  refine ⟨rfl, ?_⟩
  refine ⟨_, rfl, 15, _, _, sp_KeyTable_names, ho, rfl, by decide, o, Y, ks, es, rfl, ho, hl, hr, fun M1 k1 => ?_⟩
  exact ⟨.int (Y.length : Nat), by show lenF [.lst _] = _; simp, q M1 k1⟩
def lgP (ys : List D) : List Nat := (List.range ys.length).filter fun p => (shortK (byN (itm (ys.getD p .non) 2))).all fun m => hasB (kys ys) (bA m)
def sp_largest_keys : SpD := fun ds M Q E => ∃ (x : D), ds = [x] /\ (∃ n, tyName (vw M x) = some n) /\ (∀ a, x = .ref a -> (M a).isSome) /\ (∀ ys, seqs (vw M x) = some ys -> (∀ y ∈ ys, PlRow y) /\ (∀ y ∈ ys, (byN (itm y 2)).length <= 100000) /\ ys.length <= 10000000) /\
  ((∃ p w, keyJ (vw M x) = some (p, w) /\ neD (.str w) (.str "parent") = some (.bl true) /\ ∀ M', Keep M M' -> E 28 ["why", "place"] [.str w, .int p] M') \/
   (∃ ys, seqs (vw M x) = some ys /\ ys.length <= 60 /\ keyF ys = none /\ ∀ M', Keep M M' -> Q (.lst ((lgP ys).map nD)) M'))
abbrev N_largest_keys : List Str := ["rows", "fault", "known", "row", "place", "key", "one"]
def l_largest_keys_1 : DTS := (dSeq (dAsg (dLcG (iSG (dVar 0)) (gN 3) dYes (dOp ixA (dVar 3) (dC (.int 2))) [3]) (gN 2))
    (dRet (dLc (iEnT (dVar 2)) (gT 2 (gsCons (gN 4) (gsCons (gN 5) gsNil))) (dTest (dCB allF (dCons (dLc (iS (dCall sp_shorter_keys [] (dCons (dVar 5) dNil))) (gN 6) dYes (dBin (bInB false) (dVar 6) (dVar 2)) [6]) dNil))) (dVar 4) [4, 5])))
def l_largest_keys_2 : DTS := (dSeq (dIf (dAnd (dTest (dOp notNonD (dVar 1) (dC .non))) (dTest (dOp neD (dUn (fldD [12] "word") (dVar 1)) (dC (.str "parent"))))) (dRaise 28 ["place", "why"] (dCons (dUn (fldD [12] "place") (dVar 1)) (dCons (dUn (fldD [12] "word") (dVar 1)) dNil))) dNext)
    l_largest_keys_1)
def t_largest_keys : DTS := (dSeq (dAsg (dCall sp_judge_keys [] (dCons (dVar 0) dNil)) (gN 1))
    l_largest_keys_2)
theorem bls_map (bs : List Bool) : blsOf (bs.map D.bl) = some bs := by
  induction bs with
  | nil => rfl
  | cons b bs ih => simp [blsOf, ih]
theorem bls_allF (bs : List Bool) : allF [.lst (bs.map D.bl)] = some (.bl (bs.all id)) := by
  rw [allF_lst, bls_map]
  rfl
theorem keyF_at {ys : List D} (h : keyF ys = none) : ∀ j, j < ys.length -> keyWAt ys j = none := fun j hj => by
  unfold keyF at h
  have := List.findSome?_eq_none_iff.mp h j (List.mem_range.mpr hj)
  cases e : keyWAt ys j with
  | none => rfl
  | some w => rw [e] at this; cases this
theorem pure_largest_keys : ∀ ds M Q E, sp_largest_keys ds M Q E -> ds.length = 1 /\ t_largest_keys (dEnds Q E) (startD N_largest_keys ds) M := by
  rintro ds M Q E ⟨x, rfl, hty, hr, hys, hh⟩
  refine ⟨rfl, ?_⟩
  refine ⟨_, rfl, x, rfl, hty, hr, hys, fun M1 k1 => ?_⟩
  rcases hh with ⟨p, w, hj, hne, qe⟩ | ⟨ys, hs, hl, hF, q⟩
  · show l_largest_keys_2 _ [_, some (faultD (keyJ (vw M x))), _, _, _, _, _] M1
    rw [hj]
    refine ⟨_, rfl, .bl true, rfl, true, rfl, ?_⟩
    refine ⟨_, rfl, .str w, rfl, .bl true, hne, true, rfl, ?_⟩
    exact ⟨_, rfl, .int p, rfl, _, rfl, .str w, rfl, rfl, qe M1 k1⟩
  · have ej : keyJ (vw M x) = (parF ys).map fun p => ((p : Int), "parent") := by
      unfold keyJ; rw [hs]
      show (if 60 < ys.length then _ else _) = _
      rw [if_neg (by omega), hF]
    obtain ⟨hpl, hby, _⟩ := hys ys hs
    have go : ∀ o, l_largest_keys_1 (dEnds Q E) [some x, o, none, none, none, none, none] M1 := fun o => by
      have hx1 : seqs (vw M1 x) = some ys := by rw [k1.vw hr]; exact hs
      have hK : ∀ z ∈ ys, KRow z := fun z hz => by
        obtain ⟨j, hj, rfl⟩ := List.getElem_of_mem hz
        have := keyW_none (keyF_at hF j hj)
        simpa [List.getD, hj] using this
      refine ⟨_, rfl, ys, seqs_it hx1, fun c hc => ?_⟩
      refine lcG_fn (fun z => some (.byt (bA (byN (itm z 2))))) ys (by omega) hc (fun M3 h3 => by rw [(k1.trans (keep_off hc h3)).vw hr]; exact seqs_it hs) (fun z hz M3 T _ hT => ?_) ?_
      · obtain ⟨n', v', l', e1, e8, _, _, e3⟩ := krow_parts (hK z hz)
        refine ⟨_, rfl, .byt (bA (byN (itm z 2))), ?_, hT⟩
        rw [(hpl z hz).pl.vw M3]
        show ixA z (.int 2) = _
        rw [seqs_ix e1, e3, byN_bD e8]
        rfl
      have e3 : ys.filterMap (fun z => some (D.byt (bA (byN (itm z 2))))) = (kys ys).map D.byt := by rw [List.filterMap_eq_map', kys, List.map_map]; rfl
      rw [e3]
      have hkl : (kys ys).length = ys.length := by simp [kys]
      refine ⟨_, rfl, _, rfl, fun c2 hc2 => ?_⟩
      have ez : (((kys ys).map D.byt).zipIdx.map fun p => D.tup [.int (p.2 : Nat), p.1]) = (List.range ys.length).map fun p => D.tup [.int (p : Nat), bD (byN (itm (ys.getD p .non) 2))] := by
        refine List.ext_getElem (by simp [kys]) fun i h1 h2 => ?_
        simp only [List.length_map, List.length_range] at h2
        simp [kys, List.getD, h2]
        rfl
      rw [ez]
      refine lcD_ix (fun p : Nat => D.tup [.int (p : Nat), bD (byN (itm (ys.getD p .non) 2))]) (fun p => if ((shortK (byN (itm (ys.getD p .non) 2))).all fun m => hasB (kys ys) (bA m)) = true then some (nD p) else none) _ (by simp; omega) hc2 (fun p hp M2 T k2 hT => ?_) fun M2 k2 => ?_
      · have hp2 := List.mem_range.mp hp
        have hbj := hby (ys.getD p .non) (by simp [List.getD, hp2])
        generalize hlj : byN (itm (ys.getD p .non) 2) = l at hbj hT
        have h8 : N8 l := by rw [<- hlj]; exact byN_8 _
        refine ⟨_, .inl rfl, rfl, _, _, rfl, _, _, rfl, rfl, ?_⟩
        refine ⟨_, rfl, l, rfl, h8, hbj, fun M5 k5 => ⟨_, rfl, fun c3 hc3 => ?_⟩⟩
        refine lcD_ix bD (fun m => some (.bl (hasB (kys ys) (bA m)))) _ ?_ hc3 (fun m hm M6 T6 k6 hT6 => ?_) fun M6 k6 => ?_
        · have := cutK_len l []
          unfold shortK
          simp
          omega
        · exact ⟨_, rfl, _, rfl, bA m, kys ys, rfl, .inl rfl, by rw [Bool.false_bne]; exact hT6 M6 (Keep.refl M6)⟩
        · have hall : allF [.lst ((shortK l).filterMap fun m => some (D.bl (hasB (kys ys) (bA m))))] = some (.bl ((shortK l).all fun m => hasB (kys ys) (bA m))) := by
            rw [List.filterMap_eq_map', show ((shortK l).map fun m => D.bl (hasB (kys ys) (bA m))) = ((shortK l).map fun m => hasB (kys ys) (bA m)).map D.bl by rw [List.map_map]; rfl, bls_allF, List.all_map]
            rfl
          refine ⟨_, hall, _, rfl, ?_⟩
          have hT7 := hT M6 (k5.trans k6)
          cases hb : (shortK l).all fun m => hasB (kys ys) (bA m) with
          | true => rw [hb] at hT7; exact ⟨_, rfl, hT7⟩
          | false => rw [hb] at hT7; exact hT7
      · have e5 : (List.range ys.length).filterMap (fun p => if ((shortK (byN (itm (ys.getD p .non) 2))).all fun m => hasB (kys ys) (bA m)) = true then some (nD p) else none) = (lgP ys).map nD := by
          unfold lgP
          induction List.range ys.length with
          | nil => rfl
          | cons a l ih =>
            rw [List.filterMap_cons, List.filter_cons]
            split
            · rename_i h; split at h
              · cases h
              · rename_i h2; rw [if_neg h2, ih]
            · rename_i b h; split at h
              · rename_i h2; cases h; rw [if_pos h2, ih, List.map_cons]
              · cases h
        rw [e5]
        exact q M2 (k1.trans k2)
    show l_largest_keys_2 _ [_, some (faultD (keyJ (vw M x))), _, _, _, _, _] M1
    rw [ej]
    cases parF ys with
    | none => exact ⟨_, rfl, .bl false, rfl, false, rfl, go _⟩
    | some p =>
      refine ⟨_, rfl, .bl true, rfl, true, rfl, ?_⟩
      exact ⟨_, rfl, .str "parent", rfl, .bl false, rfl, false, rfl, go _⟩
end LawProof
set_option Elab.async false
set_option linter.all false
set_option maxRecDepth 100000
set_option maxHeartbeats 4000000
set_option autoImplicit true
namespace LawProof
open PySem L2 DL FL
def sp__law_rng : SpD := fun ds M Q _ => ∃ i : Int, ds = [.int i] /\ ∀ r M', M r = none -> Rn M' r -> (∀ b, b ≠ r -> M' b = M b) -> Q (.ref r) M'
abbrev N__law_rng : List Str := ["_law_cell"]
def t__law_rng : DTS := (dRet (dLstM (dCons (dCB absF (dCons (dVar 0) dNil)) (dCons (dOp modD (dCB intF (dCons (dVar 0) dNil)) (dC (.int 2147483629))) (dCons (dC (.int 0)) dNil)))))
theorem pure__law_rng : ∀ ds M Q E, sp__law_rng ds M Q E -> ds.length = 1 /\ t__law_rng (dEnds Q E) (startD N__law_rng ds) M := by
  rintro ds M Q E ⟨i, rfl, q⟩
  refine ⟨rfl, ?_⟩
  simp (disch := first | (simp; done) | omega) [t__law_rng, dLstM]
  refine fun r hr => q r _ hr ⟨_, _, _, updM_same, ?_, ?_, ?_, ?_⟩ (fun b hb => updM_ne hb) <;> first | omega | (split <;> omega)
def sp__law_draw : SpD := fun ds M Q _ => ∃ (r : Addr) (n : Int), ds = [.ref r, .int n] /\ Rn M r /\ 0 < n /\ n <= 10 ^ 30 /\ ∀ k M', 0 <= k -> k < n -> RTo M M' r -> Q (.int k) M'
abbrev N__law_draw : List Str := ["_law_rng_here", "_law_limit", "_law_digit", "_law_mixed"]
def t__law_draw : DTS := (dSeq (dIf (dTest (dOp geD (dOp ixA (dVar 0) (dC (.int 0))) (dOp powD (dC (.int 10)) (dC (.int 18))))) (dSeq (dAsg (dOp modD (dCB intF (dCons (dOp ixA (dVar 0) (dC (.int 0))) dNil)) (dVar 1)) (gN 2))
    (dSeq (dAsg (dOp fdivD (dOp ixA (dVar 0) (dC (.int 0))) (dVar 1)) (gSubL (dVar 0) (dC (.int 0))))
    (dRet (dVar 2)))) dNext)
    (dSeq (dAsg (dOp addD (dOp ixA (dVar 0) (dC (.int 2))) (dC (.int 1))) (gSubL (dVar 0) (dC (.int 2))))
    (dSeq (dAsg (dOp modD (dCB intF (dCons (dOp mulD (dOp addD (dOp addD (dOp ixA (dVar 0) (dC (.int 1))) (dOp mulD (dC (.int 7919)) (dOp ixA (dVar 0) (dC (.int 2))))) (dC (.int 1))) (dC (.int 48271))) dNil)) (dC (.int 2147483647))) (gN 3))
    (dSeq (dAsg (dOp modD (dCB intF (dCons (dOp mulD (dVar 3) (dOp addD (dOp fdivD (dVar 3) (dC (.int 1013))) (dC (.int 69621)))) dNil)) (dC (.int 2147483587))) (gN 3))
    (dRet (dOp modD (dCB intF (dCons (dOp modD (dCB intF (dCons (dOp addD (dOp fdivD (dVar 3) (dC (.int 7))) (dOp mulD (dOp modD (dCB intF (dCons (dVar 3) dNil)) (dC (.int 7919))) (dC (.int 40692)))) dNil)) (dC (.int 2147483399))) dNil)) (dVar 1)))))))
theorem pure__law_draw : ∀ ds M Q E, sp__law_draw ds M Q E -> ds.length = 2 /\ t__law_draw (dEnds Q E) (startD N__law_draw ds) M := by
  rintro ds M Q E ⟨r, n, rfl, ⟨a, b, c, hM, ha, hb, hb2, hc⟩, hn, hn2, q⟩
  refine ⟨rfl, ?_⟩
  by_cases ha2 : 1000000000000000000 <= a
  · simp (disch := first | (simp; done) | omega) [t__law_draw, vw_ref hM, ha2, hM, ixN]
    exact q _ _ (Int.emod_nonneg _ (by omega)) (Int.emod_lt_of_pos _ hn) (.put (Int.ediv_nonneg ha (by omega)) hb hb2 hc)
  · simp (disch := first | (simp; done) | omega) [t__law_draw, vw_ref hM, ha2, hM, ixN]
    exact q _ _ (Int.emod_nonneg _ (by omega)) (Int.emod_lt_of_pos _ hn) (.put ha hb hb2 (by omega))
def sp__law_pick : SpD := fun ds M Q _ => ∃ (r : Addr) (d : D) (xs : List D), ds = [.ref r, d] /\ SeqOf d xs /\ Rn M r /\ xs ≠ [] /\ xs.length < 1000 /\ ∀ x M', x ∈ xs -> RTo M M' r -> Q x M'
abbrev N__law_pick : List Str := ["_law_rng_here", "_law_items"]
def t__law_pick : DTS := (dRet (dOp ixA (dVar 1) (dCall sp__law_draw [] (dCons (dVar 0) (dCons (dCB lenF (dCons (dVar 1) dNil)) dNil)))))
theorem pure__law_pick : ∀ ds M Q E, sp__law_pick ds M Q E -> ds.length = 2 /\ t__law_pick (dEnds Q E) (startD N__law_pick ds) M := by
  rintro ds M Q E ⟨r, d, xs, rfl, hd, hr, h0, h1, q⟩
  have hl : 0 < xs.length := List.length_pos_iff.mpr h0
  refine ⟨rfl, ?_⟩
  simp only [t__law_pick, dRet, dOp, dVar, dCall, dCons, dCB, dNil]
  refine ⟨_, rfl, _, rfl, _, rfl, _, by simpa [hd.vw] using hd.len, r, _, rfl, hr, by omega, by omega, fun k M' k0 k1 hM => ⟨xs[k.toNat]'(by omega), ?_, ?_⟩⟩
  · rw [hd.vw, vw_int, hd.ix, atI_at k0 k1, List.getElem?_eq_getElem]
  · exact q _ _ (List.getElem_mem _) hM
def sp__law_value : SpD := fun ds M Q _ => ∃ r : Addr, ds = [.ref r] /\ Rn M r /\ ∀ (v : Int) (M' : Mem), -(10 ^ 30) <= v -> v <= 10 ^ 30 -> RTo M M' r -> Q (.int v) M'
abbrev N__law_value : List Str := ["_law_rng_here"]
def t__law_value : DTS := (dRet (dCall sp__law_pick [] (dCons (dVar 0) (dCons (dLst (dCons (dC (.int 0)) (dCons (dC (.int 1)) (dCons (dUn negD (dC (.int 1))) (dCons (dC (.int 7)) (dCons (dUn negD (dC (.int 30))) (dCons (dOp powD (dC (.int 10)) (dC (.int 30))) (dCons (dUn negD (dOp powD (dC (.int 10)) (dC (.int 30)))) (dCons (dOp subD (dCall sp__law_draw [] (dCons (dVar 0) (dCons (dC (.int 1000)) dNil))) (dC (.int 500))) dNil))))))))) dNil))))
theorem pickL {r : Addr} {xs : List D} {M : Mem} {Q : DV} {E : DEK} (hr : Rn M r) (h0 : xs ≠ []) (h1 : xs.length < 1000) (q : ∀ x M', x ∈ xs -> RTo M M' r -> Q x M') : sp__law_pick [.ref r, .lst xs] M Q E := ⟨r, _, xs, rfl, .inl rfl, hr, h0, h1, q⟩
theorem pure__law_value : ∀ ds M Q E, sp__law_value ds M Q E -> ds.length = 1 /\ t__law_value (dEnds Q E) (startD N__law_value ds) M := by
  rintro ds M Q E ⟨r, rfl, hr, q⟩
  refine ⟨rfl, ?_⟩
  have hp30 : (10 : Int) ^ 30 = 1000000000000000000000000000000 := by decide
  have e1 : powD (.int 10) (.int 30) = some (.int 1000000000000000000000000000000) := by rfl
  refine ⟨_, rfl, .int (-1), rfl, .int (-30), rfl, .int 1000000000000000000000000000000, e1, .int 1000000000000000000000000000000, e1, .int (-1000000000000000000000000000000), rfl, _, rfl, r, 1000, rfl, hr, by omega, by omega, fun k M1 k0 hk t1 => ⟨.int (k - 500), rfl, by simp, ?_⟩⟩
  refine pickL (E := E) t1.ok (by simp) (by simp) fun x M2 hx t2 => ?_
  have t := t1.trans t2
  simp only [List.mem_cons, List.not_mem_nil, or_false] at hx
  rcases hx with rfl | rfl | rfl | rfl | rfl | rfl | rfl | rfl <;> exact q _ M2 (by omega) (by omega) t
def sp__law_forest : SpD := fun ds M Q _ => ∃ (r : Addr) (n : Nat), ds = [.ref r, .int (n : Int)] /\ Rn M r /\ n <= 60 /\ ∀ kd vd ts fp M', Kids M' kd vd ts fp -> (∀ i ∈ inf ts, NameOk i.nm /\ -(10 ^ 30) <= i.va /\ i.va <= 10 ^ 30) -> (nmTs ts).length = n -> (∀ a ∈ fp, M a = none) -> RTo M M' r -> Q (.tup [.ref kd, .ref vd]) M'
abbrev N__law_forest : List Str := ["_law_rng_here", "_law_many", "_law_kids", "_law_values", "_law_names", "_law_k", "_law_name", "_law_parent"]
def l__law_forest_1 : DTS := (dSeq (dAsg (dCall sp__law_value [] (dCons (dVar 0) dNil)) (gSubN (dVar 3) (dVar 6)))
    (dDrop (dBM "list" φApp (dVar 4) (dCons (dVar 6) dNil))))
def l__law_forest_2 : DTS := (dSeq (dAsg (dLstM dNil) (gSubN (dVar 2) (dVar 6)))
    l__law_forest_1)
def l__law_forest_3 : DTS := (dSeq (dDrop (dBM "list" φIns (dOp ixNd (dVar 2) (dVar 7)) (dCons (dCall sp__law_draw [] (dCons (dVar 0) (dCons (dOp addD (dCB lenF (dCons (dOp ixNd (dVar 2) (dVar 7)) dNil)) (dC (.int 1))) dNil))) (dCons (dVar 6) dNil))))
    l__law_forest_2)
def l__law_forest_4 : DTS := (dSeq (dAsg (dCall sp__law_pick [] (dCons (dVar 0) (dCons (dOp addD (dOp addD (dOp addD (dLst (dCons (dC .non) dNil)) (dSl slD (dVar 4) (dPart (dUn negD (dC (.int 3)))) dNoPart)) (dBin bRepD (dSlM (dVar 4) (dPart (dUn negD (dC (.int 1)))) dNoPart) (dC (.int 2)))) (dSl slD (dVar 4) dNoPart (dPart (dC (.int 1))))) dNil))) (gN 7))
    l__law_forest_3)
def l__law_forest_5 : DTS := (dSeq (dAsg (dOp addD (dCall sp__law_pick [] (dCons (dVar 0) (dCons (dLst (dCons (dC (.str "a")) (dCons (dC (.str "b")) (dCons (dC (.str "node")) (dCons (dC (.str "z")) (dCons (dC (.str "longer")) dNil)))))) dNil))) (dCB strF (dCons (dVar 5) dNil))) (gN 6))
    l__law_forest_4)
def l__law_forest_6 : DTS := (dSeq (dFor (iR1 (dVar 1)) (gN 5) l__law_forest_5)
    (dRet (dTup (dCons (dVar 2) (dCons (dVar 3) dNil)))))
def t__law_forest : DTS := (dSeq (dPar3 2 3 4 (dCons (dDispN [((dC .non), (dLstM dNil))]) (dCons dDict0N (dCons (dLstM dNil) dNil))))
    l__law_forest_6)
theorem cut_sub {xs : List D} {lo hi : Option Int} {x : D} (h : x ∈ cutD xs lo hi) : x ∈ xs := List.mem_of_mem_drop (List.mem_of_mem_take h)
theorem cut_len (xs : List D) (lo hi : Option Int) : (cutD xs lo hi).length <= xs.length := by
  unfold cutD
  rw [List.length_take, List.length_drop]
  omega
theorem strF_dg {j : Nat} (h : j < 60) : strF [.int (j : Int)] = some (strD (dg j)) := by
  have hlog : (j : Int).natAbs.log2 < 1920 := by
    have : (j : Int).natAbs < 60 := by omega
    have h2 : ∀ j : Fin 60, j.val.log2 < 1920 := by decide +kernel
    exact h2 ⟨_, this⟩
  show (if _ then some (D.str _) else none) = _
  rw [if_pos hlog]
  exact congrArg (fun z => some (D.str z)) (S_of _)
section
variable {M M1 : Mem} {r kd vd nr : Addr} {es : List Ent} {vs : List (List Nat × Int)} {nl : List (List Nat)} {ts : List Tr} {En : DEnds} {o1 o5 o6 o7 : Option D}
abbrev lfE (r kd vd nr : Addr) (o1 o5 o6 o7 : Option D) : DL.Env := [some (.ref r), o1, some (.ref kd), some (.ref vd), some (.ref nr), o5, o6, o7]
theorem lf_3 {o : Option (List Nat)} {m : List Nat} (hr : Rn M r) (h : LF M M1 r kd vd nr es vs nl) (t : LT es vs nl ts) (hl : nl.length < 60) (hm : Nm nl.length m) (ho : o = none \/ ∃ x ∈ nl, o = some x)
    (q : ∀ es' vs' ts' M', LF M M' r kd vd nr es' vs' (nl ++ [m]) -> LT es' vs' (nl ++ [m]) ts' -> En.nx (lfE r kd vd nr o1 o5 (some (strD m)) (some (kD o))) M') :
    l__law_forest_3 En (lfE r kd vd nr o1 o5 (some (strD m)) (some (kD o))) M1 := by
  obtain ⟨e, he, rfl⟩ := t.at ho
  obtain ⟨nk, nk2⟩ := t.keys (by omega)
  have hnew := t.new hl hm
  obtain ⟨e1, e2, rfl⟩ := List.append_of_mem he
  have ix : ∀ {M2 : Mem} {l' : List (List Nat)}, LF M M2 r kd vd nr (e1 ++ e :: e2) vs nl -> ixNd (vw M2 (.ref kd)) (vw M2 (kD e.k)) = some (.ref e.a) := fun h2 => h2.kt.ix he nk
  have va : vw M1 (.ref e.a) = .lst (e.l.map strD) := vw_ref (h.kt.2.1 e he)
  have el : e.l.length <= 60 := by
    have hin : (e.k, e.l) ∈ ents ts := t.kp.subset (by simp)
    have hn := t.names.length_eq
    have kl : ∀ ts : List Tr, (ts.map nmT).length <= (nmTs ts).length := fun ts => by
      have := len_flat 0 ts
      simpa [nmTs] using this
    unfold ents at hin
    rcases List.mem_cons.mp hin with z | z
    · rw [(Prod.mk.inj z).2]
      have := kl ts
      omega
    · obtain ⟨i, hi, z⟩ := List.mem_map.mp z
      obtain ⟨us, L, hks⟩ := loc_inf (p := []) hi
      rw [<- (Prod.mk.inj z).2, hks]
      obtain ⟨pre, post, z1, _⟩ := L.inf (t.nd (by omega))
      have h1 := kl us
      have h2 : (inf ts).length = (nmTs ts).length := inf_len ts
      rw [z1] at h2
      simp [inf_len] at h2
      omega
  refine ⟨_, rfl, _, rfl, _, ix (l' := []) h, by rw [va]; rfl, _, rfl, _, rfl, _, rfl, _, ix (l' := []) h, .int (e.l.length : Nat), by rw [List.map_cons, va]; simp [lenF], _, rfl, r, _, rfl, h.rt.ok, by omega, by omega, fun k M2 k0 hk t2 => ?_⟩
  obtain ⟨k, rfl⟩ := Int.eq_ofNat_of_zero_le k0
  have h2 := h.rto hr t2
  refine ⟨_, rfl, e.a, e.l.map strD, (k : Int), strD m, rfl, rfl, h2.kt.2.1 e he, by rw [size_line, List.length_map]; omega, by omega, by omega, ?_⟩
  have ei : (e.l.map strD).take (k : Int).toNat ++ [strD m] ++ (e.l.map strD).drop (k : Int).toNat = (insL e.l k m).map strD := by simp [insL]
  rw [ei]
  have h3 := h2.ins hr (insL e.l k m)
  refine ⟨by simp, fun a ha => ?_⟩
  have hk2 : some m ∉ (e1 ++ ⟨e.k, e.a, insL e.l k m⟩ :: e2).map Ent.k := by
    have := nk2 m hnew
    simpa using this
  obtain ⟨⟨ep0, z⟩, _⟩ := h3.kt
  refine ⟨_, rfl, _, rfl, kd, ep0, (e1 ++ ⟨e.k, e.a, insL e.l k m⟩ :: e2).map fun e => (nkN e.k, .ref e.a), nkN (some m), rfl, ?_, rfl, ?_, fun ep => ?_⟩
  · have hka : kd ≠ a := fun z2 => (h3.new hr ha).1 (by rw [<- z2]; simp)
    rw [updM_ne hka]
    exact z
  · rw [size_line]
    have := t.kp.length_eq
    have h2 := t.names.length_eq
    simp only [ents, List.length_map, List.length_cons, List.length_append, inf_len] at this ⊢
    omega
  have h4 := h3.add hr hk2 ha ep
  show l__law_forest_1 En (lfE r kd vd nr o1 o5 (some (strD m)) (some (kD e.k))) _
  refine ⟨_, rfl, r, rfl, h4.rt.ok, fun v M5 v0 v1 t5 => ?_⟩
  have h5 := h4.rto hr t5
  obtain ⟨ep1, z1⟩ := h5.vt
  refine ⟨_, rfl, _, rfl, vd, ep1, vs.map fun p => (nkN (some p.1), .int p.2), nkN (some m), rfl, z1, rfl, ?_, fun ep2 => ?_⟩
  · rw [size_line]
    have := congrArg List.length t.vn
    simp at this ⊢
    omega
  have h6 := h5.val hr (v := v) (by rw [t.vn]; exact hnew) ep2
  have vn : vw (updM M5 vd (dNP ep2 (putN (vs.map fun p => (nkN (some p.1), .int p.2)) (nkN (some m)) (.int v)))) (.ref nr) = .lst (nl.map strD) := vw_ref h6.nm
  refine ⟨_, rfl, by rw [vn]; rfl, _, rfl, nr, nl.map strD, _, rfl, rfl, h6.nm, by rw [size_line, List.length_map]; omega, ?_⟩
  obtain ⟨ts', t'⟩ := t.leaf hl k hm v0 v1 a
  exact q _ _ ts' _ (h6.app hr m) t'
theorem lf_4 {m : List Nat} (hr : Rn M r) (h : LF M M1 r kd vd nr es vs nl) (t : LT es vs nl ts) (hl : nl.length < 60) (hm : Nm nl.length m)
    (q : ∀ o7 es' vs' ts' M', LF M M' r kd vd nr es' vs' (nl ++ [m]) -> LT es' vs' (nl ++ [m]) ts' -> En.nx (lfE r kd vd nr o1 o5 (some (strD m)) o7) M') :
    l__law_forest_4 En (lfE r kd vd nr o1 o5 (some (strD m)) o7) M1 := by
  have vn : vw M1 (.ref nr) = .lst (nl.map strD) := vw_ref h.nm
  have c1 := cut_len (nl.map strD) (some (-3)) none
  have c2 := cut_len (nl.map strD) (some (-1)) none
  have c3 := cut_len (nl.map strD) none (some 1)
  rw [List.length_map] at c1 c2 c3
  refine ⟨_, rfl, by simp, _, rfl, .int (-3), rfl, _, rfl, .lst (cutD (nl.map strD) (some (-3)) none), by rw [vn]; rfl, .lst ([D.non] ++ cutD (nl.map strD) (some (-3)) none), addD_lst (xs := [D.non]) (ys := cutD (nl.map strD) (some (-3)) none) (by simp; omega), ?_⟩
  refine ⟨_, rfl, .int (-1), rfl, _, rfl, nl.map strD, vn, fun a ha => ?_⟩
  refine ⟨a, cutD (nl.map strD) (some (-1)) none, 2, rfl, updM_same, rfl, by omega, by omega, by rw [size_line]; show _ * 2 <= _; omega, ?_⟩
  rw [delM_updM ha]
  have er : (List.replicate (2 : Int).toNat (cutD (nl.map strD) (some (-1)) none)).flatten = cutD (nl.map strD) (some (-1)) none ++ cutD (nl.map strD) (some (-1)) none := by
    show (List.replicate 2 _).flatten = _
    simp [List.replicate]
  rw [er]
  refine ⟨_, addD_lst (by simp; omega), _, rfl, _, rfl, .lst (cutD (nl.map strD) none (some 1)), by rw [vn]; rfl, _, addD_lst (by simp; omega), ?_⟩
  refine pickL (E := fun _ _ _ _ => True) h.rt.ok (by simp) (by simp; omega) fun x M2 hx t2 => ?_
  have : ∃ o, x = kD o /\ (o = none \/ ∃ y ∈ nl, o = some y) := by
    have sub : ∀ {lo hi : Option Int}, x ∈ cutD (nl.map strD) lo hi -> ∃ o, x = kD o /\ (o = none \/ ∃ y ∈ nl, o = some y) := fun hx => by
      obtain ⟨y, hy, rfl⟩ := List.mem_map.mp (cut_sub hx)
      exact ⟨some y, rfl, .inr ⟨y, hy, rfl⟩⟩
    simp only [List.mem_append, List.mem_singleton] at hx
    rcases hx with ((rfl | hx) | hx | hx) | hx
    · exact ⟨none, rfl, .inl rfl⟩
    all_goals exact sub hx
  obtain ⟨o, rfl, ho⟩ := this
  exact lf_3 hr (h.rto hr t2) t hl hm ho fun es' vs' ts' M' h' t' => q _ _ _ _ _ h' t'
end
theorem pure__law_forest : ∀ ds M Q E, sp__law_forest ds M Q E -> ds.length = 2 /\ t__law_forest (dEnds Q E) (startD N__law_forest ds) M := by
  rintro ds M Q E ⟨r, n, rfl, hr, hn, q⟩
  refine ⟨rfl, ?_⟩
  refine fun kd hkd ep => ⟨by simp, fun a0 ha0 => ⟨[(none, .ref a0)], rfl, rfl, by simp, by simp, ?_, fun ep' vd hvd ep2 => ⟨by simp, fun nr hnr => ⟨_, _, _, rfl, ?_⟩⟩⟩⟩
  · rw [updM_ne (fun z => by rw [<- z, updM_same] at ha0; cases ha0)]; exact updM_same
  have k0 : a0 ≠ kd := fun z => by rw [z, updM_same] at ha0; cases ha0
  have m0 : M a0 = none := by rw [updM_ne k0] at ha0; exact ha0
  have v0 : vd ≠ kd := fun z => by rw [z, updM_same] at hvd; cases hvd
  have v1 : vd ≠ a0 := fun z => by rw [z, updM_ne k0, updM_same] at hvd; cases hvd
  have mv : M vd = none := by rw [updM_ne v0, updM_ne v1, updM_ne v0] at hvd; exact hvd
  have n0 : nr ≠ vd := fun z => by rw [z, updM_same] at hnr; cases hnr
  have n1 : nr ≠ kd := fun z => by rw [z, updM_ne (Ne.symm v0), updM_same] at hnr; cases hnr
  have n2 : nr ≠ a0 := fun z => by rw [z, updM_ne (Ne.symm v1), updM_ne k0, updM_same] at hnr; cases hnr
  have mn : M nr = none := by rw [updM_ne n0, updM_ne n1, updM_ne n2, updM_ne n1] at hnr; exact hnr
  have ner : ∀ {a : Addr}, M a = none -> a ≠ r := fun h z => rn_some hr (z ▸ h)
  have h0 : LF M (updM (updM (updM (updM (updM M kd (dNP ep [])) a0 (.lst [])) kd (dNP ep' [(none, .ref a0)])) vd (dNP ep2 [])) nr (.lst [])) r kd vd nr [⟨none, a0, []⟩] [] [] := by
    refine ⟨⟨⟨ep', by rw [updM_ne (Ne.symm n1), updM_ne (Ne.symm v0), updM_same]; rfl⟩, fun e he => ?_, by simp [Ne.symm k0]⟩, ⟨ep2, by rw [updM_ne (Ne.symm n0), updM_same]; rfl⟩, updM_same, by simp [n0, n1, n2, v0, v1, Ne.symm k0], fun a ha => ?_, ?_⟩
    · rw [List.mem_singleton.mp he]
      show updM _ _ _ a0 = _
      rw [updM_ne (Ne.symm n2), updM_ne (Ne.symm v1), updM_ne k0, updM_same]; rfl
    · simp only [List.map_cons, List.map_nil, List.mem_cons, List.not_mem_nil, or_false] at ha
      rcases ha with rfl | rfl | rfl | rfl <;> assumption
    · exact (((((RTo.refl hr).upd hkd (ner hkd)).upd m0 (ner m0)).upd hkd (ner hkd)).upd mv (ner mv)).upd mn (ner mn)
  have t0 : LT [⟨none, a0, []⟩] [] [] [] := ⟨by simp [ents, inf_nil], by rw [inf_nil]; exact List.Perm.refl _, rfl, fun j x h => by simp at h, fun p h => by cases h⟩
  refine ⟨_, rfl, n, rfl, by omega, by omega, ?_⟩
  refine forD_run _ (fun done ρ M1 => ∃ es vs nl ts o5 o6 o7, LF M M1 r kd vd nr es vs nl /\ LT es vs nl ts /\ nl.length = done.length /\ ρ = lfE r kd vd nr (some (.int (n : Int))) o5 o6 o7) ?_ ?_ ⟨_, _, _, _, _, _, _, h0, t0, rfl, rfl⟩
  · rintro done x rest ρ M1 Nx hx ⟨es, vs, nl, ts, o5, o6, o7, h, t, hl, rfl⟩ nx
    obtain ⟨hd, rfl⟩ := range_at hx
    have hd' : done.length < n := by simpa using hd
    refine ⟨_, rfl, by simp, pickL (E := fun _ _ _ _ => True) h.rt.ok (by simp) (by simp) fun x M2 hx t2 => ?_⟩
    obtain ⟨p, rfl, hp, hp0, hpl⟩ : ∃ p, x = strD p /\ (∀ c ∈ p, isL c = true) /\ p ≠ [] /\ p.length <= 6 := by
      simp only [List.mem_cons, List.not_mem_nil, or_false] at hx
      rcases hx with rfl | rfl | rfl | rfl | rfl
      · exact ⟨[97], congrArg D.str (S_of "a"), by decide, by decide, by decide⟩
      · exact ⟨[98], congrArg D.str (S_of "b"), by decide, by decide, by decide⟩
      · exact ⟨[110, 111, 100, 101], congrArg D.str (S_of "node"), by decide, by decide, by decide⟩
      · exact ⟨[122], congrArg D.str (S_of "z"), by decide, by decide, by decide⟩
      · exact ⟨[108, 111, 110, 103, 101, 114], congrArg D.str (S_of "longer"), by decide, by decide, by decide⟩
    have dl : (dg done.length).length <= 2 := (dg_ok ⟨done.length, by omega⟩).2
    refine ⟨_, rfl, _, strF_dg (j := done.length) (by omega), strD (p ++ dg done.length), strD_add _ _ (by omega), ?_⟩
    refine lf_4 hr (h.rto hr t2) t (by omega) ⟨p, by rw [hl], hp, hp0, hpl⟩ fun o7 es' vs' ts' M' h' t' => nx _ _ ⟨_, _, _, _, _, _, _, h', t', by simp [hl], rfl⟩
  · rintro ρ M1 ⟨es, vs, nl, ts, o5, o6, o7, h, t, hl, rfl⟩
    have hl' : nl.length = n := by rw [hl]; simp
    obtain ⟨k1, k2, k3⟩ := h.kids t (by omega)
    refine ⟨_, rfl, _, rfl, by simp, ?_⟩
    exact q kd vd ts _ M1 k1 k2 (by omega) (fun a ha => h.fr a (List.mem_cons_of_mem _ ha)) h.rt
def InOk (M : Mem) (kd : Addr) (o : Option (List Nat)) (ps : List Tr) : Prop := ∃ vd ts fp, Kids M kd vd ts fp /\ (nmTs ts).length <= 1000 /\ ((o = none /\ ps = ts) \/ ∃ p va us, o = some p /\ Loc p va us ts /\ ps = [.mk p va us])
theorem inOk {M : Mem} {kd vd : Addr} {ts ps : List Tr} {fp : List Addr} {o : Option (List Nat)} (K : Kids M kd vd ts fp) (hl : (nmTs ts).length <= 1000) (h : (o = none /\ ps = ts) \/ ∃ p va us, o = some p /\ Loc p va us ts /\ ps = [.mk p va us]) : InOk M kd o ps := ⟨vd, ts, fp, K, hl, h⟩
def sp__law_inside : SpD := fun ds M Q _ => ∃ kd o ps, ds = [.ref kd, kD o] /\ InOk M kd o ps /\ ∀ M', Keep M M' -> Q (.lst ((nmTs ps).map strD)) M'
abbrev N__law_inside : List Str := ["_law_kids", "_law_name", "_law_found", "_law_waiting", "_law_here"]
def l__law_inside_1 : DTS := (dSeq (dDrop (dBM "list" φApp (dVar 2) (dCons (dVar 4) dNil)))
    (dDrop (dBM "list" φExt (dVar 3) (dCons (dUn revD (dOp ixNd (dVar 0) (dVar 4))) dNil))))
def l__law_inside_2 : DTS := (dSeq (dAsg (dBM "list" φPop (dVar 3) dNil) (gN 4))
    l__law_inside_1)
def l__law_inside_3 : DTS := (dSeq (dWhile (dTest (dBin bNeE (dVar 3) (dLst dNil))) l__law_inside_2)
    (dRet (dFrz (dVar 2))))
def t__law_inside : DTS := (dSeq (dPar 2 3 (dCons (dLstM dNil) (dCons (dIfE (dTest (dOp notNonD (dVar 1) (dC .non))) (dLstM (dCons (dVar 1) dNil)) (dRevM (dOp ixNd (dVar 0) (dC .non)))) dNil)))
    l__law_inside_3)
section
variable {M0 M1 : Mem} {kd vd fr wr : Addr} {ts : List Tr} {fp : List Addr} {E : DEnds} {o1 o4 : Option D}
abbrev liE (kd fr wr : Addr) (o1 o4 : Option D) : DL.Env := [some (.ref kd), o1, some (.ref fr), some (.ref wr), o4]
abbrev liW : DTT := dTest (dBin bNeE (dVar 3) (dLst dNil))
theorem in_trees (K : Kids M0 kd vd ts fp) (h0 : M0 fr = none) (h1 : M0 wr = none) (hne : fr ≠ wr) : ∀ (z : Nat) (us : List Tr), sizeOf us <= z -> ∀ (S fs : List D) (n : Nat) (M1 : Mem) (o4 : Option D), (∀ i ∈ inf us, i ∈ inf ts) -> M1 fr = some (.lst fs) -> M1 wr = some (.lst (S ++ ((us.map nmT).map strD).reverse)) -> Keep M0 M1 -> fs.length + (nmTs us).length <= 10000 -> S.length + (nmTs us).length <= 10000 ->
    (∀ M2 o4, M2 fr = some (.lst (fs ++ (nmTs us).map strD)) -> M2 wr = some (.lst S) -> Keep M0 M2 -> WhN liW l__law_inside_2 E n (liE kd fr wr o1 o4) M2) -> WhN liW l__law_inside_2 E (n + (nmTs us).length) (liE kd fr wr o1 o4) M1 := by
  intro z
  induction z with
  | zero =>
    intro us hz S fs n M1 o4 _ hf hw kp _ _ q
    cases us with
    | nil => exact q M1 o4 (by simpa [nmTs_nil] using hf) (by simpa using hw) kp
    | cons t us => simp at hz
  | succ z ih =>
    intro us hz S fs n M1 o4 hi hf hw kp l1 l2 q
    cases us with
    | nil => exact q M1 o4 (by simpa [nmTs_nil] using hf) (by simpa using hw) kp
    | cons t rest =>
      obtain ⟨m, v, ws⟩ := t
      rw [nmTs_cons] at l1 l2 q ⊢
      simp only [List.length_cons, List.length_append] at l1 l2 ⊢
      have hs : sizeOf ws <= z /\ sizeOf rest <= z := by simp at hz; omega
      rw [inf_cons] at hi
      have hw' : M1 wr = some (.lst ((S ++ ((rest.map nmT).map strD).reverse) ++ [strD m])) := by
        rw [hw]
        simp [nmT]
      have sw := sz_nm ws
      have sr := sz_nm rest
      rw [List.length_map] at sw sr
      rw [show n + ((nmTs ws).length + (nmTs rest).length + 1) = (n + (nmTs rest).length + (nmTs ws).length) + 1 by omega]
      have vw1 : vw M1 (.ref wr) = .lst ((S ++ ((rest.map nmT).map strD).reverse) ++ [strD m]) := vw_ref hw'
      refine ⟨_, rfl, by simp, _, [], vw1, rfl, .inr rfl, true, by simp, ?_⟩
      show if true = true then _ else _
      rw [if_pos rfl]
      refine ⟨_, rfl, by rw [vw1]; rfl, wr, _, strD m, rfl, rfl, hw', snoc_get _ _, ?_⟩
      rw [snoc_drop]
      have e1 : updM M1 wr (.lst (S ++ ((rest.map nmT).map strD).reverse)) fr = some (.lst fs) := by rw [updM_ne hne]; exact hf
      have vf : vw (updM M1 wr (.lst (S ++ ((rest.map nmT).map strD).reverse))) (.ref fr) = .lst fs := vw_ref e1
      refine ⟨_, rfl, by rw [vf]; rfl, _, rfl, fr, fs, strD m, rfl, rfl, e1, by rw [size_line]; omega, ?_⟩
      have kp2 : Keep M0 (updM (updM M1 wr (.lst (S ++ ((rest.map nmT).map strD).reverse))) fr (.lst (fs ++ [strD m]))) := keepU (keepU kp h1) h0
      obtain ⟨a, ix, ha, _⟩ := (K.keep kp2).at (k := some m) (l := ws.map nmT) (by
        unfold ents
        exact List.mem_cons_of_mem _ (List.mem_map.mpr ⟨⟨m, v, ws.map nmT⟩, hi _ (by simp), rfl⟩))
      have e2 : updM (updM M1 wr (.lst (S ++ ((rest.map nmT).map strD).reverse))) fr (.lst (fs ++ [strD m])) wr = some (.lst (S ++ ((rest.map nmT).map strD).reverse)) := by rw [updM_ne (Ne.symm hne), updM_same]
      refine ⟨_, rfl, by rw [vw_ref e2]; rfl, _, rfl, _, rfl, _, ix, .lst ((ws.map nmT).map strD).reverse, by rw [vw_ref ha]; rfl, wr, _, _, _, rfl, rfl, rfl, e2, ?_, ?_⟩
      · rw [size_line]
        simp only [List.length_append, List.length_reverse, List.length_map]
        omega
      refine ih ws hs.1 (S ++ ((rest.map nmT).map strD).reverse) (fs ++ [strD m]) (n + (nmTs rest).length) _ _ (fun i hh => hi i (by simp [hh])) (by rw [updM_ne hne, updM_same]) updM_same (keepU kp2 h1) (by simp; omega) (by simp; omega) fun M2 o4 g1 g2 g3 => ?_
      refine ih rest hs.2 S (fs ++ [strD m] ++ (nmTs ws).map strD) n M2 o4 (fun i hh => hi i (by simp [hh])) g1 g2 g3 (by simp; omega) (by omega) fun M3 o4 k1 k2 k3 => ?_
      refine q M3 o4 ?_ k2 k3
      rw [k1]
      simp
theorem mono_li : ∀ ρ M (K K' : Bool -> Mem -> Prop) X, (∀ b M', K b M' -> K' b M') -> liW ρ M K X -> liW ρ M K' X := fun ρ M K K' X h ⟨d, h1, h2, xs, ys, h3, h4, h5, b, h6, h7⟩ => ⟨d, h1, h2, xs, ys, h3, h4, h5, b, h6, h b _ h7⟩
end
theorem pure__law_inside : ∀ ds M Q E, sp__law_inside ds M Q E -> ds.length = 2 /\ t__law_inside (dEnds Q E) (startD N__law_inside ds) M := by
  rintro ds M Q E ⟨kd, o, ps, rfl, ⟨vd, ts, fp, K, hl, hps⟩, q⟩
  refine ⟨rfl, by simp, fun fr hfr => ?_⟩
  have hsub : ∀ i ∈ inf ps, i ∈ inf ts := by
    rcases hps with ⟨_, rfl⟩ | ⟨p, va, us, _, L, rfl⟩
    · exact fun i h => h
    · intro i h
      rw [inf_cons, inf_nil, List.append_nil] at h
      rcases List.mem_cons.mp h with rfl | h
      · exact L.info
      · exact L.sub i h
  have hlen : (nmTs ps).length <= 1000 := by
    rcases hps with ⟨_, rfl⟩ | ⟨p, va, us, _, L, rfl⟩
    · exact hl
    · have h1 := inf_len ts
      obtain ⟨pre, post, e1, _⟩ := L.inf (by obtain ⟨_, _, _, _, _, _, _, _, nd⟩ := K; exact nd)
      rw [e1] at h1
      rw [nmTs_cons, nmTs_nil]
      simp [inf_len] at h1 ⊢
      omega
  have kp0 : Keep M (updM M fr (.lst [])) := keepU (Keep.refl M) hfr
  have main : ∀ wr M1, wr ≠ fr -> M wr = none -> M1 fr = some (.lst []) -> M1 wr = some (.lst ((ps.map nmT).map strD).reverse) -> Keep M M1 -> l__law_inside_3 (dEnds Q E) (liE kd fr wr (some (kD o)) none) M1 := fun wr M1 hne hw e1 e2 kp => by
    refine while_n mono_li (n := 0 + (nmTs ps).length) ?_
    refine in_trees K hfr hw (Ne.symm hne) _ ps (Nat.le_refl _) [] [] 0 M1 none hsub e1 (by simpa using e2) kp (by simp; omega) (by simp; omega) fun M2 o4 g1 g2 g3 => ?_
    refine ⟨_, rfl, by simp, [], [], vw_ref g2, rfl, .inr rfl, false, rfl, ?_⟩
    show if false = true then _ else _
    rw [if_neg Bool.false_ne_true]
    refine ⟨_, rfl, ?_⟩
    show frz (.ref fr) _ _
    simp only [frz, g1]
    rw [List.nil_append]
    refine q _ fun c d hc => ?_
    have : c ≠ fr := fun z => by rw [z, hfr] at hc; cases hc
    rw [delM_ne this]
    exact g3 c d hc
  rcases hps with ⟨rfl, rfl⟩ | ⟨p, va, us, rfl, L, rfl⟩
  · obtain ⟨a, ix, ha, _⟩ := (K.keep kp0).at (k := none) (l := ps.map nmT) (by unfold ents; simp)
    refine ⟨_, rfl, .bl false, rfl, _, rfl, ?_⟩
    refine ⟨_, rfl, _, ix, (ps.map nmT).map strD, vw_ref ha, fun wr hwr => ⟨_, _, rfl, ?_⟩⟩
    have hne : wr ≠ fr := fun z => by rw [z, updM_same] at hwr; cases hwr
    have hw0 : M wr = none := by rw [updM_ne hne] at hwr; exact hwr
    exact main wr _ hne hw0 (by rw [updM_ne (Ne.symm hne), updM_same]) updM_same (keepU kp0 hw0)
  · refine ⟨_, rfl, .bl true, rfl, _, rfl, ?_⟩
    refine ⟨_, rfl, by simp, fun wr hwr => ⟨_, _, rfl, ?_⟩⟩
    have hne : wr ≠ fr := fun z => by rw [z, updM_same] at hwr; cases hwr
    have hw0 : M wr = none := by rw [updM_ne hne] at hwr; exact hwr
    exact main wr _ hne hw0 (by rw [updM_ne (Ne.symm hne), updM_same]) updM_same (keepU kp0 hw0)
end LawProof
set_option Elab.async false
set_option linter.all false
set_option maxRecDepth 100000
set_option maxHeartbeats 4000000
set_option autoImplicit true
namespace LawProof
open PySem L2 DL FL
def ParD (ts : List Tr) (d : D) : Prop := ∃ (ep : Nat) (ps : List (List Nat × Option (List Nat))), d = dNP ep (ps.map fun p => (nkN (some p.1), kD p.2)) /\ ps.Perm ((ents ts).flatMap fun e => e.2.map fun x => (x, e.1))
def sp__law_parents : SpD := fun ds M Q _ => ∃ kd vd ts fp, ds = [.ref kd] /\ Kids M kd vd ts fp /\ (nmTs ts).length <= 1000 /\ ∀ d M', Keep M M' -> ParD ts d -> Q d M'
abbrev N__law_parents : List Str := ["_law_kids", "_law_found", "_law_parent", "_law_child"]
def l__law_parents_1 : DTS := (dAsg (dVar 2) (gSubN (dVar 1) (dVar 3)))
def l__law_parents_2 : DTS := (dForG (iSG (dOp ixNd (dVar 0) (dVar 2))) (gN 3) l__law_parents_1)
def t__law_parents : DTS := (dSeq (dAsg dDict0N (gN 1))
    (dSeq (dForG (iKN (dVar 0)) (gN 2) l__law_parents_2)
    (dRet (dFrz (dVar 1)))))
theorem flat_fst (l : List (Option (List Nat) × List (List Nat))) : (l.flatMap fun e => e.2.map fun x => (x, e.1)).map Prod.fst = l.flatMap (·.2) := by
  induction l with
  | nil => rfl
  | cons e l ih => rw [List.flatMap_cons, List.flatMap_cons, List.map_append, ih, List.map_map]; congr 1; exact List.map_id _
theorem par_nd {ts : List Tr} (nd : (nmTs ts).Nodup) {ps : List (List Nat × Option (List Nat))} (h : ps.Perm ((ents ts).flatMap fun e => e.2.map fun x => (x, e.1))) : (ps.map Prod.fst).Nodup := by
  rw [(h.map Prod.fst).nodup_iff, flat_fst, (ents_perm ts).nodup_iff]
  exact nd
abbrev lpE (kd fd : Addr) (o2 o3 : Option D) : DL.Env := [some (.ref kd), some (.ref fd), o2, o3]
theorem pure__law_parents : ∀ ds M Q E, sp__law_parents ds M Q E -> ds.length = 1 /\ t__law_parents (dEnds Q E) (startD N__law_parents ds) M := by
  rintro ds M Q E ⟨kd, vd, ts, fp, rfl, K, hl, q⟩
  refine ⟨rfl, fun fd hfd ep0 => ?_⟩
  have kp0 : Keep M (updM M fd (dNP ep0 [])) := keepU (Keep.refl M) hfd
  obtain ⟨es, vs, KT1, VT1, h3, rfl, hperm, h5, nd⟩ := id K
  have hL : (es.flatMap fun e => e.l.map fun x => (x, e.k)).Perm ((ents ts).flatMap fun e => e.2.map fun x => (x, e.1)) := by
    have := hperm.flatMap_right (fun e : Option (List Nat) × List (List Nat) => e.2.map fun x => (x, e.1))
    rwa [List.flatMap_map] at this
  have hnd := par_nd nd hL
  have hlen : (es.flatMap fun e => e.l.map fun x => (x, e.k)).length <= 1000 := by
    have h1 := (hL.map Prod.fst).length_eq
    rw [flat_fst, (ents_perm ts).length_eq, List.length_map] at h1
    omega
  have ndk : (es.map Ent.k).Nodup := by
    have := (hperm.map (·.1)).nodup_iff.mpr (ents_nd nd)
    rwa [List.map_map] at this
  obtain ⟨⟨ep, hkd⟩, hcell, hndA⟩ := id KT1
  have kne : kd ≠ fd := fun z => by rw [z, hfd] at hkd; cases hkd
  have same : ∀ {M2 : Mem}, (∀ b, b ≠ fd -> M2 b = M b) -> ∀ e ∈ es, M2 e.a = M e.a := fun {M2} h e he => h e.a fun z => by have := hcell e he; rw [z, hfd] at this; cases this
  have KT2 : ∀ {M2 : Mem}, (∀ b, b ≠ fd -> M2 b = M b) -> FL.KT M2 kd es := fun {M2} h => KT1.frame fun a ha => by
    rcases List.mem_cons.mp ha with rfl | ha
    · exact h _ kne
    · obtain ⟨e, he, rfl⟩ := List.mem_map.mp ha
      exact same h e he
  have s0 : ∀ b, b ≠ fd -> updM M fd (dNP ep0 []) b = M b := fun b hb => updM_ne hb
  refine ⟨_, rfl, ep, _, _, by rw [vw_ref (show updM M fd (dNP ep0 []) kd = _ from (s0 kd kne).trans hkd)], ?_⟩
  have ex : ((es.map fun e => (nkN e.k, D.ref e.a)).map (·.1)).map nkD = es.map fun e => kD e.k := by
    rw [List.map_map, List.map_map]
    exact List.map_congr_left fun e _ => nkD_nkN e.k
  rw [ex]
  refine forG_run _ (fun done ρ M2 => (∀ b, b ≠ fd -> M2 b = M b) /\ ∃ ep' o2 o3, ρ = lpE kd fd o2 o3 /\ M2 fd = some (dNP ep' (((es.take done.length).flatMap fun e => e.l.map fun x => (x, e.k)).map fun p => (nkN (some p.1), kD p.2)))) ?_ ?_ ⟨s0, ep0, none, none, rfl, updM_same⟩
  · rintro done x rest ρ M2 Nx hx ⟨h2, ep', o2, o3, rfl, hd⟩ nx
    have hkd2 := (h2 kd kne).trans hkd
    refine ⟨by rw [vw_ref hkd2], ?_⟩
    have hi : done.length < es.length := by
      have := congrArg List.length hx
      simp at this
      omega
    obtain ⟨e, he⟩ : ∃ e, es[done.length]? = some e := ⟨_, List.getElem?_eq_getElem hi⟩
    have hem := List.mem_of_getElem? he
    have hxe : x = kD e.k := by
      have := congrArg (fun l => l[done.length]?) hx
      simp [he] at this
      exact this.symm
    subst hxe
    have hca : M2 e.a = some (.lst (e.l.map strD)) := by rw [same h2 e hem]; exact hcell e hem
    have etk : es.take (done ++ [kD e.k]).length = es.take done.length ++ [e] := by
      rw [List.length_append, List.length_singleton, List.take_add_one, he]
      rfl
    obtain ⟨A, hA⟩ : ∃ A, A = (es.take done.length).flatMap fun e => e.l.map fun x => (x, e.k) := ⟨_, rfl⟩
    have hsplit : ∃ C, (es.flatMap fun e => e.l.map fun x => (x, e.k)) = A ++ ((e.l.map fun x => (x, e.k)) ++ C) := by
      refine ⟨(es.drop (done.length + 1)).flatMap fun e => e.l.map fun x => (x, e.k), ?_⟩
      conv => lhs; rw [<- List.take_append_drop done.length es]
      rw [List.flatMap_append, hA]
      congr 1
      rw [List.drop_eq_getElem_cons hi, List.flatMap_cons]
      have : es[done.length] = e := (List.getElem?_eq_some_iff.mp he).2
      rw [this]
    obtain ⟨C, hC⟩ := hsplit
    rw [hC] at hnd hlen
    rw [etk] at nx
    rw [<- hA] at hd
    show l__law_parents_2 _ (lpE kd fd (some (kD e.k)) o3) M2
    refine ⟨_, rfl, _, rfl, .ref e.a, (KT2 h2).ix hem ndk, e.l.map strD, by rw [vw_ref hca]; rfl, ?_⟩
    refine forG_run _ (fun done2 ρ M3 => (∀ b, b ≠ fd -> M3 b = M b) /\ ∃ ep' o3, ρ = lpE kd fd (some (kD e.k)) o3 /\ M3 fd = some (dNP ep' ((A ++ (e.l.take done2.length).map fun x => (x, e.k)).map fun p => (nkN (some p.1), kD p.2)))) ?_ ?_ ⟨h2, ep', o3, rfl, by simpa using hd⟩
    · rintro done2 y rest2 ρ M3 Nx2 hy ⟨h3, ep2, o3, rfl, hd3⟩ nx2
      refine ⟨by rw [vw_ref (show M3 e.a = _ from (same h3 e hem).trans (hcell e hem))]; rfl, ?_⟩
      have hj : done2.length < e.l.length := by
        have := congrArg List.length hy
        simp at this
        omega
      obtain ⟨n, hn⟩ : ∃ n, e.l[done2.length]? = some n := ⟨_, List.getElem?_eq_getElem hj⟩
      have hyn : y = strD n := by
        have := congrArg (fun l => l[done2.length]?) hy
        simp [hn] at this
        exact this.symm
      subst hyn
      have etk2 : e.l.take (done2 ++ [strD n]).length = e.l.take done2.length ++ [n] := by
        rw [List.length_append, List.length_singleton, List.take_add_one, hn]
        rfl
      rw [etk2] at nx2
      have hnew : nkN (some n) ∉ ((A ++ (e.l.take done2.length).map fun x => (x, e.k)).map fun p => (nkN (some p.1), kD p.2)).map (·.1) := fun z => by
        rw [List.map_map] at z
        obtain ⟨p, hp, ep⟩ := List.mem_map.mp z
        have hpn : p.1 = n := Option.some.inj (nkN_inj.mp ep)
        have hdr : e.l = e.l.take done2.length ++ n :: e.l.drop (done2.length + 1) := by
          conv => lhs; rw [<- List.take_append_drop done2.length e.l]
          congr 1
          rw [List.drop_eq_getElem_cons hj]
          congr 1
          exact (List.getElem?_eq_some_iff.mp hn).2
        have hnd2 := hnd
        rw [hdr] at hnd2
        have e3 : A ++ ((List.map (fun x => (x, e.k)) (e.l.take done2.length ++ n :: e.l.drop (done2.length + 1))) ++ C) = (A ++ (e.l.take done2.length).map fun x => (x, e.k)) ++ (n, e.k) :: ((e.l.drop (done2.length + 1)).map (fun x => (x, e.k)) ++ C) := by simp
        rw [e3, List.map_append, List.map_cons, List.nodup_append] at hnd2
        exact hnd2.2.2 p.1 (List.mem_map_of_mem hp) n (by simp) hpn
      refine ⟨_, rfl, _, rfl, _, rfl, fd, ep2, _, nkN (some n), rfl, hd3, rfl, ?_, fun ep3 => ?_⟩
      · rw [size_line]
        have h7 : (e.l.take done2.length).length <= e.l.length := by simp; omega
        simp at hlen h7 ⊢
        omega
      · rw [putN_new hnew]
        refine nx2 _ _ ⟨fun b hb => by rw [updM_ne hb]; exact h3 b hb, ep3, _, rfl, ?_⟩
        rw [updM_same]
        simp
    · rintro ρ M3 ⟨h3, ep2, o3, rfl, hd3⟩
      refine ⟨by rw [vw_ref (show M3 e.a = _ from (same h3 e hem).trans (hcell e hem))]; rfl, ?_⟩
      refine nx _ _ ⟨h3, ep2, _, o3, rfl, ?_⟩
      rw [hd3, List.length_map, List.take_length, List.flatMap_append, <- hA]
      simp
  · rintro ρ M2 ⟨h2, ep', o2, o3, rfl, hd⟩
    have hkd2 := (h2 kd kne).trans hkd
    refine ⟨by rw [vw_ref hkd2], ?_⟩
    refine ⟨_, rfl, ?_⟩
    rw [List.length_map, List.take_length] at hd
    show frz (.ref fd) _ _
    simp only [frz, hd]
    refine q _ _ (fun c d hc => ?_) ⟨ep', _, rfl, hL⟩
    have : c ≠ fd := fun z => by rw [z, hfd] at hc; cases hc
    rw [delM_ne this, h2 c this]
    exact hc
def sp__law_line : SpD := fun ds M Q _ => ∃ (d : D) (ts : List Tr) (n : List Nat) (c : List (List Nat)), ds = [d, strD n] /\ ParD ts d /\ (nmTs ts).Nodup /\ (n, c) ∈ chT [] ts /\ c.length <= 1000 /\ ∀ M', Keep M M' -> Q (.lst (c.reverse.map strD)) M'
abbrev N__law_line : List Str := ["_law_parents_here", "_law_name", "_law_found", "_law_here"]
def l__law_line_1 : DTS := (dSeq (dDrop (dBM "list" φApp (dVar 2) (dCons (dVar 3) dNil)))
    (dAsg (dOp ixNd (dVar 0) (dVar 3)) (gN 3)))
def l__law_line_2 : DTS := (dSeq (dWhile (dTest (dOp notNonD (dVar 3) (dC .non))) l__law_line_1)
    (dRet (dUn revD (dVar 2))))
def t__law_line : DTS := (dSeq (dPar 2 3 (dCons (dLstM dNil) (dCons (dOp ixNd (dVar 0) (dVar 1)) dNil)))
    l__law_line_2)
theorem ParD.at {ts : List Tr} {d : D} {n : List Nat} {c : List (List Nat)} (h : ParD ts d) (nd : (nmTs ts).Nodup) (hc : (n, c) ∈ chT [] ts) (M : Mem) : ixNd (vw M d) (vw M (strD n)) = some (kD c.head?) /\ ∀ p c', c = p :: c' -> (p, c') ∈ chT [] ts := by
  obtain ⟨ep, ps, rfl, hp⟩ := h
  have ndp := par_nd nd hp
  have look : ∀ k : Option (List Nat), (n, k) ∈ ps -> ixNd (vw M (dNP ep (ps.map fun p => (nkN (some p.1), kD p.2)))) (vw M (strD n)) = some (kD k) := fun k hk => by
    show (nkO (kD (some n))).bind (fun k => atK k _ _) = _
    rw [nkO_kD, Option.bind_some, List.map_map, List.map_map]
    have nd2 : (ps.map fun e => nkN (some e.1)).Nodup := by
      rw [List.nodup_iff_pairwise_ne, List.pairwise_map] at ndp ⊢
      exact ndp.imp fun h z => h (Option.some.inj (nkN_inj.mp z))
    exact atK_map (f := fun e : List Nat × Option (List Nat) => nkN (some e.1)) (g := fun e => kD e.2) (fun _ _ _ _ => trivial) hk nd2
  rcases chT_up _ ts [] (Nat.le_refl _) _ hc with ⟨h1, h2⟩ | ⟨p, c', l, h1, h2, i, h3, h4, h5, h6⟩
  · simp only at h1 h2
    subst h1
    refine ⟨look none (hp.symm.subset ?_), fun p c' e => (by cases e)⟩
    unfold ents
    rw [List.flatMap_cons, List.mem_append]
    exact .inl (List.mem_map_of_mem (f := fun x => (x, (none : Option (List Nat)))) h2)
  · simp only at h1 h6
    subst h1
    refine ⟨look (some p) (hp.symm.subset ?_), fun p2 c2 e => by cases e; exact h2⟩
    unfold ents
    rw [List.flatMap_cons, List.mem_append, List.flatMap_map]
    refine .inr (List.mem_flatMap.mpr ⟨i, h3, ?_⟩)
    rw [h4, h5]
    exact List.mem_map_of_mem (f := fun x => (x, some p)) h6
section
variable {M0 M1 : Mem} {fr : Addr} {d : D} {ts : List Tr} {En : DEnds} {o1 : Option D}
abbrev lnE (d : D) (o1 : Option D) (fr : Addr) (h : Option (List Nat)) : DL.Env := [some d, o1, some (.ref fr), some (kD h)]
abbrev lnW : DTT := dTest (dOp notNonD (dVar 3) (dC .non))
theorem mono_ln : ∀ ρ M (K K' : Bool -> Mem -> Prop) X, (∀ b M', K b M' -> K' b M') -> lnW ρ M K X -> lnW ρ M K' X := fun ρ M K K' X h ⟨d, h1, e, h2, b, h3, h4⟩ => ⟨d, h1, e, h2, b, h3, h b _ h4⟩
theorem ln_go (hp : ParD ts d) (nd : (nmTs ts).Nodup) : ∀ (c : List (List Nat)) (acc : List (List Nat)) (M1 : Mem), (∀ p c', c = p :: c' -> (p, c') ∈ chT [] ts) -> M1 fr = some (.lst (acc.map strD)) -> acc.length + c.length <= 1000 -> (∀ b, b ≠ fr -> M1 b = M0 b) ->
    (∀ M2, M2 fr = some (.lst ((acc ++ c).map strD)) -> (∀ b, b ≠ fr -> M2 b = M0 b) -> En.nx (lnE d o1 fr none) M2) -> WhN lnW l__law_line_1 En c.length (lnE d o1 fr c.head?) M1
  | [], acc, M1, _, hf, _, hs, q => by
    refine ⟨_, rfl, .bl false, rfl, false, rfl, ?_⟩
    show if false = true then _ else _
    rw [if_neg Bool.false_ne_true]
    exact q M1 (by simpa using hf) hs
  | p :: c, acc, M1, hup, hf, hl, hs, q => by
    refine ⟨_, rfl, .bl true, rfl, true, rfl, ?_⟩
    show if true = true then _ else _
    rw [if_pos rfl]
    obtain ⟨ix, up⟩ := hp.at nd (hup p c rfl) (updM M1 fr (.lst (acc.map strD ++ [strD p])))
    refine ⟨_, rfl, by rw [vw_ref hf]; rfl, _, rfl, fr, _, strD p, rfl, rfl, hf, by rw [size_line, List.length_map]; simp at hl; omega, ?_⟩
    refine ⟨_, rfl, _, rfl, kD c.head?, ix, ?_⟩
    refine ln_go hp nd c (acc ++ [p]) _ up (by rw [updM_same]; simp) (by simp at hl ⊢; omega) (fun b hb => by rw [updM_ne hb]; exact hs b hb) fun M2 h1 h2 => q M2 (by simpa using h1) h2
end
theorem pure__law_line : ∀ ds M Q E, sp__law_line ds M Q E -> ds.length = 2 /\ t__law_line (dEnds Q E) (startD N__law_line ds) M := by
  rintro ds M Q E ⟨d, ts, n, c, rfl, hp, nd, hc, hl, q⟩
  refine ⟨rfl, by simp, fun fr hfr => ?_⟩
  obtain ⟨ix, up⟩ := hp.at nd hc (updM M fr (.lst []))
  refine ⟨_, rfl, _, rfl, kD c.head?, ix, _, _, rfl, ?_⟩
  refine while_n mono_ln (n := c.length) ?_
  refine ln_go (M0 := M) (ts := ts) hp nd c [] _ up (by rw [updM_same]; rfl) (by simpa using hl) (fun b hb => updM_ne hb) fun M2 h1 h2 => ?_
  refine ⟨_, rfl, .lst (c.reverse.map strD), ?_, q M2 fun b e he => ?_⟩
  · rw [vw_ref h1, List.map_reverse]
    rfl
  · rw [h2 b fun z => by rw [z, hfr] at he; cases he]
    exact he
end LawProof
set_option Elab.async false
set_option linter.all false
set_option maxRecDepth 100000
set_option maxHeartbeats 4000000
set_option autoImplicit true
namespace LawProof
open PySem L2 DL FL
def sp__law_label : SpD := fun ds M Q _ => ∃ r, ds = [.ref r] /\ Rn M r /\ ∀ l M', Lab l -> l.length <= 5 -> l.head? ≠ some 101 -> RTo M M' r -> Q (.lst (l.map nD)) M'
abbrev N__law_label : List Str := ["_law_rng_here", "_law_ahead", "_law_turn"]
def t__law_label : DTS := (dSeq (dAsg (dLc (iR1 (dCall sp__law_pick [] (dCons (dVar 0) (dCons (dLst (dCons (dC (.int 0)) (dCons (dC (.int 0)) (dCons (dC (.int 0)) (dCons (dC (.int 1)) (dCons (dC (.int 1)) (dCons (dC (.int 2)) (dCons (dC (.int 4)) dNil)))))))) dNil)))) (gN 2) dYes (dCall sp__law_pick [] (dCons (dVar 0) (dCons (dLst (dCons (dC (.int 1)) (dCons (dC (.int 1)) (dCons (dC (.int 3)) (dCons (dC (.int 5)) (dCons (dC (.int 127)) (dCons (dC (.int 253)) (dCons (dC (.int 255)) (dCons (dC (.int 255)) dNil))))))))) dNil))) [2]) (gN 1))
    (dRet (dOp addD (dVar 1) (dLst (dCons (dCall sp__law_pick [] (dCons (dVar 0) (dCons (dLst (dCons (dC (.int 2)) (dCons (dC (.int 2)) (dCons (dC (.int 4)) (dCons (dC (.int 6)) (dCons (dC (.int 128)) (dCons (dC (.int 252)) (dCons (dC (.int 254)) (dCons (dC (.int 254)) dNil))))))))) dNil))) dNil)))))
theorem pure__law_label : ∀ ds M Q E, sp__law_label ds M Q E -> ds.length = 1 /\ t__law_label (dEnds Q E) (startD N__law_label ds) M := by
  rintro ds M Q E ⟨r, rfl, hr, q⟩
  refine ⟨rfl, _, rfl, by simp, pickL (E := E) hr (by simp) (by simp) fun x M1 hx t1 => ?_⟩
  obtain ⟨n, rfl, hn⟩ : ∃ n : Nat, x = .int (n : Int) /\ n <= 4 := by
    simp only [List.mem_cons, List.not_mem_nil, or_false] at hx
    rcases hx with rfl | rfl | rfl | rfl | rfl | rfl | rfl
    · exact ⟨0, rfl, by omega⟩
    · exact ⟨0, rfl, by omega⟩
    · exact ⟨0, rfl, by omega⟩
    · exact ⟨1, rfl, by omega⟩
    · exact ⟨1, rfl, by omega⟩
    · exact ⟨2, rfl, by omega⟩
    · exact ⟨4, rfl, by omega⟩
  refine ⟨_, rfl, by omega, by omega, fun a ha => ?_⟩
  have har : a ≠ r := fun z => by
    have := t1.ok.ne ha
    exact this z.symm
  refine lcD_run _ (fun done acc M2 => ∃ p : List Nat, acc = p.map nD /\ p.length = done.length /\ (∀ x ∈ p, x % 2 = 1 /\ x < 256 /\ x ≠ 101) /\ RTo M1 M2 r) ?_ ?_ ⟨[], rfl, rfl, (fun _ h => nomatch h), (RTo.refl t1.ok).upd ha har⟩
  · rintro done x rest acc M2 Nx hx hM2 ⟨p, rfl, hp, ho, t2⟩ nx
    have hdn : done.length < n := by
      have := congrArg List.length hx
      simp at this
      omega
    refine ⟨_, rfl, by simp, pickL (E := E) t2.ok (by simp) (by simp) fun y M3 hy t3 => ?_⟩
    obtain ⟨m, rfl, hm, hm2⟩ : ∃ m : Nat, y = nD m /\ m % 2 = 1 /\ m < 256 /\ m ≠ 101 := by
      simp only [List.mem_cons, List.not_mem_nil, or_false] at hy
      rcases hy with rfl | rfl | rfl | rfl | rfl | rfl | rfl | rfl
      · exact ⟨1, rfl, by omega, by omega, by omega⟩
      · exact ⟨1, rfl, by omega, by omega, by omega⟩
      · exact ⟨3, rfl, by omega, by omega, by omega⟩
      · exact ⟨5, rfl, by omega, by omega, by omega⟩
      · exact ⟨127, rfl, by omega, by omega, by omega⟩
      · exact ⟨253, rfl, by omega, by omega, by omega⟩
      · exact ⟨255, rfl, by omega, by omega, by omega⟩
      · exact ⟨255, rfl, by omega, by omega, by omega⟩
    refine ⟨_, t3.keep1 hM2 har, by simp; omega, nx _ _ updM_same ⟨p ++ [m], by simp, by simp [hp], fun z hz => ?_, ?_⟩⟩
    · rcases List.mem_append.mp hz with z1 | z1
      · exact ho z z1
      · rw [List.mem_singleton.mp z1]; exact ⟨hm, hm2⟩
    · exact (t2.trans t3).upd ha har
  · rintro acc M2 hM2 ⟨p, rfl, hp, ho, t2⟩
    have t2' := t2.del ha har
    refine ⟨_, rfl, _, rfl, by simp, pickL (E := E) t2'.ok (by simp) (by simp) fun y M3 hy t3 => ?_⟩
    obtain ⟨m, rfl, hm, hm1, hm2⟩ : ∃ m : Nat, y = nD m /\ m % 2 = 0 /\ 0 < m /\ m < 256 := by
      simp only [List.mem_cons, List.not_mem_nil, or_false] at hy
      rcases hy with rfl | rfl | rfl | rfl | rfl | rfl | rfl | rfl
      · exact ⟨2, rfl, by omega, by omega, by omega⟩
      · exact ⟨2, rfl, by omega, by omega, by omega⟩
      · exact ⟨4, rfl, by omega, by omega, by omega⟩
      · exact ⟨6, rfl, by omega, by omega, by omega⟩
      · exact ⟨128, rfl, by omega, by omega, by omega⟩
      · exact ⟨252, rfl, by omega, by omega, by omega⟩
      · exact ⟨254, rfl, by omega, by omega, by omega⟩
      · exact ⟨254, rfl, by omega, by omega, by omega⟩
    have hpl : p.length <= 4 := by simp at hp; omega
    refine ⟨by simp, _, addD_lst (by simp; omega), ?_⟩
    have := q (p ++ [m]) M3 ⟨p, m, rfl, fun x hx => ⟨(ho x hx).1, (ho x hx).2.1⟩, hm, hm1, hm2⟩ (by simp; omega) (fun z => by
      cases p with
      | nil => simp at z; omega
      | cons y p => simp at z; exact (ho y (by simp)).2.2 z) ((t1.trans t2').trans t3)
    simpa using this
def labD (l : List Nat) : D := .lst (l.map nD)
def sp__law_labels : SpD := fun ds M Q _ => ∃ (r : Addr) (n : Nat), ds = [.ref r, .int (n : Int)] /\ Rn M r /\ n <= 60 /\ ∀ (ls : List (List Nat)) M', ls.length = n -> ls.Nodup -> (∀ l ∈ ls, LabD l) -> RTo M M' r -> Q (.lst (ls.map labD)) M'
abbrev N__law_labels : List Str := ["_law_rng_here", "_law_many", "_law_found", "_law_k", "_law_label_here"]
def l__law_labels_1 : DTS := (dSeq (dAsg (dCall sp__law_label [] (dCons (dVar 0) dNil)) (gN 4))
    (dDrop (dBM "list" φApp (dVar 2) (dCons (dIfE (dTest (dBin (bInQ false) (dVar 4) (dVar 2))) (dOp addD (dLst (dCons (dC (.int 101)) (dCons (dOp addD (dOp mulD (dC (.int 2)) (dVar 3)) (dC (.int 1))) dNil))) (dVar 4)) (dVar 4)) dNil))))
def l__law_labels_2 : DTS := (dSeq (dFor (iR1 (dVar 1)) (gN 3) l__law_labels_1)
    (dRet (dSorted (dVar 2))))
def t__law_labels : DTS := (dSeq (dAsg (dLstM dNil) (gN 2))
    l__law_labels_2)
def pyI (i : Nat) : PyData := .int (i : Int)
def pyL (l : List Nat) : PyData := .list (l.map pyI)
theorem toPyXs_nats (l : List Nat) : toPyXs (l.map nD) = some (l.map pyI) := by
  induction l with
  | nil => rfl
  | cons a l ih => simp only [List.map_cons, toPyXs, nD, toPyX]; rw [show toPyXs (l.map nD) = _ from ih]; rfl
theorem toPyX_lab (l : List Nat) : toPyX (labD l) = some (pyL l) := by
  unfold labD pyL
  simp only [toPyX, toPyXs_nats]; rfl
theorem toPyXs_lab (Ls : List (List Nat)) : toPyXs (Ls.map labD) = some (Ls.map pyL) := by
  induction Ls with
  | nil => rfl
  | cons a l ih => simp only [List.map_cons, toPyXs, toPyX_lab, ih]; rfl
theorem eqv_ints : ∀ a b : List Nat, PyData.eqvAll (a.map pyI) (b.map pyI) = decide (a = b)
  | [], [] => by simp [PyData.eqvAll]
  | [], b :: _ => by simp [PyData.eqvAll]
  | a :: _, [] => by simp [PyData.eqvAll]
  | a :: as, b :: bs => by
    simp only [List.map_cons, PyData.eqvAll, eqv_ints as bs, pyI, PyData.eqv]
    rw [Bool.eq_iff_iff]
    simp
    omega
theorem eqv_pyL (a b : List Nat) : PyData.eqv (pyL a) (pyL b) = decide (a = b) := by
  unfold pyL
  simp only [PyData.eqv]
  exact eqv_ints a b
theorem pyL_plain (l : List Nat) : (pyL l).plain = true := by
  unfold pyL
  simp only [PyData.plain]
  induction l with
  | nil => rfl
  | cons a l ih => simp only [List.map_cons, PyData.plainAll, pyI, PyData.plain, ih]; rfl
theorem pyLs_plain (Ls : List (List Nat)) : PyData.plainAll (Ls.map pyL) = true := by
  induction Ls with
  | nil => rfl
  | cons a l ih => simp only [List.map_cons, PyData.plainAll, pyL_plain, ih]; rfl
theorem pyL_depth (l : List Nat) : (pyL l).depth <= 1 := by
  unfold pyL
  simp only [PyData.depth]
  have : PyData.depthAll (l.map pyI) = 0 := by
    induction l with
    | nil => rfl
    | cons a l ih => simp only [List.map_cons, PyData.depthAll, pyI, PyData.depth, ih]; rfl
  omega
theorem any_pyL (Ls : List (List Nat)) (l : List Nat) : ((Ls.map pyL).any fun y => PyData.eqv y (pyL l)) = decide (l ∈ Ls) := by
  rw [List.any_map, Bool.eq_iff_iff]
  simp only [List.any_eq_true, Function.comp_apply, eqv_pyL, decide_eq_true_eq]
  exact ⟨fun ⟨x, hx, e⟩ => e ▸ hx, fun h => ⟨l, h, rfl⟩⟩
theorem alike_ints : ∀ (a b : List Nat), PySem.W.alikeAll (a.map pyI) (b.map pyI) = true
  | [], _ => by simp [PySem.W.alikeAll]
  | _ :: _, [] => by simp [PySem.W.alikeAll]
  | a :: as, b :: bs => by simp only [List.map_cons, PySem.W.alikeAll, pyI, PySem.W.alike, Bool.true_and]; exact alike_ints as bs
theorem labs_sort (Ls : List (List Nat)) : SortBy (Ls.map labD) (PySem.W.dataLe false encX) := by
  have en : ∀ x ∈ Ls.map labD, ∃ l, x = labD l /\ encX x = pyL l := fun x hx => by
    obtain ⟨l, _, rfl⟩ := List.mem_map.mp hx
    exact ⟨l, rfl, by unfold encX; rw [toPyX_lab]; rfl⟩
  refine .py _ encX (fun x hx => ?_) (fun d hd d' hd' => ?_) (.inr fun d hd => ?_) (fun x hx => ?_)
  · obtain ⟨l, rfl, e⟩ := en x hx
    rw [e]; exact toPyX_lab l
  · obtain ⟨x, hx, rfl⟩ := List.mem_map.mp hd
    obtain ⟨x', hx', rfl⟩ := List.mem_map.mp hd'
    obtain ⟨l, _, e⟩ := en x hx
    obtain ⟨l', _, e'⟩ := en x' hx'
    rw [e, e']
    unfold pyL
    simp only [PySem.W.alike]
    exact alike_ints _ _
  · obtain ⟨x, hx, rfl⟩ := List.mem_map.mp hd
    obtain ⟨l, _, e⟩ := en x hx
    rw [e]
    exact ⟨fun z => (by cases z), fun xs z => (by cases z)⟩
  · obtain ⟨l, _, e⟩ := en x hx
    rw [e]
    have := pyL_depth l
    omega
theorem pure__law_labels : ∀ ds M Q E, sp__law_labels ds M Q E -> ds.length = 2 /\ t__law_labels (dEnds Q E) (startD N__law_labels ds) M := by
  rintro ds M Q E ⟨r, n, rfl, hr, hn, q⟩
  refine ⟨rfl, by simp, fun f hf => ?_⟩
  have hfr : f ≠ r := fun z => by obtain ⟨a, b, c, h, _⟩ := hr; rw [z, h] at hf; cases hf
  refine ⟨_, rfl, _, rfl, by omega, by omega, ?_⟩
  refine forD_run _ (fun done ρ M1 => ∃ Ls o3 o4, ρ = [some (.ref r), some (.int (n : Int)), some (.ref f), o3, o4] /\ M1 f = some (.lst (Ls.map labD)) /\ Ls.length = done.length /\ Ls.Nodup /\ (∀ l ∈ Ls, LabD l /\ (l.head? = some 101 -> ∃ j, j < done.length /\ l[1]? = some (2 * j + 1))) /\ RTo M M1 r) ?_ ?_ ⟨[], _, _, rfl, updM_same, rfl, .nil, (fun _ h => nomatch h), (RTo.refl hr).upd hf hfr⟩
  · rintro done y rest ρ M1 Nx e ⟨Ls, o3, o4, rfl, h1, h2, h3, h4, t1⟩ nx
    obtain ⟨hlt, rfl⟩ := range_at e
    have hlt2 : done.length < n := by simpa using hlt
    refine ⟨_, rfl, r, rfl, t1.ok, fun l M2 hl h5 hh t2 => ?_⟩
    have hf2 := t2.keep1 h1 hfr
    refine ⟨_, rfl, by rw [vw_ref hf2]; rfl, ?_⟩
    refine ⟨_, rfl, _, rfl, pyL l, Ls.map labD, Ls.map pyL, vw_ref hf2, toPyX_lab l, toPyXs_lab Ls, pyL_plain l, pyLs_plain Ls, by have := pyL_depth l; omega, _, rfl, ?_⟩
    rw [any_pyL, Bool.false_bne]
    have hlen : (Ls.map labD).length < sizeLine := by rw [size_line, List.length_map]; omega
    have inv : ∀ l' : List Nat, LabD l' -> (l'.head? = some 101 -> l'[1]? = some (2 * done.length + 1)) -> l' ∉ Ls -> Nx [some (.ref r), some (.int (n : Int)), some (.ref f), some (.int (done.length : Nat)), some (labD l)] (updM M2 f (.lst (Ls.map labD ++ [labD l']))) := fun l' k1 k2 k3 => by
      refine nx _ _ ⟨Ls ++ [l'], _, _, rfl, by rw [updM_same]; simp, by simp [h2], ?_, fun x hx => ?_, (t1.trans t2).upd hf hfr⟩
      · rw [List.nodup_append]
        exact ⟨h3, by simp, fun x hx y hy e => k3 (by simp at hy; rw [<- hy, <- e]; exact hx)⟩
      · rcases List.mem_append.mp hx with hx | hx
        · obtain ⟨z1, z2⟩ := h4 x hx
          refine ⟨z1, fun z => ?_⟩
          obtain ⟨j, hj, e⟩ := z2 z
          exact ⟨j, by simp; omega, e⟩
        · obtain rfl := List.mem_singleton.mp hx
          exact ⟨k1, fun z => ⟨done.length, by simp, k2 z⟩⟩
    by_cases hm : l ∈ Ls
    · rw [decide_eq_true hm]
      show if true = true then _ else _
      rw [if_pos rfl]
      refine ⟨_, rfl, _, mulD_int (by omega), _, rfl, by rw [size_line]; simp, _, rfl, _, addD_lst (by simp; omega), ?_⟩
      have e9 : D.lst ([D.int 101, D.int (2 * ((done.length : Nat) : Int) + 1)] ++ l.map nD) = labD (101 :: (2 * done.length + 1) :: l) := rfl
      refine ⟨f, _, labD (101 :: (2 * done.length + 1) :: l), rfl, by rw [<- e9], hf2, hlen, ?_⟩
      obtain ⟨o, e, rfl, k1, k2, k3, k4⟩ := hl
      refine inv _ ⟨⟨101 :: (2 * done.length + 1) :: o, e, rfl, fun x hx => ?_, k2, k3, k4⟩, by simp at h5 ⊢; omega⟩ (fun _ => rfl) fun z => ?_
      · simp only [List.mem_cons] at hx
        rcases hx with rfl | rfl | hx
        · omega
        · omega
        · exact k1 x hx
      · obtain ⟨j, hj, e8⟩ := (h4 _ z).2 rfl
        simp at e8
        omega
    · rw [decide_eq_false hm]
      show if false = true then _ else _
      rw [if_neg Bool.false_ne_true]
      refine ⟨_, rfl, f, _, labD l, rfl, rfl, hf2, hlen, ?_⟩
      exact inv l ⟨hl, by omega⟩ (fun z => absurd z hh) hm
  · rintro ρ M1 ⟨Ls, o3, o4, rfl, h1, h2, h3, h4, t1⟩
    simp at h2
    refine ⟨_, rfl, Ls.map labD, _, vw_ref h1, by rw [size_line, List.length_map]; omega, labs_sort Ls, ?_⟩
    have pm : ((Ls.map labD).mergeSort (PySem.W.dataLe false encX)).Perm (Ls.map labD) := List.mergeSort_perm _ _
    obtain ⟨ls, e, pl⟩ : ∃ ls : List (List Nat), (Ls.map labD).mergeSort (PySem.W.dataLe false encX) = ls.map labD /\ ls.Perm Ls := by
      refine ⟨Ls.mergeSort fun a b => PySem.W.dataLe false encX (labD a) (labD b), ?_, List.mergeSort_perm _ _⟩
      exact (List.map_mergeSort (f := labD) (s := PySem.W.dataLe false encX) (fun a _ b _ => rfl)).symm
    rw [e]
    refine q ls M1 (by rw [pl.length_eq]; exact h2) (pl.nodup_iff.mpr h3) (fun l hl => (h4 l (pl.mem_iff.mp hl)).1) t1
end LawProof
set_option Elab.async false
set_option linter.all false
set_option maxRecDepth 100000
set_option maxHeartbeats 4000000
set_option autoImplicit true
namespace LawProof
open PySem L2 DL FL
def kyD (k : List (List Nat)) : D := .lst (k.map labD)
def KeyD (ts : List Tr) (K : Nam -> List (List Nat)) (d : D) : Prop := ∃ (ep : Nat) (qs : KyS), d = dNP ep (qs.map fun q => (nkN (some q.1), kyD q.2)) /\ (qs.map Prod.fst).Nodup /\ ∀ n ∈ nmTs ts, (n, K n) ∈ qs
def sp__law_keys : SpD := fun ds M Q _ => ∃ (r kd vd : Addr) (ts : List Tr) (fp : List Addr), ds = [.ref r, .ref kd] /\ Rn M r /\ Kids M kd vd ts fp /\ (nmTs ts).length <= 60 /\ ∀ d K M', KeyD ts K d -> KeyF ts K -> RTo M M' r -> Q d M'
abbrev N__law_keys : List Str := ["_law_rng_here", "_law_kids", "_law_found", "_law_parent", "_law_name", "_law_label_here"]
def l__law_keys_1 : DTS := (dSeq (dDrop (dPopN (dVar 2) (dCons (dC .non) dNil)))
    (dRet (dFrz (dVar 2))))
def l__law_keys_2 : DTS := (dAsg (dOp addD (dOp ixNd (dVar 2) (dVar 3)) (dLst (dCons (dVar 5) dNil))) (gSubN (dVar 2) (dVar 4)))
def l__law_keys_3 : DTS := (dForG (iZpG (dOp ixNd (dVar 1) (dVar 3)) (dCall sp__law_labels [] (dCons (dVar 0) (dCons (dCB lenF (dCons (dOp ixNd (dVar 1) (dVar 3)) dNil)) dNil)))) (gT 2 (gsCons (gN 4) (gsCons (gN 5) gsNil))) l__law_keys_2)
def l__law_keys_4 : DTS := (dSeq (dFor (iS (dOp addD (dLst (dCons (dC .non) dNil)) (dCall sp__law_inside [] (dCons (dVar 1) (dCons (dC .non) dNil))))) (gN 3) l__law_keys_3)
    l__law_keys_1)
def t__law_keys : DTS := (dSeq (dAsg (dDispN [((dC .non), (dLstM dNil))]) (gN 2))
    l__law_keys_4)
def lsD (a0 : Addr) (qs : KyS) : List (NKey × D) := (none, .ref a0) :: qs.map fun q => (nkN (some q.1), kyD q.2)
theorem ks_at {M : Mem} {f a0 : Addr} {ep : Nat} {qs : KyS} {o : Option Nam} {k : List (List Nat)} (hf : M f = some (dNP ep (lsD a0 qs))) (h0 : M a0 = some (.lst [])) (nd : (qs.map Prod.fst).Nodup) (h : KAt qs o k) :
    ∃ z, ixNd (vw M (.ref f)) (vw M (kD o)) = some z /\ vw M z = kyD k := by
  have key : ∀ {o : Option Nam} {d : D}, (o, d) ∈ ((none, D.ref a0) :: qs.map fun q => (some q.1, kyD q.2) : List (Option Nam × D)) -> ixNd (vw M (.ref f)) (vw M (kD o)) = some d := fun {o d} hm => by
    rw [vw_ref hf, vw_kD]
    show (nkO (kD o)).bind (fun k => atK k _ _) = _
    have e : lsD a0 qs = ((none, D.ref a0) :: qs.map fun q => (some q.1, kyD q.2) : List (Option Nam × D)).map fun e => (nkN e.1, e.2) := by
      unfold lsD
      rw [List.map_cons, List.map_map]
      rfl
    rw [nkO_kD, Option.bind_some, e, List.map_map, List.map_map]
    have nd2 : (((none, D.ref a0) :: qs.map fun q => (some q.1, kyD q.2) : List (Option Nam × D)).map fun e => nkN e.1).Nodup := by
      have nd3 : (((none, D.ref a0) :: qs.map fun q => (some q.1, kyD q.2) : List (Option Nam × D)).map (·.1)).Nodup := by
        rw [List.map_cons, List.map_map, List.nodup_cons]
        refine ⟨by simp, ?_⟩
        rw [List.nodup_iff_pairwise_ne, List.pairwise_map] at nd ⊢
        exact nd.imp fun h z => h (Option.some.inj z)
      rw [List.nodup_iff_pairwise_ne, List.pairwise_map] at nd3 ⊢
      exact nd3.imp fun h z => h (nkN_inj.mp z)
    exact atK_map (f := fun e : Option Nam × D => nkN e.1) (g := fun e => e.2) (fun _ _ _ _ => trivial) hm nd2
  rcases h with ⟨rfl, rfl⟩ | ⟨p, rfl, h⟩
  · exact ⟨_, key (List.mem_cons_self ..), vw_ref h0⟩
  · exact ⟨_, key (List.mem_cons_of_mem _ (List.mem_map.mpr ⟨_, h, rfl⟩)), rfl⟩
theorem ls_drop (a0 : Addr) (qs : KyS) : dropN (lsD a0 qs) none = qs.map fun q => (nkN (some q.1), kyD q.2) := by
  unfold dropN lsD
  rw [List.filter_cons_of_neg (by simp), List.filter_eq_self]
  intro p hp
  obtain ⟨q, _, rfl⟩ := List.mem_map.mp hp
  simp [nkN]
theorem pure__law_keys : ∀ ds M Q E, sp__law_keys ds M Q E -> ds.length = 2 /\ t__law_keys (dEnds Q E) (startD N__law_keys ds) M := by
  rintro ds M Q E ⟨r, kd, vd, ts, fp, rfl, hr, K, hl, q⟩
  obtain ⟨_, _, _, _, _, _, _, _, nd⟩ := id K
  have ndf : ((ents ts).flatMap (·.2)).Nodup := (ents_perm ts).nodup_iff.mpr nd
  have lnf : ((ents ts).flatMap (·.2)).length <= 60 := by rw [(ents_perm ts).length_eq]; exact hl
  have ner : ∀ {a : Addr}, M a = none -> a ≠ r := fun h z => rn_some hr (z ▸ h)
  refine ⟨rfl, fun f hf ep0 => ⟨by simp, fun a0 ha0 => ⟨[(none, .ref a0)], rfl, rfl, by simp, by simp, ?_, fun ep1 => ?_⟩⟩⟩
  · rw [updM_ne (fun z => by rw [<- z, updM_same] at ha0; cases ha0)]; exact updM_same
  have k0 : a0 ≠ f := fun z => by rw [z, updM_same] at ha0; cases ha0
  have m0 : M a0 = none := by rw [updM_ne k0] at ha0; exact ha0
  obtain ⟨M0, hM0⟩ : ∃ M0, M0 = updM (updM (updM M f (dNP ep0 [])) a0 (.lst [])) f (dNP ep1 [(none, .ref a0)]) := ⟨_, rfl⟩
  have t0 : RTo M M0 r := by
    rw [hM0]
    exact (((RTo.refl hr).upd hf (ner hf)).upd m0 (ner m0)).upd hf (ner hf)
  have f0 : M0 f = some (dNP ep1 (lsD a0 [])) := by rw [hM0]; exact updM_same
  have a00 : M0 a0 = some (.lst []) := by rw [hM0, updM_ne k0, updM_same]
  rw [<- hM0]
  show l__law_keys_4 _ _ _
  have KM0 := K.rto hr t0
  refine ⟨by simp [sizeLine_eq], _, rfl, kd, none, ts, rfl, inOk KM0 (by omega) (.inl ⟨rfl, rfl⟩), fun M1 k1 => ?_⟩
  have t1 := t0.and k1
  have ex : ([D.non] ++ (nmTs ts).map strD) = (ents ts).map fun e => kD e.1 := by
    have := congrArg (List.map kD) (ents_keys ts)
    rw [List.map_map] at this
    rw [show (fun e : Option Nam × List Nam => kD e.1) = (kD ∘ fun x => x.1) from rfl, this, List.map_cons, List.map_map]
    rfl
  refine ⟨_, addD_lst (by simp; omega), _, rfl, ?_⟩
  rw [ex]
  refine forD_run _ (fun done ρ M2 => ∃ qs ep o3 o4 o5, ρ = [some (.ref r), some (.ref kd), some (.ref f), o3, o4, o5] /\ KIn ((ents ts).take done.length) qs /\ (∀ q ∈ qs, q.2.length <= done.length) /\ M2 f = some (dNP ep (lsD a0 qs)) /\ M2 a0 = some (.lst []) /\ RTo M M2 r) ?_ ?_ ⟨[], ep1, _, _, _, rfl, KIn.nil, (fun _ h => nomatch h), k1 _ _ f0, k1 _ _ a00, t1⟩
  · rintro done y rest ρ M2 Nx e ⟨qs, ep, o3, o4, o5, rfl, hk, hkl, hf2, ha2, t2⟩ nx
    have hi : done.length < (ents ts).length := by have := congrArg List.length e; simp at this; omega
    obtain ⟨o, l, he⟩ : ∃ o l, (ents ts)[done.length] = (o, l) := ⟨_, _, rfl⟩
    have hy : y = kD o := by
      have := congrArg (fun l => l[done.length]?) e
      simp [List.getElem?_eq_getElem hi, he] at this
      exact this.symm
    subst hy
    have hem : (o, l) ∈ ents ts := he ▸ List.getElem_mem hi
    have hsp : ents ts = (ents ts).take done.length ++ (o, l) :: (ents ts).drop (done.length + 1) := by
      conv => lhs; rw [<- List.take_append_drop done.length (ents ts), List.drop_eq_getElem_cons hi, he]
    have htk : (ents ts).take (done.length + 1) = (ents ts).take done.length ++ [(o, l)] := by
      rw [List.take_add_one, List.getElem?_eq_getElem hi, he]; rfl
    have hfl : (ents ts).flatMap (·.2) = qs.map Prod.fst ++ (l ++ ((ents ts).drop (done.length + 1)).flatMap (·.2)) := by
      conv => lhs; rw [hsp, List.flatMap_append, List.flatMap_cons, <- hk.fst]
    have ndf2 := ndf
    have lnf2 := lnf
    rw [hfl] at ndf2 lnf2
    simp only [List.length_append, List.length_map] at lnf2
    have ndq := (List.nodup_append.mp ndf2).1
    obtain ⟨k, hka⟩ : ∃ k, KAt qs o k := by
      rcases ents_early hsp with rfl | ⟨p, rfl, hp⟩
      · exact ⟨[], .inl ⟨rfl, rfl⟩⟩
      · rw [<- hk.fst] at hp
        obtain ⟨⟨p', k⟩, hq, rfl⟩ := List.mem_map.mp hp
        exact ⟨k, .inr ⟨_, rfl, hq⟩⟩
    have hkk : k.length <= done.length := by
      rcases hka with ⟨_, rfl⟩ | ⟨p, _, h⟩
      · simp
      · exact hkl _ h
    have K2 := K.rto hr t2
    obtain ⟨a, hix, hca, hafp⟩ := K2.at hem
    have haf : a ≠ f := fun z => by
      obtain ⟨d, hd, _⟩ := K.there a hafp
      rw [z, hf] at hd; cases hd
    have har : a ≠ r := fun z => K.rn hr (z ▸ hafp)
    refine ⟨_, rfl, _, rfl, .ref a, hix, _, rfl, _, rfl, _, rfl, .ref a, hix, .int (l.length : Nat), by rw [List.map_cons, List.map_nil, vw_ref hca]; simp, r, l.length, rfl, t2.ok, by omega, fun ls M3 g1 g2 g3 t3 => ?_⟩
    have hf3 := t3.keep1 hf2 (ner hf)
    have ha3 := t3.keep1 ha2 (ner m0)
    have hca3 := t3.keep1 hca har
    refine ⟨a, l.map strD, ls.map labD, rfl, by rw [vw_ref hca3]; rfl, rfl, ?_⟩
    have hzl : ((l.map strD).zip (ls.map labD)).map (fun p => D.tup [p.1, p.2]) = (l.zip ls).map fun p => D.tup [strD p.1, labD p.2] := by
      rw [List.zip_map, List.map_map]; rfl
    rw [hzl]
    refine forG_run _ (fun done2 ρ M4 => ∃ ep o4 o5, ρ = [some (.ref r), some (.ref kd), some (.ref f), some (kD o), o4, o5] /\ M4 f = some (dNP ep (lsD a0 (qs ++ ((l.zip ls).take done2.length).map fun x => (x.1, k ++ [x.2])))) /\ ∀ b, b ≠ f -> M4 b = M3 b) ?_ ?_ ⟨ep, _, _, rfl, by simpa using hf3, fun _ _ => rfl⟩
    · rintro done2 y rest2 ρ M4 Nx2 e2 ⟨ep2, o4, o5, rfl, hf4, h4⟩ nx2
      refine ⟨by rw [vw_ref (show M4 a = _ from (h4 a haf).trans hca3)]; rfl, ?_⟩
      have hj : done2.length < (l.zip ls).length := by have := congrArg List.length e2; simp at this ⊢; omega
      obtain ⟨n, b, hn⟩ : ∃ n b, (l.zip ls)[done2.length] = (n, b) := ⟨_, _, rfl⟩
      have hy : y = .tup [strD n, labD b] := by
        have := congrArg (fun l => l[done2.length]?) e2
        simp only [List.getElem?_map, List.getElem?_eq_getElem hj, hn] at this
        simpa using this.symm
      subst hy
      obtain ⟨hnl, hbl⟩ := List.getElem?_zip_eq_some.mp (show (l.zip ls)[done2.length]? = some (n, b) by rw [List.getElem?_eq_getElem hj, hn])
      have ha4 : M4 a0 = some (.lst []) := (h4 a0 k0).trans ha3
      have hfst : (qs ++ ((l.zip ls).take done2.length).map fun x => (x.1, k ++ [x.2])).map Prod.fst = qs.map Prod.fst ++ l.take done2.length := by
        rw [List.map_append, List.map_map]
        congr 1
        show ((l.zip ls).take done2.length).map Prod.fst = _
        rw [List.map_take, zip_fst _ _ g1]
      have hlj : done2.length < l.length := by simp at hj; omega
      have hdr : l = l.take done2.length ++ n :: l.drop (done2.length + 1) := by
        conv => lhs; rw [<- List.take_append_drop done2.length l, List.drop_eq_getElem_cons hlj]
        rw [(List.getElem?_eq_some_iff.mp hnl).2]
      have ndA : ((qs.map Prod.fst ++ l.take done2.length) ++ [n]).Nodup := by
        have h5 : qs.map Prod.fst ++ (l ++ ((ents ts).drop (done.length + 1)).flatMap (·.2)) = ((qs.map Prod.fst ++ l.take done2.length) ++ [n]) ++ (l.drop (done2.length + 1) ++ ((ents ts).drop (done.length + 1)).flatMap (·.2)) := by
          conv => lhs; rw [hdr]
          simp
        rw [h5] at ndf2
        exact (List.nodup_append.mp ndf2).1
      have ndB := (List.nodup_append.mp ndA).1
      rw [<- hfst] at ndB
      obtain ⟨z, hz, hzv⟩ := ks_at hf4 ha4 ndB hka.more
      have hnew : nkN (some n) ∉ (lsD a0 (qs ++ ((l.zip ls).take done2.length).map fun x => (x.1, k ++ [x.2]))).map (·.1) := fun hm => by
        unfold lsD at hm
        rw [List.map_cons, List.map_map] at hm
        rcases List.mem_cons.mp hm with hm | hm
        · cases hm
        · obtain ⟨q', hq', e5⟩ := List.mem_map.mp hm
          have e6 : q'.1 = n := Option.some.inj (nkN_inj.mp e5)
          have := (List.nodup_append.mp ndA).2.2 q'.1 (by rw [<- hfst]; exact List.mem_map_of_mem hq') n (by simp)
          exact this e6
      refine ⟨_, .inl rfl, rfl, _, _, rfl, _, _, rfl, rfl, ?_⟩
      have hkl1 : k.length <= 61 := by
        have : (ents ts).length = (nmTs ts).length + 1 := by have := congrArg List.length (ents_keys ts); simpa using this
        omega
      refine ⟨_, rfl, _, rfl, z, hz, _, rfl, by rw [size_line]; simp, kyD (k ++ [b]), ?_, ?_⟩
      · rw [hzv]
        show addD (.lst (k.map labD)) (.lst [labD b]) = _
        rw [addD_lst (by simp; omega)]
        unfold kyD
        rw [List.map_append]; rfl
      · refine ⟨_, rfl, _, rfl, f, ep2, _, nkN (some n), rfl, hf4, rfl, ?_, fun ep3 => ?_⟩
        · rw [size_line]
          unfold lsD
          have : ((l.zip ls).take done2.length).length <= l.length := by simp; omega
          simp at this ⊢
          omega
        · rw [putN_new hnew]
          refine nx2 _ _ ⟨ep3, _, _, rfl, ?_, fun b hb => by rw [updM_ne hb]; exact h4 b hb⟩
          rw [updM_same]
          have htk2 : (l.zip ls).take (done2.length + 1) = (l.zip ls).take done2.length ++ [(n, b)] := by
            rw [List.take_add_one, List.getElem?_eq_getElem hj, hn]; rfl
          rw [List.length_append, List.length_singleton, htk2]
          unfold lsD
          simp
    · rintro ρ M4 ⟨ep2, o4, o5, rfl, hf4, h4⟩
      refine ⟨by rw [vw_ref (show M4 a = _ from (h4 a haf).trans hca3)]; rfl, ?_⟩
      rw [List.length_map, List.take_length] at hf4
      refine nx _ _ ⟨_, ep2, _, _, _, rfl, ?_, fun q' hq' => ?_, hf4, (h4 a0 k0).trans ha3, ?_⟩
      · rw [List.length_append, List.length_singleton, htk]
        exact hk.more hka g1 g2 g3
      · rw [List.length_append, List.length_singleton]
        rcases List.mem_append.mp hq' with hq' | hq'
        · have := hkl _ hq'; omega
        · obtain ⟨x, _, rfl⟩ := List.mem_map.mp hq'
          simp; omega
      · refine ⟨?_, fun b d hb hd => ?_⟩
        · obtain ⟨x1, x2, x3, x4, x5⟩ := t3.ok
          exact ⟨x1, x2, x3, by rw [h4 r (Ne.symm (ner hf))]; exact x4, x5⟩
        · rw [h4 b (fun z => by rw [z, hf] at hd; cases hd)]
          exact t3.keep b d hb (t2.keep b d hb hd)
  · rintro ρ M2 ⟨qs, ep, o3, o4, o5, rfl, hk, hkl, hf2, ha2, t2⟩
    rw [List.length_map, List.take_length] at hk
    obtain ⟨h1, h2, h3⟩ := hk.keyF nd
    refine ⟨_, rfl, ⟨f, ep, _, rfl, hf2⟩, f, ep, _, .non, none, .ref a0, rfl, rfl, hf2, rfl, rfl, fun ep' => ?_⟩
    refine ⟨_, rfl, ?_⟩
    show frz (.ref f) _ _
    simp only [frz, updM_same]
    rw [ls_drop]
    refine q _ _ _ ⟨ep', qs, rfl, h2, h3⟩ h1 ?_
    exact ((t2.upd hf (ner hf)).del hf (ner hf))
def sp__law_joined : SpD := fun ds M Q _ => ∃ k : List (List Nat), ds = [kyD k] /\ (∀ l ∈ k, LabD l) /\ k.length <= 100 /\ ∀ M', Keep M M' -> Q (bD k.flatten) M'
abbrev N__law_joined : List Str := ["_law_labels_here", "_law_found", "_law_label_here"]
def l__law_joined_1 : DTS := (dDrop (dBM "list" φExt (dVar 1) (dCons (dVar 2) dNil)))
def l__law_joined_2 : DTS := (dSeq (dFor (iS (dVar 0)) (gN 2) l__law_joined_1)
    (dGhost 1 (dRet (dCall sp_bytes_of [] (dCons (dVar 1) dNil)))))
def t__law_joined : DTS := (dSeq (dAsg (dLstM dNil) (gN 1))
    l__law_joined_2)
theorem pure__law_joined : ∀ ds M Q E, sp__law_joined ds M Q E -> ds.length = 1 /\ t__law_joined (dEnds Q E) (startD N__law_joined ds) M := by
  rintro ds M Q E ⟨k, rfl, hk, hl, q⟩
  refine ⟨rfl, by simp, fun f hf => ?_⟩
  refine ⟨_, rfl, _, rfl, ?_⟩
  refine forD_run _ (fun done ρ M1 => ∃ o2, ρ = [some (kyD k), some (.ref f), o2] /\ M1 f = some (.lst (((k.take done.length).flatten).map nD)) /\ ∀ b, b ≠ f -> M1 b = M b) ?_ ?_ ⟨_, rfl, updM_same, fun b hb => updM_ne hb⟩
  · rintro done y rest ρ M1 Nx e ⟨o2, rfl, h1, h2⟩ nx
    have hj : done.length < k.length := by have := congrArg List.length e; simp at this; omega
    have hy : y = labD k[done.length] := by
      have := congrArg (fun l => l[done.length]?) e
      simp [List.getElem?_eq_getElem hj] at this
      exact this.symm
    subst hy
    have h8 := flat_size (k.take done.length) fun l hl => hk l (List.mem_of_mem_take hl)
    have h9 := (hk _ (List.getElem_mem hj)).2
    simp only [List.length_take] at h8
    refine ⟨_, rfl, by rw [vw_ref h1]; rfl, _, rfl, f, _, labD k[done.length], _, rfl, rfl, rfl, h1, by rw [size_line]; simp only [List.length_map]; omega, ?_⟩
    refine nx _ _ ⟨_, rfl, ?_, fun b hb => by rw [updM_ne hb]; exact h2 b hb⟩
    have e7 : k.take (done.length + 1) = k.take done.length ++ [k[done.length]] := by rw [List.take_add_one, List.getElem?_eq_getElem hj]; rfl
    rw [updM_same, List.length_append, List.length_singleton, e7, List.flatten_append, List.map_append]
    simp only [List.flatten_cons, List.flatten_nil, List.append_nil]
  · rintro ρ M1 ⟨o2, rfl, h1, h2⟩
    rw [List.length_map, List.take_length] at h1
    have h8 := flat_size k hk
    refine ⟨f, _, rfl, h1, _, rfl, _, rfl, .inl ⟨k.flatten, rfl, flat_n8 k hk, by omega, q _ fun b c hb => ?_⟩⟩
    have hbf : b ≠ f := fun z => by rw [z, hf] at hb; cases hb
    rw [delM_ne hbf, h2 b hbf]
    exact hb
def kRow (K : Nam -> List (List Nat)) (i : NI) : D := .tup [strD i.nm, .int i.va, bD (K i.nm).flatten]
def sp__law_key_rows : SpD := fun ds M Q _ => ∃ kd vd ts fp d K, ds = [.ref kd, .ref vd, d] /\ Kids M kd vd ts fp /\ (nmTs ts).length <= 60 /\ KeyD ts K d /\ KeyF ts K /\ ∀ a M', M a = none -> M' a = some (.lst ((inf ts).map (kRow K))) -> (∀ b, b ≠ a -> ∀ c, M b = some c -> M' b = some c) -> Q (.ref a) M'
abbrev N__law_key_rows : List Str := ["_law_kids", "_law_values", "_law_keys_here", "_law_name"]
def t__law_key_rows : DTS := (dRet (dLcM (iS (dCall sp__law_inside [] (dCons (dVar 0) (dCons (dC .non) dNil)))) (gN 3) dYes (dTup (dCons (dVar 3) (dCons (dOp ixNd (dVar 1) (dVar 3)) (dCons (dCall sp__law_joined [] (dCons (dOp ixNd (dVar 2) (dVar 3)) dNil)) dNil)))) [3]))
theorem pure__law_key_rows : ∀ ds M Q E, sp__law_key_rows ds M Q E -> ds.length = 3 /\ t__law_key_rows (dEnds Q E) (startD N__law_key_rows ds) M := by
  rintro ds M Q E ⟨kd, vd, ts, fp, d, K, rfl, KD, hl, hd, hK, q⟩
  refine ⟨rfl, ?_⟩
  refine ⟨_, rfl, kd, none, ts, rfl, inOk KD (by omega) (.inl ⟨rfl, rfl⟩), fun M1 k1 => ?_⟩
  refine ⟨_, rfl, fun a ha => ?_⟩
  have ma : M a = none := by
    cases h : M a with
    | none => rfl
    | some c => rw [k1 a c h] at ha; cases ha
  have ex : (nmTs ts).map strD = (inf ts).map fun i => strD i.nm := by rw [<- inf_names, List.map_map]; rfl
  rw [ex]
  refine lcR_ix (fun i : NI => strD i.nm) (fun i => some (kRow K i)) _ (by rw [inf_len]; omega) ha (fun i hi M2 T k2 hT => ?_) fun M2 k2 h2 => ?_
  · have K2 := (KD.keep k1).keep k2
    have hn : i.nm ∈ nmTs ts := by rw [<- inf_names]; exact List.mem_map_of_mem hi
    obtain ⟨c, hc⟩ : ∃ c, (i.nm, c) ∈ chT [] ts := by
      have : i.nm ∈ (chT [] ts).map (·.1) := by rw [chT_nm]; exact hn
      obtain ⟨⟨y, c⟩, hy, e⟩ := List.mem_map.mp this
      exact ⟨c, by rw [<- e]; exact hy⟩
    obtain ⟨hlb, hkl⟩ := hK.labs c i.nm hc
    have hsh := chT_short _ ts [] (Nat.le_refl _) _ hc
    simp only [List.length_nil, Nat.zero_add] at hsh
    have hix : ixNd (vw M2 d) (vw M2 (strD i.nm)) = some (kyD (K i.nm)) := by
      obtain ⟨ep, qs, rfl, nd, hq⟩ := hd
      show (nkO (kD (some i.nm))).bind (fun k => atK k _ _) = _
      rw [nkO_kD, Option.bind_some, List.map_map, List.map_map]
      have nd2 : (qs.map fun e => nkN (some e.1)).Nodup := by
        rw [List.nodup_iff_pairwise_ne, List.pairwise_map] at nd ⊢
        exact nd.imp fun h z => h (Option.some.inj (nkN_inj.mp z))
      exact atK_map (f := fun e : Nam × List (List Nat) => nkN (some e.1)) (g := fun e => kyD e.2) (fun _ _ _ _ => trivial) (hq _ hn) nd2
    refine ⟨_, rfl, _, rfl, _, rfl, .int i.va, K2.val hi, _, rfl, _, rfl, kyD (K i.nm), hix, K i.nm, rfl, hlb, by omega, fun M3 k3 => ?_⟩
    exact ⟨by rw [size_line]; simp, hT M3 k3⟩
  · rw [List.filterMap_eq_map'] at h2
    exact q a M2 ma h2 fun b hb c hc => k2 b c (k1 b c hc)
end LawProof
set_option Elab.async false
set_option linter.all false
set_option maxRecDepth 100000
set_option maxHeartbeats 4000000
set_option autoImplicit true
namespace LawProof
open PySem L2 DL FL
def sp__law_said : SpD := fun ds M Q _ => ∃ (x : D) (p : Int) (w : String), ds = [x] /\ (∃ n, tyName (vw M x) = some n) /\ (∀ a, x = .ref a -> (M a).isSome) /\ (∀ ys, seqs (vw M x) = some ys -> (∀ y ∈ ys, PlRow y) /\ (∀ y ∈ ys, (byN (itm y 2)).length <= 100000) /\ ys.length <= 10000000) /\
  keyJ (vw M x) = some (p, w) /\ neD (.str w) (.str "parent") = some (.bl true) /\ ∀ M', Keep M M' -> Q (.tup [.int p, .str w]) M'
abbrev N__law_said : List Str := ["_law_rows", "e"]
def t__law_said : DTS := (dSeq (dTry mtT0 (dDrop (dCall sp_largest_keys [] (dCons (dVar 0) dNil))) (⟨28, some 1, fun x => (dRet (dTup (dCons (dXf [28, 30] "place" x (dVar 1)) (dCons (dXf [28] "why" x (dVar 1)) dNil))))⟩ :: (⟨17, none, fun x => (dRet (dC (.str "other")))⟩ :: [])))
    (dRet (dC .non)))
theorem pure__law_said : ∀ ds M Q E, sp__law_said ds M Q E -> ds.length = 1 /\ t__law_said (dEnds Q E) (startD N__law_said ds) M := by
  rintro ds M Q E ⟨x, p, w, rfl, h1, h2, h3, h4, h5, q⟩
  refine ⟨rfl, ?_⟩
  refine ⟨_, rfl, x, rfl, h1, h2, h3, .inl ⟨p, w, h4, h5, fun M1 k1 => ?_⟩⟩
  refine ⟨by simp, true, rfl, fun _ a dd ha => ?_, fun z => by cases z⟩
  refine ⟨_, rfl, rfl, _, exc_fld (by decide) (v := .int p) (by simp [lookN]), _, rfl, rfl, _, exc_fld (by decide) (v := .str w) (by simp [lookN]), by simp, q M1 k1⟩
def sp__law_right : SpD := fun ds M Q _ => ∃ (r : Addr), ds = [.ref r] /\ Rn M r /\ ∀ M', Q (.bl true) M'
abbrev N__law_right : List Str := ["_law_rng_here", "_law_kids", "_law_values", "_law_left", "_law_parents_here", "_law_rows", "_law_there", "_law_due", "_law_at", "_law_some", "_law_odd", "_law_bad", "_law_fault", "_law_turn", "_law_row", "_law_name"]
def l__law_right_1 : DTS := (dSeq (dAsg (dCall sp_judge_keys [] (dCons (dVar 11) dNil)) (gN 12))
    (dRet (dAndV (dOp eqD (dCall sp__law_said [] (dCons (dVar 11) dNil)) (dTup (dCons (dUn (fldD [12] "place") (dVar 12)) (dCons (dUn (fldD [12] "word") (dVar 12)) dNil)))) (dOp eqD (dUn (fldD [12] "place") (dVar 12)) (dVar 8)))))
def l__law_right_2 : DTS := (dSeq (dAsg (dOp addD (dOp addD (dOp addD (dSl slD (dVar 5) dNoPart (dPart (dVar 8))) (dLst (dCons (dVar 10) dNil))) (dSl slD (dVar 5) (dPart (dVar 8)) dNoPart)) (dLst (dCons (dC .non) dNil))) (gN 11))
    l__law_right_1)
def l__law_right_3 : DTS := (dSeq (dAsg (dCall sp__law_pick [] (dCons (dVar 0) (dCons (dVar 9) dNil))) (gN 10))
    l__law_right_2)
def l__law_right_4 : DTS := (dSeq (dAsg (dLst (dCons (dTup (dCons (dC (.str "A")) (dCons (dC (.int 5)) (dCons (dCall sp_bytes_of [] (dCons (dLst (dCons (dC (.int 2)) dNil)) dNil)) dNil)))) (dCons (dTup (dCons (dC (.str "zz")) (dCons (dC (.bl true)) (dCons (dCall sp_bytes_of [] (dCons (dLst (dCons (dC (.int 2)) dNil)) dNil)) dNil)))) (dCons (dTup (dCons (dC (.str "zz")) (dCons (dC (.int 5)) (dCons (dCall sp_bytes_of [] (dCons (dLst (dCons (dC (.int 1)) dNil)) dNil)) dNil)))) (dCons (dTup (dCons (dC (.str "zz")) (dCons (dC (.int 5)) dNil))) (dCons (dC .non) dNil)))))) (gN 9))
    l__law_right_3)
def l__law_right_5 : DTS := (dSeq (dAsg (dCall sp__law_draw [] (dCons (dVar 0) (dCons (dOp addD (dCB lenF (dCons (dVar 5) dNil)) (dC (.int 1))) dNil))) (gN 8))
    l__law_right_4)
def l__law_right_6 : DTS := (dSeq (dIf (dTest (dOp neD (dLenO [(15, sp_Table___len__)] (dMake 15 sp_KeyTable___init__ (dCons (dLc (iS (dVar 7)) (gN 8) dYes (dOp ixA (dVar 5) (dVar 8)) [8]) dNil))) (dCB lenF (dCons (dVar 7) dNil)))) (dRet (dC (.bl false))) dNext)
    l__law_right_5)
def l__law_right_7 : DTS := (dSeq (dIf (dTest (dOp neD (dCall sp_largest_keys [] (dCons (dCall sp__law_pick [] (dCons (dVar 0) (dCons (dLst (dCons (dVar 5) (dCons (dCB tupF (dCons (dVar 5) dNil)) dNil))) dNil))) dNil)) (dVar 7))) (dRet (dC (.bl false))) dNext)
    l__law_right_6)
def l__law_right_8 : DTS := (dSeq (dAsg (dLc (iEnT (dVar 5)) (gT 2 (gsCons (gN 8) (gsCons (gN 14) gsNil))) (dTest (dCB allF (dCons (dLc (iS (dCall sp__law_line [] (dCons (dVar 4) (dCons (dOp ixA (dVar 14) (dC (.int 0))) dNil)))) (gN 15) dYes (dOp inD (dVar 15) (dVar 6)) [15]) dNil))) (dVar 8) [8, 14]) (gN 7))
    l__law_right_7)
def l__law_right_9 : DTS := (dSeq (dAsg (dLc (iS (dVar 5)) (gN 14) dYes (dOp ixA (dVar 14) (dC (.int 0))) [14]) (gN 6))
    l__law_right_8)
def l__law_right_10 : DTS := (dSeq (dAsg (dLc (iS (dVar 5)) (gN 14) (dTest (dOp gtD (dCall sp__law_draw [] (dCons (dVar 0) (dCons (dC (.int 5)) dNil))) (dC (.int 0)))) (dVar 14) [14]) (gN 5))
    l__law_right_9)
def l__law_right_11 : DTS := (dSeq (dAsg (dLc (iR1 (dCB lenF (dCons (dVar 3) dNil))) (gN 13) dYes (dBM "list" φPopAt (dVar 3) (dCons (dCall sp__law_draw [] (dCons (dVar 0) (dCons (dCB lenF (dCons (dVar 3) dNil)) dNil))) dNil)) [13]) (gN 5))
    l__law_right_10)
def l__law_right_12 : DTS := (dSeq (dAsg (dTup (dCons (dCall sp__law_key_rows [] (dCons (dVar 1) (dCons (dVar 2) (dCons (dCall sp__law_keys [] (dCons (dVar 0) (dCons (dVar 1) dNil))) dNil)))) (dCons (dCall sp__law_parents [] (dCons (dVar 1) dNil)) dNil))) (gT 2 (gsCons (gN 3) (gsCons (gN 4) gsNil))))
    l__law_right_11)
def t__law_right : DTS := (dSeq (dAsg (dCall sp__law_forest [] (dCons (dVar 0) (dCons (dCall sp__law_draw [] (dCons (dVar 0) (dCons (dC (.int 13)) dNil))) dNil))) (gT 2 (gsCons (gN 1) (gsCons (gN 2) gsNil))))
    l__law_right_12)
theorem cutK_odd : ∀ (o : List Nat) (acc r : List Nat), (∀ x ∈ o, x % 2 = 1) -> cutK acc (o ++ r) = cutK (acc ++ o) r
  | [], acc, r, _ => by simp
  | x :: o, acc, r, h => by
    rw [List.cons_append, cutK, if_neg (by have := h x (by simp); omega), cutK_odd o (acc ++ [x]) r fun y hy => h y (List.mem_cons_of_mem _ hy)]
    simp
theorem cutK_lab {l : List Nat} (h : Lab l) (r : List Nat) : cutK [] (l ++ r) = l :: cutK [] r := by
  obtain ⟨o, e, rfl, h1, h2, h3, h4⟩ := h
  rw [List.append_assoc, cutK_odd o [] _ fun x hx => (h1 x hx).1]
  show cutK ([] ++ o) (e :: r) = _
  rw [cutK, if_pos h2]
  simp
theorem cutK_labs : ∀ (L : List (List Nat)), (∀ l ∈ L, LabD l) -> cutK [] L.flatten = L
  | [], _ => rfl
  | l :: L, h => by rw [List.flatten_cons, cutK_lab (h l (by simp)).1, cutK_labs L fun x hx => h x (by simp [hx])]
theorem shortK_labs (L : List (List Nat)) (h : ∀ l ∈ L, LabD l) : shortK L.flatten = preK L := by
  unfold shortK preK
  rw [cutK_labs L h]
theorem flat_inj {L L' : List (List Nat)} (h : ∀ l ∈ L, LabD l) (h' : ∀ l ∈ L', LabD l) (e : L.flatten = L'.flatten) : L = L' := by
  rw [<- cutK_labs L h, <- cutK_labs L' h', e]
section
variable {ts : List Tr} {K : Nam -> List (List Nat)} {X : List NI}
def ancN (ts : List Tr) (n : Nam) : List Nam := (((chT [] ts).find? fun x => decide (x.1 = n)).map (·.2)).getD []
theorem ancN_in {n : Nam} (h : n ∈ nmTs ts) : (n, ancN ts n) ∈ chT [] ts := by
  rw [<- chT_nm ts []] at h
  obtain ⟨⟨m, c⟩, hm, rfl⟩ := List.mem_map.mp h
  obtain ⟨x, hx⟩ : ∃ x, (chT [] ts).find? (fun x => decide (x.1 = m)) = some x := by
    cases e : (chT [] ts).find? (fun x => decide (x.1 = m)) with
    | some x => exact ⟨x, rfl⟩
    | none => exact absurd (List.find?_eq_none.mp e _ hm) (by simp)
  unfold ancN
  simp only
  rw [hx]
  have h1 := List.mem_of_find?_eq_some hx
  have h2 : x.1 = m := by simpa using List.find?_some hx
  show (m, x.2) ∈ _
  rw [<- h2]
  exact h1
theorem ancN_eq (nd : (nmTs ts).Nodup) {n : Nam} {c : List Nam} (h : (n, c) ∈ chT [] ts) : ancN ts n = c := by
  have hn : n ∈ nmTs ts := by rw [<- chT_nm ts []]; exact List.mem_map.mpr ⟨_, h, rfl⟩
  exact nd_fst (by rw [chT_nm]; exact nd) (ancN_in hn) h
theorem anc_in {c : List Nam} : ∀ {n : Nam}, (n, c) ∈ chT [] ts -> ∀ p ∈ c, p ∈ nmTs ts := by
  induction c with
  | nil => intro n _ p hp; cases hp
  | cons q c ih =>
    intro n h p hp
    have hq := chT_par h
    rcases List.mem_cons.mp hp with rfl | hp
    · rw [<- chT_nm ts []]; exact List.mem_map.mpr ⟨_, hq, rfl⟩
    · exact ih hq p hp
def krOf (K : Nam -> List (List Nat)) (i : NI) : KR := ⟨i.nm, i.va, (K i.nm).flatten⟩
structure XOk (ts : List Tr) (K : Nam -> List (List Nat)) (X : List NI) : Prop where
  keys : KeyF ts K
  nd : (nmTs ts).Nodup
  few : (nmTs ts).length <= 12
  ok : ∀ i ∈ inf ts, NameOk i.nm /\ -(10 ^ 30) <= i.va /\ i.va <= 10 ^ 30
  sub : ∀ i ∈ X, i ∈ inf ts
  nms : (X.map NI.nm).Nodup
theorem XOk.name (h : XOk ts K X) {i : NI} (hi : i ∈ X) : i.nm ∈ nmTs ts := by rw [<- inf_names]; exact List.mem_map_of_mem (h.sub i hi)
theorem XOk.len (h : XOk ts K X) : X.length <= 12 := by
  have h1 : (X.map NI.nm).length <= (nmTs ts).length := nd_sub_len h.nms fun n hn => by
    obtain ⟨i, hi, rfl⟩ := List.mem_map.mp hn
    exact h.name hi
  rw [List.length_map] at h1
  have := h.few
  omega
theorem key_at (h : XOk ts K X) {n : Nam} (hn : n ∈ nmTs ts) : (∀ l ∈ K n, LabD l) /\ K n ≠ [] /\ (K n).length <= 13 := by
  have hc := ancN_in hn
  obtain ⟨h1, h2⟩ := h.keys.labs _ _ hc
  have h3 := chT_short _ ts [] (Nat.le_refl _) _ hc
  have h4 := h.few
  simp only [List.length_nil, Nat.zero_add] at h3
  exact ⟨h1, fun z => by rw [z] at h2; simp at h2, by omega⟩
theorem key_same (h : XOk ts K X) {n m : Nam} (hn : n ∈ nmTs ts) (hm : m ∈ nmTs ts) (e : (K n).flatten = (K m).flatten) : n = m :=
  h.keys.inj _ _ _ _ (ancN_in hn) (ancN_in hm) (flat_inj (key_at h hn).1 (key_at h hm).1 e)
theorem XOk.krs (h : XOk ts K X) : KRs (X.map (krOf K)) := by
  refine ⟨by have := h.len; rw [List.length_map]; omega, fun r hr => ?_, ?_, ?_⟩
  · obtain ⟨i, hi, rfl⟩ := List.mem_map.mp hr
    obtain ⟨h1, h2, h3⟩ := h.ok i (h.sub i hi)
    obtain ⟨k1, k2, k3⟩ := key_at h (h.name hi)
    have := flat_size (K i.nm) k1
    exact ⟨h1, h2, h3, flat_n8 _ k1, flat_keyN _ k1 k2, by show (K i.nm).flatten.length <= _; omega⟩
  · rw [List.map_map]; exact h.nms
  · have h1 := h.nms
    rw [List.map_map]
    rw [List.nodup_iff_pairwise_ne, List.pairwise_map] at h1 ⊢
    exact List.Pairwise.imp_of_mem (fun {a b} ha hb hne e => hne (key_same h (h.name ha) (h.name hb) e)) h1
theorem XOk.part (h : XOk ts K X) (f : NI -> Bool) : XOk ts K (X.filter f) := ⟨h.keys, h.nd, h.few, h.ok, fun i hi => h.sub i (List.mem_filter.mp hi).1, h.nms.sublist ((List.filter_sublist).map _)⟩
end
theorem has_keys {Ls : List (List Nat)} {l : List Nat} (h : ∀ k ∈ Ls, N8 k) (hl : N8 l) : hasB (Ls.map bA) (bA l) = decide (l ∈ Ls) := by
  rw [Bool.eq_iff_iff, hasB_iff, decide_eq_true_eq, List.mem_map]
  exact ⟨fun ⟨k, hk, e⟩ => bA_inj (h k hk) hl e ▸ hk, fun z => ⟨l, z, rfl⟩⟩
theorem krs_kys {Y : List KR} (h : KRs Y) : kys (Y.map KR.d) = (Y.map KR.ky).map bA := by
  unfold kys
  rw [List.map_map, List.map_map]
  refine List.map_congr_left fun r hr => ?_
  show bA (byN (itm r.d 2)) = _
  rw [kr_byn r (h.row r hr).2.2.2.1]; rfl
theorem krs_word {Y : List KR} (h : KRs Y) (p : Nat) (hp : p < Y.length) : keyW ((Y.map KR.d).take p) Y[p].d = none := by
  obtain ⟨h1, h2, h3, h4, h5, h6⟩ := h.row Y[p] (List.getElem_mem hp)
  have hw : plainW 3 Y[p].d = none := by
    have n1 : nameB (strD Y[p].nm) = true := nameC_iff.mpr (by simpa [S] using h1)
    have n2 : valB (.int Y[p].va) = true := by simp only [valB, Bool.and_eq_true, decide_eq_true_eq]; exact ⟨h2, h3⟩
    show (if ([strD Y[p].nm, .int Y[p].va, bD Y[p].ky] : List D).length ≠ 3 then some "row" else if nameB (strD Y[p].nm) = true then if valB (.int Y[p].va) = true then none else some "value" else some "name") = none
    rw [n1, n2]
    rfl
  have hi : itm Y[p].d 2 = bD Y[p].ky := rfl
  have hk : keyOkB (bD Y[p].ky) = true := by unfold keyOkB; rw [byN_bD h4, h5]; rfl
  unfold keyW
  rw [hw]
  simp only [hi, hk, if_true, nm_kr, byN_bD h4]
  have before : ∀ {α : Type} (f : KR -> α), (Y.map f).Nodup -> ∀ y ∈ Y.take p, f y ≠ f Y[p] := fun f nd y hy => by
    obtain ⟨j, hj, rfl⟩ := List.mem_take_iff_getElem.mp hy
    rw [List.nodup_iff_pairwise_ne, List.pairwise_map] at nd
    exact List.pairwise_iff_getElem.mp nd j p (by omega) hp (by omega)
  have a1 : (((Y.map KR.d).take p).any fun z => decide (nmS z = Y[p].nm)) = false := by
    rw [<- List.map_take, List.any_map, List.any_eq_false]
    intro y hy
    have := before KR.nm h.nms y hy
    simpa [nm_kr] using this
  rw [a1, if_neg Bool.false_ne_true]
  have a2 : (((Y.map KR.d).take p).map fun z => bA (byN (itm z 2))) = ((Y.take p).map KR.ky).map bA := by
    rw [<- List.map_take, List.map_map, List.map_map]
    refine List.map_congr_left fun r hr => ?_
    show bA (byN (itm r.d 2)) = _
    rw [kr_byn r (h.row r (List.mem_of_mem_take hr)).2.2.2.1]; rfl
  have a3 : ¬ Y[p].ky ∈ (Y.take p).map KR.ky := fun hm => by
    obtain ⟨y, hy, e⟩ := List.mem_map.mp hm
    exact before KR.ky h.kys y hy e
  have h8s : ∀ k ∈ (Y.take p).map KR.ky, N8 k := fun k hk => by
    obtain ⟨z, hz, rfl⟩ := List.mem_map.mp hk
    exact (h.row z (List.mem_of_mem_take hz)).2.2.2.1
  rw [a2, has_keys h8s h4, decide_eq_false a3, if_neg Bool.false_ne_true]
theorem krs_good {Y : List KR} (h : KRs Y) : keyF (Y.map KR.d) = none := keyF_none fun p hp => by
  rw [List.length_map] at hp
  unfold keyWAt
  rw [show (Y.map KR.d).getD p .non = Y[p].d by simp [List.getD, hp]]
  exact krs_word h p hp
theorem krs_odd {Y : List KR} (h : KRs Y) {x : D} {w : String} {R : List D} (p : Nat) (hp : p <= Y.length) (hR : p + R.length < 60) (hw : keyW ((Y.map KR.d).take p) x = some w) :
    keyJ (.lst ((Y.map KR.d).take p ++ x :: R)) = some ((p : Int), w) := by
  have hlen : ((Y.map KR.d).take p).length = p := by simp; omega
  unfold keyJ
  show (if 60 < ((Y.map KR.d).take p ++ x :: R).length then _ else _) = _
  rw [if_neg (by rw [List.length_append, hlen, List.length_cons]; omega)]
  have : keyF ((Y.map KR.d).take p ++ x :: R) = some (p, w) := by
    refine keyF_some (by rw [List.length_append, hlen, List.length_cons]; omega) (fun j hj => ?_) ?_
    · unfold keyWAt
      have hj2 : j < Y.length := by omega
      rw [List.take_append_of_le_length (by omega), List.take_take, Nat.min_eq_left (by omega)]
      rw [show ((Y.map KR.d).take p ++ x :: R).getD j .non = Y[j].d by
        simp [List.getD, List.getElem?_append_left (show j < ((Y.map KR.d).take p).length by omega), hj, hj2]]
      exact krs_word h j hj2
    · unfold keyWAt
      rw [List.take_append_of_le_length (by omega), List.take_take, Nat.min_self]
      rw [show ((Y.map KR.d).take p ++ x :: R).getD p .non = x by
        rw [List.getD, List.getElem?_append_right (by omega), hlen]; simp]
      exact hw
  rw [this]
theorem range_filter {α : Type} (f : α -> Bool) (d : α) : ∀ X : List α, ((List.range X.length).filter fun p => f (X.getD p d)).map (fun p => X.getD p d) = X.filter f
  | [] => rfl
  | x :: X => by
    have ih := range_filter f d X
    rw [List.length_cons, List.range_succ_eq_map, List.filter_cons, List.filter_cons, List.filter_map]
    have e : ((fun p => f ((x :: X).getD p d)) ∘ Nat.succ) = fun p => f (X.getD p d) := rfl
    rw [e]
    by_cases h : f x = true
    · rw [if_pos (by exact h), if_pos h, List.map_cons, List.map_map]
      exact congrArg (x :: ·) ih
    · rw [if_neg (by exact h), if_neg h, List.map_map]
      exact ih
section
variable {ts : List Tr} {K : Nam -> List (List Nat)} {X : List NI}
abbrev ni0 : NI := ⟨[], 0, []⟩
def okX (ts : List Tr) (X : List NI) (n : Nam) : Bool := (ancN ts n).all fun m => decide (m ∈ X.map NI.nm)
def dueX (ts : List Tr) (X : List NI) : List Nat := (List.range X.length).filter fun p => okX ts X (X.getD p ni0).nm
theorem has_kb (h : XOk ts K X) {m : Nam} (hm : m ∈ nmTs ts) : hasB (kys ((X.map (krOf K)).map KR.d)) (bA (K m).flatten) = decide (m ∈ X.map NI.nm) := by
  rw [krs_kys h.krs, has_keys (fun k hk => by
    obtain ⟨r, hr, rfl⟩ := List.mem_map.mp hk
    exact (h.krs.row r hr).2.2.2.1) (flat_n8 _ (key_at h hm).1)]
  rw [Bool.eq_iff_iff, decide_eq_true_eq, decide_eq_true_eq, List.map_map]
  constructor
  · intro hk
    obtain ⟨i, hi, e⟩ := List.mem_map.mp hk
    exact List.mem_map.mpr ⟨i, hi, key_same h (h.name hi) hm e⟩
  · intro hk
    obtain ⟨i, hi, e⟩ := List.mem_map.mp hk
    exact List.mem_map.mpr ⟨i, hi, by rw [<- e]; rfl⟩
theorem short_kb (h : XOk ts K X) {n : Nam} (hn : n ∈ nmTs ts) : shortK (K n).flatten = (ancN ts n).reverse.map fun p => (K p).flatten := by
  rw [shortK_labs _ (key_at h hn).1, h.keys.pre _ _ (ancN_in hn)]
theorem byn_at (h : XOk ts K X) {p : Nat} (hp : p < X.length) : byN (itm (((X.map (krOf K)).map KR.d).getD p .non) 2) = (K (X.getD p ni0).nm).flatten := by
  have hi := List.getElem_mem hp
  have e : ((X.map (krOf K)).map KR.d).getD p .non = (krOf K X[p]).d := by simp [List.getD, hp]
  have e2 : X.getD p ni0 = X[p] := by simp [List.getD, hp]
  rw [e, e2]
  exact kr_byn _ (h.krs.row _ (List.mem_map_of_mem hi)).2.2.2.1
theorem nm_at (h : XOk ts K X) {p : Nat} (hp : p < X.length) : (X.getD p ni0).nm ∈ nmTs ts := by
  have e2 : X.getD p ni0 = X[p] := by simp [List.getD, hp]
  rw [e2]
  exact h.name (List.getElem_mem hp)
theorem lg_due (h : XOk ts K X) : lgP ((X.map (krOf K)).map KR.d) = dueX ts X := by
  unfold lgP dueX
  rw [List.length_map, List.length_map]
  refine List.filter_congr fun p hp => ?_
  have hp := List.mem_range.mp hp
  have hn := nm_at h hp
  rw [byn_at h hp, short_kb h hn, List.all_map, List.all_reverse]
  unfold okX
  rw [Bool.eq_iff_iff, List.all_eq_true, List.all_eq_true]
  refine forall_congr' fun m => forall_congr' fun hm => ?_
  show hasB _ (bA (K m).flatten) = true ↔ _
  rw [has_kb h (anc_in (ancN_in hn) m hm)]
theorem due_good (h : XOk ts K X) : keyJ (.lst (((X.filter fun i => okX ts X i.nm).map (krOf K)).map KR.d)) = none := by
  have hz := h.part fun i => okX ts X i.nm
  have hP : parF (((X.filter fun i => okX ts X i.nm).map (krOf K)).map KR.d) = none := parF_none fun p hp => by
    rw [List.length_map, List.length_map] at hp
    rw [byn_at hz hp]
    have hn := nm_at hz hp
    have hok : okX ts X ((X.filter fun i => okX ts X i.nm).getD p ni0).nm = true := by
      have e2 : (X.filter fun i => okX ts X i.nm).getD p ni0 = (X.filter fun i => okX ts X i.nm)[p] := by simp [List.getD, hp]
      rw [e2]
      exact (List.mem_filter.mp (List.getElem_mem hp)).2
    generalize ((X.filter fun i => okX ts X i.nm).getD p ni0).nm = n at hn hok
    unfold parB
    rw [short_kb hz hn, List.getLast?_map, List.getLast?_reverse]
    cases hc : ancN ts n with
    | nil => rfl
    | cons q c =>
      have hin := ancN_in hn
      rw [hc] at hin
      have hq := chT_par hin
      have hqn := anc_in hin q (by simp)
      have hqx : okX ts X q = true := by
        unfold okX at hok ⊢
        rw [ancN_eq h.nd hq]
        rw [hc, List.all_cons, Bool.and_eq_true] at hok
        exact hok.2
      have hqm : q ∈ X.map NI.nm := by
        unfold okX at hok
        rw [hc, List.all_cons, Bool.and_eq_true] at hok
        simpa using hok.1
      obtain ⟨i, hi, rfl⟩ := List.mem_map.mp hqm
      show (!hasB _ (bA (K i.nm).flatten)) = false
      rw [has_kb hz hqn, decide_eq_true (List.mem_map.mpr ⟨i, List.mem_filter.mpr ⟨hi, hqx⟩, rfl⟩)]
      rfl
  unfold keyJ
  show (if 60 < (((X.filter fun i => okX ts X i.nm).map (krOf K)).map KR.d).length then _ else _) = _
  rw [List.length_map, if_neg (by have := hz.krs.len; omega), krs_good hz.krs, hP]
  rfl
end
theorem erase_perm {α : Type} : ∀ (l : List α) (j : Nat) (h : j < l.length), (l[j] :: l.eraseIdx j).Perm l
  | x :: l, 0, _ => List.Perm.refl _
  | x :: l, j + 1, h => (List.Perm.swap _ _ _).trans ((erase_perm l j (by simpa using h)).cons x)
theorem erase_map {α β : Type} (f : α -> β) : ∀ (l : List α) (j : Nat), (l.map f).eraseIdx j = (l.eraseIdx j).map f
  | [], _ => rfl
  | x :: l, 0 => rfl
  | x :: l, j + 1 => congrArg (f x :: ·) (erase_map f l j)
theorem sqix {k n : Nat} (h : k < n) : seqIndex? (k : Int) n = some k := by
  have h2 : ¬ (k : Int) < 0 := by omega
  simp [seqIndex?, h2, h]
def odds : List D := [.tup [.str "A", .int 5, bD [2]], .tup [.str "zz", .bl true, bD [2]], .tup [.str "zz", .int 5, bD [1]], .tup [.str "zz", .int 5], .non]
theorem odd_word {x : D} (hx : x ∈ odds) (ys : List D) : ∃ w, keyW ys x = some w /\ neD (.str w) (.str "parent") = some (.bl true) /\ PlRow x /\ (byN (itm x 2)).length <= 100000 /\ PyData.strOk (Str.ofString w) = true := by
  have pA : Pl (.str "A") := pl_lit "A" (by decide +kernel) (by decide +kernel)
  have pz : Pl (.str "zz") := pl_lit "zz" (by decide +kernel) (by decide +kernel)
  have pi : Pl (.int 5) := pl_of rfl (by simp)
  have pb : Pl (.bl true) := pl_of rfl (by simp)
  have nA : nameB (.str "A") = false := by decide +kernel
  have nz : nameB (.str "zz") = true := by decide +kernel
  have row : ∀ l : List D, (∀ c ∈ l, Pl c) -> PlRow (.tup l) := fun l h => ⟨pl_of rfl (by simp), fun l' e c hc => by cases e; exact h c hc⟩
  simp only [odds, List.mem_cons, List.not_mem_nil, or_false] at hx
  rcases hx with rfl | rfl | rfl | rfl | rfl
  · refine ⟨"name", ?_, rfl, row _ fun c hc => ?_, by decide +kernel, by decide +kernel⟩
    · have : plainW 3 (.tup [.str "A", .int 5, bD [2]]) = some "name" := by
        show (if ([.str "A", .int 5, bD [2]] : List D).length ≠ 3 then some "row" else if nameB (.str "A") = true then if valB (.int 5) = true then none else some "value" else some "name") = _
        rw [nA]; rfl
      unfold keyW; rw [this]
    · simp at hc; rcases hc with rfl | rfl | rfl
      · exact pA
      · exact pi
      · exact pl_byt _
  · refine ⟨"value", ?_, rfl, row _ fun c hc => ?_, by decide +kernel, by decide +kernel⟩
    · have : plainW 3 (.tup [.str "zz", .bl true, bD [2]]) = some "value" := by
        show (if ([.str "zz", .bl true, bD [2]] : List D).length ≠ 3 then some "row" else if nameB (.str "zz") = true then if valB (.bl true) = true then none else some "value" else some "name") = _
        rw [nz]; rfl
      unfold keyW; rw [this]
    · simp at hc; rcases hc with rfl | rfl | rfl
      · exact pz
      · exact pb
      · exact pl_byt _
  · refine ⟨"key", ?_, rfl, row _ fun c hc => ?_, by decide +kernel, by decide +kernel⟩
    · have : plainW 3 (.tup [.str "zz", .int 5, bD [1]]) = none := by
        show (if ([.str "zz", .int 5, bD [1]] : List D).length ≠ 3 then some "row" else if nameB (.str "zz") = true then if valB (.int 5) = true then none else some "value" else some "name") = _
        rw [nz]; decide +kernel
      have k : keyOkB (itm (.tup [.str "zz", .int 5, bD [1]]) 2) = false := by decide +kernel
      unfold keyW; rw [this]
      simp only
      rw [if_neg (by rw [k]; decide)]
    · simp at hc; rcases hc with rfl | rfl | rfl
      · exact pz
      · exact pi
      · exact pl_byt _
  · refine ⟨"row", ?_, rfl, row _ fun c hc => ?_, by decide +kernel, by decide +kernel⟩
    · have : plainW 3 (.tup [.str "zz", .int 5]) = some "row" := rfl
      unfold keyW; rw [this]
    · simp at hc; rcases hc with rfl | rfl
      · exact pz
      · exact pi
  · refine ⟨"row", ?_, rfl, ⟨pl_of rfl (by simp), fun l e => by cases e⟩, by decide +kernel, by decide +kernel⟩
    have : plainW 3 D.non = some "row" := rfl
    unfold keyW; rw [this]
section
variable {ts : List Tr} {K : Nam -> List (List Nat)} {X : List NI} {r : Addr} {pd : D} {o1 o2 o3 o4 o6 o7 : Option D} {Q : DV} {E : DEK} {M : Mem}
theorem pl_nats (l : List Nat) : plDs 1 (l.map nD) = true := by
  induction l with
  | nil => rfl
  | cons a l ih => simp only [List.map_cons, plDs, ih]; rfl
theorem rows_hand (h : XOk ts K X) : (∀ y ∈ X.map (kRow K), PlRow y) /\ (∀ y ∈ X.map (kRow K), (byN (itm y 2)).length <= 100000) /\ (X.map (kRow K)).length <= 10000000 := by
  have e : X.map (kRow K) = (X.map (krOf K)).map KR.d := by rw [List.map_map]; rfl
  rw [e]
  exact krs_hand h.krs
theorem lr_3 (h : XOk ts K X) (hr : Rn M r) {j : Nat} (hj : j <= X.length) (q : ∀ M', Q (.bl true) M') :
    l__law_right_3 (dEnds Q E) [some (.ref r), o1, o2, o3, o4, some (.lst (X.map (kRow K))), o6, o7, some (nD j), some (.lst odds), none, none, none, none, none, none] M := by
  have hl := h.len
  have e : X.map (kRow K) = (X.map (krOf K)).map KR.d := by rw [List.map_map]; rfl
  refine ⟨_, rfl, _, rfl, r, .lst odds, odds, rfl, .inl rfl, hr, by simp [odds], by simp [odds], fun x M1 hx t1 => ?_⟩
  obtain ⟨p1, p2, p3⟩ := rows_hand h
  obtain ⟨w, hw, hw2, hpl, hby, hws⟩ := odd_word hx ((X.map (kRow K)).take j)
  have c1 : cutD (X.map (kRow K)) none (some (j : Int)) = (X.map (kRow K)).take j := cutD_to
  have c2 : cutD (X.map (kRow K)) (some (j : Int)) none = (X.map (kRow K)).drop j := cutD_from
  obtain ⟨B, hB⟩ : ∃ B, B = (X.map (kRow K)).take j ++ x :: ((X.map (kRow K)).drop j ++ [.non]) := ⟨_, rfl⟩
  have hj1 : keyJ (.lst B) = some ((j : Int), w) := by
    rw [hB, e]
    rw [e] at hw
    exact krs_odd h.krs j (by rw [List.length_map]; exact hj) (by simp; omega) hw
  have hB1 : (∀ y ∈ B, PlRow y) /\ (∀ y ∈ B, (byN (itm y 2)).length <= 100000) /\ B.length <= 10000000 := by
    rw [hB]
    refine ⟨fun y hy => ?_, fun y hy => ?_, by simp; omega⟩
    · simp only [List.mem_append, List.mem_cons, List.not_mem_nil, or_false] at hy
      rcases hy with hy | rfl | hy | rfl
      · exact p1 y (List.mem_of_mem_take hy)
      · exact hpl
      · exact p1 y (List.mem_of_mem_drop hy)
      · exact ⟨pl_of rfl (by simp), fun l e => by cases e⟩
    · simp only [List.mem_append, List.mem_cons, List.not_mem_nil, or_false] at hy
      rcases hy with hy | rfl | hy | rfl
      · exact p2 y (List.mem_of_mem_take hy)
      · exact hby
      · exact p2 y (List.mem_of_mem_drop hy)
      · decide
  refine ⟨_, rfl, _, rfl, (j : Int), rfl, .lst ((X.map (kRow K)).take j), by rw [<- c1]; rfl, ?_⟩
  refine ⟨_, rfl, by rw [size_line]; simp, _, addD_lst (by simp; omega), _, rfl, _, rfl, (j : Int), rfl, .lst ((X.map (kRow K)).drop j), by rw [<- c2]; rfl, _, addD_lst (by simp; omega), by rw [size_line]; simp, .lst B, ?_, ?_⟩
  · show addD (.lst ((X.map (kRow K)).take j ++ [x] ++ (X.map (kRow K)).drop j)) (.lst [.non]) = _
    rw [addD_lst (by simp; omega), hB]
    simp
  show l__law_right_1 _ _ _
  have hand : ∀ M, (∃ n, tyName (vw M (.lst B)) = some n) /\ (∀ a, D.lst B = .ref a -> (M a).isSome) /\ ∀ ys, seqs (vw M (.lst B)) = some ys -> (∀ y ∈ ys, PlRow y) /\ (∀ y ∈ ys, (byN (itm y 2)).length <= 100000) /\ ys.length <= 10000000 :=
    fun M => ⟨⟨"list", rfl⟩, (fun a e => by cases e), fun ys hs => by cases hs; exact hB1⟩
  refine ⟨_, rfl, .lst B, rfl, (hand M1).1, (hand M1).2.1, (hand M1).2.2, fun M2 k2 => ?_⟩
  rw [show keyJ (vw M1 (.lst B)) = _ from hj1]
  refine ⟨_, rfl, .lst B, (j : Int), w, rfl, (hand M2).1, (hand M2).2.1, (hand M2).2.2, hj1, hw2, fun M3 k3 => ?_⟩
  have p1 : plDs 1 [D.int (j : Int), .str w] = true := by simp [plDs, plD, hws]
  refine ⟨_, rfl, .int (j : Int), rfl, _, rfl, .str w, rfl, by rw [size_line]; simp, .bl true, ?_, true, rfl, ?_⟩
  · have := eqD_tup' p1 p1
    rw [eqTs_refl 1 _ p1] at this
    exact this
  show if true = true then _ else _
  rw [if_pos rfl]
  exact ⟨_, rfl, .int (j : Int), rfl, _, rfl, .bl true, by simp [nD], q M3⟩
theorem lr_5 (h : XOk ts K X) (hr : Rn M r) (q : ∀ M', Q (.bl true) M') :
    l__law_right_5 (dEnds Q E) [some (.ref r), o1, o2, o3, o4, some (.lst (X.map (kRow K))), o6, o7, none, none, none, none, none, none, none, none] M := by
  have hl := h.len
  refine ⟨_, rfl, _, rfl, .int (X.length : Nat), by show lenF [.lst _] = _; simp, .int ((X.length : Nat) + 1), rfl, r, _, rfl, hr, by omega, by omega, fun k0 M1 h0 h1 t1 => ?_⟩
  obtain ⟨j, rfl⟩ := Int.eq_ofNat_of_zero_le h0
  have n8 : ∀ n : Nat, n < 256 -> N8 [n] := fun n hn x hx => by simp at hx; omega
  have sz : ∀ l : List D, l.length <= 5 -> l.length <= sizeLine := fun l hl => by rw [size_line]; omega
  refine ⟨sz _ (by simp), .lst [nD 2], rfl, .inl ⟨[2], rfl, n8 2 (by omega), by simp, ?_⟩⟩
  refine ⟨sz _ (by simp), sz _ (by simp), .lst [nD 2], rfl, .inl ⟨[2], rfl, n8 2 (by omega), by simp, ?_⟩⟩
  refine ⟨sz _ (by simp), sz _ (by simp), .lst [nD 1], rfl, .inl ⟨[1], rfl, n8 1 (by omega), by simp, ?_⟩⟩
  refine ⟨sz _ (by simp), sz _ (by simp), sz _ (by simp), ?_⟩
  exact lr_3 h t1.ok (by omega) q
theorem lr_7 (h : XOk ts K X) (hr : Rn M r) (q : ∀ M', Q (.bl true) M') :
    l__law_right_7 (dEnds Q E) [some (.ref r), o1, o2, o3, o4, some (.lst (X.map (kRow K))), o6, some (.lst ((dueX ts X).map nD)), none, none, none, none, none, none, none, none] M := by
  have hl := h.len
  have e : X.map (kRow K) = (X.map (krOf K)).map KR.d := by rw [List.map_map]; rfl
  have hdl : (dueX ts X).length <= X.length := by
    have := List.length_filter_le (fun p => okX ts X (X.getD p ni0).nm) (List.range X.length)
    unfold dueX
    rw [List.length_range] at this
    exact this
  have hdm : ∀ p ∈ dueX ts X, p < X.length := fun p hp => List.mem_range.mp (List.mem_filter.mp hp).1
  have hz := h.part fun i => okX ts X i.nm
  refine ⟨_, rfl, _, rfl, _, rfl, .tup (X.map (kRow K)), rfl, by rw [size_line]; simp, r, _, [.lst (X.map (kRow K)), .tup (X.map (kRow K))], rfl, .inl rfl, hr, by simp, by simp, fun x M1 hx t1 => ?_⟩
  have hsx : ∀ M, seqs (vw M x) = some (X.map (kRow K)) /\ (∃ n, tyName (vw M x) = some n) /\ ∀ a, x ≠ .ref a := fun M => by
    simp at hx
    rcases hx with rfl | rfl
    · exact ⟨rfl, ⟨"list", rfl⟩, fun a e => by cases e⟩
    · exact ⟨rfl, ⟨"tuple", rfl⟩, fun a e => by cases e⟩
  refine ⟨x, rfl, (hsx M1).2.1, (fun a e => absurd e ((hsx M1).2.2 a)), (fun ys hs => by rw [(hsx M1).1] at hs; cases hs; exact rows_hand h), .inr ⟨_, (hsx M1).1, by rw [List.length_map]; omega, by rw [e]; exact krs_good h.krs, fun M2 k2 => ?_⟩⟩
  rw [e, lg_due h, <- e]
  have r2 := t1.ok.keep k2
  refine ⟨_, rfl, .bl false, ?_, false, rfl, ?_⟩
  · have := neD_lst' (pl_nats (dueX ts X)) (pl_nats (dueX ts X))
    rw [eqTs_refl 1 _ (pl_nats _)] at this
    exact this
  refine ⟨_, rfl, _, rfl, fun a ha => ?_⟩
  refine lcD_ix nD (fun p => some (kRow K (X.getD p ni0))) (dueX ts X) (by omega) ha (fun p hp M3 T k3 hT => ⟨_, rfl, _, rfl, kRow K (X.getD p ni0), ?_, hT M3 (Keep.refl M3)⟩) fun M3 k3 => ?_
  · have := hdm p hp
    show ixA (.lst (X.map (kRow K))) (.int (p : Int)) = _
    rw [seqs_ix (xs := X.map (kRow K)) rfl]
    exact atI_get' (by simp [List.getD, this])
  have ez : (dueX ts X).filterMap (fun p => some (kRow K (X.getD p ni0))) = ((X.filter fun i => okX ts X i.nm).map (krOf K)).map KR.d := by
    rw [List.filterMap_eq_map', <- range_filter (fun i : NI => okX ts X i.nm) ni0 X, List.map_map, List.map_map]
    rfl
  rw [ez]
  have r3 := r2.keep k3
  refine fun x hx => ?_
  have hxr : x ≠ r := fun z => rn_some r3 (z ▸ hx)
  refine ⟨x, _, rfl, updM_same, hz.krs, due_good h, fun Y ks es M4 hY hx4 kp => ⟨rfl, ?_⟩⟩
  simp only [frz, hx4]
  have hYl : Y.length = (dueX ts X).length := by
    rw [hY, List.length_map, <- range_filter (fun i : NI => okX ts X i.nm) ni0 X, List.length_map]
    rfl
  have r4 : Rn (delM M4 x) r := by
    obtain ⟨x1, x2, x3, x4, x5⟩ := r3
    exact ⟨x1, x2, x3, by rw [delM_ne (Ne.symm hxr)]; exact kp r (Ne.symm hxr) _ (by rw [updM_ne (Ne.symm hxr)]; exact x4), x5⟩
  refine .inr ⟨15, _, _, sp_Table___len__, rfl, rfl, KTabD Y ks es, Y, ks, es, rfl, rfl, by omega, (fun a e => by cases e), fun M5 k5 => ?_⟩
  have hk : kLen (.int (Y.length : Nat)) = some (.int (Y.length : Nat)) := by
    simp
    omega
  refine ⟨.int (Y.length : Nat), hk, ?_⟩
  refine ⟨_, rfl, .int ((dueX ts X).length : Nat), by show lenF [.lst _] = _; simp, .bl false, ?_, false, rfl, ?_⟩
  · rw [hYl]; simp
  exact lr_5 h (r4.keep k5) q
theorem lr_9 (hp : ParD ts pd) (h : XOk ts K X) (hr : Rn M r) (q : ∀ M', Q (.bl true) M') :
    l__law_right_9 (dEnds Q E) [some (.ref r), o1, o2, o3, some pd, some (.lst (X.map (kRow K))), none, none, none, none, none, none, none, none, none, none] M := by
  have hl := h.len
  refine ⟨_, rfl, _, rfl, fun a ha => ?_⟩
  refine lcD_ix (kRow K) (fun i : NI => some (strD i.nm)) X (by omega) ha (fun i hi M2 T k2 hT => ⟨_, rfl, strD i.nm, rfl, hT M2 (Keep.refl M2)⟩) fun M2 k2 => ?_
  rw [List.filterMap_eq_map', show (X.map fun i => strD i.nm) = (X.map NI.nm).map strD by rw [List.map_map]; rfl]
  have r2 := hr.keep k2
  refine ⟨_, rfl, _, rfl, fun a2 ha2 => ?_⟩
  have ez : ((X.map (kRow K)).zipIdx.map fun p => D.tup [.int (p.2 : Nat), p.1]) = (List.range X.length).map fun p => D.tup [.int (p : Nat), kRow K (X.getD p ni0)] := by
    refine List.ext_getElem (by simp) fun i h1 h2 => ?_
    simp only [List.length_map, List.length_range] at h2
    simp [List.getD, h2]
  rw [ez]
  refine lcD_ix (fun p : Nat => D.tup [.int (p : Nat), kRow K (X.getD p ni0)]) (fun p => if okX ts X (X.getD p ni0).nm = true then some (nD p) else none) _ (by simp; omega) ha2 (fun p hp2 M3 T k3 hT => ?_) fun M3 k3 => ?_
  · have hn := nm_at h (List.mem_range.mp hp2)
    generalize X.getD p ni0 = i at hn hT
    have hin := ancN_in hn
    have hsh := chT_short _ ts [] (Nat.le_refl _) _ hin
    have := h.few
    simp only [List.length_nil, Nat.zero_add] at hsh
    refine ⟨_, .inl rfl, rfl, _, _, rfl, _, _, rfl, rfl, ?_⟩
    refine ⟨_, rfl, _, rfl, strD i.nm, rfl, pd, ts, i.nm, ancN ts i.nm, rfl, hp, h.nd, hin, by omega, fun M4 k4 => ⟨_, rfl, fun a3 ha3 => ?_⟩⟩
    refine lcD_ix strD (fun m => some (.bl (decide (m ∈ X.map NI.nm)))) _ (by simp; omega) ha3 (fun m hm M5 T5 k5 hT5 => ⟨_, rfl, _, rfl, _, in_names' m _ M5, hT5 M5 (Keep.refl M5)⟩) fun M5 k5 => ?_
    have hall : allF [.lst ((ancN ts i.nm).reverse.filterMap fun m => some (D.bl (decide (m ∈ X.map NI.nm))))] = some (.bl (okX ts X i.nm)) := by
      rw [List.filterMap_eq_map', show ((ancN ts i.nm).reverse.map fun m => D.bl (decide (m ∈ X.map NI.nm))) = ((ancN ts i.nm).reverse.map fun m => decide (m ∈ X.map NI.nm)).map D.bl by rw [List.map_map]; rfl, bls_allF, List.all_map, List.all_reverse]
      rfl
    refine ⟨_, hall, _, rfl, ?_⟩
    have hT7 := hT M5 (k4.trans k5)
    cases hb : okX ts X i.nm with
    | true => rw [hb] at hT7; exact ⟨_, rfl, hT7⟩
    | false => rw [hb] at hT7; exact hT7
  · have e5 : (List.range X.length).filterMap (fun p => if okX ts X (X.getD p ni0).nm = true then some (nD p) else none) = (dueX ts X).map nD := by
      unfold dueX
      induction List.range X.length with
      | nil => rfl
      | cons a l ih =>
        rw [List.filterMap_cons, List.filter_cons]
        split
        · rename_i h; split at h
          · cases h
          · rename_i h2; rw [if_neg h2, ih]
        · rename_i b h; split at h
          · rename_i h2; cases h; rw [if_pos h2, ih, List.map_cons]
          · cases h
    rw [e5]
    exact lr_7 h (r2.keep k3) q
end
theorem pure__law_right : ∀ ds M Q E, sp__law_right ds M Q E -> ds.length = 1 /\ t__law_right (dEnds Q E) (startD N__law_right ds) M := by
  rintro ds M Q E ⟨r, rfl, hr, q⟩
  refine ⟨rfl, ?_⟩
  refine ⟨_, rfl, _, rfl, r, 13, rfl, hr, by omega, by decide, fun k0 M1 h0 hk t1 => ?_⟩
  obtain ⟨k, rfl⟩ := Int.eq_ofNat_of_zero_le h0
  refine ⟨r, k, rfl, t1.ok, by omega, fun kd vd ts fp M2 KD hok hn hfp t2 => ?_⟩
  have hn12 : (nmTs ts).length <= 12 := by omega
  refine ⟨_, .inl rfl, rfl, _, _, rfl, _, _, rfl, rfl, ?_⟩
  refine ⟨_, rfl, _, rfl, _, rfl, _, rfl, r, kd, vd, ts, fp, rfl, t2.ok, KD, by omega, fun d K M3 hd hK t3 => ?_⟩
  have K3 := KD.rto t2.ok t3
  refine ⟨kd, vd, ts, fp, d, K, rfl, K3, by omega, hd, hK, fun s M4 ms hs k4 => ?_⟩
  have k4' : Keep M3 M4 := fun b c h => k4 b (fun z => by rw [z, ms] at h; cases h) c h
  have hsr : s ≠ r := fun z => rn_some t3.ok (z ▸ ms)
  refine ⟨_, rfl, kd, vd, ts, fp, rfl, K3.keep k4', by omega, fun pd M5 k5 hp => ?_⟩
  refine ⟨by rw [size_line]; simp, _, .inl rfl, rfl, _, _, rfl, _, _, rfl, rfl, ?_⟩
  obtain ⟨_, _, _, _, _, _, _, _, nd⟩ := id KD
  have hs5 := k5 _ _ hs
  have r5 := (t3.ok.keep k4').keep k5
  have hil : (inf ts).length <= 12 := by rw [inf_len]; exact hn12
  refine ⟨_, rfl, .int ((inf ts).length : Nat), by rw [List.map_cons, List.map_nil, vw_ref hs5]; simp, _, rfl, by omega, by omega, fun a ha => ?_⟩
  have har : a ≠ r := fun z => rn_some r5 (z ▸ ha)
  have has : a ≠ s := fun z => by rw [z, hs5] at ha; cases ha
  have rnu : ∀ {M : Mem} {b : Addr} {c : D}, Rn M r -> b ≠ r -> Rn (updM M b c) r := fun {M b c} h hb => by
    obtain ⟨x, y, z, e, g⟩ := h
    exact ⟨x, y, z, by rw [updM_ne (Ne.symm hb)]; exact e, g⟩
  have rnd : ∀ {M : Mem} {b : Addr}, Rn M r -> b ≠ r -> Rn (delM M b) r := fun {M b} h hb => by
    obtain ⟨x, y, z, e, g⟩ := h
    exact ⟨x, y, z, by rw [delM_ne (Ne.symm hb)]; exact e, g⟩
  refine lcD_run _ (fun done acc M6 => ∃ A B : List NI, acc = A.map (kRow K) /\ A.length = done.length /\ (A ++ B).Perm (inf ts) /\ M6 s = some (.lst (B.map (kRow K))) /\ Rn M6 r) ?_ ?_ ⟨[], inf ts, rfl, rfl, List.Perm.refl _, by rw [updM_ne (Ne.symm has)]; exact hs5, rnu r5 har⟩
  · rintro done y rest acc M6 Nx e hM6 ⟨A, B, rfl, hA, hAB, hs6, r6⟩ nx
    obtain ⟨hlt, rfl⟩ := range_at e
    have hlt2 : done.length < (inf ts).length := by simpa using hlt
    have hBl : 0 < B.length /\ B.length <= 12 := by
      have := hAB.length_eq
      rw [List.length_append] at this
      omega
    refine ⟨_, rfl, by rw [vw_ref hs6]; rfl, ?_⟩
    refine ⟨_, rfl, _, rfl, .int (B.length : Nat), by rw [List.map_cons, List.map_nil, vw_ref hs6]; simp, r, _, rfl, r6, by omega, by omega, fun j0 M7 j1 j2 t7 => ?_⟩
    obtain ⟨j, rfl⟩ := Int.eq_ofNat_of_zero_le j1
    have hjB : j < B.length := by omega
    have hs7 := t7.keep1 hs6 hsr
    refine ⟨s, _, _, j, kRow K B[j], rfl, rfl, hs7, by omega, by omega, ?_, by simp [hjB], ?_⟩
    · rw [List.length_map]; exact sqix hjB
    refine ⟨A.map (kRow K), by rw [updM_ne has]; exact t7.keep1 hM6 har, by rw [size_line, List.length_map]; omega, nx _ _ updM_same ⟨A ++ [B[j]], B.eraseIdx j, by simp, by simp [hA], ?_, ?_, rnu (rnu t7.ok hsr) har⟩⟩
    · have : (A ++ [B[j]] ++ B.eraseIdx j).Perm (A ++ B) := by
        rw [List.append_assoc]
        refine List.Perm.append_left _ ?_
        exact erase_perm B j hjB
      exact this.trans hAB
    · rw [updM_ne (Ne.symm has), updM_same, erase_map]
  · rintro acc M6 hM6 ⟨A, B, rfl, hA, hAB, hs6, r6⟩
    have hB : B = [] := by
      have := hAB.length_eq
      simp at hA this
      exact List.length_eq_zero_iff.mp (by omega)
    subst hB
    rw [List.append_nil] at hAB
    have r6' := rnd r6 har
    generalize delM M6 a = M7 at r6'
    clear hM6 hs6 r6 M6
    have hX0 : XOk ts K A := ⟨hK, nd, hn12, hok, fun i hi => hAB.subset hi, by
      rw [(hAB.map NI.nm).nodup_iff, inf_names]; exact nd⟩
    show l__law_right_10 _ [some (.ref r), some (.ref kd), some (.ref vd), some (.ref s), some pd, some (.lst (A.map (kRow K))), none, none, none, none, none, none, none, none, none, none] M7
    generalize hR10 : ([some (.ref r), some (.ref kd), some (.ref vd), some (.ref s), some pd] : List (Option D)) = R0
    have q' := q
    clear q
    subst hR10
    refine ⟨_, rfl, _, rfl, fun a2 ha2 => ?_⟩
    have har2 : a2 ≠ r := fun z => rn_some r6' (z ▸ ha2)
    refine lcD_run _ (fun done acc M8 => ∃ X : List NI, acc = X.map (kRow K) /\ X.Sublist (A.take done.length) /\ Rn M8 r) ?_ ?_ ⟨[], rfl, List.nil_sublist _, rnu r6' har2⟩
    · rintro done y rest acc M8 Nx e hM8 ⟨X, rfl, hX, r8⟩ nx
      have hd : done.length < A.length := by have := congrArg List.length e; simp at this; omega
      have hy : y = kRow K A[done.length] := by
        have := congrArg (fun l => l[done.length]?) e
        simp [List.getElem?_eq_getElem hd] at this
        exact this.symm
      subst hy
      have htk : A.take (done.length + 1) = A.take done.length ++ [A[done.length]] := by rw [List.take_add_one, List.getElem?_eq_getElem hd]; rfl
      refine ⟨_, rfl, r, 5, rfl, r8, by omega, by decide, fun j0 M9 j1 j2 t9 => ?_⟩
      refine ⟨.bl (decide (0 < j0)), rfl, _, rfl, ?_⟩
      by_cases hj : 0 < j0
      · rw [decide_eq_true hj]
        show if true = true then _ else _
        rw [if_pos rfl]
        refine ⟨_, rfl, X.map (kRow K), t9.keep1 hM8 har2, ?_, nx _ _ updM_same ⟨X ++ [A[done.length]], by simp, ?_, rnu t9.ok har2⟩⟩
        · have h1 := hX.length_le
          have h2 : (A.take done.length).length <= A.length := by simp; omega
          have h3 := hX0.len
          rw [size_line, List.length_map]; omega
        · rw [List.length_append, List.length_singleton, htk]
          exact hX.append (List.Sublist.refl _)
      · rw [decide_eq_false hj]
        show if false = true then _ else _
        rw [if_neg Bool.false_ne_true]
        refine nx _ _ (t9.keep1 hM8 har2) ⟨X, rfl, ?_, t9.ok⟩
        rw [List.length_append, List.length_singleton, htk]
        exact hX.trans (List.sublist_append_left _ _)
    · rintro acc M8 hM8 ⟨X, rfl, hX, r8⟩
      rw [List.length_map, List.take_length] at hX
      have r8' := rnd r8 har2
      generalize delM M8 a2 = M9 at r8'
      have hXO : XOk ts K X := ⟨hK, nd, hn12, hok, fun i hi => hX0.sub i (hX.subset hi), hX0.nms.sublist (hX.map _)⟩
      show l__law_right_9 _ [some (.ref r), some (.ref kd), some (.ref vd), some (.ref s), some pd, some (.lst (X.map (kRow K))), none, none, none, none, none, none, none, none, none, none] M9
      exact lr_9 hp hXO r8' q'
end LawProof
set_option Elab.async false
set_option linter.all false
set_option maxRecDepth 100000
set_option maxHeartbeats 4000000
set_option autoImplicit true
namespace LawProof
open PySem L2 DL FL
def sp_law : SpD := fun ds M Q _ => ∃ (ns : List Int), ds = [.lst (ns.map D.int)] /\ ns.length <= 63 /\ ∀ M', Q (.bl true) M'
abbrev N_law : List Str := ["_law_script", "_law_cell"]
def l_law_1 : DTS := (dIf (dNot (dTest (dCall sp__law_right [] (dCons (dCall sp__law_rng [] (dCons (dVar 1) dNil)) dNil)))) (dRet (dC (.bl false))) dNext)
def t_law : DTS := (dSeq (dFor (iS (dSl slD (dOp addD (dVar 0) (dLst (dCons (dC (.int 0)) dNil))) dNoPart (dPart (dC (.int 3))))) (gN 1) l_law_1)
    (dRet (dAndV (dBin bEqE (dCall sp_largest_keys [] (dCons (dLst dNil) dNil)) (dLst dNil)) (dOp eqD (dCall sp__law_said [] (dCons (dC .non) dNil)) (dTup (dCons (dUn negD (dC (.int 1))) (dCons (dC (.str "rows")) dNil)))))))
theorem pure_law : ∀ ds M Q E, sp_law ds M Q E -> ds.length = 1 /\ t_law (dEnds Q E) (startD N_law ds) M := by
  rintro ds M Q E ⟨ns, rfl, hl, q⟩
  refine ⟨rfl, ?_⟩
  have hsl := cells_int ns 3
  refine ⟨_, rfl, by simp, _, cells_add ns hl, _, rfl, _, rfl, _, rfl, ?_⟩
  refine forD_run _ (fun done ρ M1 => ∃ o1, ρ = [some (.lst (ns.map D.int)), o1]) ?_ ?_ ⟨_, rfl⟩
  · rintro done y rest ρ M1 Nx e ⟨o1, rfl⟩ nx
    obtain ⟨c, rfl⟩ := hsl y (by rw [show cutD (ns.map D.int ++ [D.int 0]) none (some ((3 : Nat) : Int)) = _ from e]; simp)
    refine ⟨_, rfl, c, rfl, fun r M2 hr hw _ => ⟨r, rfl, hw, fun M3 => ⟨true, rfl, nx _ _ ⟨_, rfl⟩⟩⟩⟩
  · rintro ρ M1 ⟨o1, rfl⟩
    refine ⟨by simp, .lst [], rfl, ⟨"list", rfl⟩, (fun a e => by cases e), (fun ys hs => by cases hs; simp), .inr ⟨[], rfl, by simp, rfl, fun M2 k2 => ?_⟩⟩
    refine ⟨by simp, [], [], rfl, rfl, .inl rfl, true, rfl, ?_⟩
    refine ⟨.non, -1, "rows", rfl, ⟨"NoneType", rfl⟩, (fun a e => by cases e), (fun ys hs => by cases hs), rfl, rfl, fun M3 k3 => ?_⟩
    have p1 : plDs 1 [D.int (-1), .str "rows"] = true := by decide +kernel
    refine ⟨_, rfl, by simp, .bl true, ?_, ?_⟩
    · have := eqD_tup' p1 p1
      rw [eqTs_refl 1 _ p1] at this
      exact this
    exact q M3
theorem law_sp : ∀ (ns : List Int) (M : Mem) (Qd : DV) (Ed : DEK), ns.length <= 63 -> (∀ M', Qd (.bl true) M') -> sp_law [.lst (ns.map D.int)] M Qd Ed := fun ns M Qd Ed h q => ⟨ns, rfl, h, q⟩
end LawProof
set_option Elab.async false
set_option linter.all false
set_option maxRecDepth 100000
set_option maxHeartbeats 4000000
set_option autoImplicit true
namespace LawProof
open PySem L2 DL
theorem sc_is_integer : FnScope N_is_integer ["thing"] (defScope s_is_integer) := ⟨rfl, rfl, rfl, by decide +kernel, rfl, by decide +kernel, by decide +kernel⟩
theorem hb_is_integer : HBind "is_integer" "is_integer" (defArgs s_is_integer) (defBody s_is_integer) (defScope s_is_integer) ["thing"] := fun _ _ _ _ _ _ us hl => match us, hl with | [_], _ => rfl
theorem sc_is_sequence : FnScope N_is_sequence ["thing"] (defScope s_is_sequence) := ⟨rfl, rfl, rfl, by decide +kernel, rfl, by decide +kernel, by decide +kernel⟩
theorem hb_is_sequence : HBind "is_sequence" "is_sequence" (defArgs s_is_sequence) (defBody s_is_sequence) (defScope s_is_sequence) ["thing"] := fun _ _ _ _ _ _ us hl => match us, hl with | [_], _ => rfl
theorem sc_is_name : FnScope N_is_name ["thing"] (defScope s_is_name) := ⟨rfl, rfl, rfl, by decide +kernel, rfl, by decide +kernel, by decide +kernel⟩
theorem hb_is_name : HBind "is_name" "is_name" (defArgs s_is_name) (defBody s_is_name) (defScope s_is_name) ["thing"] := fun _ _ _ _ _ _ us hl => match us, hl with | [_], _ => rfl
theorem sc_is_value : FnScope N_is_value ["thing"] (defScope s_is_value) := ⟨rfl, rfl, rfl, by decide +kernel, rfl, by decide +kernel, by decide +kernel⟩
theorem hb_is_value : HBind "is_value" "is_value" (defArgs s_is_value) (defBody s_is_value) (defScope s_is_value) ["thing"] := fun _ _ _ _ _ _ us hl => match us, hl with | [_], _ => rfl
theorem sc_key_fault : FnScope N_key_fault ["key"] (defScope s_key_fault) := ⟨rfl, rfl, rfl, by decide +kernel, rfl, by decide +kernel, by decide +kernel⟩
theorem hb_key_fault : HBind "key_fault" "key_fault" (defArgs s_key_fault) (defBody s_key_fault) (defScope s_key_fault) ["key"] := fun _ _ _ _ _ _ us hl => match us, hl with | [_], _ => rfl
theorem sc_cut_key : FnScope N_cut_key ["key"] (defScope s_cut_key) := ⟨rfl, rfl, rfl, by decide +kernel, rfl, by decide +kernel, by decide +kernel⟩
theorem hb_cut_key : HBind "cut_key" "cut_key" (defArgs s_cut_key) (defBody s_cut_key) (defScope s_cut_key) ["key"] := fun _ _ _ _ _ _ us hl => match us, hl with | [_], _ => rfl
theorem sc_bytes_of : FnScope N_bytes_of ["numbers"] (defScope s_bytes_of) := ⟨rfl, rfl, rfl, by decide +kernel, rfl, by decide +kernel, by decide +kernel⟩
theorem hb_bytes_of : HBind "bytes_of" "bytes_of" (defArgs s_bytes_of) (defBody s_bytes_of) (defScope s_bytes_of) ["numbers"] := fun _ _ _ _ _ _ us hl => match us, hl with | [_], _ => rfl
theorem sc_Fault___init__ : FnScope N_Fault___init__ ["self", "place", "word"] (defScope s_Fault___init__) := ⟨rfl, rfl, rfl, by decide +kernel, rfl, by decide +kernel, by decide +kernel⟩
theorem hb_Fault___init__ : HBind "__init__" "Fault.__init__" (defArgs s_Fault___init__) (defBody s_Fault___init__) (defScope s_Fault___init__) ["self", "place", "word"] := fun _ _ _ _ _ _ us hl => match us, hl with | [_, _, _], _ => rfl
theorem sc_plain_word : FnScope N_plain_word ["row", "many"] (defScope s_plain_word) := ⟨rfl, rfl, rfl, by decide +kernel, rfl, by decide +kernel, by decide +kernel⟩
theorem hb_plain_word : HBind "plain_word" "plain_word" (defArgs s_plain_word) (defBody s_plain_word) (defScope s_plain_word) ["row", "many"] := fun _ _ _ _ _ _ us hl => match us, hl with | [_, _], _ => rfl
theorem sc_key_word : FnScope N_key_word ["rows", "place"] (defScope s_key_word) := ⟨rfl, rfl, rfl, by decide +kernel, rfl, by decide +kernel, by decide +kernel⟩
theorem hb_key_word : HBind "key_word" "key_word" (defArgs s_key_word) (defBody s_key_word) (defScope s_key_word) ["rows", "place"] := fun _ _ _ _ _ _ us hl => match us, hl with | [_, _], _ => rfl
theorem sc_shorter_keys : FnScope N_shorter_keys ["key"] (defScope s_shorter_keys) := ⟨rfl, rfl, rfl, by decide +kernel, rfl, by decide +kernel, by decide +kernel⟩
theorem hb_shorter_keys : HBind "shorter_keys" "shorter_keys" (defArgs s_shorter_keys) (defBody s_shorter_keys) (defScope s_shorter_keys) ["key"] := fun _ _ _ _ _ _ us hl => match us, hl with | [_], _ => rfl
theorem sc_judge_keys : FnScope N_judge_keys ["rows"] (defScope s_judge_keys) := ⟨rfl, rfl, rfl, by decide +kernel, rfl, by decide +kernel, by decide +kernel⟩
theorem hb_judge_keys : HBind "judge_keys" "judge_keys" (defArgs s_judge_keys) (defBody s_judge_keys) (defScope s_judge_keys) ["rows"] := fun _ _ _ _ _ _ us hl => match us, hl with | [_], _ => rfl
theorem sc_KeyTable_put_rows : FnScope N_KeyTable_put_rows ["self", "rows"] (defScope s_KeyTable_put_rows) := ⟨rfl, rfl, rfl, by decide +kernel, rfl, by decide +kernel, by decide +kernel⟩
theorem hb_KeyTable_put_rows : HBind "put_rows" "KeyTable.put_rows" (defArgs s_KeyTable_put_rows) (defBody s_KeyTable_put_rows) (defScope s_KeyTable_put_rows) ["self", "rows"] := fun _ _ _ _ _ _ us hl => match us, hl with | [_, _], _ => rfl
theorem sc_KeyTable___init__ : FnScope N_KeyTable___init__ ["self", "rows"] (defScope s_KeyTable___init__) := ⟨rfl, rfl, rfl, by decide +kernel, rfl, by decide +kernel, by decide +kernel⟩
theorem hb_KeyTable___init__ : HBind "__init__" "KeyTable.__init__" (defArgs s_KeyTable___init__) (defBody s_KeyTable___init__) (defScope s_KeyTable___init__) ["self", "rows"] := fun _ _ _ _ _ _ us hl => match us, hl with | [_, _], _ => rfl
theorem sc_KeyTable_names : FnScope N_KeyTable_names ["self"] (defScope s_KeyTable_names) := ⟨rfl, rfl, rfl, by decide +kernel, rfl, by decide +kernel, by decide +kernel⟩
theorem hb_KeyTable_names : HBind "names" "KeyTable.names" (defArgs s_KeyTable_names) (defBody s_KeyTable_names) (defScope s_KeyTable_names) ["self"] := fun _ _ _ _ _ _ us hl => match us, hl with | [_], _ => rfl
theorem sc_Table___len__ : FnScope N_Table___len__ ["self"] (defScope s_Table___len__) := ⟨rfl, rfl, rfl, by decide +kernel, rfl, by decide +kernel, by decide +kernel⟩
theorem hb_Table___len__ : HBind "__len__" "Table.__len__" (defArgs s_Table___len__) (defBody s_Table___len__) (defScope s_Table___len__) ["self"] := fun _ _ _ _ _ _ us hl => match us, hl with | [_], _ => rfl
theorem sc_largest_keys : FnScope N_largest_keys ["rows"] (defScope s_largest_keys) := ⟨rfl, rfl, rfl, by decide +kernel, rfl, by decide +kernel, by decide +kernel⟩
theorem hb_largest_keys : HBind "largest_keys" "largest_keys" (defArgs s_largest_keys) (defBody s_largest_keys) (defScope s_largest_keys) ["rows"] := fun _ _ _ _ _ _ us hl => match us, hl with | [_], _ => rfl
theorem sc__law_rng : FnScope N__law_rng ["_law_cell"] (defScope s__law_rng) := ⟨rfl, rfl, rfl, by decide +kernel, rfl, by decide +kernel, by decide +kernel⟩
theorem hb__law_rng : HBind "_law_rng" "_law_rng" (defArgs s__law_rng) (defBody s__law_rng) (defScope s__law_rng) ["_law_cell"] := fun _ _ _ _ _ _ us hl => match us, hl with | [_], _ => rfl
theorem sc__law_draw : FnScope N__law_draw ["_law_rng_here", "_law_limit"] (defScope s__law_draw) := ⟨rfl, rfl, rfl, by decide +kernel, rfl, by decide +kernel, by decide +kernel⟩
theorem hb__law_draw : HBind "_law_draw" "_law_draw" (defArgs s__law_draw) (defBody s__law_draw) (defScope s__law_draw) ["_law_rng_here", "_law_limit"] := fun _ _ _ _ _ _ us hl => match us, hl with | [_, _], _ => rfl
theorem sc__law_pick : FnScope N__law_pick ["_law_rng_here", "_law_items"] (defScope s__law_pick) := ⟨rfl, rfl, rfl, by decide +kernel, rfl, by decide +kernel, by decide +kernel⟩
theorem hb__law_pick : HBind "_law_pick" "_law_pick" (defArgs s__law_pick) (defBody s__law_pick) (defScope s__law_pick) ["_law_rng_here", "_law_items"] := fun _ _ _ _ _ _ us hl => match us, hl with | [_, _], _ => rfl
theorem sc__law_value : FnScope N__law_value ["_law_rng_here"] (defScope s__law_value) := ⟨rfl, rfl, rfl, by decide +kernel, rfl, by decide +kernel, by decide +kernel⟩
theorem hb__law_value : HBind "_law_value" "_law_value" (defArgs s__law_value) (defBody s__law_value) (defScope s__law_value) ["_law_rng_here"] := fun _ _ _ _ _ _ us hl => match us, hl with | [_], _ => rfl
theorem sc__law_forest : FnScope N__law_forest ["_law_rng_here", "_law_many"] (defScope s__law_forest) := ⟨rfl, rfl, rfl, by decide +kernel, rfl, by decide +kernel, by decide +kernel⟩
theorem hb__law_forest : HBind "_law_forest" "_law_forest" (defArgs s__law_forest) (defBody s__law_forest) (defScope s__law_forest) ["_law_rng_here", "_law_many"] := fun _ _ _ _ _ _ us hl => match us, hl with | [_, _], _ => rfl
theorem sc__law_inside : FnScope N__law_inside ["_law_kids", "_law_name"] (defScope s__law_inside) := ⟨rfl, rfl, rfl, by decide +kernel, rfl, by decide +kernel, by decide +kernel⟩
theorem hb__law_inside : HBind "_law_inside" "_law_inside" (defArgs s__law_inside) (defBody s__law_inside) (defScope s__law_inside) ["_law_kids", "_law_name"] := fun _ _ _ _ _ _ us hl => match us, hl with | [_, _], _ => rfl
theorem sc__law_parents : FnScope N__law_parents ["_law_kids"] (defScope s__law_parents) := ⟨rfl, rfl, rfl, by decide +kernel, rfl, by decide +kernel, by decide +kernel⟩
theorem hb__law_parents : HBind "_law_parents" "_law_parents" (defArgs s__law_parents) (defBody s__law_parents) (defScope s__law_parents) ["_law_kids"] := fun _ _ _ _ _ _ us hl => match us, hl with | [_], _ => rfl
theorem sc__law_line : FnScope N__law_line ["_law_parents_here", "_law_name"] (defScope s__law_line) := ⟨rfl, rfl, rfl, by decide +kernel, rfl, by decide +kernel, by decide +kernel⟩
theorem hb__law_line : HBind "_law_line" "_law_line" (defArgs s__law_line) (defBody s__law_line) (defScope s__law_line) ["_law_parents_here", "_law_name"] := fun _ _ _ _ _ _ us hl => match us, hl with | [_, _], _ => rfl
theorem sc__law_label : FnScope N__law_label ["_law_rng_here"] (defScope s__law_label) := ⟨rfl, rfl, rfl, by decide +kernel, rfl, by decide +kernel, by decide +kernel⟩
theorem hb__law_label : HBind "_law_label" "_law_label" (defArgs s__law_label) (defBody s__law_label) (defScope s__law_label) ["_law_rng_here"] := fun _ _ _ _ _ _ us hl => match us, hl with | [_], _ => rfl
theorem sc__law_labels : FnScope N__law_labels ["_law_rng_here", "_law_many"] (defScope s__law_labels) := ⟨rfl, rfl, rfl, by decide +kernel, rfl, by decide +kernel, by decide +kernel⟩
theorem hb__law_labels : HBind "_law_labels" "_law_labels" (defArgs s__law_labels) (defBody s__law_labels) (defScope s__law_labels) ["_law_rng_here", "_law_many"] := fun _ _ _ _ _ _ us hl => match us, hl with | [_, _], _ => rfl
theorem sc__law_keys : FnScope N__law_keys ["_law_rng_here", "_law_kids"] (defScope s__law_keys) := ⟨rfl, rfl, rfl, by decide +kernel, rfl, by decide +kernel, by decide +kernel⟩
theorem hb__law_keys : HBind "_law_keys" "_law_keys" (defArgs s__law_keys) (defBody s__law_keys) (defScope s__law_keys) ["_law_rng_here", "_law_kids"] := fun _ _ _ _ _ _ us hl => match us, hl with | [_, _], _ => rfl
theorem sc__law_joined : FnScope N__law_joined ["_law_labels_here"] (defScope s__law_joined) := ⟨rfl, rfl, rfl, by decide +kernel, rfl, by decide +kernel, by decide +kernel⟩
theorem hb__law_joined : HBind "_law_joined" "_law_joined" (defArgs s__law_joined) (defBody s__law_joined) (defScope s__law_joined) ["_law_labels_here"] := fun _ _ _ _ _ _ us hl => match us, hl with | [_], _ => rfl
theorem sc__law_key_rows : FnScope N__law_key_rows ["_law_kids", "_law_values", "_law_keys_here"] (defScope s__law_key_rows) := ⟨rfl, rfl, rfl, by decide +kernel, rfl, by decide +kernel, by decide +kernel⟩
theorem hb__law_key_rows : HBind "_law_key_rows" "_law_key_rows" (defArgs s__law_key_rows) (defBody s__law_key_rows) (defScope s__law_key_rows) ["_law_kids", "_law_values", "_law_keys_here"] := fun _ _ _ _ _ _ us hl => match us, hl with | [_, _, _], _ => rfl
theorem sc__law_said : FnScope N__law_said ["_law_rows"] (defScope s__law_said) := ⟨rfl, rfl, rfl, by decide +kernel, rfl, by decide +kernel, by decide +kernel⟩
theorem hb__law_said : HBind "_law_said" "_law_said" (defArgs s__law_said) (defBody s__law_said) (defScope s__law_said) ["_law_rows"] := fun _ _ _ _ _ _ us hl => match us, hl with | [_], _ => rfl
theorem sc__law_right : FnScope N__law_right ["_law_rng_here"] (defScope s__law_right) := ⟨rfl, rfl, rfl, by decide +kernel, rfl, by decide +kernel, by decide +kernel⟩
theorem hb__law_right : HBind "_law_right" "_law_right" (defArgs s__law_right) (defBody s__law_right) (defScope s__law_right) ["_law_rng_here"] := fun _ _ _ _ _ _ us hl => match us, hl with | [_], _ => rfl
theorem sc_law : FnScope N_law ["_law_script"] (defScope s_law) := ⟨rfl, rfl, rfl, by decide +kernel, rfl, by decide +kernel, by decide +kernel⟩
theorem hb_law : HBind "law" "law" (defArgs s_law) (defBody s_law) (defScope s_law) ["_law_script"] := fun _ _ _ _ _ _ us hl => match us, hl with | [_], _ => rfl
theorem hb_NoKey___init__ : HBind "__init__" "NoKey.__init__" (defArgs s_NoKey___init__) (defBody s_NoKey___init__) (defScope s_NoKey___init__) ["self", "place"] := fun _ _ _ _ _ _ us hl => match us, hl with | [_, _], _ => rfl
theorem hb_NoTable___init__ : HBind "__init__" "NoTable.__init__" (defArgs s_NoTable___init__) (defBody s_NoTable___init__) (defScope s_NoTable___init__) ["self", "place", "why"] := fun _ _ _ _ _ _ us hl => match us, hl with | [_, _, _], _ => rfl
structure Tx (K : PySem.W.Frag) (mg : Str -> Option Value) (base : Heap) : Prop where
  f_is_integer : ∃ fd, FunD K "is_integer" "is_integer" (defArgs s_is_integer) (defBody s_is_integer) (defScope s_is_integer) [] [] (He.fAd K ("is_integer", none)) fd
  f_is_sequence : ∃ fd, FunD K "is_sequence" "is_sequence" (defArgs s_is_sequence) (defBody s_is_sequence) (defScope s_is_sequence) [] [] (He.fAd K ("is_sequence", none)) fd
  f_is_name : ∃ fd, FunD K "is_name" "is_name" (defArgs s_is_name) (defBody s_is_name) (defScope s_is_name) [] [] (He.fAd K ("is_name", none)) fd
  f_is_value : ∃ fd, FunD K "is_value" "is_value" (defArgs s_is_value) (defBody s_is_value) (defScope s_is_value) [] [] (He.fAd K ("is_value", none)) fd
  f_key_fault : ∃ fd, FunD K "key_fault" "key_fault" (defArgs s_key_fault) (defBody s_key_fault) (defScope s_key_fault) [] [] (He.fAd K ("key_fault", none)) fd
  f_cut_key : ∃ fd, FunD K "cut_key" "cut_key" (defArgs s_cut_key) (defBody s_cut_key) (defScope s_cut_key) [] [] (He.fAd K ("cut_key", none)) fd
  f_bytes_of : ∃ fd, FunD K "bytes_of" "bytes_of" (defArgs s_bytes_of) (defBody s_bytes_of) (defScope s_bytes_of) [] [] (He.fAd K ("bytes_of", none)) fd
  f_plain_word : ∃ fd, FunD K "plain_word" "plain_word" (defArgs s_plain_word) (defBody s_plain_word) (defScope s_plain_word) [] [] (He.fAd K ("plain_word", none)) fd
  f_key_word : ∃ fd, FunD K "key_word" "key_word" (defArgs s_key_word) (defBody s_key_word) (defScope s_key_word) [] [] (He.fAd K ("key_word", none)) fd
  f_shorter_keys : ∃ fd, FunD K "shorter_keys" "shorter_keys" (defArgs s_shorter_keys) (defBody s_shorter_keys) (defScope s_shorter_keys) [] [] (He.fAd K ("shorter_keys", none)) fd
  f_judge_keys : ∃ fd, FunD K "judge_keys" "judge_keys" (defArgs s_judge_keys) (defBody s_judge_keys) (defScope s_judge_keys) [] [] (He.fAd K ("judge_keys", none)) fd
  f_largest_keys : ∃ fd, FunD K "largest_keys" "largest_keys" (defArgs s_largest_keys) (defBody s_largest_keys) (defScope s_largest_keys) [] [] (He.fAd K ("largest_keys", none)) fd
  f__law_rng : ∃ fd, FunD K "_law_rng" "_law_rng" (defArgs s__law_rng) (defBody s__law_rng) (defScope s__law_rng) [] [] (He.fAd K ("_law_rng", none)) fd
  f__law_draw : ∃ fd, FunD K "_law_draw" "_law_draw" (defArgs s__law_draw) (defBody s__law_draw) (defScope s__law_draw) [] [] (He.fAd K ("_law_draw", none)) fd
  f__law_pick : ∃ fd, FunD K "_law_pick" "_law_pick" (defArgs s__law_pick) (defBody s__law_pick) (defScope s__law_pick) [] [] (He.fAd K ("_law_pick", none)) fd
  f__law_value : ∃ fd, FunD K "_law_value" "_law_value" (defArgs s__law_value) (defBody s__law_value) (defScope s__law_value) [] [] (He.fAd K ("_law_value", none)) fd
  f__law_forest : ∃ fd, FunD K "_law_forest" "_law_forest" (defArgs s__law_forest) (defBody s__law_forest) (defScope s__law_forest) [] [] (He.fAd K ("_law_forest", none)) fd
  f__law_inside : ∃ fd, FunD K "_law_inside" "_law_inside" (defArgs s__law_inside) (defBody s__law_inside) (defScope s__law_inside) [] [] (He.fAd K ("_law_inside", none)) fd
  f__law_parents : ∃ fd, FunD K "_law_parents" "_law_parents" (defArgs s__law_parents) (defBody s__law_parents) (defScope s__law_parents) [] [] (He.fAd K ("_law_parents", none)) fd
  f__law_line : ∃ fd, FunD K "_law_line" "_law_line" (defArgs s__law_line) (defBody s__law_line) (defScope s__law_line) [] [] (He.fAd K ("_law_line", none)) fd
  f__law_label : ∃ fd, FunD K "_law_label" "_law_label" (defArgs s__law_label) (defBody s__law_label) (defScope s__law_label) [] [] (He.fAd K ("_law_label", none)) fd
  f__law_labels : ∃ fd, FunD K "_law_labels" "_law_labels" (defArgs s__law_labels) (defBody s__law_labels) (defScope s__law_labels) [] [] (He.fAd K ("_law_labels", none)) fd
  f__law_keys : ∃ fd, FunD K "_law_keys" "_law_keys" (defArgs s__law_keys) (defBody s__law_keys) (defScope s__law_keys) [] [] (He.fAd K ("_law_keys", none)) fd
  f__law_joined : ∃ fd, FunD K "_law_joined" "_law_joined" (defArgs s__law_joined) (defBody s__law_joined) (defScope s__law_joined) [] [] (He.fAd K ("_law_joined", none)) fd
  f__law_key_rows : ∃ fd, FunD K "_law_key_rows" "_law_key_rows" (defArgs s__law_key_rows) (defBody s__law_key_rows) (defScope s__law_key_rows) [] [] (He.fAd K ("_law_key_rows", none)) fd
  f__law_said : ∃ fd, FunD K "_law_said" "_law_said" (defArgs s__law_said) (defBody s__law_said) (defScope s__law_said) [] [] (He.fAd K ("_law_said", none)) fd
  f__law_right : ∃ fd, FunD K "_law_right" "_law_right" (defArgs s__law_right) (defBody s__law_right) (defScope s__law_right) [] [] (He.fAd K ("_law_right", none)) fd
  f_law : ∃ fd, FunD K "law" "law" (defArgs s_law) (defBody s_law) (defScope s_law) [] [] (He.fAd K ("law", none)) fd
  f_NoKey____init__ : ∃ fd, FunD K "__init__" "NoKey.__init__" (defArgs s_NoKey___init__) (defBody s_NoKey___init__) (defScope s_NoKey___init__) [] [] (He.fAd K ("NoKey", some "__init__")) fd
  f_Fault____init__ : ∃ fd, FunD K "__init__" "Fault.__init__" (defArgs s_Fault___init__) (defBody s_Fault___init__) (defScope s_Fault___init__) [] [] (He.fAd K ("Fault", some "__init__")) fd
  f_KeyTable__put_rows : ∃ fd, FunD K "put_rows" "KeyTable.put_rows" (defArgs s_KeyTable_put_rows) (defBody s_KeyTable_put_rows) (defScope s_KeyTable_put_rows) [] [] (He.fAd K ("KeyTable", some "put_rows")) fd
  f_NoTable____init__ : ∃ fd, FunD K "__init__" "NoTable.__init__" (defArgs s_NoTable___init__) (defBody s_NoTable___init__) (defScope s_NoTable___init__) [] [] (He.fAd K ("NoTable", some "__init__")) fd
  f_KeyTable__names : ∃ fd, FunD K "names" "KeyTable.names" (defArgs s_KeyTable_names) (defBody s_KeyTable_names) (defScope s_KeyTable_names) [] [] (He.fAd K ("KeyTable", some "names")) fd
  f_KeyTable____len__ : ∃ fd, FunD K "__len__" "Table.__len__" (defArgs s_Table___len__) (defBody s_Table___len__) (defScope s_Table___len__) [] [] (He.fAd K ("KeyTable", some "__len__")) fd
  f_KeyTable____init__ : ∃ fd, FunD K "__init__" "KeyTable.__init__" (defArgs s_KeyTable___init__) (defBody s_KeyTable___init__) (defScope s_KeyTable___init__) [] [] (He.fAd K ("KeyTable", some "__init__")) fd
  g_is_integer : mg "is_integer" = some (.ref (He.fAd K ("is_integer", none)))
  g_is_sequence : mg "is_sequence" = some (.ref (He.fAd K ("is_sequence", none)))
  g_is_name : mg "is_name" = some (.ref (He.fAd K ("is_name", none)))
  g_is_value : mg "is_value" = some (.ref (He.fAd K ("is_value", none)))
  g_key_fault : mg "key_fault" = some (.ref (He.fAd K ("key_fault", none)))
  g_cut_key : mg "cut_key" = some (.ref (He.fAd K ("cut_key", none)))
  g_bytes_of : mg "bytes_of" = some (.ref (He.fAd K ("bytes_of", none)))
  g_plain_word : mg "plain_word" = some (.ref (He.fAd K ("plain_word", none)))
  g_key_word : mg "key_word" = some (.ref (He.fAd K ("key_word", none)))
  g_shorter_keys : mg "shorter_keys" = some (.ref (He.fAd K ("shorter_keys", none)))
  g_judge_keys : mg "judge_keys" = some (.ref (He.fAd K ("judge_keys", none)))
  g_largest_keys : mg "largest_keys" = some (.ref (He.fAd K ("largest_keys", none)))
  g__law_rng : mg "_law_rng" = some (.ref (He.fAd K ("_law_rng", none)))
  g__law_draw : mg "_law_draw" = some (.ref (He.fAd K ("_law_draw", none)))
  g__law_pick : mg "_law_pick" = some (.ref (He.fAd K ("_law_pick", none)))
  g__law_value : mg "_law_value" = some (.ref (He.fAd K ("_law_value", none)))
  g__law_forest : mg "_law_forest" = some (.ref (He.fAd K ("_law_forest", none)))
  g__law_inside : mg "_law_inside" = some (.ref (He.fAd K ("_law_inside", none)))
  g__law_parents : mg "_law_parents" = some (.ref (He.fAd K ("_law_parents", none)))
  g__law_line : mg "_law_line" = some (.ref (He.fAd K ("_law_line", none)))
  g__law_label : mg "_law_label" = some (.ref (He.fAd K ("_law_label", none)))
  g__law_labels : mg "_law_labels" = some (.ref (He.fAd K ("_law_labels", none)))
  g__law_keys : mg "_law_keys" = some (.ref (He.fAd K ("_law_keys", none)))
  g__law_joined : mg "_law_joined" = some (.ref (He.fAd K ("_law_joined", none)))
  g__law_key_rows : mg "_law_key_rows" = some (.ref (He.fAd K ("_law_key_rows", none)))
  g__law_said : mg "_law_said" = some (.ref (He.fAd K ("_law_said", none)))
  g__law_right : mg "_law_right" = some (.ref (He.fAd K ("_law_right", none)))
  g_law : mg "law" = some (.ref (He.fAd K ("law", none)))
  g_Fault : mg "Fault" = some (.ref (He.ga K "Fault"))
  k_Fault : Cls K (He.ga K "Fault")
  g_KeyTable : mg "KeyTable" = some (.ref (He.ga K "KeyTable"))
  k_KeyTable : Cls K (He.ga K "KeyTable")
  g_Thing : mg "Thing" = some (.ref (He.ga K "Thing"))
  k_Thing : Cls K (He.ga K "Thing")
  g_NoKey : mg "NoKey" = some (.ref (He.ga K "NoKey"))
  g_NoTable : mg "NoTable" = some (.ref (He.ga K "NoTable"))
  g_ForestError : mg "ForestError" = some (.ref (He.ga K "ForestError"))
  oex_NoKey : OexC K (He.ga K "NoKey")
  xn_NoKey : xnB K (He.ga K "NoKey") (He.fAd K ("NoKey", some "__init__")) ["place"] = true
  n_Fault__word : NoAttr K (He.ga K "Fault") "word"
  n_Fault__place : NoAttr K (He.ga K "Fault") "place"
  mk_Fault : Mk K (He.ga K "Fault") (He.fAd K ("Fault", some "__init__"))
  n_KeyTable__by_name : NoAttr K (He.ga K "KeyTable") "by_name"
  n_KeyTable__rows : NoAttr K (He.ga K "KeyTable") "rows"
  m_KeyTable__put_rows : Meth K (He.ga K "KeyTable") "put_rows" (He.fAd K ("KeyTable", some "put_rows"))
  oex_NoTable : OexC K (He.ga K "NoTable")
  xn_NoTable : xnB K (He.ga K "NoTable") (He.fAd K ("NoTable", some "__init__")) ["place", "why"] = true
  m_KeyTable__names : Meth K (He.ga K "KeyTable") "names" (He.fAd K ("KeyTable", some "names"))
  sm : SmOk K
  mt : MtOk K (cl K) mtT0
  xf_why : XfOk K (cl K) [28] "why"
  xf_place : XfOk K (cl K) [28, 30] "place"
  m_KeyTable____len__ : Meth K (He.ga K "KeyTable") "__len__" (He.fAd K ("KeyTable", some "__len__"))
  mk_KeyTable : Mk K (He.ga K "KeyTable") (He.fAd K ("KeyTable", some "__init__"))
  b_isinstance : mg "isinstance" = none
  b_int : mg "int" = none
  b_bool : mg "bool" = none
  b_tuple : mg "tuple" = none
  b_list : mg "list" = none
  b_all : mg "all" = none
  b_str : mg "str" = none
  b_len : mg "len" = none
  b_enumerate : mg "enumerate" = none
  b_bytes : mg "bytes" = none
  b_range : mg "range" = none
  b_sorted : mg "sorted" = none
  b_abs : mg "abs" = none
  b_zip : mg "zip" = none
  c_LETTERS : ∃ t, mg "LETTERS" = some (.str "abcdefghijklmnopqrstuvwxyz" t)
  c_SIGNS : ∃ t, mg "SIGNS" = some (.str "abcdefghijklmnopqrstuvwxyz0123456789" t)
  c_MOST_SIGNS : ∃ t, mg "MOST_SIGNS" = some (.int 8 t)
  c_MOST_VALUE : ∃ t, mg "MOST_VALUE" = some (.int 1000000000000000000000000000000 t)
  c_MOST_ROWS : ∃ t, mg "MOST_ROWS" = some (.int 60 t)
  tk_KeyTable_put_rows : ∃ h, TabK h K ("KeyTable", some "put_rows")
  tb_KeyTable_put_rows : LamX.TabB base mg (codeF K (He.fAd K ("KeyTable", some "put_rows"))) (tabD K ("KeyTable", some "put_rows"))
theorem fo_word {K : PySem.W.Frag} {mg : Str -> Option Value} {base : Heap} (T : Tx K mg base) : FldOk K (cl K) [12] "word" := by
  intro c hc
  rcases List.mem_cons.mp hc with rfl | hc
  · exact ⟨T.k_Fault, T.n_Fault__word⟩
  cases hc
theorem fo_place {K : PySem.W.Frag} {mg : Str -> Option Value} {base : Heap} (T : Tx K mg base) : FldOk K (cl K) [12] "place" := by
  intro c hc
  rcases List.mem_cons.mp hc with rfl | hc
  · exact ⟨T.k_Fault, T.n_Fault__place⟩
  cases hc
theorem fo_by_name {K : PySem.W.Frag} {mg : Str -> Option Value} {base : Heap} (T : Tx K mg base) : FldOk K (cl K) [15] "by_name" := by
  intro c hc
  rcases List.mem_cons.mp hc with rfl | hc
  · exact ⟨T.k_KeyTable, T.n_KeyTable__by_name⟩
  cases hc
theorem fo_rows {K : PySem.W.Frag} {mg : Str -> Option Value} {base : Heap} (T : Tx K mg base) : FldOk K (cl K) [15] "rows" := by
  intro c hc
  rcases List.mem_cons.mp hc with rfl | hc
  · exact ⟨T.k_KeyTable, T.n_KeyTable__rows⟩
  cases hc
section
variable {P : Program} {w : World} {K : PySem.W.Frag} {mg : Str -> Option Value} {base : Heap}
theorem x_NoKey (T : Tx K mg base) : ExcK P w K mg base "NoKey" (cl K 30) ["place"] := by
  obtain ⟨fd, F⟩ := T.f_NoKey____init__
  have z := xnB_ok T.xn_NoKey
  exact ⟨T.oex_NoKey, T.g_NoKey, He.fAd K ("NoKey", some "__init__"), fd, ["self", "place"], z.1, z.2.1, xinit1 T.oex_NoKey (z.2.2 "place" (by simp)) F ⟨rfl, rfl, rfl, by decide +kernel, rfl, by decide +kernel, by decide +kernel⟩, F.bindsN hb_NoKey___init__⟩
theorem x_NoTable (T : Tx K mg base) : ExcK P w K mg base "NoTable" (cl K 28) ["place", "why"] := by
  obtain ⟨fd, F⟩ := T.f_NoTable____init__
  have z := xnB_ok T.xn_NoTable
  exact ⟨T.oex_NoTable, T.g_NoTable, He.fAd K ("NoTable", some "__init__"), fd, ["self", "place", "why"], z.1, z.2.1, xinit2 T.oex_NoTable (z.2.2 "place" (by simp)) (z.2.2 "why" (by simp)) F ⟨rfl, rfl, rfl, by decide +kernel, rfl, by decide +kernel, by decide +kernel⟩, F.bindsN hb_NoTable___init__⟩
theorem core_is_integer (T : Tx K mg base) {f : Addr} (F : ∃ fd, FunD K "is_integer" "is_integer" (defArgs s_is_integer) (defBody s_is_integer) (defScope s_is_integer) [] [] f fd) : FnC (clw K P w) P w K mg base 1 "is_integer" "is_integer" (defArgs s_is_integer) (defBody s_is_integer) (defScope s_is_integer) f ["thing"] sp_is_integer := by
  refine fnC_of (k := 0) (t := t_is_integer) F sc_is_integer (fun cdv A outer s H E c => ?_) pure_is_integer
  exact (dss_one (ds_ret (d_andV (d_callB (call_isi.or (call_isiT.or call_isiK)) lc_isi rfl T.b_isinstance (by decide +kernel) (da_cons (d_var 0) (da_cons (d_ty rfl T.b_int (by decide +kernel)) da_nil))) (d_one (d_notV (d_callB (call_isi.or (call_isiT.or call_isiK)) lc_isi rfl T.b_isinstance (by decide +kernel) (da_cons (d_var 0) (da_cons (d_ty rfl T.b_bool (by decide +kernel)) da_nil))))))))
theorem core_is_sequence (T : Tx K mg base) {f : Addr} (F : ∃ fd, FunD K "is_sequence" "is_sequence" (defArgs s_is_sequence) (defBody s_is_sequence) (defScope s_is_sequence) [] [] f fd) : FnC (clw K P w) P w K mg base 1 "is_sequence" "is_sequence" (defArgs s_is_sequence) (defBody s_is_sequence) (defScope s_is_sequence) f ["thing"] sp_is_sequence := by
  refine fnC_of (k := 0) (t := t_is_sequence) F sc_is_sequence (fun cdv A outer s H E c => ?_) pure_is_sequence
  exact (dss_one (ds_ret (d_callB (call_isi.or (call_isiT.or call_isiK)) lc_isi rfl T.b_isinstance (by decide +kernel) (da_cons (d_var 0) (da_cons (d_tup (da_cons (d_ty rfl T.b_list (by decide +kernel)) (da_cons (d_ty rfl T.b_tuple (by decide +kernel)) da_nil))) da_nil)))))
theorem core_is_name (T : Tx K mg base) {f : Addr} (F : ∃ fd, FunD K "is_name" "is_name" (defArgs s_is_name) (defBody s_is_name) (defScope s_is_name) [] [] f fd) : FnC (clw K P w) P w K mg base 1 "is_name" "is_name" (defArgs s_is_name) (defBody s_is_name) (defScope s_is_name) f ["thing"] sp_is_name := by
  refine fnC_of (k := 0) (t := t_is_name) F sc_is_name (fun cdv A outer s H E c => ?_) pure_is_name
  exact (dss_cons (ds_if (DW.dt (dw_or (d_tnot (d_val (d_callB (call_isi.or (call_isiT.or call_isiK)) lc_isi rfl T.b_isinstance (by decide +kernel) (da_cons (d_var 0) (da_cons (d_ty rfl T.b_str (by decide +kernel)) da_nil))))) (dw_or1 (d_tnot (d_tchain op_le op_le (lop_cmp _) (lop_cmp _) d_int (d_callB call_len lc_len rfl T.b_len PySem.boot_len (da_cons (d_var 0) da_nil)) (d_globI rfl T.c_MOST_SIGNS)))))) (dss_one (ds_ret d_bl)) dss_nil)
      (dss_one (ds_ret (d_andV (d_cmp (op_inA (RoomG.u1 c.hr)) lop_in (d_ixA (RoomG.u1 c.hr) (d_var 0) d_int) (d_globS rfl T.c_LETTERS) rfl) (d_one (d_callB (cr_all c.calm) lc_all rfl T.b_all (by decide +kernel) (da_cons (d_lc (own := [("sign", 1)]) c.calm sc_is_name.nd (di_seq (d_var 0)) (blkOk_by (own := [("sign", 1)]) (N := N_is_name) (sc := defScope s_is_name) (by decide +kernel)) (fun _ _ _ _ _ => (dg_name 1 sc_is_name.nd)) (fun _ _ _ _ _ => dts_nil) (fun _ _ _ _ _ => (d_cmp (op_inA (RoomG.u1 c.blk.hr)) lop_in (d_var 1) (d_globS rfl T.c_SIGNS) rfl))) da_nil)))))))
theorem core_is_value (T : Tx K mg base) {f : Addr} (F : ∃ fd, FunD K "is_value" "is_value" (defArgs s_is_value) (defBody s_is_value) (defScope s_is_value) [] [] f fd) : FnC (clw K P w) P w K mg base 2 "is_value" "is_value" (defArgs s_is_value) (defBody s_is_value) (defScope s_is_value) f ["thing"] sp_is_value := by
  have G0 : FnB (clw K P w) P w K mg base 1 "is_integer" ["thing"] sp_is_integer := (core_is_integer T T.f_is_integer).fn T.g_is_integer hb_is_integer
  refine fnC_of (k := 1) (t := t_is_value) F sc_is_value (fun cdv A outer s H E c => ?_) pure_is_value
  exact (dss_one (ds_ret (d_andV (d_fn c G0 (by decide) rfl (da_cons (d_var 0) da_nil)) (d_one (d_chain op_le op_le (lop_cmp _) (lop_cmp _) (d_un un_neg lun_neg (d_globI rfl T.c_MOST_VALUE)) (d_var 0) (d_globI rfl T.c_MOST_VALUE))))))
theorem core_key_fault (T : Tx K mg base) {f : Addr} (F : ∃ fd, FunD K "key_fault" "key_fault" (defArgs s_key_fault) (defBody s_key_fault) (defScope s_key_fault) [] [] f fd) : FnC (clw K P w) P w K mg base 1 "key_fault" "key_fault" (defArgs s_key_fault) (defBody s_key_fault) (defScope s_key_fault) f ["key"] sp_key_fault := by
  refine fnC_of (k := 0) (t := t_key_fault) F sc_key_fault (fun cdv A outer s H E c => ?_) pure_key_fault
  exact (dss_cons (ds_if (DW.dt (dw_or (d_tnot (d_val (d_callB (call_isi.or (call_isiT.or call_isiK)) lc_isi rfl T.b_isinstance (by decide +kernel) (da_cons (d_var 0) (da_cons (d_ty rfl T.b_bytes (by decide +kernel)) da_nil))))) (dw_or1 (d_tcmp (op_eqA c.hr.room.units) lop_eq (d_callB call_len lc_len rfl T.b_len PySem.boot_len (da_cons (d_var 0) da_nil)) d_int (nomark _))))) (dss_one (ds_ret (d_un un_neg lun_neg d_int))) dss_nil)
      (dss_cons (ds_for c.po c.calm (di_enumW rfl T.b_enumerate (d_var 0)) (dg_tup c.calm (dgs_cons (dg_name 1 sc_key_fault.nd) (dgs_cons (dg_name 2 sc_key_fault.nd) dgs_nil))) (dss_one (ds_if (d_tcmp (op_eqA c.hr.room.units) lop_eq (d_var 2) d_int (nomark _)) (dss_one (ds_ret (d_var 1))) dss_nil)))
      (dss_one (ds_ret (d_ifE (d_tcmp (op_eqA c.hr.room.units) lop_eq (d_op op_mod lop_mod (d_callTy call_int1 lc_int rfl T.b_int (by decide +kernel) (da_cons (d_ixB (d_var 0) (d_un un_neg lun_neg d_int)) da_nil)) d_int) d_int (nomark _)) (d_callB call_len lc_len rfl T.b_len PySem.boot_len (da_cons (d_var 0) da_nil)) d_non)))))
theorem core_cut_key (T : Tx K mg base) {f : Addr} (F : ∃ fd, FunD K "cut_key" "cut_key" (defArgs s_cut_key) (defBody s_cut_key) (defScope s_cut_key) [] [] f fd) : FnC (clw K P w) P w K mg base 1 "cut_key" "cut_key" (defArgs s_cut_key) (defBody s_cut_key) (defScope s_cut_key) f ["key"] sp_cut_key := by
  refine fnC_of (k := 0) (t := t_cut_key) F sc_cut_key (fun cdv A outer s H E c => ?_) pure_cut_key
  exact (dss_cons (ds_par (i := 1) (j := 2) c.calm sc_cut_key.nd (da_cons (d_lstM da_nil) (da_cons d_int da_nil)))
      (dss_cons (ds_for c.po c.calm (di_enumW rfl T.b_enumerate (d_var 0)) (dg_tup c.calm (dgs_cons (dg_name 3 sc_cut_key.nd) (dgs_cons (dg_name 4 sc_cut_key.nd) dgs_nil))) (dss_one (ds_if (d_tcmp (op_eqA c.hr.room.units) lop_eq (d_op op_mod lop_mod (d_callTy call_int1 lc_int rfl T.b_int (by decide +kernel) (da_cons (d_var 4) da_nil)) d_int) d_int (nomark _)) (dss_cons (ds_expr (d_bm PySem.F.plainAttrs_list PySem.F.slot_list_append PySem.F.type_list_append mt_append lm_app (d_var 1) (da_cons (d_sliceB (d_var 0) (do_some (d_var 2)) (do_some (d_op op_addAll lop_add (d_var 3) d_int))) da_nil)))
      (dss_one (ds_set 2 sc_cut_key.nd (d_op op_addAll lop_add (d_var 3) d_int)))) dss_nil)))
      (dss_one (ds_ret (d_frz (d_var 1))))))
theorem core_bytes_of (T : Tx K mg base) {f : Addr} (F : ∃ fd, FunD K "bytes_of" "bytes_of" (defArgs s_bytes_of) (defBody s_bytes_of) (defScope s_bytes_of) [] [] f fd) : FnC (clw K P w) P w K mg base 3 "bytes_of" "bytes_of" (defArgs s_bytes_of) (defBody s_bytes_of) (defScope s_bytes_of) f ["numbers"] sp_bytes_of := by
  have G0 : FnB (clw K P w) P w K mg base 1 "is_integer" ["thing"] sp_is_integer := (core_is_integer T T.f_is_integer).fn T.g_is_integer hb_is_integer
  have G1 : FnB (clw K P w) P w K mg base 1 "is_sequence" ["thing"] sp_is_sequence := (core_is_sequence T T.f_is_sequence).fn T.g_is_sequence hb_is_sequence
  refine fnC_of (k := 2) (t := t_bytes_of) F sc_bytes_of (fun cdv A outer s H E c => ?_) pure_bytes_of
  exact (dss_cons (ds_if (d_tnot (d_val (d_fn c G1 (by decide) rfl (da_cons (d_var 0) da_nil)))) (dss_one (ds_raise c (by decide) (x_NoKey T) (by decide) rfl (da_cons (d_un un_neg lun_neg d_int) da_nil))) dss_nil)
      (dss_cons (ds_for c.po c.calm (di_enumT rfl T.b_enumerate (d_var 0)) (dg_tup c.calm (dgs_cons (dg_name 1 sc_bytes_of.nd) (dgs_cons (dg_name 2 sc_bytes_of.nd) dgs_nil))) (dss_one (ds_if (DW.dt (dw_or (d_tnot (d_val (d_fn c G0 (by decide) rfl (da_cons (d_var 2) da_nil)))) (dw_or1 (d_tnot (d_tchain op_le op_le (lop_cmp _) (lop_cmp _) d_int (d_var 2) d_int))))) (dss_one (ds_raise c (by decide) (x_NoKey T) (by decide) rfl (da_cons (d_var 1) da_nil))) dss_nil)))
      (dss_one (ds_ret (d_callTy (call_bytesA c.calm) lc_bytes rfl T.b_bytes (by decide +kernel) (da_cons (d_var 0) da_nil))))))
theorem core_Fault___init__ (T : Tx K mg base) {f : Addr} (F : ∃ fd, FunD K "__init__" "Fault.__init__" (defArgs s_Fault___init__) (defBody s_Fault___init__) (defScope s_Fault___init__) [] [] f fd) : FnC (clw K P w) P w K mg base 1 "__init__" "Fault.__init__" (defArgs s_Fault___init__) (defBody s_Fault___init__) (defScope s_Fault___init__) f ["self", "place", "word"] sp_Fault___init__ := by
  refine fnC_of (k := 0) (t := t_Fault___init__) F sc_Fault___init__ (fun cdv A outer s H E c => ?_) pure_Fault___init__
  exact (dss_cons (ds_fld (fo_place T) (d_var 0) (d_var 1))
      (dss_one (ds_fld (fo_word T) (d_var 0) (d_var 2))))
theorem core_plain_word (T : Tx K mg base) {f : Addr} (F : ∃ fd, FunD K "plain_word" "plain_word" (defArgs s_plain_word) (defBody s_plain_word) (defScope s_plain_word) [] [] f fd) : FnC (clw K P w) P w K mg base 3 "plain_word" "plain_word" (defArgs s_plain_word) (defBody s_plain_word) (defScope s_plain_word) f ["row", "many"] sp_plain_word := by
  have G0 : FnB (clw K P w) P w K mg base 2 "is_value" ["thing"] sp_is_value := (core_is_value T T.f_is_value).fn T.g_is_value hb_is_value
  have G1 : FnB (clw K P w) P w K mg base 1 "is_name" ["thing"] sp_is_name := (core_is_name T T.f_is_name).fn T.g_is_name hb_is_name
  have G2 : FnB (clw K P w) P w K mg base 1 "is_sequence" ["thing"] sp_is_sequence := (core_is_sequence T T.f_is_sequence).fn T.g_is_sequence hb_is_sequence
  refine fnC_of (k := 2) (t := t_plain_word) F sc_plain_word (fun cdv A outer s H E c => ?_) pure_plain_word
  exact (dss_cons (ds_if (DW.dt (dw_or (d_tnot (d_val (d_fn c G2 (by decide) rfl (da_cons (d_var 0) da_nil)))) (dw_or1 (d_tcmp (op_neA c.hr.room.units) lop_ne (d_callB call_len lc_len rfl T.b_len PySem.boot_len (da_cons (d_var 0) da_nil)) (d_var 1) (nomark _))))) (dss_one (ds_ret d_str)) dss_nil)
      (dss_cons (ds_if (d_tnot (d_val (d_fn c G1 (by decide) rfl (da_cons (d_ixA (RoomG.u1 c.hr) (d_var 0) d_int) da_nil)))) (dss_one (ds_ret d_str)) dss_nil)
      (dss_one (ds_ret (d_ifE (d_val (d_fn c G0 (by decide) rfl (da_cons (d_ixA (RoomG.u1 c.hr) (d_var 0) d_int) da_nil))) d_non d_str)))))
theorem core_key_word (T : Tx K mg base) {f : Addr} (F : ∃ fd, FunD K "key_word" "key_word" (defArgs s_key_word) (defBody s_key_word) (defScope s_key_word) [] [] f fd) : FnC (clw K P w) P w K mg base 4 "key_word" "key_word" (defArgs s_key_word) (defBody s_key_word) (defScope s_key_word) f ["rows", "place"] sp_key_word := by
  have G0 : FnB (clw K P w) P w K mg base 1 "key_fault" ["key"] sp_key_fault := (core_key_fault T T.f_key_fault).fn T.g_key_fault hb_key_fault
  have G1 : FnB (clw K P w) P w K mg base 3 "plain_word" ["row", "many"] sp_plain_word := (core_plain_word T T.f_plain_word).fn T.g_plain_word hb_plain_word
  refine fnC_of (k := 3) (t := t_key_word) F sc_key_word (fun cdv A outer s H E c => ?_) pure_key_word
  exact (dss_cons (ds_set 2 sc_key_word.nd (d_fn c G1 (by decide) rfl (da_cons (d_ixA (RoomG.u1 c.hr) (d_var 0) (d_var 1)) (da_cons d_int da_nil))))
      (dss_cons (ds_if (d_tcmp op_notN lop_notN (d_var 2) d_non (nomark _)) (dss_one (ds_ret (d_var 2))) dss_nil)
      (dss_cons (ds_asg (d_ixA (RoomG.u1 c.hr) (d_var 0) (d_var 1)) (dg_tup c.calm (dgs_cons (dg_name 3 sc_key_word.nd) (dgs_cons (dg_name 4 sc_key_word.nd) (dgs_cons (dg_name 5 sc_key_word.nd) dgs_nil)))))
      (dss_cons (ds_if (d_tcmp op_notN lop_notN (d_fn c G0 (by decide) rfl (da_cons (d_var 5) da_nil)) d_non (nomark _)) (dss_one (ds_ret d_str)) dss_nil)
      (dss_cons (ds_if (d_tcmp (op_inA (RoomG.u1 c.hr)) lop_in (d_var 3) (d_lc (own := [("row", 6)]) c.calm sc_key_word.nd (di_seq (d_slice (d_var 0) do_none (do_some (d_var 1)))) (blkOk_by (own := [("row", 6)]) (N := N_key_word) (sc := defScope s_key_word) (by decide +kernel)) (fun _ _ _ _ _ => (dg_name 6 sc_key_word.nd)) (fun _ _ _ _ _ => dts_nil) (fun _ _ _ _ _ => (d_ixA (RoomG.u1 c.blk.hr) (d_var 6) d_int))) rfl) (dss_one (ds_ret d_str)) dss_nil)
      (dss_one (ds_ret (d_ifE (d_tcmpG (bin_inB c.hr.room.units) (d_var 5) (d_lc (own := [("row", 6)]) c.calm sc_key_word.nd (di_seq (d_slice (d_var 0) do_none (do_some (d_var 1)))) (blkOk_by (own := [("row", 6)]) (N := N_key_word) (sc := defScope s_key_word) (by decide +kernel)) (fun _ _ _ _ _ => (dg_name 6 sc_key_word.nd)) (fun _ _ _ _ _ => dts_nil) (fun _ _ _ _ _ => (d_ixA (RoomG.u1 c.blk.hr) (d_var 6) d_int))) rfl) d_str d_non))))))))
theorem core_shorter_keys (T : Tx K mg base) {f : Addr} (F : ∃ fd, FunD K "shorter_keys" "shorter_keys" (defArgs s_shorter_keys) (defBody s_shorter_keys) (defScope s_shorter_keys) [] [] f fd) : FnC (clw K P w) P w K mg base 2 "shorter_keys" "shorter_keys" (defArgs s_shorter_keys) (defBody s_shorter_keys) (defScope s_shorter_keys) f ["key"] sp_shorter_keys := by
  have G0 : FnB (clw K P w) P w K mg base 1 "cut_key" ["key"] sp_cut_key := (core_cut_key T T.f_cut_key).fn T.g_cut_key hb_cut_key
  refine fnC_of (k := 1) (t := t_shorter_keys) F sc_shorter_keys (fun cdv A outer s H E c => ?_) pure_shorter_keys
  exact (dss_cons (ds_set 1 sc_shorter_keys.nd (d_fn c G0 (by decide) rfl (da_cons (d_var 0) da_nil)))
      (dss_one (ds_ret (d_lc (own := [("many", 2)]) c.calm sc_shorter_keys.nd (di_range2 rfl T.b_range d_int (d_callB call_len lc_len rfl T.b_len PySem.boot_len (da_cons (d_var 1) da_nil))) (blkOk_by (own := [("many", 2)]) (N := N_shorter_keys) (sc := defScope s_shorter_keys) (by decide +kernel)) (fun _ _ _ _ _ => (dg_name 2 sc_shorter_keys.nd)) (fun _ _ _ _ _ => dts_nil) (fun _ _ _ _ _ => (d_bjoin d_byt (d_slice (d_var 1) do_none (do_some (d_var 2)))))))))
theorem core_judge_keys (T : Tx K mg base) {f : Addr} (F : ∃ fd, FunD K "judge_keys" "judge_keys" (defArgs s_judge_keys) (defBody s_judge_keys) (defScope s_judge_keys) [] [] f fd) : FnC (clw K P w) P w K mg base 5 "judge_keys" "judge_keys" (defArgs s_judge_keys) (defBody s_judge_keys) (defScope s_judge_keys) f ["rows"] sp_judge_keys := by
  have G0 : FnB (clw K P w) P w K mg base 2 "shorter_keys" ["key"] sp_shorter_keys := (core_shorter_keys T T.f_shorter_keys).fn T.g_shorter_keys hb_shorter_keys
  have G1 : MkB (clw K P w) P w K mg base 1 "Fault" 12 ["self", "place", "word"] sp_Fault___init__ := (core_Fault___init__ T T.f_Fault____init__).mk (c := 12) T.g_Fault T.mk_Fault hb_Fault___init__
  have G2 : FnB (clw K P w) P w K mg base 4 "key_word" ["rows", "place"] sp_key_word := (core_key_word T T.f_key_word).fn T.g_key_word hb_key_word
  have G3 : FnB (clw K P w) P w K mg base 1 "is_sequence" ["thing"] sp_is_sequence := (core_is_sequence T T.f_is_sequence).fn T.g_is_sequence hb_is_sequence
  refine fnC_of (k := 4) (t := t_judge_keys) F sc_judge_keys (fun cdv A outer s H E c => ?_) pure_judge_keys
  exact (dss_cons (ds_if (DW.dt (dw_or (d_tnot (d_val (d_fn c G3 (by decide) rfl (da_cons (d_var 0) da_nil)))) (dw_or1 (d_tcmp op_gt (lop_cmp _) (d_callB call_len lc_len rfl T.b_len PySem.boot_len (da_cons (d_var 0) da_nil)) (d_globI rfl T.c_MOST_ROWS) (nomark _))))) (dss_one (ds_ret (d_make c G1 (by decide) rfl (da_cons (d_un un_neg lun_neg d_int) (da_cons d_str da_nil))))) dss_nil)
      (dss_cons (ds_for c.po c.calm (di_range1 rfl T.b_range (d_callB call_len lc_len rfl T.b_len PySem.boot_len (da_cons (d_var 0) da_nil))) (dg_name 1 sc_judge_keys.nd) (dss_cons (ds_set 2 sc_judge_keys.nd (d_fn c G2 (by decide) rfl (da_cons (d_var 0) (da_cons (d_var 1) da_nil))))
      (dss_one (ds_if (d_tcmp op_notN lop_notN (d_var 2) d_non (nomark _)) (dss_one (ds_ret (d_make c G1 (by decide) rfl (da_cons (d_var 1) (da_cons (d_var 2) da_nil))))) dss_nil))))
      (dss_cons (ds_set 3 sc_judge_keys.nd (d_lcG (own := [("row", 5)]) c.calm sc_judge_keys.nd (di_seqG (d_var 0)) (blkOk_by (own := [("row", 5)]) (N := N_judge_keys) (sc := defScope s_judge_keys) (by decide +kernel)) (fun _ _ _ _ _ => (dg_name 5 sc_judge_keys.nd)) (fun _ _ _ _ _ => dts_nil) (fun _ _ _ _ _ => (d_ixA (RoomG.u1 c.blk.hr) (d_var 5) d_int))))
      (dss_cons (ds_for c.po c.calm (di_enumT rfl T.b_enumerate (d_var 3)) (dg_tup c.calm (dgs_cons (dg_name 1 sc_judge_keys.nd) (dgs_cons (dg_name 4 sc_judge_keys.nd) dgs_nil))) (dss_one (ds_if (d_tnot (d_val (d_callB (cr_all c.calm) lc_all rfl T.b_all (by decide +kernel) (da_cons (d_lc (own := [("one", 6)]) c.calm sc_judge_keys.nd (di_seq (d_slice (d_fn c G0 (by decide) rfl (da_cons (d_var 4) da_nil)) (do_some (d_un un_neg lun_neg d_int)) do_none)) (blkOk_by (own := [("one", 6)]) (N := N_judge_keys) (sc := defScope s_judge_keys) (by decide +kernel)) (fun _ _ _ _ _ => (dg_name 6 sc_judge_keys.nd)) (fun _ _ _ _ _ => dts_nil) (fun _ _ _ _ _ => (d_cmpG (bin_inB c.blk.hr.room.units) (d_var 6) (d_var 3) rfl))) da_nil)))) (dss_one (ds_ret (d_make c G1 (by decide) rfl (da_cons (d_var 1) (da_cons d_str da_nil))))) dss_nil)))
      (dss_one (ds_ret d_non))))))
theorem core_KeyTable_put_rows (T : Tx K mg base) (F : ∃ fd, FunD K "put_rows" "KeyTable.put_rows" (defArgs s_KeyTable_put_rows) (defBody s_KeyTable_put_rows) (defScope s_KeyTable_put_rows) [] [] (He.fAd K ("KeyTable", some "put_rows")) fd) : FnC (clw K P w) P w K mg base 4 "put_rows" "KeyTable.put_rows" (defArgs s_KeyTable_put_rows) (defBody s_KeyTable_put_rows) (defScope s_KeyTable_put_rows) (He.fAd K ("KeyTable", some "put_rows")) ["self", "rows"] sp_KeyTable_put_rows := by
  obtain ⟨h_KeyTable_put_rows, tk_KeyTable_put_rows⟩ := T.tk_KeyTable_put_rows
  have tb := T.tb_KeyTable_put_rows
  have tc := tabs_cl tk_KeyTable_put_rows.nz
  refine fnC_ofT (k := 3) (t := t_KeyTable_put_rows) tk_KeyTable_put_rows F sc_KeyTable_put_rows (fun A outer s H E c => ?_) pure_KeyTable_put_rows
  have hmT : (tabD K ("KeyTable", some "put_rows"), ((cxOf (L2.CX P w) P w K mg base N_KeyTable_put_rows "KeyTable.put_rows" (defScope s_KeyTable_put_rows) (He.fAd K ("KeyTable", some "put_rows")) (.ref (codeF K (He.fAd K ("KeyTable", some "put_rows")))) A outer s H E).env.qual ++ "<lambda>" : Str)) ∈ tabsOf (cl K) := by
    rw [tc]; exact (List.mem_cons.mpr (.inl (Prod.ext rfl (show ("KeyTable.put_rows" ++ ".<locals>." ++ "<lambda>" : Str) = "KeyTable.put_rows.<locals>.<lambda>" by decide +kernel))))
  have hu : ∀ p ∈ tabsOf (cl K), p.1 = tabD K ("KeyTable", some "put_rows") -> p.2 = ((cxOf (L2.CX P w) P w K mg base N_KeyTable_put_rows "KeyTable.put_rows" (defScope s_KeyTable_put_rows) (He.fAd K ("KeyTable", some "put_rows")) (.ref (codeF K (He.fAd K ("KeyTable", some "put_rows")))) A outer s H E).env.qual ++ "<lambda>" : Str) := fun p hp e => by
    rw [tc] at hp
    rcases List.mem_cons.mp hp with rfl | hp
    · exact (show ("KeyTable.put_rows.<locals>.<lambda>" : Str) = "KeyTable.put_rows" ++ ".<locals>." ++ "<lambda>" by decide +kernel)
    cases hp
  exact (dss_cons (ds_fld (fo_rows T) (d_var 0) (d_callTy call_tuple_of lc_tup rfl T.b_tuple (by decide +kernel) (da_cons (d_sortLamB c tb rfl hmT hu (keyS_by (by decide +kernel)) rfl T.b_sorted (da_cons (d_var 1) da_nil) (by decide) (by decide) (fun _ _ => rfl) rfl (fun _ _ _ _ _ => rfl)) da_nil)))
      (dss_one (ds_fld (fo_by_name T) (d_var 0) (d_dcG (own := [("row", 2)]) c.calm sc_KeyTable_put_rows.nd (di_seqG (d_var 1)) (blkOk_by (own := [("row", 2)]) (N := N_KeyTable_put_rows) (sc := defScope s_KeyTable_put_rows) (by decide +kernel)) (fun _ _ _ _ _ => (dg_name 2 sc_KeyTable_put_rows.nd)) (fun _ _ _ _ _ => dts_nil) (fun _ _ _ _ _ => (d_ixA (RoomG.u1 c.blk.hr) (d_var 2) d_int)) (fun _ _ _ _ _ => (d_var 2))))))
theorem core_KeyTable___init__ (T : Tx K mg base) {f : Addr} (F : ∃ fd, FunD K "__init__" "KeyTable.__init__" (defArgs s_KeyTable___init__) (defBody s_KeyTable___init__) (defScope s_KeyTable___init__) [] [] f fd) : FnC (clw K P w) P w K mg base 6 "__init__" "KeyTable.__init__" (defArgs s_KeyTable___init__) (defBody s_KeyTable___init__) (defScope s_KeyTable___init__) f ["self", "rows"] sp_KeyTable___init__ := by
  have G0 : ∀ c spd, List.lookup c ([(15, sp_KeyTable_put_rows)] : List (Nat × SpD)) = some spd -> MethB (clw K P w) P w K mg base 5 c "put_rows" spd := (tb_cons ((core_KeyTable_put_rows T T.f_KeyTable__put_rows).meth (c := 15) T.k_KeyTable T.m_KeyTable__put_rows hb_KeyTable_put_rows (by decide)) tb_nil)
  have G1 : FnB (clw K P w) P w K mg base 5 "judge_keys" ["rows"] sp_judge_keys := (core_judge_keys T T.f_judge_keys).fn T.g_judge_keys hb_judge_keys
  refine fnC_of (k := 5) (t := t_KeyTable___init__) F sc_KeyTable___init__ (fun cdv A outer s H E c => ?_) pure_KeyTable___init__
  exact (dss_cons (ds_set 2 sc_KeyTable___init__.nd (d_fn c G1 (by decide) rfl (da_cons (d_var 1) da_nil)))
      (dss_cons (ds_if (d_tcmp op_notN lop_notN (d_var 2) d_non (nomark _)) (dss_one (ds_raise c (by decide) (x_NoTable T) (by decide) rfl (da_cons (d_fld (fo_place T) (d_var 2)) (da_cons (d_fld (fo_word T) (d_var 2)) da_nil)))) dss_nil)
      (dss_one (ds_expr (d_meth c G0 (d_var 0) (da_cons (d_lcG (own := [("row", 3)]) c.calm sc_KeyTable___init__.nd (di_seqG (d_var 1)) (blkOk_by (own := [("row", 3)]) (N := N_KeyTable___init__) (sc := defScope s_KeyTable___init__) (by decide +kernel)) (fun _ _ _ _ _ => (dg_name 3 sc_KeyTable___init__.nd)) (fun _ _ _ _ _ => dts_nil) (fun _ _ _ _ _ => (d_callTy call_tuple_of lc_tup rfl T.b_tuple (by decide +kernel) (da_cons (d_var 3) da_nil)))) da_nil))))))
theorem core_KeyTable_names (T : Tx K mg base) {f : Addr} (F : ∃ fd, FunD K "names" "KeyTable.names" (defArgs s_KeyTable_names) (defBody s_KeyTable_names) (defScope s_KeyTable_names) [] [] f fd) : FnC (clw K P w) P w K mg base 1 "names" "KeyTable.names" (defArgs s_KeyTable_names) (defBody s_KeyTable_names) (defScope s_KeyTable_names) f ["self"] sp_KeyTable_names := by
  refine fnC_of (k := 0) (t := t_KeyTable_names) F sc_KeyTable_names (fun cdv A outer s H E c => ?_) pure_KeyTable_names
  exact (dss_one (ds_ret (d_lc (own := [("row", 1)]) c.calm sc_KeyTable_names.nd (di_seq (d_fld (fo_rows T) (d_var 0))) (blkOk_by (own := [("row", 1)]) (N := N_KeyTable_names) (sc := defScope s_KeyTable_names) (by decide +kernel)) (fun _ _ _ _ _ => (dg_name 1 sc_KeyTable_names.nd)) (fun _ _ _ _ _ => dts_nil) (fun _ _ _ _ _ => (d_ixA (RoomG.u1 c.blk.hr) (d_var 1) d_int)))))
theorem core_Table___len__ (T : Tx K mg base) {f : Addr} (F : ∃ fd, FunD K "__len__" "Table.__len__" (defArgs s_Table___len__) (defBody s_Table___len__) (defScope s_Table___len__) [] [] f fd) : FnC (clw K P w) P w K mg base 2 "__len__" "Table.__len__" (defArgs s_Table___len__) (defBody s_Table___len__) (defScope s_Table___len__) f ["self"] sp_Table___len__ := by
  have G0 : ∀ c spd, List.lookup c ([(15, sp_KeyTable_names)] : List (Nat × SpD)) = some spd -> MethB (clw K P w) P w K mg base 1 c "names" spd := (tb_cons ((core_KeyTable_names T T.f_KeyTable__names).meth (c := 15) T.k_KeyTable T.m_KeyTable__names hb_KeyTable_names (by decide)) tb_nil)
  refine fnC_of (k := 1) (t := t_Table___len__) F sc_Table___len__ (fun cdv A outer s H E c => ?_) pure_Table___len__
  exact (dss_one (ds_ret (d_callB call_len lc_len rfl T.b_len PySem.boot_len (da_cons (d_meth0 c G0 (d_var 0)) da_nil))))
theorem core_largest_keys (T : Tx K mg base) {f : Addr} (F : ∃ fd, FunD K "largest_keys" "largest_keys" (defArgs s_largest_keys) (defBody s_largest_keys) (defScope s_largest_keys) [] [] f fd) : FnC (clw K P w) P w K mg base 6 "largest_keys" "largest_keys" (defArgs s_largest_keys) (defBody s_largest_keys) (defScope s_largest_keys) f ["rows"] sp_largest_keys := by
  have G0 : FnB (clw K P w) P w K mg base 2 "shorter_keys" ["key"] sp_shorter_keys := (core_shorter_keys T T.f_shorter_keys).fn T.g_shorter_keys hb_shorter_keys
  have G1 : FnB (clw K P w) P w K mg base 5 "judge_keys" ["rows"] sp_judge_keys := (core_judge_keys T T.f_judge_keys).fn T.g_judge_keys hb_judge_keys
  refine fnC_of (k := 5) (t := t_largest_keys) F sc_largest_keys (fun cdv A outer s H E c => ?_) pure_largest_keys
  exact (dss_cons (ds_set 1 sc_largest_keys.nd (d_fn c G1 (by decide) rfl (da_cons (d_var 0) da_nil)))
      (dss_cons (ds_if (DW.dt (dw_and (d_tcmp op_notN lop_notN (d_var 1) d_non (nomark _)) (dw_and1 (d_tcmp (op_neA c.hr.room.units) lop_ne (d_fld (fo_word T) (d_var 1)) d_str (nomark _))))) (dss_one (ds_raise c (by decide) (x_NoTable T) (by decide) rfl (da_cons (d_fld (fo_place T) (d_var 1)) (da_cons (d_fld (fo_word T) (d_var 1)) da_nil)))) dss_nil)
      (dss_cons (ds_set 2 sc_largest_keys.nd (d_lcG (own := [("row", 3)]) c.calm sc_largest_keys.nd (di_seqG (d_var 0)) (blkOk_by (own := [("row", 3)]) (N := N_largest_keys) (sc := defScope s_largest_keys) (by decide +kernel)) (fun _ _ _ _ _ => (dg_name 3 sc_largest_keys.nd)) (fun _ _ _ _ _ => dts_nil) (fun _ _ _ _ _ => (d_ixA (RoomG.u1 c.blk.hr) (d_var 3) d_int))))
      (dss_one (ds_ret (d_lc (own := [("place", 4), ("key", 5)]) c.calm sc_largest_keys.nd (di_enumT rfl T.b_enumerate (d_var 2)) (blkOk_by (own := [("place", 4), ("key", 5)]) (N := N_largest_keys) (sc := defScope s_largest_keys) (by decide +kernel)) (fun _ _ _ _ _ => (dg_tup c.blk.calm (dgs_cons (dg_name 4 sc_largest_keys.nd) (dgs_cons (dg_name 5 sc_largest_keys.nd) dgs_nil)))) (fun _ _ _ _ _ => (dts_one (d_val (d_callB (cr_all c.blk.calm) lc_all rfl T.b_all (by decide +kernel) (da_cons (d_lc (own := [("one", 6)]) c.blk.calm sc_largest_keys.nd (di_seq (d_fn c.blk G0 (by decide) rfl (da_cons (d_var 5) da_nil))) (blkOk_two (own := [("one", 6)]) (N := N_largest_keys) (sc0 := defScope s_largest_keys) rfl (by decide +kernel)) (fun _ _ _ _ _ => (dg_name 6 sc_largest_keys.nd)) (fun _ _ _ _ _ => dts_nil) (fun _ _ _ _ _ => (d_cmpG (bin_inB c.blk.blk.hr.room.units) (d_var 6) (d_var 2) rfl))) da_nil))))) (fun _ _ _ _ _ => (d_var 4))))))))
theorem core__law_rng (T : Tx K mg base) {f : Addr} (F : ∃ fd, FunD K "_law_rng" "_law_rng" (defArgs s__law_rng) (defBody s__law_rng) (defScope s__law_rng) [] [] f fd) : FnC (clw K P w) P w K mg base 1 "_law_rng" "_law_rng" (defArgs s__law_rng) (defBody s__law_rng) (defScope s__law_rng) f ["_law_cell"] sp__law_rng := by
  refine fnC_of (k := 0) (t := t__law_rng) F sc__law_rng (fun cdv A outer s H E c => ?_) pure__law_rng
  exact (dss_one (ds_ret (d_lstM (da_cons (d_callB call_abs lc_abs rfl T.b_abs (by decide +kernel) (da_cons (d_var 0) da_nil)) (da_cons (d_op op_mod lop_mod (d_callTy call_int1 lc_int rfl T.b_int (by decide +kernel) (da_cons (d_var 0) da_nil)) d_int) (da_cons d_int da_nil))))))
theorem core__law_draw (T : Tx K mg base) {f : Addr} (F : ∃ fd, FunD K "_law_draw" "_law_draw" (defArgs s__law_draw) (defBody s__law_draw) (defScope s__law_draw) [] [] f fd) : FnC (clw K P w) P w K mg base 1 "_law_draw" "_law_draw" (defArgs s__law_draw) (defBody s__law_draw) (defScope s__law_draw) f ["_law_rng_here", "_law_limit"] sp__law_draw := by
  refine fnC_of (k := 0) (t := t__law_draw) F sc__law_draw (fun cdv A outer s H E c => ?_) pure__law_draw
  exact (dss_cons (ds_if (d_tcmp op_ge (lop_cmp _) (d_ixA (RoomG.u1 c.hr) (d_var 0) d_int) (d_op op_pow lop_pow d_int d_int) (nomark _)) (dss_cons (ds_set 2 sc__law_draw.nd (d_op op_mod lop_mod (d_callTy call_int1 lc_int rfl T.b_int (by decide +kernel) (da_cons (d_ixA (RoomG.u1 c.hr) (d_var 0) d_int) da_nil)) (d_var 1)))
      (dss_cons (ds_asg (d_op op_fdivW lop_fdiv (d_ixA (RoomG.u1 c.hr) (d_var 0) d_int) (d_var 1)) (dg_subL (d_var 0) d_int))
      (dss_one (ds_ret (d_var 2))))) dss_nil)
      (dss_cons (ds_asg (d_op op_addAll lop_add (d_ixA (RoomG.u1 c.hr) (d_var 0) d_int) d_int) (dg_subL (d_var 0) d_int))
      (dss_cons (ds_set 3 sc__law_draw.nd (d_op op_mod lop_mod (d_callTy call_int1 lc_int rfl T.b_int (by decide +kernel) (da_cons (d_op op_mul lop_mul (d_op op_addAll lop_add (d_op op_addAll lop_add (d_ixA (RoomG.u1 c.hr) (d_var 0) d_int) (d_op op_mul lop_mul d_int (d_ixA (RoomG.u1 c.hr) (d_var 0) d_int))) d_int) d_int) da_nil)) d_int))
      (dss_cons (ds_set 3 sc__law_draw.nd (d_op op_mod lop_mod (d_callTy call_int1 lc_int rfl T.b_int (by decide +kernel) (da_cons (d_op op_mul lop_mul (d_var 3) (d_op op_addAll lop_add (d_op op_fdivW lop_fdiv (d_var 3) d_int) d_int)) da_nil)) d_int))
      (dss_one (ds_ret (d_op op_mod lop_mod (d_callTy call_int1 lc_int rfl T.b_int (by decide +kernel) (da_cons (d_op op_mod lop_mod (d_callTy call_int1 lc_int rfl T.b_int (by decide +kernel) (da_cons (d_op op_addAll lop_add (d_op op_fdivW lop_fdiv (d_var 3) d_int) (d_op op_mul lop_mul (d_op op_mod lop_mod (d_callTy call_int1 lc_int rfl T.b_int (by decide +kernel) (da_cons (d_var 3) da_nil)) d_int) d_int)) da_nil)) d_int) da_nil)) (d_var 1))))))))
theorem core__law_pick (T : Tx K mg base) {f : Addr} (F : ∃ fd, FunD K "_law_pick" "_law_pick" (defArgs s__law_pick) (defBody s__law_pick) (defScope s__law_pick) [] [] f fd) : FnC (clw K P w) P w K mg base 2 "_law_pick" "_law_pick" (defArgs s__law_pick) (defBody s__law_pick) (defScope s__law_pick) f ["_law_rng_here", "_law_items"] sp__law_pick := by
  have G0 : FnB (clw K P w) P w K mg base 1 "_law_draw" ["_law_rng_here", "_law_limit"] sp__law_draw := (core__law_draw T T.f__law_draw).fn T.g__law_draw hb__law_draw
  refine fnC_of (k := 1) (t := t__law_pick) F sc__law_pick (fun cdv A outer s H E c => ?_) pure__law_pick
  exact (dss_one (ds_ret (d_ixA (RoomG.u1 c.hr) (d_var 1) (d_fn c G0 (by decide) rfl (da_cons (d_var 0) (da_cons (d_callB call_len lc_len rfl T.b_len PySem.boot_len (da_cons (d_var 1) da_nil)) da_nil))))))
theorem core__law_value (T : Tx K mg base) {f : Addr} (F : ∃ fd, FunD K "_law_value" "_law_value" (defArgs s__law_value) (defBody s__law_value) (defScope s__law_value) [] [] f fd) : FnC (clw K P w) P w K mg base 3 "_law_value" "_law_value" (defArgs s__law_value) (defBody s__law_value) (defScope s__law_value) f ["_law_rng_here"] sp__law_value := by
  have G0 : FnB (clw K P w) P w K mg base 2 "_law_pick" ["_law_rng_here", "_law_items"] sp__law_pick := (core__law_pick T T.f__law_pick).fn T.g__law_pick hb__law_pick
  have G1 : FnB (clw K P w) P w K mg base 1 "_law_draw" ["_law_rng_here", "_law_limit"] sp__law_draw := (core__law_draw T T.f__law_draw).fn T.g__law_draw hb__law_draw
  refine fnC_of (k := 2) (t := t__law_value) F sc__law_value (fun cdv A outer s H E c => ?_) pure__law_value
  exact (dss_one (ds_ret (d_fn c G0 (by decide) rfl (da_cons (d_var 0) (da_cons (d_lst (da_cons d_int (da_cons d_int (da_cons (d_un un_neg lun_neg d_int) (da_cons d_int (da_cons (d_un un_neg lun_neg d_int) (da_cons (d_op op_pow lop_pow d_int d_int) (da_cons (d_un un_neg lun_neg (d_op op_pow lop_pow d_int d_int)) (da_cons (d_op op_sub lop_sub (d_fn c G1 (by decide) rfl (da_cons (d_var 0) (da_cons d_int da_nil))) d_int) da_nil))))))))) da_nil)))))
theorem core__law_forest (T : Tx K mg base) {f : Addr} (F : ∃ fd, FunD K "_law_forest" "_law_forest" (defArgs s__law_forest) (defBody s__law_forest) (defScope s__law_forest) [] [] f fd) : FnC (clw K P w) P w K mg base 4 "_law_forest" "_law_forest" (defArgs s__law_forest) (defBody s__law_forest) (defScope s__law_forest) f ["_law_rng_here", "_law_many"] sp__law_forest := by
  have G0 : FnB (clw K P w) P w K mg base 3 "_law_value" ["_law_rng_here"] sp__law_value := (core__law_value T T.f__law_value).fn T.g__law_value hb__law_value
  have G1 : FnB (clw K P w) P w K mg base 1 "_law_draw" ["_law_rng_here", "_law_limit"] sp__law_draw := (core__law_draw T T.f__law_draw).fn T.g__law_draw hb__law_draw
  have G2 : FnB (clw K P w) P w K mg base 2 "_law_pick" ["_law_rng_here", "_law_items"] sp__law_pick := (core__law_pick T T.f__law_pick).fn T.g__law_pick hb__law_pick
  refine fnC_of (k := 3) (t := t__law_forest) F sc__law_forest (fun cdv A outer s H E c => ?_) pure__law_forest
  exact (dss_cons (ds_par3 (i := 2) (j := 3) (l := 4) c.calm sc__law_forest.nd (da_cons (d_dispN (dps_cons d_non (d_lstM da_nil) dps_nil)) (da_cons d_dict0N (da_cons (d_lstM da_nil) da_nil))))
      (dss_cons (ds_for c.po c.calm (di_range1 rfl T.b_range (d_var 1)) (dg_name 5 sc__law_forest.nd) (dss_cons (ds_set 6 sc__law_forest.nd (d_op op_addAll lop_add (d_fn c G2 (by decide) rfl (da_cons (d_var 0) (da_cons (d_lst (da_cons d_str (da_cons d_str (da_cons d_str (da_cons d_str (da_cons d_str da_nil)))))) da_nil))) (d_callTy call_str_int lc_str rfl T.b_str (by decide +kernel) (da_cons (d_var 5) da_nil))))
      (dss_cons (ds_set 7 sc__law_forest.nd (d_fn c G2 (by decide) rfl (da_cons (d_var 0) (da_cons (d_op op_addAll lop_add (d_op op_addAll lop_add (d_op op_addAll lop_add (d_lst (da_cons d_non da_nil)) (d_slice (d_var 4) (do_some (d_un un_neg lun_neg d_int)) do_none)) (d_bin bin_repD (d_sliceM (d_var 4) (do_some (d_un un_neg lun_neg d_int)) do_none) d_int)) (d_slice (d_var 4) do_none (do_some d_int))) da_nil))))
      (dss_cons (ds_expr (d_bm PySem.F.plainAttrs_list PySem.F.slot_list_insert PySem.F.type_list_insert mt_insert lm_ins (d_ixN (d_var 2) (d_var 7)) (da_cons (d_fn c G1 (by decide) rfl (da_cons (d_var 0) (da_cons (d_op op_addAll lop_add (d_callB call_len lc_len rfl T.b_len PySem.boot_len (da_cons (d_ixN (d_var 2) (d_var 7)) da_nil)) d_int) da_nil))) (da_cons (d_var 6) da_nil))))
      (dss_cons (ds_asg (d_lstM da_nil) (dg_subN (d_var 2) (d_var 6)))
      (dss_cons (ds_asg (d_fn c G0 (by decide) rfl (da_cons (d_var 0) da_nil)) (dg_subN (d_var 3) (d_var 6)))
      (dss_one (ds_expr (d_bm PySem.F.plainAttrs_list PySem.F.slot_list_append PySem.F.type_list_append mt_append lm_app (d_var 4) (da_cons (d_var 6) da_nil))))))))))
      (dss_one (ds_ret (d_tup (da_cons (d_var 2) (da_cons (d_var 3) da_nil)))))))
theorem core__law_inside (T : Tx K mg base) {f : Addr} (F : ∃ fd, FunD K "_law_inside" "_law_inside" (defArgs s__law_inside) (defBody s__law_inside) (defScope s__law_inside) [] [] f fd) : FnC (clw K P w) P w K mg base 1 "_law_inside" "_law_inside" (defArgs s__law_inside) (defBody s__law_inside) (defScope s__law_inside) f ["_law_kids", "_law_name"] sp__law_inside := by
  refine fnC_of (k := 0) (t := t__law_inside) F sc__law_inside (fun cdv A outer s H E c => ?_) pure__law_inside
  exact (dss_cons (ds_par (i := 2) (j := 3) c.calm sc__law_inside.nd (da_cons (d_lstM da_nil) (da_cons (d_ifE (d_tcmp op_notN lop_notN (d_var 1) d_non (nomark _)) (d_lstM (da_cons (d_var 1) da_nil)) (d_revM (d_ixN (d_var 0) d_non))) da_nil)))
      (dss_cons (ds_while c.po (d_tcmpG (bin_neE c.hr.room.units) (d_var 3) (d_lst da_nil) (nomark _)) (dss_cons (ds_set 4 sc__law_inside.nd (d_bm0 PySem.F.plainAttrs_list PySem.F.slot_list_pop PySem.F.type_list_pop mt_pop lm_pop (d_var 3)))
      (dss_cons (ds_expr (d_bm PySem.F.plainAttrs_list PySem.F.slot_list_append PySem.F.type_list_append mt_append lm_app (d_var 2) (da_cons (d_var 4) da_nil)))
      (dss_one (ds_expr (d_bm PySem.F.plainAttrs_list PySem.F.slot_list_extend PySem.F.type_list_extend mt_extS lm_ext (d_var 3) (da_cons (d_rev (d_ixN (d_var 0) (d_var 4))) da_nil)))))))
      (dss_one (ds_ret (d_frz (d_var 2))))))
theorem core__law_parents (T : Tx K mg base) {f : Addr} (F : ∃ fd, FunD K "_law_parents" "_law_parents" (defArgs s__law_parents) (defBody s__law_parents) (defScope s__law_parents) [] [] f fd) : FnC (clw K P w) P w K mg base 1 "_law_parents" "_law_parents" (defArgs s__law_parents) (defBody s__law_parents) (defScope s__law_parents) f ["_law_kids"] sp__law_parents := by
  refine fnC_of (k := 0) (t := t__law_parents) F sc__law_parents (fun cdv A outer s H E c => ?_) pure__law_parents
  exact (dss_cons (ds_set 1 sc__law_parents.nd d_dict0N)
      (dss_cons (ds_forG c.po c.calm (di_keysN (d_var 0)) (dg_name 2 sc__law_parents.nd) (dss_one (ds_forG c.po c.calm (di_seqG (d_ixN (d_var 0) (d_var 2))) (dg_name 3 sc__law_parents.nd) (dss_one (ds_asg (d_var 2) (dg_subN (d_var 1) (d_var 3)))))))
      (dss_one (ds_ret (d_frz (d_var 1))))))
theorem core__law_line (T : Tx K mg base) {f : Addr} (F : ∃ fd, FunD K "_law_line" "_law_line" (defArgs s__law_line) (defBody s__law_line) (defScope s__law_line) [] [] f fd) : FnC (clw K P w) P w K mg base 1 "_law_line" "_law_line" (defArgs s__law_line) (defBody s__law_line) (defScope s__law_line) f ["_law_parents_here", "_law_name"] sp__law_line := by
  refine fnC_of (k := 0) (t := t__law_line) F sc__law_line (fun cdv A outer s H E c => ?_) pure__law_line
  exact (dss_cons (ds_par (i := 2) (j := 3) c.calm sc__law_line.nd (da_cons (d_lstM da_nil) (da_cons (d_ixN (d_var 0) (d_var 1)) da_nil)))
      (dss_cons (ds_while c.po (d_tcmp op_notN lop_notN (d_var 3) d_non (nomark _)) (dss_cons (ds_expr (d_bm PySem.F.plainAttrs_list PySem.F.slot_list_append PySem.F.type_list_append mt_append lm_app (d_var 2) (da_cons (d_var 3) da_nil)))
      (dss_one (ds_set 3 sc__law_line.nd (d_ixN (d_var 0) (d_var 3))))))
      (dss_one (ds_ret (d_rev (d_var 2))))))
theorem core__law_label (T : Tx K mg base) {f : Addr} (F : ∃ fd, FunD K "_law_label" "_law_label" (defArgs s__law_label) (defBody s__law_label) (defScope s__law_label) [] [] f fd) : FnC (clw K P w) P w K mg base 3 "_law_label" "_law_label" (defArgs s__law_label) (defBody s__law_label) (defScope s__law_label) f ["_law_rng_here"] sp__law_label := by
  have G0 : FnB (clw K P w) P w K mg base 2 "_law_pick" ["_law_rng_here", "_law_items"] sp__law_pick := (core__law_pick T T.f__law_pick).fn T.g__law_pick hb__law_pick
  refine fnC_of (k := 2) (t := t__law_label) F sc__law_label (fun cdv A outer s H E c => ?_) pure__law_label
  exact (dss_cons (ds_setLc (own := [("_law_turn", 2)]) 1 c.calm sc__law_label.nd (di_range1 rfl T.b_range (d_fn c G0 (by decide) rfl (da_cons (d_var 0) (da_cons (d_lst (da_cons d_int (da_cons d_int (da_cons d_int (da_cons d_int (da_cons d_int (da_cons d_int (da_cons d_int da_nil)))))))) da_nil)))) (blkOk_by (own := [("_law_turn", 2)]) (N := N__law_label) (sc := defScope s__law_label) (by decide +kernel)) (fun _ _ _ _ _ => (dg_name 2 sc__law_label.nd)) (fun _ _ _ _ _ => dts_nil) (fun _ _ _ _ _ => (d_fn c.blk G0 (by decide) rfl (da_cons (d_var 0) (da_cons (d_lst (da_cons d_int (da_cons d_int (da_cons d_int (da_cons d_int (da_cons d_int (da_cons d_int (da_cons d_int (da_cons d_int da_nil))))))))) da_nil)))))
      (dss_one (ds_ret (d_op op_addAll lop_add (d_var 1) (d_lst (da_cons (d_fn c G0 (by decide) rfl (da_cons (d_var 0) (da_cons (d_lst (da_cons d_int (da_cons d_int (da_cons d_int (da_cons d_int (da_cons d_int (da_cons d_int (da_cons d_int (da_cons d_int da_nil))))))))) da_nil))) da_nil))))))
theorem core__law_labels (T : Tx K mg base) {f : Addr} (F : ∃ fd, FunD K "_law_labels" "_law_labels" (defArgs s__law_labels) (defBody s__law_labels) (defScope s__law_labels) [] [] f fd) : FnC (clw K P w) P w K mg base 4 "_law_labels" "_law_labels" (defArgs s__law_labels) (defBody s__law_labels) (defScope s__law_labels) f ["_law_rng_here", "_law_many"] sp__law_labels := by
  have G0 : FnB (clw K P w) P w K mg base 3 "_law_label" ["_law_rng_here"] sp__law_label := (core__law_label T T.f__law_label).fn T.g__law_label hb__law_label
  refine fnC_of (k := 3) (t := t__law_labels) F sc__law_labels (fun cdv A outer s H E c => ?_) pure__law_labels
  exact (dss_cons (ds_set 2 sc__law_labels.nd (d_lstM da_nil))
      (dss_cons (ds_for c.po c.calm (di_range1 rfl T.b_range (d_var 1)) (dg_name 3 sc__law_labels.nd) (dss_cons (ds_set 4 sc__law_labels.nd (d_fn c G0 (by decide) rfl (da_cons (d_var 0) da_nil)))
      (dss_one (ds_expr (d_bm PySem.F.plainAttrs_list PySem.F.slot_list_append PySem.F.type_list_append mt_append lm_app (d_var 2) (da_cons (d_ifE (d_tcmpG (bin_inQ T.sm c.hr.room.units) (d_var 4) (d_var 2) rfl) (d_op op_addAll lop_add (d_lst (da_cons d_int (da_cons (d_op op_addAll lop_add (d_op op_mul lop_mul d_int (d_var 3)) d_int) da_nil))) (d_var 4)) (d_var 4)) da_nil))))))
      (dss_one (ds_ret (d_sorted c T.sm c.hr.room.units rfl T.b_sorted (d_var 2))))))
theorem core__law_keys (T : Tx K mg base) {f : Addr} (F : ∃ fd, FunD K "_law_keys" "_law_keys" (defArgs s__law_keys) (defBody s__law_keys) (defScope s__law_keys) [] [] f fd) : FnC (clw K P w) P w K mg base 5 "_law_keys" "_law_keys" (defArgs s__law_keys) (defBody s__law_keys) (defScope s__law_keys) f ["_law_rng_here", "_law_kids"] sp__law_keys := by
  have G0 : FnB (clw K P w) P w K mg base 1 "_law_inside" ["_law_kids", "_law_name"] sp__law_inside := (core__law_inside T T.f__law_inside).fn T.g__law_inside hb__law_inside
  have G1 : FnB (clw K P w) P w K mg base 4 "_law_labels" ["_law_rng_here", "_law_many"] sp__law_labels := (core__law_labels T T.f__law_labels).fn T.g__law_labels hb__law_labels
  refine fnC_of (k := 4) (t := t__law_keys) F sc__law_keys (fun cdv A outer s H E c => ?_) pure__law_keys
  exact (dss_cons (ds_set 2 sc__law_keys.nd (d_dispN (dps_cons d_non (d_lstM da_nil) dps_nil)))
      (dss_cons (ds_for c.po c.calm (di_seq (d_op op_addAll lop_add (d_lst (da_cons d_non da_nil)) (d_fn c G0 (by decide) rfl (da_cons (d_var 1) (da_cons d_non da_nil))))) (dg_name 3 sc__law_keys.nd) (dss_one (ds_forG c.po c.calm (di_zipC rfl T.b_zip (d_ixN (d_var 1) (d_var 3)) (d_fn c G1 (by decide) rfl (da_cons (d_var 0) (da_cons (d_callB call_len lc_len rfl T.b_len PySem.boot_len (da_cons (d_ixN (d_var 1) (d_var 3)) da_nil)) da_nil)))) (dg_tup c.calm (dgs_cons (dg_name 4 sc__law_keys.nd) (dgs_cons (dg_name 5 sc__law_keys.nd) dgs_nil))) (dss_one (ds_asg (d_op op_addAll lop_add (d_ixN (d_var 2) (d_var 3)) (d_lst (da_cons (d_var 5) da_nil))) (dg_subN (d_var 2) (d_var 4)))))))
      (dss_cons (ds_expr (d_popN (d_var 2) (da_cons d_non da_nil)))
      (dss_one (ds_ret (d_frz (d_var 2)))))))
theorem core__law_joined (T : Tx K mg base) {f : Addr} (F : ∃ fd, FunD K "_law_joined" "_law_joined" (defArgs s__law_joined) (defBody s__law_joined) (defScope s__law_joined) [] [] f fd) : FnC (clw K P w) P w K mg base 4 "_law_joined" "_law_joined" (defArgs s__law_joined) (defBody s__law_joined) (defScope s__law_joined) f ["_law_labels_here"] sp__law_joined := by
  have G0 : FnB (clw K P w) P w K mg base 3 "bytes_of" ["numbers"] sp_bytes_of := (core_bytes_of T T.f_bytes_of).fn T.g_bytes_of hb_bytes_of
  refine fnC_of (k := 3) (t := t__law_joined) F sc__law_joined (fun cdv A outer s H E c => ?_) pure__law_joined
  exact (dss_cons (ds_set 1 sc__law_joined.nd (d_lstM da_nil))
      (dss_cons (ds_for c.po c.calm (di_seq (d_var 0)) (dg_name 2 sc__law_joined.nd) (dss_one (ds_expr (d_bm PySem.F.plainAttrs_list PySem.F.slot_list_extend PySem.F.type_list_extend mt_extS lm_ext (d_var 1) (da_cons (d_var 2) da_nil)))))
      (dss_one (ds_ghost 1 (ds_ret (d_fn c G0 (by decide) rfl (da_cons (d_var 1) da_nil)))))))
theorem core__law_key_rows (T : Tx K mg base) {f : Addr} (F : ∃ fd, FunD K "_law_key_rows" "_law_key_rows" (defArgs s__law_key_rows) (defBody s__law_key_rows) (defScope s__law_key_rows) [] [] f fd) : FnC (clw K P w) P w K mg base 5 "_law_key_rows" "_law_key_rows" (defArgs s__law_key_rows) (defBody s__law_key_rows) (defScope s__law_key_rows) f ["_law_kids", "_law_values", "_law_keys_here"] sp__law_key_rows := by
  have G0 : FnB (clw K P w) P w K mg base 1 "_law_inside" ["_law_kids", "_law_name"] sp__law_inside := (core__law_inside T T.f__law_inside).fn T.g__law_inside hb__law_inside
  have G1 : FnB (clw K P w) P w K mg base 4 "_law_joined" ["_law_labels_here"] sp__law_joined := (core__law_joined T T.f__law_joined).fn T.g__law_joined hb__law_joined
  refine fnC_of (k := 4) (t := t__law_key_rows) F sc__law_key_rows (fun cdv A outer s H E c => ?_) pure__law_key_rows
  exact (dss_one (ds_ret (d_lcM (own := [("_law_name", 3)]) c.calm sc__law_key_rows.nd (di_seq (d_fn c G0 (by decide) rfl (da_cons (d_var 0) (da_cons d_non da_nil)))) (blkOk_by (own := [("_law_name", 3)]) (N := N__law_key_rows) (sc := defScope s__law_key_rows) (by decide +kernel)) (fun _ _ _ _ _ => (dg_name 3 sc__law_key_rows.nd)) (fun _ _ _ _ _ => dts_nil) (fun _ _ _ _ _ => (d_tup (da_cons (d_var 3) (da_cons (d_ixN (d_var 1) (d_var 3)) (da_cons (d_fn c.blk G1 (by decide) rfl (da_cons (d_ixN (d_var 2) (d_var 3)) da_nil)) da_nil))))))))
theorem core__law_said (T : Tx K mg base) {f : Addr} (F : ∃ fd, FunD K "_law_said" "_law_said" (defArgs s__law_said) (defBody s__law_said) (defScope s__law_said) [] [] f fd) : FnC (clw K P w) P w K mg base 7 "_law_said" "_law_said" (defArgs s__law_said) (defBody s__law_said) (defScope s__law_said) f ["_law_rows"] sp__law_said := by
  have G0 : FnB (clw K P w) P w K mg base 6 "largest_keys" ["rows"] sp_largest_keys := (core_largest_keys T T.f_largest_keys).fn T.g_largest_keys hb_largest_keys
  refine fnC_of (k := 6) (t := t__law_said) F sc__law_said (fun cdv A outer s H E c => ?_) pure__law_said
  exact (dss_cons (ds_try c T.mt rfl rfl (fun _ _ _ c1 => (dss_one (ds_expr (d_fn c1 G0 (by decide) rfl (da_cons (d_var 0) da_nil))))) (.as (i := 1) (k := 28) sc__law_said.nd rfl rfl ⟨rfl, by decide, .inl T.g_NoTable⟩ (fun x a oe cls d pn hx hz hf => (dss_one (ds_ret (d_tup (da_cons (d_xf T.xf_place hx hz hf (d_var 1)) (da_cons (d_xf T.xf_why hx hz hf (d_var 1)) da_nil)))))) (.only (k := 17) ⟨rfl, by decide, .inl T.g_ForestError⟩ (fun x a oe cls d pn hx hz hf => (dss_one (ds_ret d_str))) .nil)))
      (dss_one (ds_ret d_non)))
theorem core__law_right (T : Tx K mg base) {f : Addr} (F : ∃ fd, FunD K "_law_right" "_law_right" (defArgs s__law_right) (defBody s__law_right) (defScope s__law_right) [] [] f fd) : FnC (clw K P w) P w K mg base 8 "_law_right" "_law_right" (defArgs s__law_right) (defBody s__law_right) (defScope s__law_right) f ["_law_rng_here"] sp__law_right := by
  have G0 : FnB (clw K P w) P w K mg base 7 "_law_said" ["_law_rows"] sp__law_said := (core__law_said T T.f__law_said).fn T.g__law_said hb__law_said
  have G1 : FnB (clw K P w) P w K mg base 5 "judge_keys" ["rows"] sp_judge_keys := (core_judge_keys T T.f_judge_keys).fn T.g_judge_keys hb_judge_keys
  have G2 : FnB (clw K P w) P w K mg base 2 "_law_pick" ["_law_rng_here", "_law_items"] sp__law_pick := (core__law_pick T T.f__law_pick).fn T.g__law_pick hb__law_pick
  have G3 : FnB (clw K P w) P w K mg base 3 "bytes_of" ["numbers"] sp_bytes_of := (core_bytes_of T T.f_bytes_of).fn T.g_bytes_of hb_bytes_of
  have G4 : FnB (clw K P w) P w K mg base 1 "_law_draw" ["_law_rng_here", "_law_limit"] sp__law_draw := (core__law_draw T T.f__law_draw).fn T.g__law_draw hb__law_draw
  have G5 : ∀ c spd, List.lookup c ([(15, sp_Table___len__)] : List (Nat × SpD)) = some spd -> MethB (clw K P w) P w K mg base 6 c "__len__" spd := (tb_cons ((core_Table___len__ T T.f_KeyTable____len__).meth (c := 15) T.k_KeyTable T.m_KeyTable____len__ hb_Table___len__ (by decide)) tb_nil)
  have G6 : MkB (clw K P w) P w K mg base 6 "KeyTable" 15 ["self", "rows"] sp_KeyTable___init__ := (core_KeyTable___init__ T T.f_KeyTable____init__).mk (c := 15) T.g_KeyTable T.mk_KeyTable hb_KeyTable___init__
  have G7 : FnB (clw K P w) P w K mg base 6 "largest_keys" ["rows"] sp_largest_keys := (core_largest_keys T T.f_largest_keys).fn T.g_largest_keys hb_largest_keys
  have G8 : FnB (clw K P w) P w K mg base 1 "_law_line" ["_law_parents_here", "_law_name"] sp__law_line := (core__law_line T T.f__law_line).fn T.g__law_line hb__law_line
  have G9 : FnB (clw K P w) P w K mg base 1 "_law_parents" ["_law_kids"] sp__law_parents := (core__law_parents T T.f__law_parents).fn T.g__law_parents hb__law_parents
  have G10 : FnB (clw K P w) P w K mg base 5 "_law_key_rows" ["_law_kids", "_law_values", "_law_keys_here"] sp__law_key_rows := (core__law_key_rows T T.f__law_key_rows).fn T.g__law_key_rows hb__law_key_rows
  have G11 : FnB (clw K P w) P w K mg base 5 "_law_keys" ["_law_rng_here", "_law_kids"] sp__law_keys := (core__law_keys T T.f__law_keys).fn T.g__law_keys hb__law_keys
  have G12 : FnB (clw K P w) P w K mg base 4 "_law_forest" ["_law_rng_here", "_law_many"] sp__law_forest := (core__law_forest T T.f__law_forest).fn T.g__law_forest hb__law_forest
  refine fnC_of (k := 7) (t := t__law_right) F sc__law_right (fun cdv A outer s H E c => ?_) pure__law_right
  exact (dss_cons (ds_asg (d_fn c G12 (by decide) rfl (da_cons (d_var 0) (da_cons (d_fn c G4 (by decide) rfl (da_cons (d_var 0) (da_cons d_int da_nil))) da_nil))) (dg_tup c.calm (dgs_cons (dg_name 1 sc__law_right.nd) (dgs_cons (dg_name 2 sc__law_right.nd) dgs_nil))))
      (dss_cons (ds_asg (d_tup (da_cons (d_fn c G10 (by decide) rfl (da_cons (d_var 1) (da_cons (d_var 2) (da_cons (d_fn c G11 (by decide) rfl (da_cons (d_var 0) (da_cons (d_var 1) da_nil))) da_nil)))) (da_cons (d_fn c G9 (by decide) rfl (da_cons (d_var 1) da_nil)) da_nil))) (dg_tup c.calm (dgs_cons (dg_name 3 sc__law_right.nd) (dgs_cons (dg_name 4 sc__law_right.nd) dgs_nil))))
      (dss_cons (ds_set 5 sc__law_right.nd (d_lc (own := [("_law_turn", 13)]) c.calm sc__law_right.nd (di_range1 rfl T.b_range (d_callB call_len lc_len rfl T.b_len PySem.boot_len (da_cons (d_var 3) da_nil))) (blkOk_by (own := [("_law_turn", 13)]) (N := N__law_right) (sc := defScope s__law_right) (by decide +kernel)) (fun _ _ _ _ _ => (dg_name 13 sc__law_right.nd)) (fun _ _ _ _ _ => dts_nil) (fun _ _ _ _ _ => (d_bm PySem.F.plainAttrs_list PySem.F.slot_list_pop PySem.F.type_list_pop mt_popAt lm_popAt (d_var 3) (da_cons (d_fn c.blk G4 (by decide) rfl (da_cons (d_var 0) (da_cons (d_callB call_len lc_len rfl T.b_len PySem.boot_len (da_cons (d_var 3) da_nil)) da_nil))) da_nil)))))
      (dss_cons (ds_set 5 sc__law_right.nd (d_lc (own := [("_law_row", 14)]) c.calm sc__law_right.nd (di_seq (d_var 5)) (blkOk_by (own := [("_law_row", 14)]) (N := N__law_right) (sc := defScope s__law_right) (by decide +kernel)) (fun _ _ _ _ _ => (dg_name 14 sc__law_right.nd)) (fun _ _ _ _ _ => (dts_one (d_tcmp op_gt (lop_cmp _) (d_fn c.blk G4 (by decide) rfl (da_cons (d_var 0) (da_cons d_int da_nil))) d_int (nomark _)))) (fun _ _ _ _ _ => (d_var 14))))
      (dss_cons (ds_set 6 sc__law_right.nd (d_lc (own := [("_law_row", 14)]) c.calm sc__law_right.nd (di_seq (d_var 5)) (blkOk_by (own := [("_law_row", 14)]) (N := N__law_right) (sc := defScope s__law_right) (by decide +kernel)) (fun _ _ _ _ _ => (dg_name 14 sc__law_right.nd)) (fun _ _ _ _ _ => dts_nil) (fun _ _ _ _ _ => (d_ixA (RoomG.u1 c.blk.hr) (d_var 14) d_int))))
      (dss_cons (ds_setLc (own := [("_law_at", 8), ("_law_row", 14)]) 7 c.calm sc__law_right.nd (di_enumT rfl T.b_enumerate (d_var 5)) (blkOk_by (own := [("_law_at", 8), ("_law_row", 14)]) (N := N__law_right) (sc := defScope s__law_right) (by decide +kernel)) (fun _ _ _ _ _ => (dg_tup c.blk.calm (dgs_cons (dg_name 8 sc__law_right.nd) (dgs_cons (dg_name 14 sc__law_right.nd) dgs_nil)))) (fun _ _ _ _ _ => (dts_one (d_val (d_callB (cr_all c.blk.calm) lc_all rfl T.b_all (by decide +kernel) (da_cons (d_lc (own := [("_law_name", 15)]) c.blk.calm sc__law_right.nd (di_seq (d_fn c.blk G8 (by decide) rfl (da_cons (d_var 4) (da_cons (d_ixA (RoomG.u1 c.blk.hr) (d_var 14) d_int) da_nil)))) (blkOk_two (own := [("_law_name", 15)]) (N := N__law_right) (sc0 := defScope s__law_right) rfl (by decide +kernel)) (fun _ _ _ _ _ => (dg_name 15 sc__law_right.nd)) (fun _ _ _ _ _ => dts_nil) (fun _ _ _ _ _ => (d_cmp (op_inA (RoomG.u1 c.blk.blk.hr)) lop_in (d_var 15) (d_var 6) rfl))) da_nil))))) (fun _ _ _ _ _ => (d_var 8)))
      (dss_cons (ds_if (d_tcmp (op_neA c.hr.room.units) lop_ne (d_fn c G7 (by decide) rfl (da_cons (d_fn c G2 (by decide) rfl (da_cons (d_var 0) (da_cons (d_lst (da_cons (d_var 5) (da_cons (d_callTy call_tuple_of lc_tup rfl T.b_tuple (by decide +kernel) (da_cons (d_var 5) da_nil)) da_nil))) da_nil))) da_nil)) (d_var 7) (nomark _)) (dss_one (ds_ret d_bl)) dss_nil)
      (dss_cons (ds_if (d_tcmp (op_neA c.hr.room.units) lop_ne (d_lenO (k := 6) c G5 rfl T.b_len (d_make c G6 (by decide) rfl (da_cons (d_lc (own := [("_law_at", 8)]) c.calm sc__law_right.nd (di_seq (d_var 7)) (blkOk_by (own := [("_law_at", 8)]) (N := N__law_right) (sc := defScope s__law_right) (by decide +kernel)) (fun _ _ _ _ _ => (dg_name 8 sc__law_right.nd)) (fun _ _ _ _ _ => dts_nil) (fun _ _ _ _ _ => (d_ixA (RoomG.u1 c.blk.hr) (d_var 5) (d_var 8)))) da_nil))) (d_callB call_len lc_len rfl T.b_len PySem.boot_len (da_cons (d_var 7) da_nil)) (nomark _)) (dss_one (ds_ret d_bl)) dss_nil)
      (dss_cons (ds_set 8 sc__law_right.nd (d_fn c G4 (by decide) rfl (da_cons (d_var 0) (da_cons (d_op op_addAll lop_add (d_callB call_len lc_len rfl T.b_len PySem.boot_len (da_cons (d_var 5) da_nil)) d_int) da_nil))))
      (dss_cons (ds_set 9 sc__law_right.nd (d_lst (da_cons (d_tup (da_cons d_str (da_cons d_int (da_cons (d_fn c G3 (by decide) rfl (da_cons (d_lst (da_cons d_int da_nil)) da_nil)) da_nil)))) (da_cons (d_tup (da_cons d_str (da_cons d_bl (da_cons (d_fn c G3 (by decide) rfl (da_cons (d_lst (da_cons d_int da_nil)) da_nil)) da_nil)))) (da_cons (d_tup (da_cons d_str (da_cons d_int (da_cons (d_fn c G3 (by decide) rfl (da_cons (d_lst (da_cons d_int da_nil)) da_nil)) da_nil)))) (da_cons (d_tup (da_cons d_str (da_cons d_int da_nil))) (da_cons d_non da_nil)))))))
      (dss_cons (ds_set 10 sc__law_right.nd (d_fn c G2 (by decide) rfl (da_cons (d_var 0) (da_cons (d_var 9) da_nil))))
      (dss_cons (ds_set 11 sc__law_right.nd (d_op op_addAll lop_add (d_op op_addAll lop_add (d_op op_addAll lop_add (d_slice (d_var 5) do_none (do_some (d_var 8))) (d_lst (da_cons (d_var 10) da_nil))) (d_slice (d_var 5) (do_some (d_var 8)) do_none)) (d_lst (da_cons d_non da_nil))))
      (dss_cons (ds_set 12 sc__law_right.nd (d_fn c G1 (by decide) rfl (da_cons (d_var 11) da_nil)))
      (dss_one (ds_ret (d_andV (d_cmp (op_eqA c.hr.room.units) lop_eq (d_fn c G0 (by decide) rfl (da_cons (d_var 11) da_nil)) (d_tup (da_cons (d_fld (fo_place T) (d_var 12)) (da_cons (d_fld (fo_word T) (d_var 12)) da_nil))) (nomark _)) (d_one (d_cmp (op_eqA c.hr.room.units) lop_eq (d_fld (fo_place T) (d_var 12)) (d_var 8) (nomark _)))))))))))))))))))
theorem core_law (T : Tx K mg base) {f : Addr} (F : ∃ fd, FunD K "law" "law" (defArgs s_law) (defBody s_law) (defScope s_law) [] [] f fd) : FnC (clw K P w) P w K mg base 9 "law" "law" (defArgs s_law) (defBody s_law) (defScope s_law) f ["_law_script"] sp_law := by
  have G0 : FnB (clw K P w) P w K mg base 6 "largest_keys" ["rows"] sp_largest_keys := (core_largest_keys T T.f_largest_keys).fn T.g_largest_keys hb_largest_keys
  have G1 : FnB (clw K P w) P w K mg base 7 "_law_said" ["_law_rows"] sp__law_said := (core__law_said T T.f__law_said).fn T.g__law_said hb__law_said
  have G2 : FnB (clw K P w) P w K mg base 8 "_law_right" ["_law_rng_here"] sp__law_right := (core__law_right T T.f__law_right).fn T.g__law_right hb__law_right
  have G3 : FnB (clw K P w) P w K mg base 1 "_law_rng" ["_law_cell"] sp__law_rng := (core__law_rng T T.f__law_rng).fn T.g__law_rng hb__law_rng
  refine fnC_of (k := 8) (t := t_law) F sc_law (fun cdv A outer s H E c => ?_) pure_law
  exact (dss_cons (ds_for c.po c.calm (di_seq (d_slice (d_op op_addAll lop_add (d_var 0) (d_lst (da_cons d_int da_nil))) do_none (do_some d_int))) (dg_name 1 sc_law.nd) (dss_one (ds_if (d_tnot (d_val (d_fn c G2 (by decide) rfl (da_cons (d_fn c G3 (by decide) rfl (da_cons (d_var 1) da_nil)) da_nil)))) (dss_one (ds_ret d_bl)) dss_nil)))
      (dss_one (ds_ret (d_andV (d_cmpG (bin_eqE c.hr.room.units) (d_fn c G0 (by decide) rfl (da_cons (d_lst da_nil) da_nil)) (d_lst da_nil) (nomark _)) (d_one (d_cmp (op_eqA c.hr.room.units) lop_eq (d_fn c G1 (by decide) rfl (da_cons d_non da_nil)) (d_tup (da_cons (d_un un_neg lun_neg d_int) (da_cons d_str da_nil))) (nomark _)))))))
end
end LawProof
set_option Elab.async false
set_option linter.all false
set_option maxRecDepth 100000
set_option maxHeartbeats 4000000
set_option autoImplicit true
namespace LawProof
open PySem L2 DL
theorem tx_of {K : PySem.W.Frag} {h : Heap} {mg : Str -> Option Value} (X : K.In h) (G : h.Ns mainGlobals mg) (c : He.SaysD fa fn K) (e : ex K = true) (tk_KeyTable_put_rows : ∃ h, TabK h K ("KeyTable", some "put_rows")) (tb_KeyTable_put_rows : LamX.TabB base mg (codeF K (He.fAd K ("KeyTable", some "put_rows"))) (tabD K ("KeyTable", some "put_rows"))) : Tx K mg base :=
  { f_is_integer := c.def_ 0 (d := d_is_integer) rfl,
    f_is_sequence := c.def_ 1 (d := d_is_sequence) rfl,
    f_is_name := c.def_ 2 (d := d_is_name) rfl,
    f_is_value := c.def_ 3 (d := d_is_value) rfl,
    f_key_fault := c.def_ 4 (d := d_key_fault) rfl,
    f_cut_key := c.def_ 5 (d := d_cut_key) rfl,
    f_bytes_of := c.def_ 6 (d := d_bytes_of) rfl,
    f_plain_word := c.def_ 7 (d := d_plain_word) rfl,
    f_key_word := c.def_ 8 (d := d_key_word) rfl,
    f_shorter_keys := c.def_ 9 (d := d_shorter_keys) rfl,
    f_judge_keys := c.def_ 10 (d := d_judge_keys) rfl,
    f_largest_keys := c.def_ 11 (d := d_largest_keys) rfl,
    f__law_rng := c.def_ 12 (d := d__law_rng) rfl,
    f__law_draw := c.def_ 13 (d := d__law_draw) rfl,
    f__law_pick := c.def_ 14 (d := d__law_pick) rfl,
    f__law_value := c.def_ 15 (d := d__law_value) rfl,
    f__law_forest := c.def_ 16 (d := d__law_forest) rfl,
    f__law_inside := c.def_ 17 (d := d__law_inside) rfl,
    f__law_parents := c.def_ 18 (d := d__law_parents) rfl,
    f__law_line := c.def_ 19 (d := d__law_line) rfl,
    f__law_label := c.def_ 20 (d := d__law_label) rfl,
    f__law_labels := c.def_ 21 (d := d__law_labels) rfl,
    f__law_keys := c.def_ 22 (d := d__law_keys) rfl,
    f__law_joined := c.def_ 23 (d := d__law_joined) rfl,
    f__law_key_rows := c.def_ 24 (d := d__law_key_rows) rfl,
    f__law_said := c.def_ 25 (d := d__law_said) rfl,
    f__law_right := c.def_ 26 (d := d__law_right) rfl,
    f_law := c.def_ 27 (d := d_law) rfl,
    f_NoKey____init__ := c.def_ 28 (d := d_NoKey____init__) rfl,
    f_Fault____init__ := c.def_ 29 (d := d_Fault____init__) rfl,
    f_KeyTable__put_rows := c.def_ 30 (d := d_KeyTable__put_rows) rfl,
    f_NoTable____init__ := c.def_ 31 (d := d_NoTable____init__) rfl,
    f_KeyTable__names := c.def_ 32 (d := d_KeyTable__names) rfl,
    f_KeyTable____len__ := c.def_ 33 (d := d_KeyTable____len__) rfl,
    f_KeyTable____init__ := c.def_ 34 (d := d_KeyTable____init__) rfl,
    g_is_integer := He.glo_ok X G (c.fact 0 (f := .glo "is_integer") rfl),
    g_is_sequence := He.glo_ok X G (c.fact 1 (f := .glo "is_sequence") rfl),
    g_is_name := He.glo_ok X G (c.fact 2 (f := .glo "is_name") rfl),
    g_is_value := He.glo_ok X G (c.fact 3 (f := .glo "is_value") rfl),
    g_key_fault := He.glo_ok X G (c.fact 4 (f := .glo "key_fault") rfl),
    g_cut_key := He.glo_ok X G (c.fact 5 (f := .glo "cut_key") rfl),
    g_bytes_of := He.glo_ok X G (c.fact 6 (f := .glo "bytes_of") rfl),
    g_plain_word := He.glo_ok X G (c.fact 7 (f := .glo "plain_word") rfl),
    g_key_word := He.glo_ok X G (c.fact 8 (f := .glo "key_word") rfl),
    g_shorter_keys := He.glo_ok X G (c.fact 9 (f := .glo "shorter_keys") rfl),
    g_judge_keys := He.glo_ok X G (c.fact 10 (f := .glo "judge_keys") rfl),
    g_largest_keys := He.glo_ok X G (c.fact 11 (f := .glo "largest_keys") rfl),
    g__law_rng := He.glo_ok X G (c.fact 12 (f := .glo "_law_rng") rfl),
    g__law_draw := He.glo_ok X G (c.fact 13 (f := .glo "_law_draw") rfl),
    g__law_pick := He.glo_ok X G (c.fact 14 (f := .glo "_law_pick") rfl),
    g__law_value := He.glo_ok X G (c.fact 15 (f := .glo "_law_value") rfl),
    g__law_forest := He.glo_ok X G (c.fact 16 (f := .glo "_law_forest") rfl),
    g__law_inside := He.glo_ok X G (c.fact 17 (f := .glo "_law_inside") rfl),
    g__law_parents := He.glo_ok X G (c.fact 18 (f := .glo "_law_parents") rfl),
    g__law_line := He.glo_ok X G (c.fact 19 (f := .glo "_law_line") rfl),
    g__law_label := He.glo_ok X G (c.fact 20 (f := .glo "_law_label") rfl),
    g__law_labels := He.glo_ok X G (c.fact 21 (f := .glo "_law_labels") rfl),
    g__law_keys := He.glo_ok X G (c.fact 22 (f := .glo "_law_keys") rfl),
    g__law_joined := He.glo_ok X G (c.fact 23 (f := .glo "_law_joined") rfl),
    g__law_key_rows := He.glo_ok X G (c.fact 24 (f := .glo "_law_key_rows") rfl),
    g__law_said := He.glo_ok X G (c.fact 25 (f := .glo "_law_said") rfl),
    g__law_right := He.glo_ok X G (c.fact 26 (f := .glo "_law_right") rfl),
    g_law := He.glo_ok X G (c.fact 27 (f := .glo "law") rfl),
    g_Fault := He.glo_ok X G (c.fact 28 (f := .glo "Fault") rfl),
    k_Fault := He.cls_ok (c.fact 29 (f := .cls "Fault") rfl),
    g_KeyTable := He.glo_ok X G (c.fact 30 (f := .glo "KeyTable") rfl),
    k_KeyTable := He.cls_ok (c.fact 31 (f := .cls "KeyTable") rfl),
    g_Thing := He.glo_ok X G (c.fact 32 (f := .glo "Thing") rfl),
    k_Thing := He.cls_ok (c.fact 33 (f := .cls "Thing") rfl),
    g_NoKey := He.glo_ok X G (c.fact 34 (f := .glo "NoKey") rfl),
    g_NoTable := He.glo_ok X G (c.fact 35 (f := .glo "NoTable") rfl),
    g_ForestError := He.glo_ok X G (c.fact 36 (f := .glo "ForestError") rfl),
    oex_NoKey := oexB_ok (ex_0 e),
    xn_NoKey := ex_1 e,
    n_Fault__word := He.noat_ok (c.fact 37 (f := .noat "Fault" "word") rfl),
    n_Fault__place := He.noat_ok (c.fact 38 (f := .noat "Fault" "place") rfl),
    mk_Fault := He.mkr_ok (c.fact 39 (f := .mkr "Fault") rfl),
    n_KeyTable__by_name := He.noat_ok (c.fact 40 (f := .noat "KeyTable" "by_name") rfl),
    n_KeyTable__rows := He.noat_ok (c.fact 41 (f := .noat "KeyTable" "rows") rfl),
    m_KeyTable__put_rows := He.meth_ok (c.fact 42 (f := .meth "KeyTable" "put_rows") rfl),
    oex_NoTable := oexB_ok (ex_2 e),
    xn_NoTable := ex_3 e,
    m_KeyTable__names := He.meth_ok (c.fact 43 (f := .meth "KeyTable" "names") rfl),
    sm := smB_ok (ex_4 e),
    mt := mtB_ok (ex_5 e),
    xf_why := xfOkB_ok (ex_6 e),
    xf_place := xfOkB_ok (ex_7 e),
    m_KeyTable____len__ := He.meth_ok (c.fact 44 (f := .meth "KeyTable" "__len__") rfl),
    mk_KeyTable := He.mkr_ok (c.fact 45 (f := .mkr "KeyTable") rfl),
    b_isinstance := He.free_ok X G (c.fact 46 (f := .free "isinstance") rfl),
    b_int := He.free_ok X G (c.fact 47 (f := .free "int") rfl),
    b_bool := He.free_ok X G (c.fact 48 (f := .free "bool") rfl),
    b_tuple := He.free_ok X G (c.fact 49 (f := .free "tuple") rfl),
    b_list := He.free_ok X G (c.fact 50 (f := .free "list") rfl),
    b_all := He.free_ok X G (c.fact 51 (f := .free "all") rfl),
    b_str := He.free_ok X G (c.fact 52 (f := .free "str") rfl),
    b_len := He.free_ok X G (c.fact 53 (f := .free "len") rfl),
    b_enumerate := He.free_ok X G (c.fact 54 (f := .free "enumerate") rfl),
    b_bytes := He.free_ok X G (c.fact 55 (f := .free "bytes") rfl),
    b_range := He.free_ok X G (c.fact 56 (f := .free "range") rfl),
    b_sorted := He.free_ok X G (c.fact 57 (f := .free "sorted") rfl),
    b_abs := He.free_ok X G (c.fact 58 (f := .free "abs") rfl),
    b_zip := He.free_ok X G (c.fact 59 (f := .free "zip") rfl),
    c_LETTERS := He.str_ok X G (c.fact 60 (f := .str "LETTERS" "abcdefghijklmnopqrstuvwxyz") rfl),
    c_SIGNS := He.str_ok X G (c.fact 61 (f := .str "SIGNS" "abcdefghijklmnopqrstuvwxyz0123456789") rfl),
    c_MOST_SIGNS := He.int_ok X G (c.fact 62 (f := .int "MOST_SIGNS" 8) rfl),
    c_MOST_VALUE := He.int_ok X G (c.fact 63 (f := .int "MOST_VALUE" 1000000000000000000000000000000) rfl),
    c_MOST_ROWS := He.int_ok X G (c.fact 64 (f := .int "MOST_ROWS" 60) rfl),
    tk_KeyTable_put_rows := tk_KeyTable_put_rows,
    tb_KeyTable_put_rows := tb_KeyTable_put_rows }
end LawProof
open PySem PySem.W PySem.Calls PyProof.Rows
set_option maxRecDepth 100000 in
set_option maxHeartbeats 0 in
theorem PySem.Challenge.cw_forestrows_k66_largest_parts_of_key_rows_holds : PySem.Challenge.rw_forestrows_k66_largest_parts_of_key_rows.Holds := by
  w_on; o_law
  refine HandSHeadRun.head_any (r := OpenLaw.row PySem.Challenge.rw_forestrows_k66_largest_parts_of_key_rows) (q := view (OpenLaw.row PySem.Challenge.rw_forestrows_k66_largest_parts_of_key_rows).prog [64]) (H := LawProof.hk) (ob := LawProof.ob) (M := 20000) (loose := LawProof.loose) (d := HandSHeadRun.topDef (OpenLaw.row PySem.Challenge.rw_forestrows_k66_largest_parts_of_key_rows).prog 64) (kwd := []) LawProof.ob_eq
    (by kernel_rfl) (fun s => by kernel_rfl) LawProof.run (by kernel_rfl) (by kernel_rfl) (by kernel_rfl) (by rfl) (by first | assumption | decide +kernel) (by decide +kernel) ⟨rfl, rfl, rfl, rfl, rfl, by decide +kernel⟩ ?hw ?hc
  case hw => w_witness2
  case hc =>
    refine DL.walk_DT (l := PySem.Challenge.rw_forestrows_k66_largest_parts_of_key_rows) (n := 63) (k := 9) (x := "_law_script") rfl (by decide) (by kernel_rfl) ⟨⟨rfl, by decide, by decide⟩, rfl⟩ ?F
    intro w mg fa h Y G hmg0
    obtain ⟨K0, KX0, c1, c2, c3⟩ := Y
    have KX := DL.cut_in (ts := LawProof.ts) KX0
    have tk : ∀ d ∈ LawProof.ts, DL.TabK h (DL.cutTab K0 LawProof.ts) d := fun d hd => DL.tabK_of KX0 (List.all_eq_true.mp c3 d hd)
    generalize DL.cutTab K0 LawProof.ts = K at KX c1 c2 tk
    have hmg : mg ("law" : PySem.Str) = some (.ref fa) := by
      have e : (HandSHeadRun.topDef (OpenLaw.row PySem.Challenge.rw_forestrows_k66_largest_parts_of_key_rows).prog 64).name = ("law" : PySem.Str) := by kernel_rfl
      rw [<- e]
      exact hmg0
    have tk_KeyTable_put_rows := tk ("KeyTable", some "put_rows") (show (("KeyTable", some "put_rows") : Str × Option Str) ∈ ([("KeyTable", some "put_rows")] : List (Str × Option Str)) from (.head _))
    refine ⟨LawProof.clw K PySem.Challenge.rw_forestrows_k66_largest_parts_of_key_rows.prog w, K, LawProof.sp_law, DL.csOf K LawProof.ts, fun q hq => ?_, KX, DL.tabs_at KX tk, LawProof.law_sp, fun base KB NB TBs => ?_⟩
    · have hq : q ∈ DL.tabsOf (LawProof.cl K) := hq
      rw [LawProof.tabs_cl tk_KeyTable_put_rows.nz] at hq
      rcases List.mem_cons.mp hq with rfl | hq
      · exact (show DL.tabD K ("KeyTable", some "put_rows") ∈ [DL.tabD K ("KeyTable", some "put_rows")] from (.head _))
      cases hq
    have T := LawProof.tx_of KB NB c1 c2 ⟨h, tk_KeyTable_put_rows⟩ (TBs (DL.codeF K (He.fAd K ("KeyTable", some "put_rows")), DL.tabD K ("KeyTable", some "put_rows")) (show (DL.codeF K (He.fAd K ("KeyTable", some "put_rows")), DL.tabD K ("KeyTable", some "put_rows")) ∈ [(DL.codeF K (He.fAd K ("KeyTable", some "put_rows")), DL.tabD K ("KeyTable", some "put_rows"))] from (.head _)))
    have e := hmg.symm.trans T.g_law
    cases e
    obtain ⟨f, fd2, h1, h2, h3, h4⟩ := (LawProof.core_law (P := PySem.Challenge.rw_forestrows_k66_largest_parts_of_key_rows.prog) (w := w) (base := base) T T.f_law).fn T.g_law LawProof.hb_law
    have e1 := h1.symm.trans T.g_law
    cases e1
    exact ⟨fd2, h3, h4⟩
