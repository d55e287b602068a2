import PyProof.Rows.All
import Wide.All
import OpenK.AllK
import Wide.FinOn
import HandS.ForMost
import HandS.ForExc
import HandS.IsInst
import HandS.Flow
import HandS.Wide
import HandS.Lambda
import HandS.ExcInit
import HandS.NoneIn
import KE.KDictKeyed
import HandS.TupAny
import HandS.Style
import HandS.Defaults
import HandS.RaiseMore
import HandS.Head0
import HandS.Head1
import HandS.Head2
import HandS.HeadEnd
import HandS.HeadHook1
import HandS.HeadHook2
import KE.DataEq
import HandS.HeadHook3
import HandS.HeadHook4
import HandS.Text
import HandS.Zip
import HandS.ClsMeth
import HandS.Dict
import HandS.DictComp
import HandS.Bytes
import HandS.OwnEq
import PyProof.InstNe
import HandS.ExcField
import HandS.TryMany
import KE.GoesEnum
import HandS.ExcIs
import HandS.Conv
import HandS.ListEq
import HandS.DictEq
import HandS.BytesMake
import HandS.More
import HandS.SortKw
import KE.SortKeyHeap
import KE.SortData
import KE.KSortKey
import HandS.FStr
import HandS.Codes
import HandS.Star
import HandS.EndTab
import HandS.NestedK
import PyProof.FactsBase
import PyProof.TableTree
import PyProof.FactsTree
import PyProof.PlainAttrs
import KE.GoesMore
import Wide.BytesRules
import PyProof.EqAt
import PyProof.EqKinds
import PyProof.NeKinds
import PyProof.FactsAll.subtypes_3
import PyProof.FactsAll.subtypes_6
import KE.GoesEnumKw
import KE.GoesZip
import HandS.ExcValue
import KE.KSortAsk
import HandS.Iter
import KE.LtData
import KE.KDflt
import HandS.Flt
import HandS.Property
import HandS.HeadNt
import KE.KDictPairs
import PyProof.MeetsDictList
import PyProof.DictRoadsH
import PyProof.DictMoreH
import PyProof.DictItems
import PyProof.AutoIntOps
import OpenK.KMeth
import KE.KOpsOwn
import KE.KStateDown
import Lean
import KE.KBytesCut
import PySem.Challenge.RW_forestrows_k20_key_rows_judged
set_option Elab.async false
set_option linter.all false
set_option maxRecDepth 100000
set_option maxHeartbeats 2000000
namespace DL
open PySem L2
inductive D where
  | non | bl (b : Bool) | int (i : Int) | str (x : Str) | byt (b : Array UInt8) | ty (n : String) | ref (a : Addr)
  | lst (xs : List D) | tup (xs : List D)
  | dK (ks : List Key) (ds : List D) | dT (ep : Nat) (ks : List (List (Option Key))) (ds : List D)
  | obj (c : Nat) (ns : List Str) (ds : List D)
  | cls (c : Nat)
  | exc (a dd : Addr) (c : Nat) (ns : List Str) (ds : List D)
  | xob (c : Nat) (ns : List Str) (ds : List D)
  | thk (f c : Addr) (q : Str) (vs : List V) (ds : List D)
  | dN (ep : Nat) (ks : List (Option Key)) (ds : List D)
structure ClW where
  f : Nat -> Addr
  p : Program
  w : World
instance : CoeFun ClW (fun _ => Nat -> Addr) := ⟨ClW.f⟩
instance : Coe ClW (Nat -> Addr) := ⟨ClW.f⟩
abbrev Mem := Addr -> Option D
abbrev Env := List (Option D)
def updM (M : Mem) (a : Addr) (d : D) : Mem := fun b => if b = a then some d else M b
def delM (M : Mem) (a : Addr) : Mem := fun b => if b = a then none else M b
theorem updM_same {M : Mem} {a : Addr} {d : D} : updM M a d a = some d := if_pos rfl
theorem updM_ne {M : Mem} {a b : Addr} {d : D} (h : b ≠ a) : updM M a d b = M b := if_neg h
theorem delM_same {M : Mem} {a : Addr} : delM M a a = none := if_pos rfl
theorem delM_ne {M : Mem} {a b : Addr} (h : b ≠ a) : delM M a b = M b := if_neg h
theorem updM_updM {M : Mem} {a : Addr} {d e : D} : updM (updM M a d) a e = updM M a e := by
  funext b; unfold updM; split <;> rfl
theorem delM_updM {M : Mem} {a : Addr} {d : D} (h : M a = none) : delM (updM M a d) a = M := by
  funext b
  by_cases e : b = a
  · subst e; rw [delM_same, h]
  · rw [delM_ne e, updM_ne e]
def SqT1 (K : PySem.W.Frag) (F : Hp) (a : Addr) (vs : List V) : Prop := F a = some (.tup vs) \/
  ∃ (o : Obj) (its : Array Value) (n : Nat), K.lookup a = some o /\ o.cls = .type "tuple" /\ o.data = .seq its n /\ its.size <= sizeLine /\ Vals vs its.toList
theorem SqT1.of {K : PySem.W.Frag} {F : Hp} {a : Addr} {vs : List V} (h : F a = some (.tup vs)) : SqT1 K F a vs := .inl h
theorem SqT1.sq {K : PySem.W.Frag} {F : Hp} {a : Addr} {vs : List V} (h : SqT1 K F a vs) : SqT K F a vs := h.elim (fun h => .inl (.inl h)) .inr
theorem SqT1.mono {K : PySem.W.Frag} {F F' : Hp} {a : Addr} {vs : List V} (s : Same F F') (h : SqT1 K F a vs) : SqT1 K F' a vs := h.imp (s _ _) id
def NDict (P : Program) (w : World) (a : Addr) (ep : Nat) (kvs : List (Option Key × V)) : Heap -> Prop := fun h =>
  kvs.length <= sizeLine /\ (a == sysModules) = false /\ ∃ vs, KV kvs vs /\ Heap.DictAt (noneKind P w) h a vs ep
theorem nd_ne_code {P : Program} {w : World} {a c : Addr} {ep : Nat} {kvs : List (Option Key × V)} {q : Str} : HO.ext (NDict P w a ep kvs) ≠ LamX.CodeO c q := fun e => by
  unfold LamX.CodeO at e
  have e' := HO.ext.inj e
  let ob : Obj := { cls := .type "function", data := .fields #[.none, .str q 0] }
  let h : Heap := { objs := Array.replicate (c + 1) ob }
  have hg : ∀ b, h.get? b = if b < c + 1 then some ob else none := fun b => by
    unfold Heap.get?
    by_cases hb : b < c + 1
    · have : h.objs[b]? = some ob := by simp [h, hb]
      rw [this, if_pos hb]
    · have : h.objs[b]? = none := by simp only [h]; rw [Array.getElem?_eq_none]; rw [Array.size_replicate]; exact Nat.not_lt.mp hb
      rw [this, if_neg hb]
  have hc : NDict P w a ep kvs h := by
    rw [e']
    exact ⟨ob, _, 0, by rw [hg, if_pos (Nat.lt_succ_self c)], rfl, rfl⟩
  obtain ⟨_, _, vs, _, o, es, ho, _, hd, _⟩ := hc
  rw [hg] at ho
  split at ho
  · cases ho; cases hd
  · cases ho
abbrev ndO (P : Program) (w : World) (a : Addr) (ep : Nat) (kvs : List (Option Key × V)) : HO := .ext (NDict P w a ep kvs)
def nkV : Option Key -> V
  | none => .non
  | some (.inl i) => .int i
  | some (.inr x) => .str x
def leafOf : Option Key -> Leaf
  | none => .none
  | some (.inl i) => .num i
  | some (.inr x) => .text x
inductive TV : List (List (Option Key) × Addr × V) -> List (List Leaf × Addr × Value) -> Prop
  | nil : TV [] []
  | cons {k : List (Option Key)} {b : Addr} {v : V} {u : Value} {ts : List (List (Option Key) × Addr × V)} {xs : List (List Leaf × Addr × Value)} : RelV v u -> TV ts xs -> TV ((k, b, v) :: ts) ((k.map leafOf, b, u) :: xs)
def TDict (P : Program) (w : World) (a : Addr) (ep : Nat) (ts : List (List (Option Key) × Addr × V)) : Heap -> Prop := fun h =>
  ts.length <= sizeLine /\ (a == sysModules) = false /\ ∃ xs, TV ts xs /\ ∃ o es, h.get? a = some o /\ o.ExactDict /\ o.data = .dict es ep /\ es.toList = xs.map (entryOfKey (tupleKind (leafKind P w))) /\ (xs.map (·.1)).Nodup
theorem td_ne_code {P : Program} {w : World} {a c : Addr} {ep : Nat} {ts : List (List (Option Key) × Addr × V)} {q : Str} : HO.ext (TDict P w a ep ts) ≠ LamX.CodeO c q := fun e => by
  unfold LamX.CodeO at e
  have e' := HO.ext.inj e
  let ob : Obj := { cls := .type "function", data := .fields #[.none, .str q 0] }
  let h : Heap := { objs := Array.replicate (c + 1) ob }
  have hg : ∀ b, h.get? b = if b < c + 1 then some ob else none := fun b => by
    unfold Heap.get?
    by_cases hb : b < c + 1
    · have : h.objs[b]? = some ob := by simp [h, hb]
      rw [this, if_pos hb]
    · have : h.objs[b]? = none := by simp only [h]; rw [Array.getElem?_eq_none]; rw [Array.size_replicate]; exact Nat.not_lt.mp hb
      rw [this, if_neg hb]
  have hc : TDict P w a ep ts h := by
    rw [e']
    exact ⟨ob, _, 0, by rw [hg, if_pos (Nat.lt_succ_self c)], rfl, rfl⟩
  obtain ⟨_, _, vs, _, o, es, ho, _, hd, _⟩ := hc
  rw [hg] at ho
  split at ho
  · cases ho; cases hd
  · cases ho
abbrev tdO (P : Program) (w : World) (a : Addr) (ep : Nat) (ts : List (List (Option Key) × Addr × V)) : HO := .ext (TDict P w a ep ts)
section
variable (K : PySem.W.Frag) (cl : ClW)
def XoAt (F : Hp) (a C : Addr) (fs : List (Str × V)) : Prop := (∃ dd, F a = some (exo a C (some dd)) /\ F dd = some (exd dd fs)) \/ (fs = [] /\ F a = some (exo a C none))
theorem XoAt.mono {F F' : Hp} {a C : Addr} {fs : List (Str × V)} (s : Same F F') (h : XoAt F a C fs) : XoAt F' a C fs := by
  rcases h with ⟨dd, h1, h2⟩ | ⟨h1, h2⟩
  · exact .inl ⟨dd, s _ _ h1, s _ _ h2⟩
  · exact .inr ⟨h1, s _ _ h2⟩
mutual
inductive Rep (K : PySem.W.Frag) (cl : ClW) (F : Hp) : V -> D -> Prop where
  | non : Rep K cl F .non .non
  | bl (b : Bool) : Rep K cl F (.bl b) (.bl b)
  | int (i : Int) : Rep K cl F (.int i) (.int i)
  | str (x : Str) : Rep K cl F (.str x) (.str x)
  | byt (b : Array UInt8) : Rep K cl F (.byt b) (.byt b)
  | ty (n : String) : Rep K cl F (.ty n) (.ty n)
  | ref (a : Addr) : Rep K cl F (.ref a) (.ref a)
  | cls (c : Nat) : Rep K cl F (.ref (cl c)) (.cls c)
  | lst {a : Addr} {vs : List V} {ds : List D} : SqL K F a vs -> Reps K cl F vs ds -> Rep K cl F (.ref a) (.lst ds)
  | tup {a : Addr} {vs : List V} {ds : List D} : SqT1 K F a vs -> Reps K cl F vs ds -> Rep K cl F (.ref a) (.tup ds)
  | dK {a : Addr} {ks : List Key} {vs : List V} {ds : List D} : F a = some (.dK (ks.zip vs)) -> ks.length = vs.length -> Reps K cl F vs ds -> Rep K cl F (.ref a) (.dK ks ds)
  | dT {a : Addr} {ep : Nat} {ks : List (List (Option Key))} {ts : List (List (Option Key) × Addr × V)} {ds : List D} : F a = some (tdO cl.p cl.w a ep ts) -> ks = ts.map (·.1) -> (∀ t ∈ ts, SqT1 K F t.2.1 (t.1.map nkV)) -> Reps K cl F (ts.map (·.2.2)) ds -> Rep K cl F (.ref a) (.dT ep ks ds)
  | obj {a dx : Addr} {c : Nat} {ns : List Str} {vs : List V} {ds : List D} : F a = some (.ins (cl c) dx (ns.zip vs)) -> ns.length = vs.length -> Reps K cl F vs ds -> Rep K cl F (.ref a) (.obj c ns ds)
  | exc {a dd : Addr} {c : Nat} {ns : List Str} {vs : List V} {ds : List D} : F dd = some (.xd (ns.zip vs)) -> ns.length = vs.length -> Reps K cl F vs ds -> Rep K cl F (.ref a) (.exc a dd c ns ds)
  | xob {a : Addr} {c : Nat} {ns : List Str} {vs : List V} {ds : List D} : XoAt F a (cl c) (ns.zip vs) -> ns.length = vs.length -> Reps K cl F vs ds -> Rep K cl F (.ref a) (.xob c ns ds)
  | thk {f c : Addr} {q : Str} {vs : List V} {ds : List D} : F c = some (LamX.CodeO c q) -> Reps K cl F vs ds -> Rep K cl F (.ref f) (.thk f c q vs ds)
  | dN {a : Addr} {ep : Nat} {ks : List (Option Key)} {vs : List V} {ds : List D} : F a = some (ndO cl.p cl.w a ep (ks.zip vs)) -> ks.length = vs.length -> Reps K cl F vs ds -> Rep K cl F (.ref a) (.dN ep ks ds)
inductive Reps (K : PySem.W.Frag) (cl : ClW) (F : Hp) : List V -> List D -> Prop where
  | nil : Reps K cl F [] []
  | cons {v : V} {d : D} {vs : List V} {ds : List D} : Rep K cl F v d -> Reps K cl F vs ds -> Reps K cl F (v :: vs) (d :: ds)
end
end
section
variable {K : PySem.W.Frag} {cl : ClW} {F F' : Hp}
theorem same_l {H H' : Hp} {a : Addr} {xs : List V} (e : Same H H') (h : SqL K H a xs) : SqL K H' a xs := e.seq h
theorem same_t {H H' : Hp} {a : Addr} {xs : List V} (e : Same H H') (h : SqT K H a xs) : SqT K H' a xs := by
  rcases h with (h | ⟨o, h⟩) | h
  · exact .inl (.inl (e _ _ h))
  · exact .inl (.inr ⟨o, e _ _ h⟩)
  · exact .inr h
mutual
theorem Rep.mono (s : Same F F') : ∀ {v : V} {d : D}, Rep K cl F v d -> Rep K cl F' v d
  | _, _, .non => .non
  | _, _, .bl b => .bl b
  | _, _, .int i => .int i
  | _, _, .str x => .str x
  | _, _, .byt b => .byt b
  | _, _, .ty n => .ty n
  | _, _, .ref a => .ref a
  | _, _, .cls c => .cls c
  | _, _, .lst h r => .lst (same_l s h) (Reps.mono s r)
  | _, _, .tup h r => .tup (h.mono s) (Reps.mono s r)
  | _, _, .dK h l r => .dK (s _ _ h) l (Reps.mono s r)
  | _, _, .dT h l q r => .dT (s _ _ h) l (fun t ht => (q t ht).mono s) (Reps.mono s r)
  | _, _, .obj h l r => .obj (s _ _ h) l (Reps.mono s r)
  | _, _, .exc h l r => .exc (s _ _ h) l (Reps.mono s r)
  | _, _, .xob h l r => .xob (h.mono s) l (Reps.mono s r)
  | _, _, .thk h r => .thk (s _ _ h) (Reps.mono s r)
  | _, _, .dN h l r => .dN (s _ _ h) l (Reps.mono s r)
theorem Reps.mono (s : Same F F') : ∀ {vs : List V} {ds : List D}, Reps K cl F vs ds -> Reps K cl F' vs ds
  | _, _, .nil => .nil
  | _, _, .cons h r => .cons (Rep.mono s h) (Reps.mono s r)
end
theorem Reps.length : ∀ {vs : List V} {ds : List D}, Reps K cl F vs ds -> vs.length = ds.length
  | _, _, .nil => rfl
  | _, _, .cons _ r => by simp [Reps.length r]
theorem Reps.get : ∀ {vs : List V} {ds : List D} {i : Nat} {d : D}, Reps K cl F vs ds -> ds[i]? = some d -> ∃ v, vs[i]? = some v /\ Rep K cl F v d
  | _, _, _, _, .nil, e => by simp at e
  | _, _, 0, _, .cons r _, e => by simp at e; subst e; exact ⟨_, rfl, r⟩
  | _, _, i + 1, d, .cons _ t, e => by
    obtain ⟨u, h1, h2⟩ := Reps.get (i := i) (d := d) t (by simpa using e)
    exact ⟨u, by simpa using h1, h2⟩
theorem Reps.append : ∀ {vs ws : List V} {ds es : List D}, Reps K cl F vs ds -> Reps K cl F ws es -> Reps K cl F (vs ++ ws) (ds ++ es)
  | _, _, _, _, .nil, s => s
  | _, _, _, _, .cons r t, s => .cons r (Reps.append t s)
theorem Reps.one {v : V} {d : D} (h : Rep K cl F v d) : Reps K cl F [v] [d] := .cons h .nil
theorem Reps.set {v : V} {d : D} (r : Rep K cl F v d) : ∀ {vs : List V} {ds : List D} (i : Nat), Reps K cl F vs ds -> Reps K cl F (vs.set i v) (ds.set i d)
  | _, _, _, .nil => .nil
  | _, _, 0, .cons _ t => .cons r t
  | _, _, i + 1, .cons q t => .cons q (Reps.set r i t)
theorem Reps.take : ∀ {vs : List V} {ds : List D} (n : Nat), Reps K cl F vs ds -> Reps K cl F (vs.take n) (ds.take n)
  | _, _, 0, _ => .nil
  | _, _, _ + 1, .nil => .nil
  | _, _, n + 1, .cons r t => .cons r (Reps.take n t)
theorem Reps.drop : ∀ {vs : List V} {ds : List D} (n : Nat), Reps K cl F vs ds -> Reps K cl F (vs.drop n) (ds.drop n)
  | _, _, 0, r => r
  | _, _, _ + 1, .nil => .nil
  | _, _, n + 1, .cons _ t => Reps.drop n t
theorem Reps.reverse : ∀ {vs : List V} {ds : List D}, Reps K cl F vs ds -> Reps K cl F vs.reverse ds.reverse
  | _, _, .nil => .nil
  | _, _, .cons r t => by
    rw [List.reverse_cons, List.reverse_cons]
    exact (Reps.reverse t).append (.one r)
theorem Reps.inv {vs : List V} {d : D} {ds : List D} (h : Reps K cl F vs (d :: ds)) : ∃ v ws, vs = v :: ws /\ Rep K cl F v d /\ Reps K cl F ws ds := by
  cases h with
  | cons a b => exact ⟨_, _, rfl, a, b⟩
theorem Reps.inv0 {vs : List V} (h : Reps K cl F vs []) : vs = [] := by
  cases h with
  | nil => rfl
theorem Rep.toInt {v : V} {i : Int} (h : Rep K cl F v (.int i)) : v = .int i := by cases h; rfl
theorem Rep.toBl {v : V} {i : Bool} (h : Rep K cl F v (.bl i)) : v = .bl i := by cases h; rfl
theorem Rep.toStr {v : V} {i : Str} (h : Rep K cl F v (.str i)) : v = .str i := by cases h; rfl
theorem Rep.toByt {v : V} {i : Array UInt8} (h : Rep K cl F v (.byt i)) : v = .byt i := by cases h; rfl
theorem Rep.toNon {v : V} (h : Rep K cl F v .non) : v = .non := by cases h; rfl
theorem Rep.toRef {v : V} {a : Addr} (h : Rep K cl F v (.ref a)) : v = .ref a := by cases h; rfl
theorem Rep.toCls {v : V} {c : Nat} (h : Rep K cl F v (.cls c)) : v = .ref (cl c) := by cases h; rfl
theorem Rep.toTy {v : V} {n : String} (h : Rep K cl F v (.ty n)) : v = .ty n := by cases h; rfl
theorem Rep.toLst {v : V} {ds : List D} (h : Rep K cl F v (.lst ds)) : ∃ a vs, v = .ref a /\ SqL K F a vs /\ Reps K cl F vs ds := by
  cases h with | lst a b => exact ⟨_, _, rfl, a, b⟩
theorem Rep.toTup {v : V} {ds : List D} (h : Rep K cl F v (.tup ds)) : ∃ a vs, v = .ref a /\ SqT K F a vs /\ Reps K cl F vs ds := by
  cases h with | tup a b => exact ⟨_, _, rfl, a.sq, b⟩
theorem Rep.toTup1 {v : V} {ds : List D} (h : Rep K cl F v (.tup ds)) : ∃ a vs, v = .ref a /\ SqT1 K F a vs /\ Reps K cl F vs ds := by
  cases h with | tup a b => exact ⟨_, _, rfl, a, b⟩
theorem Rep.toObj {v : V} {c : Nat} {ns : List Str} {ds : List D} (h : Rep K cl F v (.obj c ns ds)) : ∃ a dx vs, v = .ref a /\ F a = some (.ins (cl c) dx (ns.zip vs)) /\ ns.length = vs.length /\ Reps K cl F vs ds := by
  cases h with | obj a b c => exact ⟨_, _, _, rfl, a, b, c⟩
theorem Reps.ints : ∀ {vs : List V} {ns : List Int}, Reps K cl F vs (ns.map D.int) -> vs = ns.map V.int
  | _, [], h => h.inv0
  | _, n :: ns, h => by
    obtain ⟨v, ws, rfl, a, b⟩ := h.inv
    rw [a.toInt, Reps.ints b]; rfl
theorem Reps.of_ints (ns : List Int) : Reps K cl F (ns.map V.int) (ns.map D.int) := by
  induction ns with
  | nil => exact .nil
  | cons n ns ih => exact .cons (.int n) ih
end
section
variable (K : PySem.W.Frag) (cl : ClW)
def RepTop (F H : Hp) (a : Addr) : D -> Prop
  | .lst ds => ∃ vs, H a = some (.lst vs) /\ Reps K cl F vs ds
  | .dK ks ds => ∃ vs, H a = some (.dK (ks.zip vs)) /\ ks.length = vs.length /\ Reps K cl F vs ds
  | .dT ep ks ds => ∃ ts, H a = some (tdO cl.p cl.w a ep ts) /\ ks = ts.map (·.1) /\ (∀ t ∈ ts, SqT1 K F t.2.1 (t.1.map nkV)) /\ Reps K cl F (ts.map (·.2.2)) ds
  | .obj c ns ds => ∃ dx vs, H a = some (.ins (cl c) dx (ns.zip vs)) /\ ns.length = vs.length /\ Reps K cl F vs ds
  | .dN ep ks ds => ∃ vs, H a = some (ndO cl.p cl.w a ep (ks.zip vs)) /\ ks.length = vs.length /\ Reps K cl F vs ds
  | _ => False
def tabNames : List Str := ["walk_spans.<locals>.<lambda>", "SpanTable.__init__.<locals>.<lambda>", "PairTable.put_rows.<locals>.<lambda>", "KeyTable.put_rows.<locals>.<lambda>", "law.<locals>.<lambda>", "_law_right.<locals>.<lambda>", "_law_asks.<locals>.<lambda>",
  "_law_wrong.<locals>.<lambda>", "_law_refused.<locals>.<lambda>", "_law_odd.<locals>.<lambda>", "KeyTable.__init__.<locals>.<lambda>", "PairTable.__init__.<locals>.<lambda>", "_law_fit.<locals>.<lambda>", "_law_state_right.<locals>.<lambda>", "_law_steps_right.<locals>.<lambda>", "_law_sizes_right.<locals>.<lambda>"]
def tabsOf (cl : Nat -> Addr) : List (Addr × Str) := tabNames.zipIdx.filterMap fun p => if cl (1000 + p.2) = 0 then none else some (cl (1000 + p.2), p.1)
structure Good (F H : Hp) (M : Mem) : Prop where
  sub : Same F H
  cell : ∀ a d, M a = some d -> F a = none /\ RepTop K cl F H a d
  tab : LamX.Tabs (tabsOf cl) H
  noT : ∀ b ps, F b ≠ some (.tbl ps)
structure Slots (F : Hp) (σ : St) (ρ : Env) : Prop where
  len : σ.length = ρ.length
  get : ∀ (i : Nat) d, ρ[i]? = some (some d) -> ∃ v, σ[i]? = some (some v) /\ Rep K cl F v d
def ExcAt (F : Hp) (dd : Option Addr) (ns : List Str) (ds : List D) : Prop :=
  (dd = none /\ ns = [] /\ ds = []) \/ ∃ d vs, dd = some d /\ F d = some (.xd (ns.zip vs)) /\ ns.length = vs.length /\ Reps K cl F vs ds
end
section
variable {K : PySem.W.Frag} {cl : ClW} {F F' H H' : Hp} {M : Mem}
theorem same_new {H : Hp} {p : Addr} {o : HO} (h : H p = none) : Same H (upd H p o) := fun a u e => by
  rw [upd_ne (ne_of_none e h)]; exact e
theorem RepTop.mono {a : Addr} {d : D} (s : Same F F') (h : RepTop K cl F H a d) (hH : ∀ o, H a = some o -> H' a = some o) : RepTop K cl F' H' a d := by
  cases d with
  | lst ds => obtain ⟨vs, h1, h2⟩ := h; exact ⟨vs, hH _ h1, h2.mono s⟩
  | dK ks ds => obtain ⟨vs, h1, h2, h3⟩ := h; exact ⟨vs, hH _ h1, h2, h3.mono s⟩
  | dT ep ks ds => obtain ⟨ts, h1, h2, h3, h4⟩ := h; exact ⟨ts, hH _ h1, h2, fun t ht => (h3 t ht).mono s, h4.mono s⟩
  | dN ep ks ds => obtain ⟨vs, h1, h2, h3⟩ := h; exact ⟨vs, hH _ h1, h2, h3.mono s⟩
  | obj c ns ds => obtain ⟨dx, vs, h1, h2, h3⟩ := h; exact ⟨dx, vs, hH _ h1, h2, h3.mono s⟩
  | _ => exact h.elim
theorem RepTop.there {a : Addr} {d : D} (h : RepTop K cl F H a d) : ∃ o, H a = some o := by
  cases d with
  | lst ds => obtain ⟨vs, h1, _⟩ := h; exact ⟨_, h1⟩
  | dK ks ds => obtain ⟨vs, h1, _⟩ := h; exact ⟨_, h1⟩
  | dT ep ks ds => obtain ⟨ts, h1, _⟩ := h; exact ⟨_, h1⟩
  | dN ep ks ds => obtain ⟨vs, h1, _⟩ := h; exact ⟨_, h1⟩
  | obj c ns ds => obtain ⟨dx, vs, h1, _⟩ := h; exact ⟨_, h1⟩
  | _ => exact h.elim
theorem RepTop.plain {a : Addr} {d : D} (h : RepTop K cl F H a d) : ∃ o, H a = some o /\ (∀ ps, o ≠ .tbl ps) /\ ∀ c q, o ≠ LamX.CodeO c q := by
  cases d with
  | lst ds => obtain ⟨vs, h1, _⟩ := h; exact ⟨_, h1, (fun _ e => by cases e), fun _ _ e => by unfold LamX.CodeO at e; cases e⟩
  | dK ks ds => obtain ⟨vs, h1, _⟩ := h; exact ⟨_, h1, (fun _ e => by cases e), fun _ _ e => by unfold LamX.CodeO at e; cases e⟩
  | dT ep ks ds => obtain ⟨ts, h1, _⟩ := h; exact ⟨_, h1, (fun _ e => by cases e), fun _ _ e => td_ne_code e⟩
  | dN ep ks ds => obtain ⟨vs, h1, _⟩ := h; exact ⟨_, h1, (fun _ e => by cases e), fun _ _ e => nd_ne_code e⟩
  | obj c ns ds => obtain ⟨dx, vs, h1, _⟩ := h; exact ⟨_, h1, (fun _ e => by cases e), fun _ _ e => by unfold LamX.CodeO at e; cases e⟩
  | _ => exact h.elim
theorem tabs_put {T : List (Addr × Str)} {p : Addr} {o' : HO} (t : LamX.Tabs T H) {o : HO} (hp : H p = some o) (h1 : ∀ ps, o ≠ .tbl ps) (h2 : ∀ c q, o ≠ LamX.CodeO c q) : LamX.Tabs T (upd H p o') := fun q hq => by
  obtain ⟨ps, a1, a2, a3⟩ := t q hq
  have n1 : q.1 ≠ p := fun z => by rw [z, hp] at a1; exact h1 ps (Option.some.inj a1)
  refine ⟨ps, by rw [upd_ne n1]; exact a1, a2, fun pos cv hcv => ?_⟩
  obtain ⟨c, e1, e2⟩ := a3 pos cv hcv
  have n2 : c ≠ p := fun z => by rw [z, hp] at e2; exact h2 _ _ (Option.some.inj e2)
  exact ⟨c, e1, by rw [upd_ne n2]; exact e2⟩
theorem Good.freshF (g : Good K cl F H M) {p : Addr} (h : H p = none) : F p = none := g.sub.free h
theorem Good.freshM (g : Good K cl F H M) {p : Addr} (h : H p = none) : M p = none := by
  cases e : M p with
  | none => rfl
  | some d => obtain ⟨o, q⟩ := (g.cell p d e).2.there; rw [h] at q; cases q
theorem Good.new (g : Good K cl F H M) {p : Addr} {o : HO} (h : H p = none) (ho : ∀ ps, o ≠ .tbl ps := by intro _ z; cases z) : Good K cl (upd F p o) (upd H p o) M where
  tab := g.tab.ext (same_new h)
  noT := fun b ps e => by
    by_cases q : b = p
    · subst q; rw [upd_same] at e; exact ho ps (Option.some.inj e)
    · rw [upd_ne q] at e; exact g.noT b ps e
  sub := fun a u e => by
    by_cases q : a = p
    · subst q; rw [upd_same] at e ⊢; exact e
    · rw [upd_ne q] at e ⊢; exact g.sub a u e
  cell := fun a d e => by
    obtain ⟨h1, h2⟩ := g.cell a d e
    have ne : a ≠ p := fun z => by rw [z, g.freshM h] at e; cases e
    refine ⟨by rw [upd_ne ne]; exact h1, h2.mono (same_new (g.freshF h)) fun u q => by rw [upd_ne ne]; exact q⟩
theorem Good.junk (g : Good K cl F H M) {p : Addr} {o : HO} (h : H p = none) : Good K cl F (upd H p o) M where
  tab := g.tab.ext (same_new h)
  noT := g.noT
  sub := fun a u e => (same_new h) a u (g.sub a u e)
  cell := fun a d e => by
    obtain ⟨h1, h2⟩ := g.cell a d e
    exact ⟨h1, h2.mono (Same.refl F) (same_new h a)⟩
theorem Good.newM (g : Good K cl F H M) {p : Addr} {o : HO} {d : D} (h : H p = none) (r : RepTop K cl F (upd H p o) p d) : Good K cl F (upd H p o) (updM M p d) where
  tab := g.tab.ext (same_new h)
  noT := g.noT
  sub := fun a u e => (same_new h) a u (g.sub a u e)
  cell := fun a e q => by
    by_cases z : a = p
    · subst z; rw [updM_same] at q; cases q; exact ⟨g.freshF h, r⟩
    · rw [updM_ne z] at q
      obtain ⟨h1, h2⟩ := g.cell a e q
      exact ⟨h1, h2.mono (Same.refl F) (same_new h a)⟩
theorem Good.put (g : Good K cl F H M) {p : Addr} {o : HO} {d e : D} (h : M p = some e) (r : RepTop K cl F (upd H p o) p d) : Good K cl F (upd H p o) (updM M p d) where
  tab := by
    obtain ⟨o', h1, h2, h3⟩ := (g.cell p e h).2.plain
    exact tabs_put g.tab h1 h2 h3
  noT := g.noT
  sub := fun a u q => by
    have ne : a ≠ p := fun z => by rw [z, (g.cell p e h).1] at q; cases q
    rw [upd_ne ne]; exact g.sub a u q
  cell := fun a b q => by
    by_cases z : a = p
    · subst z; rw [updM_same] at q; cases q; exact ⟨(g.cell _ _ h).1, r⟩
    · rw [updM_ne z] at q
      obtain ⟨h1, h2⟩ := g.cell a b q
      exact ⟨h1, h2.mono (Same.refl F) fun u w => by rw [upd_ne z]; exact w⟩
theorem Good.freeze (g : Good K cl F H M) {p : Addr} {d : D} (h : M p = some d) : ∃ F', Same F F' /\ Good K cl F' H (delM M p) /\ Rep K cl F' (.ref p) d := by
  obtain ⟨h1, h2⟩ := g.cell p d h
  obtain ⟨o, ho⟩ := h2.there
  have sm : Same F (upd F p o) := same_new h1
  have gd : Good K cl (upd F p o) H (delM M p) := {
    tab := g.tab
    noT := fun b ps e => by
      by_cases q : b = p
      · subst q
        rw [upd_same] at e
        obtain ⟨o', k1, k2, _⟩ := h2.plain
        rw [ho] at k1
        exact k2 ps (by rw [<- Option.some.inj k1]; exact Option.some.inj e)
      · rw [upd_ne q] at e; exact g.noT b ps e
    sub := fun a u e => by
      by_cases q : a = p
      · subst q; rw [upd_same] at e; rw [<- e]; exact ho
      · rw [upd_ne q] at e; exact g.sub a u e
    cell := fun a b q => by
      by_cases z : a = p
      · subst z; rw [delM_same] at q; cases q
      · rw [delM_ne z] at q
        obtain ⟨k1, k2⟩ := g.cell a b q
        exact ⟨by rw [upd_ne z]; exact k1, k2.mono sm fun u w => w⟩ }
  refine ⟨upd F p o, sm, gd, ?_⟩
  cases d with
  | lst ds => obtain ⟨vs, h1, h2⟩ := h2; rw [h1] at ho; cases ho; exact .lst (SqL.of upd_same) (h2.mono sm)
  | dK ks ds => obtain ⟨vs, h1, h2, h3⟩ := h2; rw [h1] at ho; cases ho; exact .dK upd_same h2 (h3.mono sm)
  | dT ep ks ds => obtain ⟨ts, h1, h2, h3, h4⟩ := h2; rw [h1] at ho; cases ho; exact .dT upd_same h2 (fun t ht => (h3 t ht).mono sm) (h4.mono sm)
  | dN ep ks ds => obtain ⟨vs, h1, h2, h3⟩ := h2; rw [h1] at ho; cases ho; exact .dN upd_same h2 (h3.mono sm)
  | obj c ns ds => obtain ⟨dx, vs, h1, h2, h3⟩ := h2; rw [h1] at ho; cases ho; exact .obj upd_same h2 (h3.mono sm)
  | _ => exact h2.elim
theorem Slots.mono {σ : St} {ρ : Env} (s : Same F F') (h : Slots K cl F σ ρ) : Slots K cl F' σ ρ := ⟨h.len, fun i d e => by
  obtain ⟨v, h1, h2⟩ := h.get i d e
  exact ⟨v, h1, h2.mono s⟩⟩
theorem Slots.set {σ : St} {ρ : Env} {v : V} {d : D} (h : Slots K cl F σ ρ) (i : Nat) (r : Rep K cl F v d) : Slots K cl F (σ.set i (some v)) (ρ.set i (some d)) := ⟨by rw [List.length_set, List.length_set]; exact h.len, fun j e q => by
  by_cases z : i = j
  · subst z
    rw [List.getElem?_set_self'] at q ⊢
    cases w : ρ[i]? with
    | none => rw [w] at q; cases q
    | some x =>
      rw [w] at q
      have hi : i < σ.length := by rw [h.len]; exact (List.getElem?_eq_some_iff.mp w).1
      have e1 : some d = some e := Option.some.inj q
      cases e1
      rw [List.getElem?_eq_getElem hi]
      exact ⟨v, rfl, r⟩
  · rw [List.getElem?_set_ne z] at q ⊢
    exact h.get j e q⟩
theorem Slots.setN {σ : St} {ρ : Env} {v : Option V} (h : Slots K cl F σ ρ) (i : Nat) : Slots K cl F (σ.set i v) (ρ.set i none) := ⟨by rw [List.length_set, List.length_set]; exact h.len, fun j e q => by
  by_cases z : i = j
  · subst z
    rw [List.getElem?_set_self'] at q
    cases w : ρ[i]? with
    | none => rw [w] at q; cases q
    | some x => rw [w] at q; cases q
  · rw [List.getElem?_set_ne z] at q ⊢
    exact h.get j e q⟩
end
abbrev DV := D -> Mem -> Prop
abbrev DX := Nat -> List Str -> List D -> Env -> Mem -> Prop
abbrev DTE := Env -> Mem -> DV -> DX -> Prop
abbrev DTT := Env -> Mem -> (Bool -> Mem -> Prop) -> DX -> Prop
abbrev DTA := Env -> Mem -> (List D -> Mem -> Prop) -> DX -> Prop
structure DEnds where
  nx : Env -> Mem -> Prop
  rt : DV
  bk : Env -> Mem -> Prop
  ct : Env -> Mem -> Prop
  ex : DX
abbrev DTS := DEnds -> Env -> Mem -> Prop
abbrev DEK := Nat -> List Str -> List D -> Mem -> Prop
abbrev SpD := List D -> Mem -> DV -> DEK -> Prop
section
variable (K : PySem.W.Frag) (cl : ClW)
def Post (F : Hp) (Q : VK) (Qd : DV) : Prop := ∀ v H' F' d M', Same F F' -> Good K cl F' H' M' -> Rep K cl F' v d -> Qd d M' -> Q v H'
def PostT (F : Hp) (Q : Bool -> Hp -> Prop) (Qd : Bool -> Mem -> Prop) : Prop := ∀ b H' F' M', Same F F' -> Good K cl F' H' M' -> Qd b M' -> Q b H'
def PostA (F : Hp) (Q : List V -> Hp -> Prop) (Qd : List D -> Mem -> Prop) : Prop := ∀ vs H' F' ds M', Same F F' -> Good K cl F' H' M' -> Reps K cl F' vs ds -> Qd ds M' -> Q vs H'
def PostS (F : Hp) (Q : St -> Hp -> Prop) (Qd : Env -> Mem -> Prop) : Prop := ∀ σ H' F' ρ M', Same F F' -> Good K cl F' H' M' -> Slots K cl F' σ ρ -> Qd ρ M' -> Q σ H'
def WOk (W : WX) (F : Hp) (Xd : DX) : Prop := ∀ c ns ds σ H' F' ρ M' dd, Same F F' -> Good K cl F' H' M' -> Slots K cl F' σ ρ -> ExcAt K cl F' dd ns ds -> Xd c ns ds ρ M' -> W (.ref (cl c)) dd σ H'
def EOk (F : Hp) (E : XK) (Ed : DEK) : Prop := ∀ c ns ds H' F' M' dd, Same F F' -> Good K cl F' H' M' -> ExcAt K cl F' dd ns ds -> Ed c ns ds M' -> E (.ref (cl c)) dd H'
structure EndsOk (W : WX) (F : Hp) (D : Ends) (Dd : DEnds) : Prop where
  nx : PostS K cl F D.nx Dd.nx
  rt : Post K cl F D.rt Dd.rt
  bk : PostS K cl F D.bk Dd.bk
  ct : PostS K cl F D.ct Dd.ct
  ex : WOk K cl W F Dd.ex
def lowE (W : WX) (τ : DTE) : TE := fun σ H Q => ∃ F ρ M Qd Xd, Good K cl F H M /\ Slots K cl F σ ρ /\ τ ρ M Qd Xd /\ Post K cl F Q Qd /\ WOk K cl W F Xd
def lowT (W : WX) (τ : DTT) : TT := fun σ H Q => ∃ F ρ M Qd Xd, Good K cl F H M /\ Slots K cl F σ ρ /\ τ ρ M Qd Xd /\ PostT K cl F Q Qd /\ WOk K cl W F Xd
def lowA (W : WX) (τ : DTA) : TA := fun σ H Q => ∃ F ρ M Qd Xd, Good K cl F H M /\ Slots K cl F σ ρ /\ τ ρ M Qd Xd /\ PostA K cl F Q Qd /\ WOk K cl W F Xd
def lowS (W : WX) (τ : DTS) : TS := fun D σ H => ∃ F ρ M Dd, Good K cl F H M /\ Slots K cl F σ ρ /\ τ Dd ρ M /\ EndsOk K cl W F D Dd
def lower (spd : SpD) : Sp := fun vs H Q E => ∃ F M ds Qd Ed, Good K cl F H M /\ Reps K cl F vs ds /\ spd ds M Qd Ed /\ Post K cl F Q Qd /\ EOk K cl F E Ed
end
section
variable {K : PySem.W.Frag} {cl : ClW} {F F' : Hp}
theorem Post.mono {Q : VK} {Qd : DV} (s : Same F F') (h : Post K cl F Q Qd) : Post K cl F' Q Qd := fun v H' G d M' s' => h v H' G d M' (s.trans s')
theorem PostT.mono {Q : Bool -> Hp -> Prop} {Qd : Bool -> Mem -> Prop} (s : Same F F') (h : PostT K cl F Q Qd) : PostT K cl F' Q Qd := fun v H' G M' s' => h v H' G M' (s.trans s')
theorem PostS.mono {Q : St -> Hp -> Prop} {Qd : Env -> Mem -> Prop} (s : Same F F') (h : PostS K cl F Q Qd) : PostS K cl F' Q Qd := fun v H' G d M' s' => h v H' G d M' (s.trans s')
theorem WOk.mono {W : WX} {Xd : DX} (s : Same F F') (h : WOk K cl W F Xd) : WOk K cl W F' Xd := fun c ns ds σ H' G ρ M' dd s' => h c ns ds σ H' G ρ M' dd (s.trans s')
theorem EndsOk.mono {W : WX} {D : Ends} {Dd : DEnds} (s : Same F F') (h : EndsOk K cl W F D Dd) : EndsOk K cl W F' D Dd := ⟨h.nx.mono s, h.rt.mono s, h.bk.mono s, h.ct.mono s, h.ex.mono s⟩
end
structure DE (cl : ClW) (X : Cx) (W : WX) (e : Expr) (τ : DTE) : Prop where
  pe : PE X e (lowE X.K cl W τ)
structure DT (cl : ClW) (X : Cx) (W : WX) (e : Expr) (τ : DTT) : Prop where
  pt : PT X e (lowT X.K cl W τ)
structure DW (cl : ClW) (X : Cx) (W : WX) (e : Expr) (τ : DTT) : Prop where
  pw : PW X e (lowT X.K cl W τ)
structure DA (cl : ClW) (X : Cx) (W : WX) (es : List Expr) (τ : DTA) : Prop where
  pa : PA X es (lowA X.K cl W τ)
structure DS (cl : ClW) (X : Cx) (W : WX) (st : Stmt) (τ : DTS) : Prop where
  ps : PS X st (lowS X.K cl W τ)
structure DSs (cl : ClW) (X : Cx) (W : WX) (st : List Stmt) (τ : DTS) : Prop where
  pss : PSs X st (lowS X.K cl W τ)
section
variable {cl : ClW} {X : Cx} {W : WX}
theorem pe_imp {e : Expr} {t t' : TE} (h : PE X e t) (i : ∀ σ H Q, t' σ H Q -> t σ H Q) : PE X e t' := ⟨fun pins s σ H Q I q => h.run pins s σ H Q I (i σ H Q q)⟩
theorem pt_imp {e : Expr} {t t' : TT} (h : PT X e t) (i : ∀ σ H Q, t' σ H Q -> t σ H Q) : PT X e t' := ⟨fun pins s σ H Q I q => h.run pins s σ H Q I (i σ H Q q)⟩
theorem pw_imp {e : Expr} {t t' : TT} (h : PW X e t) (i : ∀ σ H Q, t' σ H Q -> t σ H Q) : PW X e t' := ⟨fun wh pins s σ H Q I q => h.run wh pins s σ H Q I (i σ H Q q)⟩
theorem pa_imp {es : List Expr} {t t' : TA} (h : PA X es t) (i : ∀ σ H Q, t' σ H Q -> t σ H Q) : PA X es t' := ⟨fun pos pins s σ H Q I q => h.run pos pins s σ H Q I (i σ H Q q)⟩
theorem ps_imp {st : Stmt} {t t' : TS} (h : PS X st t) (i : ∀ D σ H, t' D σ H -> t D σ H) : PS X st t' := ⟨fun pins s σ H D I q => h.run pins s σ H D I (i D σ H q)⟩
theorem pss_imp {st : List Stmt} {t t' : TS} (h : PSs X st t) (i : ∀ D σ H, t' D σ H -> t D σ H) : PSs X st t' := ⟨fun pins s σ H D I q => h.run pins s σ H D I (i D σ H q)⟩
end
end DL
set_option Elab.async false
set_option linter.all false
set_option maxRecDepth 100000
set_option maxHeartbeats 2000000
namespace DL
open PySem L2
def vw (M : Mem) : D -> D
  | .ref a => (M a).getD (.ref a)
  | d => d
def Vw (K : PySem.W.Frag) (cl : ClW) (F H : Hp) (v : V) (d : D) : Prop := Rep K cl F v d \/ ∃ a, v = .ref a /\ RepTop K cl F H a d
section
variable {K : PySem.W.Frag} {cl : ClW} {F F' H H' : Hp} {M : Mem} {v : V} {d : D}
theorem vw_ok (g : Good K cl F H M) (r : Rep K cl F v d) : Vw K cl F H v (vw M d) := by
  cases d with
  | ref a =>
    obtain rfl := r.toRef
    show Vw K cl F H (.ref a) ((M a).getD (.ref a))
    cases e : M a with
    | none => exact .inl (.ref a)
    | some c => exact .inr ⟨a, rfl, (g.cell a c e).2⟩
  | _ => exact .inl r
theorem Vw.int {i : Int} (h : Vw K cl F H v (.int i)) : v = .int i := by
  rcases h with h | ⟨a, _, h⟩
  · exact h.toInt
  · exact h.elim
theorem Vw.bl {i : Bool} (h : Vw K cl F H v (.bl i)) : v = .bl i := by
  rcases h with h | ⟨a, _, h⟩
  · exact h.toBl
  · exact h.elim
theorem Vw.str {i : Str} (h : Vw K cl F H v (.str i)) : v = .str i := by
  rcases h with h | ⟨a, _, h⟩
  · exact h.toStr
  · exact h.elim
theorem Vw.byt {i : Array UInt8} (h : Vw K cl F H v (.byt i)) : v = .byt i := by
  rcases h with h | ⟨a, _, h⟩
  · exact h.toByt
  · exact h.elim
theorem Vw.non (h : Vw K cl F H v .non) : v = .non := by
  rcases h with h | ⟨a, _, h⟩
  · exact h.toNon
  · exact h.elim
theorem Vw.lst {ds : List D} (g : Same F H) (h : Vw K cl F H v (.lst ds)) : ∃ a vs, v = .ref a /\ SqL K H a vs /\ Reps K cl F vs ds := by
  rcases h with h | ⟨a, rfl, vs, h1, h2⟩
  · obtain ⟨a, vs, rfl, h1, h2⟩ := h.toLst
    exact ⟨a, vs, rfl, same_l g h1, h2⟩
  · exact ⟨a, vs, rfl, SqL.of h1, h2⟩
theorem Vw.tup {ds : List D} (g : Same F H) (h : Vw K cl F H v (.tup ds)) : ∃ a vs, v = .ref a /\ SqT K H a vs /\ Reps K cl F vs ds := by
  rcases h with h | ⟨a, rfl, h1⟩
  · obtain ⟨a, vs, rfl, h1, h2⟩ := h.toTup
    exact ⟨a, vs, rfl, same_t g h1, h2⟩
  · exact h1.elim
theorem Vw.obj {c : Nat} {ns : List Str} {ds : List D} (g : Same F H) (h : Vw K cl F H v (.obj c ns ds)) : ∃ a dx vs, v = .ref a /\ H a = some (.ins (cl c) dx (ns.zip vs)) /\ ns.length = vs.length /\ Reps K cl F vs ds := by
  rcases h with h | ⟨a, rfl, dx, vs, h1, h2, h3⟩
  · obtain ⟨a, dx, vs, rfl, h1, h2, h3⟩ := h.toObj
    exact ⟨a, dx, vs, rfl, g _ _ h1, h2, h3⟩
  · exact ⟨a, dx, vs, rfl, h1, h2, h3⟩
theorem Post.val {Q : VK} {Qd : DV} (p : Post K cl F Q Qd) (g : Good K cl F H M) (r : Rep K cl F v d) (q : Qd d M) : Q v H := p v H F d M (Same.refl F) g r q
theorem Post.newL {Q : VK} {Qd : DV} {vs : List V} {ds : List D} (p : Post K cl F Q Qd) (g : Good K cl F H M) (r : Reps K cl F vs ds) (q : Qd (.lst ds) M) {a : Addr} (h : H a = none) : Q (.ref a) (upd H a (.lst vs)) :=
  p _ _ (upd F a (.lst vs)) (.lst ds) M (same_new (g.freshF h)) (g.new h) (.lst (SqL.of upd_same) (r.mono (same_new (g.freshF h)))) q
theorem Post.newT {Q : VK} {Qd : DV} {vs : List V} {ds : List D} (p : Post K cl F Q Qd) (g : Good K cl F H M) (r : Reps K cl F vs ds) (q : Qd (.tup ds) M) {a : Addr} (h : H a = none) : Q (.ref a) (upd H a (.tup vs)) :=
  p _ _ (upd F a (.tup vs)) (.tup ds) M (same_new (g.freshF h)) (g.new h) (.tup (SqT1.of upd_same) (r.mono (same_new (g.freshF h)))) q
end
def LOp (K : PySem.W.Frag) (cl : ClW) (r : R2) (f : D -> D -> Option D) : Prop :=
  ∀ F H M x y d e z Q Qd, Good K cl F H M -> Vw K cl F H x d -> Vw K cl F H y e -> f d e = some z -> Post K cl F Q Qd -> Qd z M -> r x y H Q
def LUn (K : PySem.W.Frag) (cl : ClW) (r : V -> Hp -> VK -> Prop) (f : D -> Option D) : Prop :=
  ∀ F H M x d z Q Qd, Good K cl F H M -> Vw K cl F H x d -> f d = some z -> Post K cl F Q Qd -> Qd z M -> r x H Q
def LCall (K : PySem.W.Frag) (cl : ClW) (r : List V -> Hp -> VK -> Prop) (f : List D -> Option D) : Prop :=
  ∀ F H M xs ds z Q Qd, Good K cl F H M -> Reps K cl F xs ds -> f (ds.map (vw M)) = some z -> Post K cl F Q Qd -> Qd z M -> r xs H Q
@[simp] def dVar (i : Nat) : DTE := fun ρ M Q _ => ∃ d, ρ[i]? = some (some d) /\ Q d M
@[simp] def dC (d : D) : DTE := fun _ M Q _ => Q d M
@[simp] def dOp (f : D -> D -> Option D) (τa τb : DTE) : DTE := fun ρ M Q X => τa ρ M (fun d M1 => τb ρ M1 (fun e M2 => ∃ z, f (vw M2 d) (vw M2 e) = some z /\ Q z M2) X) X
@[simp] def dUn (f : D -> Option D) (τa : DTE) : DTE := fun ρ M Q X => τa ρ M (fun d M1 => ∃ z, f (vw M1 d) = some z /\ Q z M1) X
@[simp] def dTest (τ : DTE) : DTT := fun ρ M Q X => τ ρ M (fun d M1 => ∃ b, d = .bl b /\ Q b M1) X
@[simp] def dAnd (τ υ : DTT) : DTT := fun ρ M Q X => τ ρ M (fun c M1 => if c = true then υ ρ M1 Q X else Q false M1) X
@[simp] def dOr (τ υ : DTT) : DTT := fun ρ M Q X => τ ρ M (fun c M1 => if c = true then Q true M1 else υ ρ M1 Q X) X
@[simp] def dNot (τ : DTT) : DTT := fun ρ M Q X => τ ρ M (fun c M1 => Q (!c) M1) X
@[simp] def dIfE (τ : DTT) (τa τb : DTE) : DTE := fun ρ M Q X => τ ρ M (fun c M1 => if c = true then τa ρ M1 Q X else τb ρ M1 Q X) X
@[simp] def dNil : DTA := fun _ M Q _ => Q [] M
@[simp] def dCons (τ : DTE) (τr : DTA) : DTA := fun ρ M Q X => τ ρ M (fun d M1 => τr ρ M1 (fun ds M2 => Q (d :: ds) M2) X) X
@[simp] def dTup (τ : DTA) : DTE := fun ρ M Q X => τ ρ M (fun ds M1 => ds.length <= sizeLine /\ Q (.tup ds) M1) X
@[simp] def dLst (τ : DTA) : DTE := fun ρ M Q X => τ ρ M (fun ds M1 => ds.length <= sizeLine /\ Q (.lst ds) M1) X
def dLstM (τ : DTA) : DTE := fun ρ M Q X => τ ρ M (fun ds M1 => ds.length <= sizeLine /\ ∀ a, M1 a = none -> Q (.ref a) (updM M1 a (.lst ds))) X
@[simp] def frz (d : D) (M : Mem) (Q : DV) : Prop := match d with
  | .ref a => (match M a with
    | some c => Q c (delM M a)
    | none => Q d M)
  | d => Q d M
@[simp] def dFrz (τ : DTE) : DTE := fun ρ M Q X => τ ρ M (fun d M1 => frz d M1 Q) X
@[simp] def dCB (f : List D -> Option D) (τ : DTA) : DTE := fun ρ M Q X => τ ρ M (fun ds M1 => ∃ z, f (ds.map (vw M1)) = some z /\ Q z M1) X
@[simp] def dSl (f : D -> Option Int -> Option Int -> Option D) (τ : DTE) (lo hi : Env -> Mem -> (Option Int -> Mem -> Prop) -> DX -> Prop) : DTE := fun ρ M Q X => τ ρ M (fun d M1 => lo ρ M1 (fun l M2 => hi ρ M2 (fun h M3 => ∃ z, f (vw M3 d) l h = some z /\ Q z M3) X) X) X
abbrev DTO := Env -> Mem -> (Option Int -> Mem -> Prop) -> DX -> Prop
@[simp] def dNoPart : DTO := fun _ M Q _ => Q none M
@[simp] def dPart (τ : DTE) : DTO := fun ρ M Q X => τ ρ M (fun d M1 => ∃ i, d = .int i /\ Q (some i) M1) X
section
variable {cl : ClW} {X : Cx} {W : WX} {a b e c : Expr} {es rest : List Expr} {pos : Pos} {τ τa τb τc : DTE} {υ υ' : DTT} {α : DTA}
theorem d_var {x : Str} (i : Nat) (hN : X.N[i]? = some x := by rfl) (hv : Vis X.env.scope x := by first | exact Or.inl rfl | exact Or.inr (Or.inl rfl) | exact Or.inr (Or.inr rfl)) (hd : (x == ("__debug__" : Str)) = false := by decide)
    (hcd : (x == ("__classdict__" : Str)) = false := by decide) : DE cl X W (.Name x pos) (dVar i) :=
  ⟨pe_imp (pe_var hN hv hd hcd) fun σ H Q ⟨F, ρ, M, Qd, Xd, g, s, ⟨d, h1, h2⟩, p, w⟩ => by
    obtain ⟨v, e1, r⟩ := s.get i d h1
    exact ⟨v, e1, p.val g r h2⟩⟩
theorem d_c {v : V} {d : D} (h : PE X e (tC v)) (r : ∀ F, Rep X.K cl F v d) : DE cl X W e (dC d) :=
  ⟨pe_imp h fun σ H Q ⟨F, ρ, M, Qd, Xd, g, s, h2, p, w⟩ => p.val g (r F) h2⟩
theorem d_int {i j} : DE cl X W (.Constant (.int i) j pos) (dC (.int i)) := d_c pe_int fun _ => .int i
theorem d_bl {i j} : DE cl X W (.Constant (.bool i) j pos) (dC (.bl i)) := d_c pe_bl fun _ => .bl i
theorem d_str {i j} : DE cl X W (.Constant (.str i) j pos) (dC (.str i)) := d_c pe_str fun _ => .str i
theorem d_non {j} : DE cl X W (.Constant .none j pos) (dC .non) := d_c pe_non fun _ => .non
theorem d_byt {x j} : DE cl X W (.Constant (.bytes x) j pos) (dC (.byt x.toArray)) := d_c (v := .byt x.toArray) pe_byt fun _ => .byt _
theorem d_op {op : Operator} {r : R2} {f : D -> D -> Option D} (ho : OpR X (binaryOp op) r) (hf : LOp X.K cl r f) (ha : DE cl X W a τa) (hb : DE cl X W b τb) : DE cl X W (.BinOp a op b pos) (dOp f τa τb) :=
  ⟨pe_imp (pe_op ho ha.pe hb.pe) fun σ H Q ⟨F, ρ, M, Qd, Xd, g, s, t, p, w⟩ =>
    ⟨F, ρ, M, _, Xd, g, s, t, fun v H' F' d M' sm g' r' q => ⟨F', ρ, M', _, Xd, g', s.mono sm, q, fun u H2 F2 e M2 sm2 g2 r2 q2 => by
      obtain ⟨z, e1, e2⟩ := q2
      exact hf F2 H2 M2 v u _ _ z Q Qd g2 (vw_ok g2 (r'.mono sm2)) (vw_ok g2 r2) e1 (p.mono (sm.trans sm2)) e2, w.mono sm⟩, w⟩⟩
theorem d_cmp {op : CmpOp} {r : R2} {f : D -> D -> Option D} (ho : OpR X (compareOp op) r) (hf : LOp X.K cl r f) (ha : DE cl X W a τa) (hb : DE cl X W b τb) (hm : behindInMarks op b = false) : DE cl X W (.Compare a [op] [b] pos) (dOp f τa τb) :=
  ⟨pe_imp (pe_cmpR ho ha.pe hb.pe hm) fun σ H Q ⟨F, ρ, M, Qd, Xd, g, s, t, p, w⟩ =>
    ⟨F, ρ, M, _, Xd, g, s, t, fun v H' F' d M' sm g' r' q => ⟨F', ρ, M', _, Xd, g', s.mono sm, q, fun u H2 F2 e M2 sm2 g2 r2 q2 => by
      obtain ⟨z, e1, e2⟩ := q2
      exact hf F2 H2 M2 v u _ _ z Q Qd g2 (vw_ok g2 (r'.mono sm2)) (vw_ok g2 r2) e1 (p.mono (sm.trans sm2)) e2, w.mono sm⟩, w⟩⟩
theorem PostT.test {K : PySem.W.Frag} {F : Hp} {Q : Bool -> Hp -> Prop} {Qd : Bool -> Mem -> Prop} (p : PostT K cl F Q Qd) : Post K cl F (fun x H' => ∃ k, x = .bl k /\ Q k H') (fun d M1 => ∃ b, d = .bl b /\ Qd b M1) := fun v H' F' d M' sm g r ⟨b, e1, q⟩ => by
  subst e1
  exact ⟨b, r.toBl, p b H' F' M' sm g q⟩
theorem d_tcmp {op : CmpOp} {r : R2} {f : D -> D -> Option D} (ho : OpR X (compareOp op) r) (hf : LOp X.K cl r f) (ha : DE cl X W a τa) (hb : DE cl X W b τb) (hm : behindInMarks op b = false) : DT cl X W (.Compare a [op] [b] pos) (dTest (dOp f τa τb)) :=
  ⟨pt_imp (pt_cmpR ho ha.pe hb.pe hm) fun σ H Q ⟨F, ρ, M, Qd, Xd, g, s, t, p, w⟩ =>
    ⟨F, ρ, M, _, Xd, g, s, t, fun v H' F' d M' sm g' r' q => ⟨F', ρ, M', _, Xd, g', s.mono sm, q, fun u H2 F2 e M2 sm2 g2 r2 q2 => by
      obtain ⟨z, e1, e2⟩ := q2
      exact hf F2 H2 M2 v u _ _ z _ _ g2 (vw_ok g2 (r'.mono sm2)) (vw_ok g2 r2) e1 (PostT.test (p.mono (sm.trans sm2))) e2, w.mono sm⟩, w⟩⟩
@[simp] def dChain (f f' : D -> D -> Option D) (τa τb τc : DTE) : DTE := fun ρ M Q X => τa ρ M (fun d M1 => τb ρ M1 (fun e M2 => ∃ k, f (vw M2 d) (vw M2 e) = some (.bl k) /\ if k = true then τc ρ M2 (fun h M3 => ∃ z, f' (vw M3 e) (vw M3 h) = some z /\ Q z M3) X else Q (.bl false) M2) X) X
theorem d_chain {op op' : CmpOp} {r r' : R2} {f f' : D -> D -> Option D} (ho : OpR X (compareOp op) r) (ho' : OpR X (compareOp op') r') (hf : LOp X.K cl r f) (hf' : LOp X.K cl r' f') (ha : DE cl X W a τa) (hb : DE cl X W b τb) (hc : DE cl X W c τc)
    (hm : lastMarks [op, op'] [b, c] = false := by with_unfolding_all rfl) : DE cl X W (.Compare a [op, op'] [b, c] pos) (dChain f f' τa τb τc) :=
  ⟨pe_imp (pe_chain ho ho' ha.pe hb.pe hc.pe hm) fun σ H Q ⟨F, ρ, M, Qd, Xd, g, s, t, p, w⟩ =>
    ⟨F, ρ, M, _, Xd, g, s, t, fun v H' F' d M' sm g' r' q => ⟨F', ρ, M', _, Xd, g', s.mono sm, q, fun u H2 F2 e M2 sm2 g2 r2 q2 => by
      obtain ⟨k, e1, e2⟩ := q2
      refine hf F2 H2 M2 v u _ _ (.bl k) _ (fun z M3 => z = .bl k /\ M3 = M2) g2 (vw_ok g2 (r'.mono sm2)) (vw_ok g2 r2) e1 ?_ ⟨rfl, rfl⟩
      intro z H3 F3 dz M3 sm3 g3 r3 ⟨h3, h4⟩
      subst h3 h4
      refine ⟨k, r3.toBl, ?_⟩
      cases k with
      | true =>
        rw [if_pos rfl] at e2 ⊢
        refine ⟨F3, ρ, M3, _, Xd, g3, s.mono ((sm.trans sm2).trans sm3), e2, fun y H4 F4 h M4 sm4 g4 r4 ⟨z4, h5, h6⟩ => ?_, w.mono ((sm.trans sm2).trans sm3)⟩
        exact hf' F4 H4 M4 u y _ _ z4 Q Qd g4 (vw_ok g4 (r2.mono (sm3.trans sm4))) (vw_ok g4 r4) h5 (p.mono (((sm.trans sm2).trans sm3).trans sm4)) h6
      | false =>
        rw [if_neg Bool.false_ne_true] at e2 ⊢
        exact p _ _ _ _ _ ((sm.trans sm2).trans sm3) g3 (.bl false) e2, w.mono sm⟩, w⟩⟩
theorem d_tchain {op op' : CmpOp} {r r' : R2} {f f' : D -> D -> Option D} (ho : OpR X (compareOp op) r) (ho' : OpR X (compareOp op') r') (hf : LOp X.K cl r f) (hf' : LOp X.K cl r' f') (ha : DE cl X W a τa) (hb : DE cl X W b τb) (hc : DE cl X W c τc)
    (hm : lastMarks [op, op'] [b, c] = false := by with_unfolding_all rfl) : DT cl X W (.Compare a [op, op'] [b, c] pos) (dTest (dChain f f' τa τb τc)) :=
  ⟨pt_imp (pt_chain ho ho' ha.pe hb.pe hc.pe hm) fun σ H Q ⟨F, ρ, M, Qd, Xd, g, s, t, p, w⟩ =>
    ⟨F, ρ, M, _, Xd, g, s, t, fun v H' F' d M' sm g' r' q => ⟨F', ρ, M', _, Xd, g', s.mono sm, q, fun u H2 F2 e M2 sm2 g2 r2 q2 => by
      obtain ⟨k, e1, e2⟩ := q2
      refine hf F2 H2 M2 v u _ _ (.bl k) _ (fun z M3 => z = .bl k /\ M3 = M2) g2 (vw_ok g2 (r'.mono sm2)) (vw_ok g2 r2) e1 ?_ ⟨rfl, rfl⟩
      intro z H3 F3 dz M3 sm3 g3 r3 ⟨h3, h4⟩
      subst h3 h4
      refine ⟨k, r3.toBl, ?_⟩
      cases k with
      | true =>
        rw [if_pos rfl] at e2 ⊢
        refine ⟨F3, ρ, M3, _, Xd, g3, s.mono ((sm.trans sm2).trans sm3), e2, fun y H4 F4 h M4 sm4 g4 r4 ⟨z4, h5, h6⟩ => ?_, w.mono ((sm.trans sm2).trans sm3)⟩
        exact hf' F4 H4 M4 u y _ _ z4 _ _ g4 (vw_ok g4 (r2.mono (sm3.trans sm4))) (vw_ok g4 r4) h5 (PostT.test (p.mono (((sm.trans sm2).trans sm3).trans sm4))) h6
      | false =>
        rw [if_neg Bool.false_ne_true] at e2 ⊢
        exact PostT.test p _ _ _ _ _ ((sm.trans sm2).trans sm3) g3 (.bl false) e2, w.mono sm⟩, w⟩⟩
theorem d_un {op : UnaryOp} {r : V -> Hp -> VK -> Prop} {f : D -> Option D} (ho : UnR X (unaryOp op) r) (hf : LUn X.K cl r f) (ha : DE cl X W a τa) : DE cl X W (.UnaryOp op a pos) (dUn f τa) :=
  ⟨pe_imp (pe_un ho ha.pe) fun σ H Q ⟨F, ρ, M, Qd, Xd, g, s, t, p, w⟩ =>
    ⟨F, ρ, M, _, Xd, g, s, t, fun v H' F' d M' sm g' r' ⟨z, e1, e2⟩ => hf F' H' M' v _ z Q Qd g' (vw_ok g' r') e1 (p.mono sm) e2, w⟩⟩
theorem d_val (h : DE cl X W e τ) (he : ∀ whole, isTrue e X.env whole = (do let v <- whole; standAt e.pos; holding [v] (truthy v)) := by intro _; rfl) : DT cl X W e (dTest τ) :=
  ⟨pt_imp (pt_val h.pe he) fun σ H Q ⟨F, ρ, M, Qd, Xd, g, s, t, p, w⟩ => ⟨F, ρ, M, _, Xd, g, s, t, p.test, w⟩⟩
theorem dw_and1 (h : DT cl X W a υ) : DW cl X W (.BoolOp .And [a] pos) υ := ⟨pw_and1 h.pt⟩
theorem dw_or1 (h : DT cl X W a υ) : DW cl X W (.BoolOp .Or [a] pos) υ := ⟨pw_or1 h.pt⟩
theorem dw_and (h : DT cl X W a υ) (h' : DW cl X W (.BoolOp .And (b :: rest) pos) υ') : DW cl X W (.BoolOp .And (a :: b :: rest) pos) (dAnd υ υ') :=
  ⟨pw_imp (pw_and h.pt h'.pw) fun σ H Q ⟨F, ρ, M, Qd, Xd, g, s, t, p, w⟩ => ⟨F, ρ, M, _, Xd, g, s, t, fun k H' F' M' sm g' q => by
    cases k with
    | true => rw [if_pos rfl] at q ⊢; exact ⟨F', ρ, M', Qd, Xd, g', s.mono sm, q, p.mono sm, w.mono sm⟩
    | false => rw [if_neg Bool.false_ne_true] at q ⊢; exact p _ _ _ _ sm g' q, w⟩⟩
theorem dw_or (h : DT cl X W a υ) (h' : DW cl X W (.BoolOp .Or (b :: rest) pos) υ') : DW cl X W (.BoolOp .Or (a :: b :: rest) pos) (dOr υ υ') :=
  ⟨pw_imp (pw_or h.pt h'.pw) fun σ H Q ⟨F, ρ, M, Qd, Xd, g, s, t, p, w⟩ => ⟨F, ρ, M, _, Xd, g, s, t, fun k H' F' M' sm g' q => by
    cases k with
    | true => rw [if_pos rfl] at q ⊢; exact p _ _ _ _ sm g' q
    | false => rw [if_neg Bool.false_ne_true] at q ⊢; exact ⟨F', ρ, M', Qd, Xd, g', s.mono sm, q, p.mono sm, w.mono sm⟩, w⟩⟩
theorem DW.dt (h : DW cl X W e υ) : DT cl X W e υ := ⟨h.pw.pt⟩
theorem d_tnot (h : DT cl X W a υ) : DT cl X W (.UnaryOp .Not a pos) (dNot υ) :=
  ⟨pt_imp (pt_not h.pt) fun σ H Q ⟨F, ρ, M, Qd, Xd, g, s, t, p, w⟩ => ⟨F, ρ, M, _, Xd, g, s, t, fun k H' F' M' sm g' q => p _ _ _ _ sm g' q, w⟩⟩
theorem d_ifE (h : DT cl X W c υ) (ha : DE cl X W a τa) (hb : DE cl X W b τb) : DE cl X W (.IfExp c a b pos) (dIfE υ τa τb) :=
  ⟨pe_imp (pe_ifExp h.pt ha.pe hb.pe) fun σ H Q ⟨F, ρ, M, Qd, Xd, g, s, t, p, w⟩ => ⟨F, ρ, M, _, Xd, g, s, t, fun k H' F' M' sm g' q => by
    cases k with
    | true => rw [if_pos rfl] at q ⊢; exact ⟨F', ρ, M', Qd, Xd, g', s.mono sm, q, p.mono sm, w.mono sm⟩
    | false => rw [if_neg Bool.false_ne_true] at q ⊢; exact ⟨F', ρ, M', Qd, Xd, g', s.mono sm, q, p.mono sm, w.mono sm⟩, w⟩⟩
@[simp] def dAndV (τa τb : DTE) : DTE := fun ρ M Q X => τa ρ M (fun d M1 => ∃ c, d = .bl c /\ if c = true then τb ρ M1 Q X else Q (.bl false) M1) X
@[simp] def dOrV (τa τb : DTE) : DTE := fun ρ M Q X => τa ρ M (fun d M1 => ∃ c, d = .bl c /\ if c = true then Q (.bl true) M1 else τb ρ M1 Q X) X
@[simp] def dNotV (τa : DTE) : DTE := fun ρ M Q X => τa ρ M (fun d M1 => ∃ c, d = .bl c /\ Q (.bl (!c)) M1) X
theorem d_one {op} (h : DE cl X W a τ) : DE cl X W (.BoolOp op [a] pos) τ := ⟨pe_one h.pe⟩
theorem d_andV (ha : DE cl X W a τa) (hb : DE cl X W (.BoolOp .And (b :: rest) pos) τb) : DE cl X W (.BoolOp .And (a :: b :: rest) pos) (dAndV τa τb) :=
  ⟨pe_imp (pe_and ha.pe hb.pe) fun σ H Q ⟨F, ρ, M, Qd, Xd, g, s, t, p, w⟩ => ⟨F, ρ, M, _, Xd, g, s, t, fun v H' F' d M' sm g' r ⟨k, e1, q⟩ => by
    subst e1
    refine ⟨k, r.toBl, ?_⟩
    cases k with
    | true => rw [if_pos rfl] at q ⊢; exact ⟨F', ρ, M', Qd, Xd, g', s.mono sm, q, p.mono sm, w.mono sm⟩
    | false => rw [if_neg Bool.false_ne_true] at q ⊢; exact p _ _ _ _ _ sm g' (.bl false) q, w⟩⟩
theorem d_notV (ha : DE cl X W a τa) : DE cl X W (.UnaryOp .Not a pos) (dNotV τa) :=
  ⟨pe_imp (pe_not ha.pe) fun σ H Q ⟨F, ρ, M, Qd, Xd, g, s, t, p, w⟩ => ⟨F, ρ, M, _, Xd, g, s, t, fun v H' F' d M' sm g' r ⟨k, e1, q⟩ => by
    subst e1
    exact ⟨k, r.toBl, p _ _ _ _ _ sm g' (.bl _) q⟩, w⟩⟩
theorem da_nil : DA cl X W [] dNil := ⟨pa_imp pa_nil fun σ H Q ⟨F, ρ, M, Qd, Xd, g, s, t, p, w⟩ => p [] H F [] M (Same.refl F) g .nil t⟩
theorem da_cons (ha : DE cl X W e τ) (hr : DA cl X W es α) (hs : starEach (e :: es) X.env = (false, eval e X.env) :: starEach es X.env := by rfl) : DA cl X W (e :: es) (dCons τ α) :=
  ⟨pa_imp (pa_cons ha.pe hr.pa hs) fun σ H Q ⟨F, ρ, M, Qd, Xd, g, s, t, p, w⟩ => ⟨F, ρ, M, _, Xd, g, s, t, fun v H' F' d M' sm g' r q => ⟨F', ρ, M', _, Xd, g', s.mono sm, q, fun vs H2 F2 ds M2 sm2 g2 r2 q2 => p _ _ _ _ _ (sm.trans sm2) g2 (.cons (r.mono sm2) r2) q2, w.mono sm⟩, w⟩⟩
theorem d_tup {x1} (h : DA cl X W es α) : DE cl X W (.Tuple es x1 pos) (dTup α) :=
  ⟨pe_imp (pe_tup h.pa) fun σ H Q ⟨F, ρ, M, Qd, Xd, g, s, t, p, w⟩ => ⟨F, ρ, M, _, Xd, g, s, t, fun vs H' F' ds M' sm g' r ⟨hl, q⟩ => ⟨by rw [r.length]; exact hl, fun a ha => (p.mono sm).newT g' r q ha⟩, w⟩⟩
theorem d_lst (h : DA cl X W es α) : DE cl X W (.List es pos) (dLst α) :=
  ⟨pe_imp (pe_lst h.pa) fun σ H Q ⟨F, ρ, M, Qd, Xd, g, s, t, p, w⟩ => ⟨F, ρ, M, _, Xd, g, s, t, fun vs H' F' ds M' sm g' r ⟨hl, q⟩ => ⟨by rw [r.length]; exact hl, fun a ha => (p.mono sm).newL g' r q ha⟩, w⟩⟩
theorem d_lstM (h : DA cl X W es α) : DE cl X W (.List es pos) (dLstM α) :=
  ⟨pe_imp (pe_lst h.pa) fun σ H Q ⟨F, ρ, M, Qd, Xd, g, s, t, p, w⟩ => ⟨F, ρ, M, _, Xd, g, s, t, fun vs H' F' ds M' sm g' r ⟨hl, q⟩ => ⟨by rw [r.length]; exact hl, fun a ha =>
    p _ _ F' _ _ sm (g'.newM (d := .lst ds) ha ⟨vs, upd_same, r⟩) (.ref a) (q a (g'.freshM ha))⟩, w⟩⟩
theorem d_frz (h : DE cl X W e τ) : DE cl X W e (dFrz τ) :=
  ⟨pe_imp h.pe fun σ H Q ⟨F, ρ, M, Qd, Xd, g, s, t, p, w⟩ => ⟨F, ρ, M, _, Xd, g, s, t, fun v H' F' d M' sm g' r q => by
    cases d with
    | ref a =>
      obtain rfl := r.toRef
      cases e : M' a with
      | none =>
        have q' : Qd (.ref a) M' := by
          simp only [frz] at q
          rw [e] at q
          exact q
        exact p _ _ _ _ _ sm g' r q'
      | some c =>
        have q' : Qd c (delM M' a) := by
          simp only [frz] at q
          rw [e] at q
          exact q
        obtain ⟨F2, s2, g2, r2⟩ := g'.freeze e
        exact p _ _ _ _ _ (sm.trans s2) g2 r2 q'
    | _ => exact p _ _ _ _ _ sm g' r q, w⟩⟩
theorem d_callB {x : Str} {id : String} {p : Pos} {r : List V -> Hp -> VK -> Prop} {f : List D -> Option D} (hc : CallR X (.builtin id) r) (hf : LCall X.K cl r f) (hg : Gl X x) (hm : X.mg x = none) (hv : bootBuiltins x = some (.builtin id)) (ha : DA cl X W (e :: es) α) (hn : x ≠ "__name__" := by decide) (hdb : (x == ("__debug__" : Str)) = false := by decide)
    (he : starEach (e :: es) X.env = (false, eval e X.env) :: starEach es X.env := by rfl) (hpl : (backTo pos (starEach es X.env)).any (·.1) = false := by rfl) : DE cl X W (.Call (.Name x p) (e :: es) [] pos) (dCB f α) :=
  ⟨pe_imp (pe_callB hc hg hm hv ha.pa hn hdb he hpl) fun σ H Q ⟨F, ρ, M, Qd, Xd, g, s, t, p, w⟩ => ⟨F, ρ, M, _, Xd, g, s, t, fun vs H' F' ds M' sm g' r ⟨z, e1, e2⟩ => hf F' H' M' vs ds z Q Qd g' r e1 (p.mono sm) e2, w⟩⟩
theorem d_callTy {x : Str} {T : String} {p : Pos} {r : List V -> Hp -> VK -> Prop} {f : List D -> Option D} (hc : CallR X (.type T) r) (hf : LCall X.K cl r f) (hg : Gl X x) (hm : X.mg x = none) (hv : bootBuiltins x = some (.type T)) (ha : DA cl X W (e :: es) α) (hn : x ≠ "__name__" := by decide) (hdb : (x == ("__debug__" : Str)) = false := by decide)
    (he : starEach (e :: es) X.env = (false, eval e X.env) :: starEach es X.env := by rfl) (hpl : (backTo pos (starEach es X.env)).any (·.1) = false := by rfl) : DE cl X W (.Call (.Name x p) (e :: es) [] pos) (dCB f α) :=
  ⟨pe_imp (pe_callTy hc hg hm hv ha.pa hn hdb he hpl) fun σ H Q ⟨F, ρ, M, Qd, Xd, g, s, t, p, w⟩ => ⟨F, ρ, M, _, Xd, g, s, t, fun vs H' F' ds M' sm g' r ⟨z, e1, e2⟩ => hf F' H' M' vs ds z Q Qd g' r e1 (p.mono sm) e2, w⟩⟩
end
end DL
set_option Elab.async false
set_option linter.all false
set_option maxRecDepth 100000
set_option maxHeartbeats 2000000
namespace DL
open PySem L2
def addD : D -> D -> Option D
  | .int i, .int j => some (.int (i + j))
  | .str x, .str y => if x.length + y.length <= sizeLine then some (.str (x ++ y)) else none
  | .lst xs, .lst ys => if xs.length + ys.length <= sizeLine then some (.lst (xs ++ ys)) else none
  | .tup xs, .tup ys => if xs.length + ys.length <= sizeLine then some (.tup (xs ++ ys)) else none
  | .byt x, .byt y => if x.size + y.size <= 16777216 then some (.byt (x ++ y)) else none
  | _, _ => none
@[simp] def subD : D -> D -> Option D
  | .int i, .int j => some (.int (i - j))
  | _, _ => none
def mulD : D -> D -> Option D
  | .int i, .int j => if (-(2 ^ 64) < i /\ i < 2 ^ 64) \/ (-(2 ^ 64) < j /\ j < 2 ^ 64) then some (.int (i * j)) else none
  | _, _ => none
def fdivD : D -> D -> Option D
  | .int i, .int j => if 0 < j /\ j < 2 ^ 200 then some (.int (i / j)) else none
  | _, _ => none
def modD : D -> D -> Option D
  | .int i, .int j => if 0 < j then some (.int (i % j)) else none
  | _, _ => none
def powD : D -> D -> Option D
  | .int i, .int j => if 0 <= j /\ j <= 1000000 /\ i.natAbs < 2 ^ 64 then some (.int (i ^ j.toNat)) else none
  | _, _ => none
@[simp] def cmpD (p : Int -> Int -> Bool) : D -> D -> Option D
  | .int i, .int j => some (.bl (p i j))
  | _, _ => none
@[simp] def negD : D -> Option D
  | .int i => some (.int (-i))
  | _ => none
@[simp] def isNonD : D -> D -> Option D
  | .non, .non => some (.bl true)
  | _, .non => some (.bl false)
  | _, _ => none
@[simp] def notNonD : D -> D -> Option D
  | .non, .non => some (.bl false)
  | _, .non => some (.bl true)
  | _, _ => none
section
variable {K : PySem.W.Frag} {cl : ClW} {X : Cx}
def rCatS (K : PySem.W.Frag) : R2 := fun x y H Q => ∃ l b xs zs, x = .ref l /\ y = .ref b /\ SqL K H l xs /\ SqL K H b zs /\ xs.length + zs.length <= sizeLine /\ ∀ p, H p = none -> Q (.ref p) (upd H p (.lst (xs ++ zs)))
theorem op_catS : OpR X (binaryOp .Add) (rCatS X.K) := by
  intro pins s σ H x y v u Q I rx ry h
  obtain ⟨l, b, xs, zs, rfl, rfl, hH, hB, hz, q⟩ := h
  cases rx
  cases ry
  obtain ⟨its, r, ⟨o, n, ho, hc, hd, hs⟩, z⟩ := I.list hH
  obtain ⟨its2, r2, ⟨o2, n2, ho2, hc2, hd2, hs2⟩, z2⟩ := I.list hB
  obtain ⟨c1, d1, t1, sl1⟩ := o
  obtain ⟨c2, d2, t2, sl2⟩ := o2
  simp only at hc hd hs hc2 hd2 hs2
  subst hc hd hs hc2 hd2 hs2
  have l1 := r.length
  have l2 := r2.length
  have ea : its.toArray ++ its2.toArray = (its ++ its2).toArray := by simp
  refine concat_meets ⟨_, ho, rfl⟩ ⟨_, ho2, rfl⟩ noFill_list_add seq_list_add PySem.F.slot_list_add PySem.F.entry_list_add (PySem.F.args_list_add_2 _ _) (PyProof.Rows.list_addW l b its.toArray its2.toArray n n2 none none sl1 sl2 (by simp; omega)) ⟨ho, ho2, ?_⟩
  rw [ea]
  exact ⟨.ref _, _, I.lnew (t' := s.toks) (r.append r2) (by rw [List.length_append]; omega), rfl, q _ I.fresh⟩
def rAddAll (K : PySem.W.Frag) : R2 := fun x y H Q => rI0 (fun i j => .int (i + j)) x y H Q \/ (fun x y H Q => ∃ i j, x = .str i /\ y = .str j /\ i.length + j.length <= sizeLine /\ Q (.str (i ++ j)) H) x y H Q \/ rCatS K x y H Q \/ rCatA K x y H Q \/ (fun x y H Q => ∃ i j, x = .byt i /\ y = .byt j /\ i.size + j.size <= 16777216 /\ Q (.byt (i ++ j)) H) x y H Q
theorem op_addAll : OpR X (binaryOp .Add) (rAddAll X.K) := op_add.or (op_add_str.or (op_catS.or (op_catA.or op_add_byt)))
theorem lop_add : LOp K cl (rAddAll K) addD := by
  intro F H M x y d e z Q Qd g hx hy h p q
  cases d with
  | int i =>
    cases e with
    | int j =>
      cases h
      obtain rfl := hx.int; obtain rfl := hy.int
      exact .inl ⟨i, j, rfl, rfl, p.val g (.int _) q⟩
    | _ => cases h
  | str i =>
    cases e with
    | str j =>
      simp only [addD] at h
      split at h
      · cases h
        obtain rfl := hx.str; obtain rfl := hy.str
        exact .inr (.inl ⟨i, j, rfl, rfl, by assumption, p.val g (.str _) q⟩)
      · cases h
    | _ => cases h
  | lst ds =>
    cases e with
    | lst es =>
      simp only [addD] at h
      split at h
      · cases h
        obtain ⟨a, vs, rfl, h1, h2⟩ := hx.lst g.sub
        obtain ⟨b, us, rfl, h3, h4⟩ := hy.lst g.sub
        exact .inr (.inr (.inl ⟨a, b, vs, us, rfl, rfl, h1, h3, by rw [h2.length, h4.length]; assumption, fun c hc => p.newL g (h2.append h4) q hc⟩))
      · cases h
    | _ => cases h
  | tup ds =>
    cases e with
    | tup es =>
      simp only [addD] at h
      split at h
      · cases h
        rcases hx with hx | ⟨_, _, hx⟩
        · rcases hy with hy | ⟨_, _, hy⟩
          · obtain ⟨a, vs, rfl, h1, h2⟩ := hx.toTup
            obtain ⟨b, us, rfl, h3, h4⟩ := hy.toTup
            refine .inr (.inr (.inr (.inl ⟨a, b, vs, us, rfl, rfl, same_t g.sub h1, same_t g.sub h3, by rw [h2.length, h4.length]; assumption, fun e => ?_, fun _ e => ?_, fun _ _ c hc => p.newT g (h2.append h4) q hc⟩)))
            · subst e
              cases h2
              exact p.val g hy q
            · subst e
              cases h4
              rw [List.append_nil] at q
              exact p.val g hx q
          · exact hy.elim
        · exact hx.elim
      · cases h
    | _ => cases h
  | byt i =>
    cases e with
    | byt j =>
      simp only [addD] at h
      split at h
      · cases h
        obtain rfl := hx.byt; obtain rfl := hy.byt
        exact .inr (.inr (.inr (.inr ⟨i, j, rfl, rfl, by assumption, p.val g (.byt _) q⟩)))
      · cases h
    | _ => cases h
  | _ => cases h
theorem lop_sub : LOp K cl (rI0 fun i j => .int (i - j)) subD := by
  intro F H M x y d e z Q Qd g hx hy h p q
  cases d <;> cases e <;> first | (cases h; obtain rfl := hx.int; obtain rfl := hy.int; exact ⟨_, _, rfl, rfl, p.val g (.int _) q⟩) | cases h
theorem lop_mul : LOp K cl (rI CMul fun i j => .int (i * j)) mulD := by
  intro F H M x y d e z Q Qd g hx hy h p q
  cases d <;> cases e <;> first | (simp only [mulD] at h; split at h <;> first | (cases h; obtain rfl := hx.int; obtain rfl := hy.int; exact ⟨_, _, rfl, rfl, (by assumption), p.val g (.int _) q⟩) | cases h) | cases h
theorem cdivW_of {i j : Int} (h : 0 < j /\ j < 2 ^ 200) : CDivW i j := by
  refine wide_div (b := 200) h.1 ?_ (by decide) (by decide)
  have h2 : ((j.natAbs : Nat) : Int) < ((2 ^ 200 : Nat) : Int) := by
    rw [Int.natAbs_of_nonneg (Int.le_of_lt h.1)]
    exact_mod_cast h.2
  exact Int.ofNat_lt.mp h2
theorem lop_fdiv : LOp K cl (rI CDivW fun i j => .int (i / j)) fdivD := by
  intro F H M x y d e z Q Qd g hx hy h p q
  cases d with
  | int i =>
    cases e with
    | int j =>
      simp only [fdivD] at h
      split at h
      · cases h
        obtain rfl := hx.int; obtain rfl := hy.int
        exact ⟨i, j, rfl, rfl, cdivW_of (by assumption), p.val g (.int _) q⟩
      · cases h
    | _ => cases h
  | _ => cases h
theorem lop_mod : LOp K cl (rI (fun _ j => 0 < j) fun i j => .int (i % j)) modD := by
  intro F H M x y d e z Q Qd g hx hy h p q
  cases d with
  | int i =>
    cases e with
    | int j =>
      simp only [modD] at h
      split at h
      · cases h
        obtain rfl := hx.int; obtain rfl := hy.int
        exact ⟨i, j, rfl, rfl, by assumption, p.val g (.int _) q⟩
      · cases h
    | _ => cases h
  | _ => cases h
theorem lop_pow : LOp K cl (rI CPow fun i j => .int (i ^ j.toNat)) powD := by
  intro F H M x y d e z Q Qd g hx hy h p q
  cases d with
  | int i =>
    cases e with
    | int j =>
      simp only [powD] at h
      split at h
      · cases h
        obtain rfl := hx.int; obtain rfl := hy.int
        exact ⟨i, j, rfl, rfl, by assumption, p.val g (.int _) q⟩
      · cases h
    | _ => cases h
  | _ => cases h
theorem lop_cmp (k : Int -> Int -> Bool) : LOp K cl (rI0 fun i j => .bl (k i j)) (cmpD k) := by
  intro F H M x y d e z Q Qd g hx hy h p q
  cases d with
  | int i =>
    cases e with
    | int j =>
      cases h
      obtain rfl := hx.int; obtain rfl := hy.int
      exact ⟨i, j, rfl, rfl, p.val g (.bl _) q⟩
    | _ => cases h
  | _ => cases h
abbrev leD := cmpD fun i j => decide (i <= j)
abbrev gtD := cmpD fun i j => decide (j < i)
abbrev geD := cmpD fun i j => decide (j <= i)
theorem lun_neg : LUn K cl (rU fun i => .int (-i)) negD := by
  intro F H M x d z Q Qd g hx h p q
  cases d with
  | int i =>
    cases h
    obtain rfl := hx.int
    exact ⟨i, rfl, p.val g (.int _) q⟩
  | _ => cases h
theorem Vw.ne_non {F H : Hp} {v : V} {d : D} (h : Vw K cl F H v d) (hd : d ≠ .non) : v ≠ .non := by
  intro e
  subst e
  rcases h with h | ⟨a, e, _⟩
  · cases h; exact hd rfl
  · cases e
theorem lop_isN : LOp K cl (fun x y H Q => y = .non /\ Q (.bl (decide (x = .non))) H) isNonD := by
  intro F H M x y d e z Q Qd g hx hy h p q
  cases e with
  | non =>
    refine ⟨hy.non, ?_⟩
    by_cases hd : d = .non
    · subst hd
      cases h
      obtain rfl := hx.non
      rw [decide_eq_true rfl]
      exact p.val g (.bl _) q
    · have hz : z = .bl false := by cases d <;> first | exact absurd rfl hd | (cases h; rfl)
      subst hz
      rw [decide_eq_false (hx.ne_non hd)]
      exact p.val g (.bl _) q
  | _ => cases d <;> cases h
theorem lop_notN : LOp K cl (fun x y H Q => y = .non /\ Q (.bl (!decide (x = .non))) H) notNonD := by
  intro F H M x y d e z Q Qd g hx hy h p q
  cases e with
  | non =>
    refine ⟨hy.non, ?_⟩
    by_cases hd : d = .non
    · subst hd
      cases h
      obtain rfl := hx.non
      rw [decide_eq_true rfl]
      exact p.val g (.bl _) q
    · have hz : z = .bl true := by cases d <;> first | exact absurd rfl hd | (cases h; rfl)
      subst hz
      rw [decide_eq_false (hx.ne_non hd)]
      exact p.val g (.bl _) q
  | _ => cases d <;> cases h
def ixD : D -> D -> Option D
  | .lst xs, .int i => atI xs i
  | .tup xs, .int i => atI xs i
  | .str z, .int i => if z.length <= sizeLine then (atI z.cps.toList i).map fun c => .str ⟨#[c]⟩ else none
  | _, _ => none
theorem reps_atI {F : Hp} {vs : List V} {ds : List D} {i : Int} {d : D} (r : Reps K cl F vs ds) (h : atI ds i = some d) : ∃ v, atI vs i = some v /\ Rep K cl F v d := by
  unfold atI at h ⊢
  rw [r.length]
  cases e : ixN ds.length i with
  | none => rw [e] at h; cases h
  | some j =>
    rw [e] at h
    exact r.get h
theorem lix : LOp K cl (rIx K) ixD := by
  intro F H M x y d e z Q Qd g hx hy h p q
  cases d with
  | lst ds =>
    cases e with
    | int i =>
      obtain rfl := hy.int
      obtain ⟨a, vs, rfl, h1, h2⟩ := hx.lst g.sub
      obtain ⟨v, h3, h4⟩ := reps_atI h2 h
      exact .inl ⟨a, vs, i, v, rfl, rfl, h1, h3, p.val g h4 q⟩
    | _ => cases h
  | tup ds =>
    cases e with
    | int i =>
      obtain rfl := hy.int
      obtain ⟨a, vs, rfl, h1, h2⟩ := hx.tup g.sub
      obtain ⟨v, h3, h4⟩ := reps_atI h2 h
      exact .inr (.inl ⟨a, vs, i, v, rfl, rfl, h1, h3, p.val g h4 q⟩)
    | _ => cases h
  | str w =>
    cases e with
    | int i =>
      obtain rfl := hy.int
      obtain rfl := hx.str
      simp only [ixD] at h
      split at h
      · rename_i hl
        cases e1 : atI w.cps.toList i with
        | none => rw [e1] at h; cases h
        | some c =>
          rw [e1] at h
          cases h
          exact .inr (.inr ⟨w, i, c, rfl, rfl, hl, e1, p.val g (.str _) q⟩)
      · cases h
    | _ => cases h
  | _ => cases h
variable {W : WX} {a b e : Expr} {pos : Pos} {τ τa τb : DTE}
structure DO (cl : ClW) (X : Cx) (W : WX) (e : Option Expr) (τ : DTO) : Prop where
  po : PO X e (fun σ H Q => ∃ F ρ M Qd Xd, Good X.K cl F H M /\ Slots X.K cl F σ ρ /\ τ ρ M Qd Xd /\ (∀ o H' F' M', Same F F' -> Good X.K cl F' H' M' -> Qd o M' -> Q o H') /\ WOk X.K cl W F Xd)
theorem do_none : DO cl X W none dNoPart := ⟨⟨fun pins s σ H Q I ⟨F, ρ, M, Qd, Xd, g, sl, t, p, w⟩ => po_none.run pins s σ H Q I (p none H F M (Same.refl F) g t)⟩⟩
theorem do_some (h : DE cl X W e τ) : DO cl X W (some e) (dPart τ) := ⟨⟨fun pins s σ H Q I ⟨F, ρ, M, Qd, Xd, g, sl, t, p, w⟩ => (po_some h.pe).run pins s σ H Q I
  ⟨F, ρ, M, _, Xd, g, sl, t, fun v H' F' d M' sm g' r ⟨i, e1, q⟩ => by subst e1; exact ⟨i, r.toInt, p _ _ _ _ sm g' q⟩, w⟩⟩⟩
def cutD (xs : List D) (lo hi : Option Int) : List D := (xs.drop (HT.sIx xs.length 0 lo)).take (HT.sIx xs.length xs.length hi - HT.sIx xs.length 0 lo)
def slD : D -> Option Int -> Option Int -> Option D
  | .lst xs, lo, hi => some (.lst (cutD xs lo hi))
  | .tup xs, lo, hi => some (.tup (cutD xs lo hi))
  | .str z, lo, hi => if z.length <= sizeLine then some (.str (cutS z lo hi)) else none
  | _, _, _ => none
theorem reps_cut {F : Hp} {vs : List V} {ds : List D} (r : Reps K cl F vs ds) (lo hi : Option Int) : Reps K cl F (cutV vs lo hi) (cutD ds lo hi) := by
  unfold cutV cutD
  rw [r.length]
  exact (r.drop _).take _
theorem cutD_whole {xs : List D} {lo hi : Option Int} (h : HT.sIx xs.length 0 lo = 0 /\ HT.sIx xs.length xs.length hi = xs.length) : cutD xs lo hi = xs := by
  unfold cutD
  rw [h.1, h.2]
  simp
theorem d_slice {lo hi : Option Expr} {τl τh : DTO} {p2 : Pos} (he : DE cl X W e τ) (hl : DO cl X W lo τl) (hu : DO cl X W hi τh) : DE cl X W (.Subscript e (.Slice lo hi none p2) pos) (dSl slD τ τl τh) :=
  ⟨pe_imp (pe_slice (sl_list.or (sl_tupA.or sl_str)) he.pe hl.po hu.po) fun σ H Q ⟨F, ρ, M, Qd, Xd, g, s, t, p, w⟩ =>
    ⟨F, ρ, M, _, Xd, g, s, t, fun v H1 F1 d M1 sm1 g1 r1 q1 => ⟨F1, ρ, M1, _, Xd, g1, s.mono sm1, q1, fun l H2 F2 M2 sm2 g2 q2 => ⟨F2, ρ, M2, _, Xd, g2, s.mono (sm1.trans sm2), q2, fun h H3 F3 M3 sm3 g3 q3 => (by
      obtain ⟨z, e1, e2⟩ := q3
      have hv := vw_ok g3 (r1.mono (sm2.trans sm3))
      have p' := p.mono ((sm1.trans sm2).trans sm3)
      cases hd : vw M3 d with
      | lst ds =>
        rw [hd] at hv e1
        cases e1
        obtain ⟨a, vs, rfl, h1, h2⟩ := hv.lst g3.sub
        exact .inl ⟨a, vs, rfl, h1, fun c hc => p'.newL g3 (reps_cut h2 l h) e2 hc⟩
      | tup ds =>
        rw [hd] at hv e1
        cases e1
        rcases hv with hv | ⟨_, _, hv⟩
        · obtain ⟨a, vs, rfl, h1, h2⟩ := hv.toTup
          refine .inr (.inl ⟨a, vs, rfl, same_t g3.sub h1, fun hw => ?_, fun _ c hc => p'.newT g3 (reps_cut h2 l h) e2 hc⟩)
          rw [h2.length] at hw
          rw [cutD_whole hw] at e2
          exact p'.val g3 hv e2
        · exact hv.elim
      | str w =>
        rw [hd] at hv e1
        simp only [slD] at e1
        split at e1
        · cases e1
          exact .inr (.inr ⟨w, hv.str, by assumption, p'.val g3 (.str _) e2⟩)
        · cases e1
      | _ =>
        rw [hd] at e1
        cases e1), w.mono (sm1.trans sm2)⟩, w.mono sm1⟩, w⟩⟩
end
end DL
set_option Elab.async false
set_option linter.all false
set_option maxRecDepth 100000
set_option maxHeartbeats 2000000
namespace DL
open PySem L2
@[simp] def dNext : DTS := fun E ρ M => E.nx ρ M
@[simp] def dSeq (t u : DTS) : DTS := fun E ρ M => t { E with nx := u E } ρ M
@[simp] def dIf (υ : DTT) (t u : DTS) : DTS := fun E ρ M => υ ρ M (fun b M1 => if b = true then t E ρ M1 else u E ρ M1) E.ex
@[simp] def dRet (τ : DTE) : DTS := fun E ρ M => τ ρ M E.rt E.ex
@[simp] def dRetN : DTS := fun E _ M => E.rt .non M
@[simp] def dDrop (τ : DTE) : DTS := fun E ρ M => τ ρ M (fun _ M1 => E.nx ρ M1) E.ex
@[simp] def dBrk : DTS := fun E ρ M => E.bk ρ M
@[simp] def dCnt : DTS := fun E ρ M => E.ct ρ M
@[simp] def dNever : DTS := fun _ _ _ => False
abbrev DTG := D -> Env -> Mem -> (Env -> Mem -> Prop) -> DX -> Prop
abbrev DTGs := List D -> Env -> Mem -> (Env -> Mem -> Prop) -> DX -> Prop
@[simp] def gN (i : Nat) : DTG := fun d ρ M Q _ => Q (ρ.set i (some d)) M
@[simp] def gsNil : DTGs := fun ds ρ M Q _ => ds = [] /\ Q ρ M
@[simp] def gsCons (γ : DTG) (γs : DTGs) : DTGs := fun ds ρ M Q X => ∃ d r, ds = d :: r /\ γ d ρ M (fun ρ1 M1 => γs r ρ1 M1 Q X) X
@[simp] def gT (n : Nat) (γs : DTGs) : DTG := fun d ρ M Q X => ∃ ds, (vw M d = .tup ds \/ vw M d = .lst ds) /\ ds.length = n /\ γs ds ρ M Q X
@[simp] def gSubL (τo τi : DTE) : DTG := fun d ρ M Q X => τo ρ M (fun o M1 => τi ρ M1 (fun i M2 => ∃ a xs k j, o = .ref a /\ M2 a = some (.lst xs) /\ i = .int k /\ ixN xs.length k = some j /\ Q ρ (updM M2 a (.lst (xs.set j d)))) X) X
@[simp] def dAsg (τ : DTE) (γ : DTG) : DTS := fun E ρ M => τ ρ M (fun d M1 => γ d ρ M1 E.nx E.ex) E.ex
@[simp] def dPar (i j : Nat) (α : DTA) : DTS := fun E ρ M => α ρ M (fun ds M1 => ∃ d e, ds = [d, e] /\ E.nx ((ρ.set i (some d)).set j (some e)) M1) E.ex
@[simp] def dPar3 (i j l : Nat) (α : DTA) : DTS := fun E ρ M => α ρ M (fun ds M1 => ∃ d e f, ds = [d, e, f] /\ E.nx (((ρ.set i (some d)).set j (some e)).set l (some f)) M1) E.ex
@[simp] def dAug (i : Nat) (f : D -> D -> Option D) (τ : DTE) : DTS := fun E ρ M => ∃ d, ρ[i]? = some (some d) /\ τ ρ M (fun e M1 => ∃ z, f d (vw M1 e) = some z /\ E.nx (ρ.set i (some z)) M1) E.ex
@[simp] def augI : D -> D -> Option D
  | .int i, .int j => some (.int (i + j))
  | _, _ => none
def forD (γ : DTG) (t : DTS) : List D -> DTS
  | [] => fun E ρ M => E.nx ρ M
  | x :: xs => fun E ρ M => γ x ρ M (fun ρ2 M2 => t { E with nx := forD γ t xs E, ct := forD γ t xs E, bk := E.nx } ρ2 M2) E.ex
abbrev DTI := Env -> Mem -> (List D -> Mem -> Prop) -> DX -> Prop
def dFor (ι : DTI) (γ : DTG) (t : DTS) : DTS := fun E ρ M => ι ρ M (fun xs M1 => forD γ t xs E ρ M1) E.ex
def noX : DX := fun _ _ _ _ _ => False
@[simp] def wipeD (ρ : Env) : List Nat -> Env
  | [] => ρ
  | v :: vs => (wipeD ρ vs).set v none
def lcD (γ : DTG) (υ : DTT) (τ : DTE) (vs : List Nat) (a : Addr) : List D -> Env -> Mem -> DV -> Prop
  | [] => fun _ M Q => ∃ ds, M a = some (.lst ds) /\ Q (.lst ds) (delM M a)
  | x :: xs => fun ρ M Q => γ x (wipeD ρ vs) M (fun ρ2 M2 => υ ρ2 M2 (fun b M3 => if b = true then τ ρ2 M3 (fun d M4 => ∃ acc, M4 a = some (.lst acc) /\ acc.length < sizeLine /\ lcD γ υ τ vs a xs ρ (updM M4 a (.lst (acc ++ [d]))) Q) noX else lcD γ υ τ vs a xs ρ M3 Q) noX) noX
def dLc (ι : DTI) (γ : DTG) (υ : DTT) (τ : DTE) (vs : List Nat) : DTE := fun ρ M Q X => ι ρ M (fun xs M1 => ∀ a, M1 a = none -> lcD γ υ τ vs a xs ρ (updM M1 a (.lst [])) Q) X
@[simp] def dYes : DTT := fun _ M Q _ => Q true M
section
variable {cl : ClW} {X : Cx} {W : WX} {a b e c : Expr} {es : List Expr} {st : Stmt} {sts sts' : List Stmt} {pos : Pos} {τ τa τb τc : DTE} {υ : DTT} {α : DTA} {t u : DTS}
theorem dss_nil : DSs cl X W [] dNext := ⟨pss_imp pss_nil fun D σ H ⟨F, ρ, M, E, g, s, q, ok⟩ => ok.nx σ H F ρ M (Same.refl F) g s q⟩
theorem dss_cons (h1 : DS cl X W st t) (h2 : DSs cl X W sts u) : DSs cl X W (st :: sts) (dSeq t u) := ⟨pss_imp (pss_cons h1.ps h2.pss) fun D σ H ⟨F, ρ, M, E, g, s, q, ok⟩ =>
  ⟨F, ρ, M, { E with nx := u E }, g, s, q, ⟨fun σ' H' F' ρ' M' sm g' s' q' => ⟨F', ρ', M', E, g', s', q', ok.mono sm⟩, ok.rt, ok.bk, ok.ct, ok.ex⟩⟩⟩
theorem dss_one (h1 : DS cl X W st t) : DSs cl X W [st] t := ⟨pss_one h1.ps⟩
theorem ds_if (h : DT cl X W c υ) (h1 : DSs cl X W sts t) (h2 : DSs cl X W sts' u) : DS cl X W (.If c sts sts' pos) (dIf υ t u) := ⟨ps_imp (ps_if h.pt h1.pss h2.pss) fun D σ H ⟨F, ρ, M, E, g, s, q, ok⟩ =>
  ⟨F, ρ, M, _, E.ex, g, s, q, fun k H' F' M' sm g' q' => by
    cases k with
    | true => rw [if_pos rfl] at q' ⊢; exact ⟨F', ρ, M', E, g', s.mono sm, q', ok.mono sm⟩
    | false => rw [if_neg Bool.false_ne_true] at q' ⊢; exact ⟨F', ρ, M', E, g', s.mono sm, q', ok.mono sm⟩, ok.ex⟩⟩
theorem ds_ret (h : DE cl X W e τ) : DS cl X W (.Return (some e) pos) (dRet τ) := ⟨ps_imp (ps_ret h.pe) fun D σ H ⟨F, ρ, M, E, g, s, q, ok⟩ => ⟨F, ρ, M, _, E.ex, g, s, q, ok.rt, ok.ex⟩⟩
theorem ds_retN : DS cl X W (.Return none pos) dRetN := ⟨ps_imp ps_retN fun D σ H ⟨F, ρ, M, E, g, s, q, ok⟩ => ok.rt.val g .non q⟩
theorem ds_expr (h : DE cl X W e τ) (hs : swapsWith e none pos.line X.env = pure false := by rfl) : DS cl X W (.Expr e pos) (dDrop τ) := ⟨ps_imp (ps_expr h.pe hs) fun D σ H ⟨F, ρ, M, E, g, s, q, ok⟩ =>
  ⟨F, ρ, M, _, E.ex, g, s, q, fun v H' F' d M' sm g' r q' => ok.nx _ _ _ _ _ sm g' (s.mono sm) q', ok.ex⟩⟩
structure DG (cl : ClW) (X : Cx) (W : WX) (tg : Expr) (is : List Nat) (γ : DTG) : Prop where
  pg : PG X tg (fun v σ H Q => ∃ F ρ M d Qd Xd, Good X.K cl F H M /\ Slots X.K cl F σ ρ /\ Rep X.K cl F v d /\ γ d ρ M Qd Xd /\ (∀ σ' H' F' ρ' M', Same F F' -> Good X.K cl F' H' M' -> Slots X.K cl F' σ' ρ' -> (∀ vs : List Nat, (∀ i ∈ is, i ∈ vs) -> wipe σ' vs = wipe σ vs) -> Qd ρ' M' -> Q σ' H') /\ WOk X.K cl W F Xd)
structure DGs (cl : ClW) (X : Cx) (W : WX) (tgs : List Expr) (is : List Nat) (γs : DTGs) : Prop where
  pgs : PGs X tgs (fun vs σ H Q => ∃ F ρ M ds Qd Xd, Good X.K cl F H M /\ Slots X.K cl F σ ρ /\ Reps X.K cl F vs ds /\ γs ds ρ M Qd Xd /\ (∀ σ' H' F' ρ' M', Same F F' -> Good X.K cl F' H' M' -> Slots X.K cl F' σ' ρ' -> (∀ vs : List Nat, (∀ i ∈ is, i ∈ vs) -> wipe σ' vs = wipe σ vs) -> Qd ρ' M' -> Q σ' H') /\ WOk X.K cl W F Xd)
theorem pg_imp {tg : Expr} {t t' : TG} (h : PG X tg t) (i : ∀ v σ H Q, t' v σ H Q -> t v σ H Q) : PG X tg t' := ⟨fun pins s σ H v u Q I r q => h.run pins s σ H v u Q I r (i v σ H Q q)⟩
theorem pgs_imp {tg : List Expr} {t t' : TGs} (h : PGs X tg t) (i : ∀ v σ H Q, t' v σ H Q -> t v σ H Q) : PGs X tg t' := ⟨fun pins s σ H v u Q I r q => h.run pins s σ H v u Q I r (i v σ H Q q)⟩
theorem wipe_set {σ : St} {i : Nat} {x : Option V} : ∀ {vs : List Nat}, i ∈ vs -> wipe (σ.set i x) vs = wipe σ vs
  | v :: vs, h => by
    unfold wipe
    by_cases e : i ∈ vs
    · rw [wipe_set e]
    · have e2 : i = v := by
        rcases List.mem_cons.mp h with h | h
        · exact h
        · exact absurd h e
      subst e2
      have : ∀ (vs : List Nat), i ∉ vs -> wipe (σ.set i x) vs = (wipe σ vs).set i x := by
        intro vs
        induction vs with
        | nil => intro _; rfl
        | cons w ws ih =>
          intro hn
          have h1 : i ≠ w := fun z => hn (z ▸ List.mem_cons_self)
          have h2 : i ∉ ws := fun z => hn (List.mem_cons_of_mem _ z)
          show (wipe (σ.set i x) ws).set w none = ((wipe σ ws).set w none).set i x
          rw [ih h2, List.set_comm _ _ h1]
      rw [this vs e, List.set_set]
theorem dg_name {x : Str} (i : Nat) (hN : X.N.Nodup) (hi : X.N[i]? = some x := by rfl) (hx : Loc X.env.scope x := by first | exact Or.inl rfl | exact Or.inr rfl) (hf : X.fn x = true \/ X.env.scope.names.lookup x = some .local := by first | exact .inl rfl | exact .inr rfl) : DG cl X W (.Name x pos) [i] (gN i) :=
  ⟨pg_imp (pg_name hN hi hx hf) fun v σ H Q ⟨F, ρ, M, d, Qd, Xd, g, s, r, q, p, w⟩ => p _ _ F _ M (Same.refl F) g (s.set i r) (fun vs h => wipe_set (h i (List.mem_singleton.mpr rfl))) q⟩
theorem dgs_nil : DGs cl X W [] [] gsNil := ⟨pgs_imp pgs_nil fun v σ H Q ⟨F, ρ, M, d, Qd, Xd, g, s, r, ⟨e1, q⟩, p, w⟩ => by
  subst e1
  exact ⟨r.inv0, p _ _ F _ M (Same.refl F) g s (fun _ _ => rfl) q⟩⟩
theorem dgs_cons {tgs : List Expr} {is js : List Nat} {γ : DTG} {γs : DTGs} (h1 : DG cl X W e is γ) (h2 : DGs cl X W tgs js γs) (hs : (assignEach (e :: tgs) X.env).map (·.2) = assign e X.env :: (assignEach tgs X.env).map (·.2) := by rfl) : DGs cl X W (e :: tgs) (is ++ js) (gsCons γ γs) :=
  ⟨pgs_imp (pgs_cons h1.pg h2.pgs hs) fun vs σ H Q ⟨F, ρ, M, ds, Qd, Xd, g, s, r, ⟨d, rest, e1, q⟩, p, w⟩ => by
    subst e1
    obtain ⟨v, ws, rfl, r1, r2⟩ := r.inv
    refine ⟨v, ws, rfl, F, ρ, M, d, _, Xd, g, s, r1, q, fun σ1 H1 F1 ρ1 M1 sm1 g1 s1 w1 q1 => ?_, w⟩
    refine ⟨F1, ρ1, M1, rest, Qd, Xd, g1, s1, r2.mono sm1, q1, fun σ2 H2 F2 ρ2 M2 sm2 g2 s2 w2 q2 => ?_, w.mono sm1⟩
    exact p _ _ _ _ _ (sm1.trans sm2) g2 s2 (fun vs hv => (w2 vs fun i hi => hv i (List.mem_append_right _ hi)).trans (w1 vs fun i hi => hv i (List.mem_append_left _ hi))) q2⟩
def gTL (K : PySem.W.Frag) (n : Nat) (t : TGs) : TG := fun v σ H Q => gTup K n t v σ H Q \/ gLst K n t v σ H Q
theorem pg_tl {k : Nat} {t : TGs} {n : Nat} (hc : X.calm = true) (h : PGs X es t) (hn : (assignEach es X.env).length = n := by rfl) (hst : (assignEach es X.env).findIdx? (·.1) = none := by rfl) : PG X (.Tuple es k pos) (gTL X.K n t) :=
  ⟨fun pins s σ H v u Q I r q => q.elim (fun q => (pg_tup hc h hn hst).run pins s σ H v u Q I r q) fun q => (pg_lst hc h hn hst).run pins s σ H v u Q I r q⟩
theorem dg_tup {k n : Nat} {is : List Nat} {γs : DTGs} (hc : X.calm = true) (h : DGs cl X W es is γs) (hn : (assignEach es X.env).length = n := by rfl) (hst : (assignEach es X.env).findIdx? (·.1) = none := by rfl) : DG cl X W (.Tuple es k pos) is (gT n γs) :=
  ⟨pg_imp (pg_tl hc h.pgs hn hst) fun v σ H Q ⟨F, ρ, M, d, Qd, Xd, g, s, r, ⟨ds, e1, e2, q⟩, p, w⟩ => by
    have hv := vw_ok g r
    rcases e1 with e1 | e1
    · rw [e1] at hv
      obtain ⟨a, vs, rfl, h1, h2⟩ := hv.tup g.sub
      exact .inl ⟨a, vs, rfl, h1, by rw [h2.length]; exact e2, F, ρ, M, ds, Qd, Xd, g, s, h2, q, p, w⟩
    · rw [e1] at hv
      obtain ⟨a, vs, rfl, h1, h2⟩ := hv.lst g.sub
      exact .inr ⟨a, vs, rfl, h1, by rw [h2.length]; exact e2, F, ρ, M, ds, Qd, Xd, g, s, h2, q, p, w⟩⟩
theorem dg_subL {o i : Expr} {τo τi : DTE} (ho : DE cl X W o τo) (hi : DE cl X W i τi) (ha : ∀ v, assign (.Subscript o i pos) X.env v = (do
      let ov <- holding [v] (eval o X.env)
      let iv <- holding [v, ov] (eval i X.env)
      standAt pos
      holding [v, ov, iv] (setItem ov iv v)
      release [v, ov, iv] []) := by intro _; rfl) : DG cl X W (.Subscript o i pos) [] (gSubL τo τi) :=
  ⟨pg_imp (pg_sub ho.pe hi.pe set_list ha) fun v σ H Q ⟨F, ρ, M, d, Qd, Xd, g, s, r, q, p, w⟩ =>
    ⟨F, ρ, M, _, Xd, g, s, q, fun x H1 F1 od M1 sm1 g1 r1 q1 => ⟨F1, ρ, M1, _, Xd, g1, s.mono sm1, q1, fun y H2 F2 jd M2 sm2 g2 r2 q2 => (by
      obtain ⟨a, xs, k, j, e1, e2, e3, e4, e5⟩ := q2
      subst e1 e3
      obtain rfl := r1.toRef
      obtain rfl := r2.toInt
      obtain ⟨hF, vs, h1, h2⟩ := g2.cell a _ e2
      refine ⟨a, vs, k, j, rfl, rfl, h1, by rw [h2.length]; exact e4, ?_⟩
      exact p _ _ F2 ρ _ (sm1.trans sm2) (g2.put (d := .lst (xs.set j d)) e2 ⟨vs.set j v, upd_same, h2.set (r.mono (sm1.trans sm2)) j⟩) (s.mono (sm1.trans sm2)) (fun _ _ => rfl) e5), w.mono sm1⟩, w⟩⟩
theorem ds_asg {tg : Expr} {is : List Nat} {γ : DTG} (he : DE cl X W e τ) (hg : DG cl X W tg is γ) (hs : swapsWithSole [tg] e pos.line X.env = pure false := by rfl) (hw : swappedStores [tg] e X.env = pure none := by rfl)
    (h1 : (assignEach [tg] X.env).map (·.2) = [assign tg X.env] := by rfl) : DS cl X W (.Assign [tg] e pos) (dAsg τ γ) := ⟨ps_imp (ps_asg he.pe hg.pg hs hw h1) fun D σ H ⟨F, ρ, M, E, g, s, q, ok⟩ =>
  ⟨F, ρ, M, _, E.ex, g, s, q, fun v H' F' d M' sm g' r q' => ⟨F', ρ, M', d, E.nx, E.ex, g', s.mono sm, r, q', fun σ2 H2 F2 ρ2 M2 sm2 g2 s2 _ q2 => ok.nx _ _ _ _ _ (sm.trans sm2) g2 s2 q2, ok.ex.mono sm⟩, ok.ex⟩⟩
theorem ds_set {x : Str} {pos' : Pos} (i : Nat) (hN : X.N.Nodup) (he : DE cl X W e τ) (hi : X.N[i]? = some x := by rfl) (hx : Loc X.env.scope x := by first | exact Or.inl rfl | exact Or.inr rfl) (hs : swapsWith e (some (.Name x pos')) pos.line X.env = pure false := by rfl) (hf : X.fn x = true \/ X.env.scope.names.lookup x = some .local := by first | exact .inl rfl | exact .inr rfl) :
    DS cl X W (.Assign [.Name x pos'] e pos) (dAsg τ (gN i)) := ⟨ps_imp (ps_set hN hi hx he.pe hs hf) fun D σ H ⟨F, ρ, M, E, g, s, q, ok⟩ =>
  ⟨F, ρ, M, _, E.ex, g, s, q, fun v H' F' d M' sm g' r q' => ok.nx _ _ _ _ _ sm g' ((s.mono sm).set i r) q', ok.ex⟩⟩
theorem ds_par {i j : Nat} {x y : Str} {px py pt : Pos} {kt k2 pt2} (hc : X.calm = true) (hN : X.N.Nodup) (ha : DA cl X W [a, b] α) (hi : X.N[i]? = some x := by rfl) (hj : X.N[j]? = some y := by rfl) (hij : i ≠ j := by decide)
    (hx : X.env.scope.names.lookup x = some .local := by rfl) (hy : X.env.scope.names.lookup y = some .local := by rfl)
    (hw : swappedStores [.Tuple [.Name x px, .Name y py] kt pt] (.Tuple [a, b] k2 pt2) X.env = pure (some [x, y]) := by rfl)
    (hs : swapsWithSole [.Tuple [.Name x px, .Name y py] kt pt] (.Tuple [a, b] k2 pt2) pos.line X.env = pure false := by rfl) :
    DS cl X W (.Assign [.Tuple [.Name x px, .Name y py] kt pt] (.Tuple [a, b] k2 pt2) pos) (dPar i j α) := ⟨ps_imp (ps_par hc hN hi hj hij hx hy ha.pa hw hs) fun D σ H ⟨F, ρ, M, E, g, s, q, ok⟩ =>
  ⟨F, ρ, M, _, E.ex, g, s, q, fun vs H' F' ds M' sm g' r q' => by
    obtain ⟨d, e, e1, q'⟩ := q'
    subst e1
    obtain ⟨v, ws, rfl, r1, r2⟩ := r.inv
    obtain ⟨v2, ws, rfl, r3, r4⟩ := r2.inv
    obtain rfl := r4.inv0
    exact ⟨v, v2, rfl, ok.nx _ _ _ _ _ sm g' (((s.mono sm).set i r1).set j r3) q'⟩, ok.ex⟩⟩
theorem ds_par3 {i j l : Nat} {x y z : Str} {px py pz pt : Pos} {kt k2 pt2} (hc : X.calm = true) (hN : X.N.Nodup) (ha : DA cl X W [a, b, c] α) (hi : X.N[i]? = some x := by rfl) (hj : X.N[j]? = some y := by rfl) (hl : X.N[l]? = some z := by rfl) (hij : i ≠ j := by decide) (hil : i ≠ l := by decide) (hjl : j ≠ l := by decide)
    (hx : X.env.scope.names.lookup x = some .local := by rfl) (hy : X.env.scope.names.lookup y = some .local := by rfl) (hz : X.env.scope.names.lookup z = some .local := by rfl)
    (hw : swappedStores [.Tuple [.Name x px, .Name y py, .Name z pz] kt pt] (.Tuple [a, b, c] k2 pt2) X.env = pure (some [x, y, z]) := by rfl)
    (hs : swapsWithSole [.Tuple [.Name x px, .Name y py, .Name z pz] kt pt] (.Tuple [a, b, c] k2 pt2) pos.line X.env = pure false := by rfl) :
    DS cl X W (.Assign [.Tuple [.Name x px, .Name y py, .Name z pz] kt pt] (.Tuple [a, b, c] k2 pt2) pos) (dPar3 i j l α) := ⟨ps_imp (ps_par3 hc hN hi hj hl hij hil hjl hx hy hz ha.pa hw hs) fun D σ H ⟨F, ρ, M, E, g, s, q, ok⟩ =>
  ⟨F, ρ, M, _, E.ex, g, s, q, fun vs H' F' ds M' sm g' r q' => by
    obtain ⟨d, e, f, e1, q'⟩ := q'
    subst e1
    obtain ⟨v, ws, rfl, r1, r2⟩ := r.inv
    obtain ⟨v2, ws, rfl, r3, r4⟩ := r2.inv
    obtain ⟨v3, ws, rfl, r5, r6⟩ := r4.inv
    obtain rfl := r6.inv0
    exact ⟨v, v2, v3, rfl, ok.nx _ _ _ _ _ sm g' ((((s.mono sm).set i r1).set j r3).set l r5) q'⟩, ok.ex⟩⟩
def Walks (K : PySem.W.Frag) (cl : ClW) (J : It) (F : Hp) (xs : List D) : Prop := ∀ i F' H' M', Same F F' -> Good K cl F' H' M' ->
  (∀ d, xs[i]? = some d -> J.go i H' /\ ∀ x H3, J.yld i H' x H3 -> ∃ F3, Same F' F3 /\ Good K cl F3 H3 M' /\ Rep K cl F3 x d) /\ (xs.length <= i -> J.stop i H')
structure DI (cl : ClW) (X : Cx) (W : WX) (tg iter : Expr) (ι : DTI) : Prop where
  pi : PI X tg iter (fun σ H R => ∃ F ρ M Rd Xd, Good X.K cl F H M /\ Slots X.K cl F σ ρ /\ ι ρ M Rd Xd /\ (∀ J H' F' xs M', Same F F' -> Good X.K cl F' H' M' -> Walks X.K cl J F' xs -> Rd xs M' -> R J H') /\ WOk X.K cl W F Xd)
theorem pi_imp {tg it : Expr} {t t' : TI} (h : PI X tg it t) (i : ∀ σ H R, t' σ H R -> t σ H R) : PI X tg it t' := ⟨fun pins s σ H R I q => h.run pins s σ H R I (i σ H R q)⟩
@[simp] def iL (τ : DTE) : DTI := fun ρ M R X => τ ρ M (fun d M1 => ∃ xs, d = .lst xs /\ R xs M1) X
@[simp] def iT (τ : DTE) : DTI := fun ρ M R X => τ ρ M (fun d M1 => ∃ xs, d = .tup xs /\ R xs M1) X
@[simp] def iR1 (τ : DTE) : DTI := fun ρ M R X => τ ρ M (fun d M1 => ∃ n, d = .int n /\ -(2 ^ 62) <= n /\ n < 2 ^ 62 /\ R ((List.range n.toNat).map fun (i : Nat) => D.int (i : Int)) M1) X
@[simp] def iR2 (τ τ' : DTE) : DTI := fun ρ M R X => τ ρ M (fun d M1 => τ' ρ M1 (fun e M2 => ∃ l n, d = .int l /\ e = .int n /\ (-(2 ^ 62) <= l /\ l < 2 ^ 62 /\ -(2 ^ 62) <= n /\ n < 2 ^ 62) /\ R ((List.range (n - l).toNat).map fun (i : Nat) => D.int (l + (i : Int))) M2) X) X
theorem walks_range {K : PySem.W.Frag} {F : Hp} (l : Int) (n : Nat) : Walks K cl (Itr l n) F ((List.range n).map fun (i : Nat) => D.int (l + (i : Int))) := fun i F2 H2 M2 sm2 g2 => by
  refine ⟨fun d hd => ?_, fun hl => (show n <= i by simpa using hl)⟩
  rw [List.getElem?_map] at hd
  cases e : (List.range n)[i]? with
  | none => rw [e] at hd; cases hd
  | some j =>
    obtain ⟨hj, ej⟩ := List.getElem?_eq_some_iff.mp e
    rw [List.getElem_range] at ej
    subst ej
    rw [e] at hd
    cases hd
    refine ⟨(show i < n by simpa using hj), fun x H3 ⟨e1, e2⟩ => ?_⟩
    subst e1 e2
    exact ⟨F2, Same.refl F2, g2, .int _⟩
theorem di_range1 {tg : Expr} {p : Pos} (hg : Gl X "range") (hm : X.mg "range" = none) (ha : DE cl X W a τa) (hs : starEach [a] X.env = [(false, eval a X.env)] := by rfl) : DI cl X W tg (.Call (.Name "range" p) [a] [] pos) (iR1 τa) :=
  ⟨pi_imp (pi_range1 hg hm (da_cons (W := W) (cl := cl) ha da_nil hs).pa hs) fun σ H R ⟨F, ρ, M, Rd, Xd, g, s, q, p, w⟩ =>
    ⟨F, ρ, M, fun ds M1 => ∃ n : Int, ds = [.int n] /\ -(2 ^ 62) <= n /\ n < 2 ^ 62 /\ Rd ((List.range n.toNat).map fun (i : Nat) => D.int (i : Int)) M1, Xd, g, s, (by
      unfold iR1 at q
      unfold dCons dNil
      have mono : (fun d M1 => ∃ n, d = D.int n /\ -(2 ^ 62) <= n /\ n < 2 ^ 62 /\ Rd ((List.range n.toNat).map fun (i : Nat) => D.int (i : Int)) M1) = (fun d M1 => ∃ n : Int, [d] = [.int n] /\ -(2 ^ 62) <= n /\ n < 2 ^ 62 /\ Rd ((List.range n.toNat).map fun (i : Nat) => D.int (i : Int)) M1) := by
        funext d M1
        simp
      rw [mono] at q
      exact q), fun vs H' F' ds M' sm g' r ⟨n, e1, b1, b2, q'⟩ => by
      subst e1
      obtain ⟨v, ws, rfl, r1, r2⟩ := r.inv
      obtain rfl := r2.inv0
      obtain rfl := r1.toInt
      refine ⟨n, rfl, b1, b2, p _ _ F' _ M' sm g' (walks_range 0 n.toNat) ?_⟩
      simpa using q', w⟩⟩
theorem di_range2 {tg : Expr} {p : Pos} (hg : Gl X "range") (hm : X.mg "range" = none) (ha : DE cl X W a τa) (hb : DE cl X W b τb) (hs : starEach [a, b] X.env = [(false, eval a X.env), (false, eval b X.env)] := by rfl) (hs2 : starEach [b] X.env = [(false, eval b X.env)] := by rfl) : DI cl X W tg (.Call (.Name "range" p) [a, b] [] pos) (iR2 τa τb) :=
  ⟨pi_imp (pi_range2 hg hm (da_cons (W := W) (cl := cl) ha (da_cons hb da_nil hs2) (by rw [hs, hs2])).pa hs hs2) fun σ H R ⟨F, ρ, M, Rd, Xd, g, s, q, p, w⟩ =>
    ⟨F, ρ, M, fun ds M1 => ∃ l n : Int, ds = [.int l, .int n] /\ (-(2 ^ 62) <= l /\ l < 2 ^ 62 /\ -(2 ^ 62) <= n /\ n < 2 ^ 62) /\ Rd ((List.range (n - l).toNat).map fun (i : Nat) => D.int (l + (i : Int))) M1, Xd, g, s, (by
      unfold iR2 at q
      unfold dCons dNil
      have mono : (fun d M1 => τb ρ M1 (fun e M2 => ∃ l n, d = D.int l /\ e = D.int n /\ (-(2 ^ 62) <= l /\ l < 2 ^ 62 /\ -(2 ^ 62) <= n /\ n < 2 ^ 62) /\ Rd ((List.range (n - l).toNat).map fun (i : Nat) => D.int (l + (i : Int))) M2) Xd) = (fun d M1 => τb ρ M1 (fun e M2 => ∃ l n : Int, [d, e] = [.int l, .int n] /\ (-(2 ^ 62) <= l /\ l < 2 ^ 62 /\ -(2 ^ 62) <= n /\ n < 2 ^ 62) /\ Rd ((List.range (n - l).toNat).map fun (i : Nat) => D.int (l + (i : Int))) M2) Xd) := by
        funext d M1
        congr 1
        funext e M2
        simp [and_assoc]
      rw [mono] at q
      exact q), fun vs H' F' ds M' sm g' r ⟨l, n, e1, b1, q'⟩ => by
      subst e1
      obtain ⟨v, ws, rfl, r1, r2⟩ := r.inv
      obtain ⟨v2, ws, rfl, r3, r4⟩ := r2.inv
      obtain rfl := r4.inv0
      obtain rfl := r1.toInt
      obtain rfl := r3.toInt
      exact ⟨l, n, rfl, b1, p _ _ F' _ M' sm g' (walks_range l (n - l).toNat) q'⟩, w⟩⟩
theorem ds_for {tg iter : Expr} {is : List Nat} {ι : DTI} {γ : DTG} (hp : PassesOwn (model X.prog X.w) X.A X.env X.xe) (hc : X.calm = true) (hi : DI cl X W tg iter ι) (hg : DG cl X W tg is γ) (hb : DSs cl X W sts t) (hs : ∀ x, foldedSetIterable iter X.env x = pure x := by intro _; rfl) :
    DS cl X W (.For tg iter sts [] pos) (dFor ι γ t) := ⟨ps_imp (ps_for hp hc hi.pi hg.pg hb.pss hs) fun D σ H ⟨F, ρ, M, E, g, s, q, ok⟩ => by
  refine ⟨F, ρ, M, _, E.ex, g, s, q, fun J H1 F1 xs M1 sm1 g1 wk q1 => ?_, ok.ex⟩
  refine ⟨fun i m σ H => m = xs.length - i /\ i <= xs.length /\ ∃ F' ρ M, Same F1 F' /\ Good X.K cl F' H M /\ Slots X.K cl F' σ ρ /\ forD γ t (xs.drop i) E ρ M, ⟨xs.length, by simp, Nat.zero_le _, F1, ρ, M1, Same.refl F1, g1, s.mono sm1, by simpa using q1⟩, ?_⟩
  rintro i m σ2 H2 ⟨rfl, hi, F2, ρ2, M2, sm2, g2, s2, q2⟩
  have ok2 := ok.mono (sm1.trans sm2)
  by_cases hlt : i < xs.length
  · obtain ⟨go, yl⟩ := (wk i F2 H2 M2 sm2 g2).1 xs[i] (by simp [hlt])
    rw [List.drop_eq_getElem_cons hlt] at q2
    refine .inr ⟨go, fun σ' H' => ∃ F' ρ' M', Same F1 F' /\ Good X.K cl F' H' M' /\ Slots X.K cl F' σ' ρ' /\ forD γ t (xs.drop (i + 1)) E ρ' M', fun σ' H' n => ⟨xs.length - (i + 1), by omega, rfl, hlt, n⟩, fun x H3 y => ?_⟩
    obtain ⟨F3, sm3, g3, r3⟩ := yl x H3 y
    refine ⟨F3, ρ2, M2, xs[i], _, E.ex, g3, s2.mono sm3, r3, q2, fun σ4 H4 F4 ρ4 M4 sm4 g4 s4 _ q4 => ?_, ok2.ex.mono sm3⟩
    have ok4 := ok2.mono (sm3.trans sm4)
    exact ⟨F4, ρ4, M4, _, g4, s4, q4, ⟨fun σ' H' F' ρ' M' sm' g' s' q' => ⟨F', ρ', M', ((sm2.trans sm3).trans sm4).trans sm', g', s', q'⟩, ok4.rt, ok4.nx, fun σ' H' F' ρ' M' sm' g' s' q' => ⟨F', ρ', M', ((sm2.trans sm3).trans sm4).trans sm', g', s', q'⟩, ok4.ex⟩⟩
  · have e : i = xs.length := by omega
    subst e
    rw [List.drop_length] at q2
    exact .inl ⟨(wk _ F2 H2 M2 sm2 g2).2 (Nat.le_refl _), ok2.nx _ _ F2 ρ2 M2 (Same.refl F2) g2 s2 q2⟩⟩
end
end DL
set_option Elab.async false
set_option linter.all false
set_option maxRecDepth 100000
set_option maxHeartbeats 2000000
namespace DL
open PySem L2
abbrev W0 : WX := fun _ _ _ _ => False
theorem wok0 {K : PySem.W.Frag} {cl : ClW} {F : Hp} : WOk K cl W0 F noX := fun _ _ _ _ _ _ _ _ _ _ _ _ _ h => h
theorem wipe_idem (σ : St) : ∀ vs : List Nat, ∀ ws : List Nat, (∀ v ∈ vs, v ∈ ws) -> wipe (wipe σ vs) ws = wipe σ ws
  | [], ws, _ => rfl
  | v :: vs, ws, h => by
    show wipe ((wipe σ vs).set v none) ws = wipe σ ws
    rw [wipe_set (h v List.mem_cons_self), wipe_idem σ vs ws fun x hx => h x (List.mem_cons_of_mem _ hx)]
theorem Slots.wipe {K : PySem.W.Frag} {cl : ClW} {F : Hp} {σ : St} {ρ : Env} (h : Slots K cl F σ ρ) : ∀ vs : List Nat, Slots K cl F (wipe σ vs) (wipeD ρ vs)
  | [] => h
  | v :: vs => (Slots.wipe h vs).setN v
structure DTs (cl : ClW) (X : Cx) (W : WX) (ifs : List Expr) (υ : DTT) : Prop where
  pts : PTs X ifs (lowT X.K cl W υ)
section
variable {cl : ClW} {X : Cx} {W : WX} {c : Expr} {υ : DTT}
theorem dts_nil : DTs cl X W [] dYes := ⟨⟨fun pins s σ H Q I ⟨F, ρ, M, Qd, Xd, g, sl, t, p, w⟩ => pts_nil.run pins s σ H Q I (p true H F M (Same.refl F) g t)⟩⟩
theorem dts_one (h : DT cl X W c υ) : DTs cl X W [c] υ := ⟨pts_one h.pt⟩
end
section
variable {cl : ClW} {X : Cx} {W : WX} {elt tg iter : Expr} {ifs : List Expr} {scope : Scope} {own : List (Str × Nat)} {pos : Pos} {ι : DTI} {is : List Nat} {γ : DTG} {υ : DTT} {τ : DTE}
theorem lc_lift {K : PySem.W.Frag} (his : ∀ i ∈ is, i ∈ own.map (·.2)) {σ : St} {H : Hp} {Q : VK} {F : Hp} {ρ : Env} {M : Mem} {Qd : DV} {Xd : DX} (g : Good K cl F H M) (s : Slots K cl F σ ρ) (q : dLc ι γ υ τ (own.map (·.2)) ρ M Qd Xd) (p : Post K cl F Q Qd) (w : WOk K cl W F Xd) :
    tLc (fun σ H R => ∃ F ρ M Rd Xd, Good K cl F H M /\ Slots K cl F σ ρ /\ ι ρ M Rd Xd /\ (∀ J H' F' xs M', Same F F' -> Good K cl F' H' M' -> Walks K cl J F' xs -> Rd xs M' -> R J H') /\ WOk K cl W F Xd)
      (fun v σ H Q => ∃ F ρ M d Qd Xd, Good K cl F H M /\ Slots K cl F σ ρ /\ Rep K cl F v d /\ γ d ρ M Qd Xd /\ (∀ σ' H' F' ρ' M', Same F F' -> Good K cl F' H' M' -> Slots K cl F' σ' ρ' -> (∀ vs : List Nat, (∀ i ∈ is, i ∈ vs) -> wipe σ' vs = wipe σ vs) -> Qd ρ' M' -> Q σ' H') /\ WOk K cl W0 F Xd)
      (lowT K cl W0 υ) (lowE K cl W0 τ) (own.map (·.2)) σ H Q := by
  refine ⟨F, ρ, M, _, Xd, g, s, q, fun J H1 F1 xs M1 sm1 g1 wk q1 a hD => ?_, w⟩
  refine ⟨fun i m H => m = xs.length - i /\ i <= xs.length /\ ∃ F' M, Same F1 F' /\ Good K cl F' H M /\ lcD γ υ τ (own.map (·.2)) a (xs.drop i) ρ M Qd,
    ⟨xs.length, by simp, Nat.zero_le _, F1, updM M1 a (.lst []), Same.refl F1, g1.newM (d := .lst []) hD ⟨[], upd_same, .nil⟩, by simpa using q1 a (g1.freshM hD)⟩, ?_⟩
  rintro i m H2 ⟨rfl, hi, F2, M2, sm2, g2, q2⟩
  by_cases hlt : i < xs.length
  · obtain ⟨go, yl⟩ := (wk i F2 H2 M2 sm2 g2).1 xs[i] (by simp [hlt])
    rw [List.drop_eq_getElem_cons hlt] at q2
    unfold lcD at q2
    refine .inr ⟨go, fun H' => ∃ F' M', Same F1 F' /\ Good K cl F' H' M' /\ lcD γ υ τ (own.map (·.2)) a (xs.drop (i + 1)) ρ M' Qd, fun H' n => ⟨xs.length - (i + 1), by omega, rfl, hlt, n⟩, fun x H3 y => ?_⟩
    obtain ⟨F3, sm3, g3, r3⟩ := yl x H3 y
    refine ⟨F3, wipeD ρ (own.map (·.2)), M2, xs[i], _, noX, g3, (s.mono ((sm1.trans sm2).trans sm3)).wipe _, r3, q2, fun σ4 H4 F4 ρ4 M4 sm4 g4 s4 w4 q4 => ⟨?_, ?_⟩, wok0⟩
    · rw [w4 _ his]
      exact wipe_idem _ _ _ fun _ h => h
    · refine ⟨F4, ρ4, M4, _, noX, g4, s4, q4, fun k H5 F5 M5 sm5 g5 q5 => ?_, wok0⟩
      cases k with
      | true =>
        rw [if_pos rfl] at q5 ⊢
        refine ⟨F5, ρ4, M5, _, noX, g5, s4.mono sm5, q5, fun y2 H6 F6 d M6 sm6 g6 r6 q6 => ?_, wok0⟩
        obtain ⟨acc, e1, e2, q6⟩ := q6
        obtain ⟨hF, vs, h1, h2⟩ := g6.cell a _ e1
        refine ⟨vs, h1, by rw [h2.length]; exact e2, F6, _, (((sm2.trans sm3).trans sm4).trans sm5).trans sm6, g6.put (d := .lst (acc ++ [d])) e1 ⟨vs ++ [y2], upd_same, h2.append (.one r6)⟩, q6⟩
      | false =>
        rw [if_neg Bool.false_ne_true] at q5 ⊢
        exact ⟨F5, M5, ((sm2.trans sm3).trans sm4).trans sm5, g5, q5⟩
  · have e : i = xs.length := by omega
    subst e
    rw [List.drop_length] at q2
    obtain ⟨ds, e1, q2⟩ := q2
    obtain ⟨F3, sm3, g3, r3⟩ := g2.freeze e1
    exact .inl ⟨(wk _ F2 H2 M2 sm2 g2).2 (Nat.le_refl _), p _ _ _ _ _ ((sm1.trans sm2).trans sm3) g3 r3 q2⟩
theorem d_lc (hc : X.calm = true) (hN : X.N.Nodup) (hi : DI cl X W tg iter ι) (ok : BlkOk X.N X.env.scope scope own)
    (hg : ∀ (s : Shared) (H : Hp) (C : Addr) (cs : List (Str × Addr)) (fp : List Addr), DG cl (X.blk s H scope (compEnvC scope cs C X.env) fp) W0 tg is γ) (ht : ∀ (s : Shared) (H : Hp) (C : Addr) (cs : List (Str × Addr)) (fp : List Addr), DTs cl (X.blk s H scope (compEnvC scope cs C X.env) fp) W0 ifs υ)
    (he : ∀ (s : Shared) (H : Hp) (C : Addr) (cs : List (Str × Addr)) (fp : List Addr), DE cl (X.blk s H scope (compEnvC scope cs C X.env) fp) W0 elt τ) (his : ∀ i ∈ is, i ∈ own.map (·.2) := by decide) (hs : ∀ x, foldedSetIterable iter X.env x = pure x := by intro _; rfl) :
    DE cl X W (.ListComp elt [⟨tg, iter, ifs, 0⟩] scope pos) (dLc ι γ υ τ (own.map (·.2))) :=
  ⟨pe_imp (pe_lc hc hN hi.pi ok (fun s H C cs fp => (hg s H C cs fp).pg) (fun s H C cs fp => (ht s H C cs fp).pts) (fun s H C cs fp => (he s H C cs fp).pe) hs) fun σ H Q ⟨F, ρ, M, Qd, Xd, g, s, q, p, w⟩ => lc_lift his g s q p w⟩
theorem ds_setLc {y : Str} {py spos : Pos} (i : Nat) (hc : X.calm = true) (hN : X.N.Nodup) (hi : DI cl X W tg iter ι) (ok : BlkOk X.N X.env.scope scope own)
    (hg : ∀ (s : Shared) (H : Hp) (C : Addr) (cs : List (Str × Addr)) (fp : List Addr), DG cl (X.blk s H scope (compEnvC scope cs C X.env) fp) W0 tg is γ) (ht : ∀ (s : Shared) (H : Hp) (C : Addr) (cs : List (Str × Addr)) (fp : List Addr), DTs cl (X.blk s H scope (compEnvC scope cs C X.env) fp) W0 ifs υ)
    (he : ∀ (s : Shared) (H : Hp) (C : Addr) (cs : List (Str × Addr)) (fp : List Addr), DE cl (X.blk s H scope (compEnvC scope cs C X.env) fp) W0 elt τ) (hy : X.N[i]? = some y := by rfl) (hyl : X.env.scope.names.lookup y = some .local := by rfl)
    (hsw : swapsWith (.ListComp elt [⟨tg, iter, ifs, 0⟩] scope pos) (some (.Name y py)) spos.line X.env = pure true := by exact sw_true rfl rfl rfl (by decide +kernel)) (his : ∀ i ∈ is, i ∈ own.map (·.2) := by decide) (hs : ∀ x, foldedSetIterable iter X.env x = pure x := by intro _; rfl) :
    DS cl X W (.Assign [.Name y py] (.ListComp elt [⟨tg, iter, ifs, 0⟩] scope pos) spos) (dAsg (dLc ι γ υ τ (own.map (·.2))) (gN i)) :=
  ⟨ps_imp (ps_setLc hc hN hy hyl hsw hi.pi ok (fun s H C cs fp => (hg s H C cs fp).pg) (fun s H C cs fp => (ht s H C cs fp).pts) (fun s H C cs fp => (he s H C cs fp).pe) hs) fun D σ H ⟨F, ρ, M, E, g, s, q, ok⟩ =>
    lc_lift his g s q (fun v H' F' d M' sm g' r q' => ok.nx _ _ _ _ _ sm g' ((s.mono sm).set i r) q') ok.ex⟩
end
structure RoomG (k : Nat) (A : Around) : Prop where
  room : Room k A
  gd : A.guards = some []
theorem RoomG.mono {j k : Nat} {A : Around} (r : RoomG k A) (h : j <= k) : RoomG j A := ⟨r.room.mono h, r.gd⟩
theorem RoomG.deeper {k : Nat} {A : Around} (r : RoomG (k + 1) A) (env : PySem.Env) : RoomG k (A.deeper env) := ⟨r.room.deeper env, r.gd⟩
theorem RoomG.in1 {k : Nat} {A : Around} (r : RoomG (k + 1) A) : RoomG k A.in1 := ⟨r.room.in1, r.gd⟩
theorem make_guards {A : Around} {C : Addr} {us : List Value} {kw : List (Str × Value)} : (A.under (.builtin "type.__call__" ⟨.ref C :: us, kw⟩)).guards = A.guards := by
  cases A with
  | mk a b c d e => cases d <;> first | rfl | simp [Around.under, pushGuards, Code.guards, Code.isGuard, guardIds]
theorem RoomG.make {k : Nat} {A : Around} (r : RoomG (k + 1) A) (C : Addr) (us : List Value) (kw : List (Str × Value)) : RoomG k (A.under (.builtin "type.__call__" ⟨.ref C :: us, kw⟩)) := ⟨r.room.make C us kw, make_guards.trans r.gd⟩
structure FnG (cl : ClW) (P : Program) (w : World) (K : PySem.W.Frag) (mg : Str -> Option Value) (base : Heap) (k : Nat) (f : Addr) (fd : FuncData) (ps : List Str) (spd : SpD) : Prop where
  len : ∀ ds M Q E, spd ds M Q E -> ds.length = ps.length
  run : ∀ (A : Around) (outer : List PySem.Env) (s : Shared) (H : Hp) (args : Args) (us : List Value) (vs : List V) (Q : VK) (E : XK), RoomG k A -> Env0 P w K mg base A outer s H -> BindsTo s fd args (ps.zip us) -> Vals vs us -> lower K cl spd vs H Q E ->
    codeAny (model P w) A (.call (.ref f) args) (CR (L2.CX P w) outer P w H s Q E) s
theorem FnG.mono {cl : ClW} {P : Program} {w : World} {K : PySem.W.Frag} {mg : Str -> Option Value} {base : Heap} {j k : Nat} {f : Addr} {fd : FuncData} {ps : List Str} {spd : SpD} (F : FnG cl P w K mg base j f fd ps spd) (h : j <= k) : FnG cl P w K mg base k f fd ps spd :=
  ⟨F.len, fun A outer s H args us vs Q E hr => F.run A outer s H args us vs Q E (hr.mono h)⟩
theorem FnG.lenV {cl : ClW} {P : Program} {w : World} {K : PySem.W.Frag} {mg : Str -> Option Value} {base : Heap} {k : Nat} {f : Addr} {fd : FuncData} {ps : List Str} {spd : SpD} (F : FnG cl P w K mg base k f fd ps spd) {vs : List V} {H : Hp} {Q : VK} {E : XK} (h : lower K cl spd vs H Q E) : vs.length = ps.length := by
  obtain ⟨_, M, ds, Qd, Ed, _, r, q, _⟩ := h
  rw [r.length]
  exact F.len ds M Qd Ed q
structure Cap (X : Cx) (W : WX) (k : Nat) : Prop where
  tk : Takes X W
  hr : RoomG k X.A
  po : PassesOwn (model X.prog X.w) X.A X.env X.xe
  calm : X.calm = true
theorem Cap.blk {X : Cx} {W : WX} {k : Nat} (c : Cap X W k) {s : Shared} {H : Hp} {scope : Scope} {cenv : PySem.Env} {fp : List Addr} : Cap (X.blk s H scope cenv fp) W0 k := ⟨takes0, c.hr, PassesOwn.never, c.calm⟩
@[simp] def startD (N : List Str) (ds : List D) : Env := ds.map some ++ List.replicate (N.length - ds.length) none
theorem slots_start {K : PySem.W.Frag} {cl : ClW} {F : Hp} {vs : List V} {ds : List D} (N : List Str) (r : Reps K cl F vs ds) : Slots K cl F (L2.start N vs) (startD N ds) := by
  have hl := r.length
  refine ⟨by simp [L2.start, startD, hl], fun i d h => ?_⟩
  unfold startD at h
  unfold L2.start
  by_cases hi : i < ds.length
  · rw [List.getElem?_append_left (by simpa using hi)] at h
    rw [List.getElem?_append_left (by simp [hl]; exact hi)]
    rw [List.getElem?_map] at h
    cases e : ds[i]? with
    | none => rw [e] at h; cases h
    | some x =>
      rw [e] at h
      cases h
      obtain ⟨v, hv, rv⟩ := r.get e
      exact ⟨v, by rw [List.getElem?_map, hv]; rfl, rv⟩
  · rw [List.getElem?_append_right (by simpa using Nat.le_of_not_lt hi)] at h
    rw [List.getElem?_replicate] at h
    split at h <;> cases h
@[simp] def dEnds (Q : DV) (E : DEK) : DEnds := { nx := fun _ M => Q .non M, rt := Q, bk := fun _ _ => False, ct := fun _ _ => False, ex := fun c ns ds _ M => E c ns ds M }
theorem fn_d {cl : ClW} {P : Program} {w : World} {K : PySem.W.Frag} {mg : Str -> Option Value} {base : Heap} {k : Nat} {f : Addr} {x qual : Str} {params : Arguments} {body : List Stmt} {scope : Scope} {dvs : List V} {kws : List (Str × V)} {fd : FuncData} {N ps : List Str} {spd : SpD}
    (F : FunD K x qual params body scope dvs kws f fd) (S : FnScope N ps scope) (t : DTS)
    (hbody : ∀ (cdv : Value) (A : Around) (outer : List PySem.Env) (s : Shared) (H : Hp) (E : XK), Cap (cxOf (L2.CX P w) P w K mg base N qual scope f cdv A outer s H E) (fun cls d _ H => E cls d H) k ->
      DSs cl (cxOf (L2.CX P w) P w K mg base N qual scope f cdv A outer s H E) (fun cls d _ H => E cls d H) body t)
    (hsp : ∀ ds M Q E, spd ds M Q E -> ds.length = ps.length /\ t (dEnds Q E) (startD N ds) M) : FnG cl P w K mg base (k + 1) f fd ps spd := by
  refine ⟨fun ds M Q E h => (hsp ds M Q E h).1, fun A outer s H args us vs Q E hr e0 hb r hl => ?_⟩
  obtain ⟨oc, od, dV, kV, doc, pm, an, cdv, ct, osl, rfl, lk, hcd, _, _⟩ := F.ex
  have lenV : ∀ vs H Q E, lower K cl spd vs H Q E -> vs.length = ps.length := fun vs H Q E ⟨_, M, ds, Qd, Ed, _, r, q, _⟩ => by
    rw [r.length]
    exact (hsp ds M Qd Ed q).1
  have hr' := hr.deeper (PyProof.Rows.envOfC qual scope s.heap.objs.size f cdv)
  have KX : K.In s.heap := e0.mod.kin.keeps fun b o e => (e0.bs b o e).1
  have lim : s.heap.NoLimit := e0.mod.nolimit.keeps fun b o e => (e0.bs b o e).1
  have hkind : ∀ y ∈ ps.zip us, scope.names.lookup y.1 = some .local \/ (scope.names.lookup y.1 = some .cell /\ ((cellsFrom (s.heap.objs.size + 1) scope.names []).lookup y.1).isSome = true) := fun ⟨n, v⟩ hy => by
    rcases S.par n (List.of_mem_zip hy).1 with q | q
    · exact .inl q
    · exact .inr ⟨q, PySem.W.cellsFrom_some _ _ _ (.inl q)⟩
  refine codeAny_call_function hr.room.depth (KX _ _ lk) rfl S.co S.gen rfl (PySem.W.codeRec_of KX hcd) (hb _ _ _ _ ?_)
  refine wpAny_newFunctionEnv_cells S.kind hkind fun env he s1 x => ?_
  subst he
  refine ⟨lim.keeps x.toInCall.keep, codeAny_func ?_⟩
  have ht := hbody cdv A outer s H E ⟨takes_of rfl rfl rfl rfl, hr', passes_of rfl, rfl⟩
  have I : Inv (cxOf (L2.CX P w) P w K mg base N qual scope f cdv A outer s H E) [] (L2.start N vs) H s1 := inv_start S hr.room.hd e0 (lenV _ _ _ _ hl) r x
  obtain ⟨F0, M0, ds0, Qd, Ed, g0, r0, q0, p0, ep0⟩ := hl
  have hq : lowS K cl (fun cls d _ H => E cls d H) t { nx := fun _ H' => Q .non H', rt := Q } (L2.start N vs) H :=
    ⟨F0, startD N ds0, M0, dEnds Qd Ed, g0, slots_start N r0, (hsp ds0 M0 Qd Ed q0).2,
      ⟨fun σ' H' F' ρ' M' sm g' s' q' => p0 _ _ _ _ _ sm g' .non q', p0, fun _ _ _ _ _ _ _ _ q' => q', fun _ _ _ _ _ _ _ _ q' => q', fun c ns ds σ' H' F' ρ' M' dd sm g' s' ea q' => ep0 _ _ _ _ _ _ _ sm g' ea q'⟩⟩
  refine wpAny_mono (ht.pss.run [] s1 (L2.start N vs) H _ I hq) (fun fl s' hs => ?_) fun e s' hs => hs
  have fin : ∀ {σ' : St} {H' : Hp} {v : V} {u : Value}, Inv (cxOf (L2.CX P w) P w K mg base N qual scope f cdv A outer s H E) [] σ' H' s' -> RelV v u -> Q v H' -> CE outer P w H s Q u s' :=
    fun {σ' H' v u} J rv q => ⟨v, H', J.os, J.bare, J.base, J.hok, rv, q⟩
  cases fl with
  | ret u =>
    obtain ⟨v, σ', H', J, rv, q⟩ := hs
    exact fin J rv q
  | next =>
    obtain ⟨σ', H', J, q⟩ := hs
    exact fin (v := V.non) (u := Value.none) J rfl q
  | brk =>
    obtain ⟨_, _, _, q⟩ := hs
    exact False.elim q
  | cont =>
    obtain ⟨_, _, _, q⟩ := hs
    exact False.elim q
@[simp] def dCall (spd : SpD) (dds : List D) (α : DTA) : DTE := fun ρ M Q X => α ρ M (fun ds M1 => spd (ds ++ dds) M1 Q (fun c ns es M2 => X c ns es ρ M2)) X
section
variable {cl : ClW} {X : Cx} {W : WX} {k : Nat} {f C : Addr} {fd : FuncData} {ps : List Str} {spd : SpD} {dvs : List V} {ds : List Value} {dds : List D} {x m : Str} {p pos apos : Pos} {e o : Expr} {es : List Expr} {τ : DTE} {α : DTA}
theorem run_g {pins : List (Addr × Obj)} {σ : St} {H : Hp} {s : Shared} {Q : VK} {us : List Value} {vs : List V} (c : Cap X W k) (F : FnG cl X.prog X.w X.K X.mg X.base k f fd ps spd) (hb : Binds X.K fd ps ds) (hd : Vals dvs ds)
    (I : Inv X pins σ H s) (r : Vals vs us) (h : lower X.K cl spd (vs ++ dvs) H Q (WE W σ)) : wpAny (model X.prog X.w) X.A (call (.ref f) us) (EP X pins σ Q) X.xe s := by
  have r2 : Vals (vs ++ dvs) (us ++ ds) := r.append hd
  have hl : (us ++ ds).length = ps.length := by rw [<- r2.length]; exact F.lenV h
  refine wpAny_call (codeAny_mono (F.run X.A X.stack s H ⟨us, []⟩ (us ++ ds) (vs ++ dvs) Q _ c.hr I.env0 (hb s us I.kIn hl) r2 h) fun r s' hq => ?_)
  cases r with
  | error e => exact passAt c.tk σ pins H s e s' I hq
  | ok fl =>
    cases fl with
    | ret u => exact I.after hq
    | next => exact False.elim hq
    | brk => exact False.elim hq
    | cont => exact False.elim hq
theorem low_call {σ : St} {F : Hp} {ρ : Env} {M : Mem} {Qd : DV} {Xd : DX} {vs : List V} {es : List D} {H : Hp} {Q : VK} {K : PySem.W.Frag} (g : Good K cl F H M) (s : Slots K cl F σ ρ) (r : Reps K cl F vs es) (q : spd es M Qd (fun c ns es M2 => Xd c ns es ρ M2)) (p : Post K cl F Q Qd) (w : WOk K cl W F Xd) : lower K cl spd vs H Q (WE W σ) :=
  ⟨F, M, es, Qd, _, g, r, q, p, fun c ns ds H' F' M' dd sm g' ea q' => w c ns ds σ H' F' ρ M' dd sm g' (s.mono sm) ea q'⟩
theorem d_call (c : Cap X W k) (G : FnG cl X.prog X.w X.K X.mg X.base k f fd ps spd) (hg : Gl X x) (hm : X.mg x = some (.ref f)) (hk : PySem.W.keepIn X.K (.ref f) = true) (hb : Binds X.K fd ps ds) (hd : Vals dvs ds) (hdd : ∀ F, Reps X.K cl F dvs dds)
    (ha : DA cl X W (e :: es) α) (hdb : (x == ("__debug__" : Str)) = false := by decide) (he : starEach (e :: es) X.env = (false, eval e X.env) :: starEach es X.env := by rfl) (hpl : (backTo pos (starEach es X.env)).any (·.1) = false := by rfl) :
    DE cl X W (.Call (.Name x p) (e :: es) [] pos) (dCall spd dds α) := ⟨⟨fun pins s σ H Q I h => by
  obtain ⟨F, ρ, M, Qd, Xd, g, sl, q, p, w⟩ := h
  refine wpAny_Call_Name_kw (ld_glob I hg hm ?_ hdb)
  refine PySem.W.callWith_K (h₀ := X.base) I.ok.mod.kin hk (thn (ha.pa.run pos pins s σ H (fun vs H1 => lower X.K cl spd (vs ++ dvs) H1 Q (WE W σ)) I ⟨F, ρ, M, _, Xd, g, sl, q, fun vs H' F' ds M' sm g' r q' => ?_, w⟩) fun us s1 ⟨vs, H1, I1, r, q⟩ => ⟨I1.kIn, ?_⟩) he hpl
  · exact low_call g' (sl.mono sm) (r.append (hdd F')) q' (p.mono sm) (w.mono sm)
  · exact run_g c G hb hd I1 r q⟩⟩
end
end DL
set_option Elab.async false
set_option linter.all false
set_option maxRecDepth 100000
set_option maxHeartbeats 2000000
namespace DL
open PySem L2
mutual
def toPy : D -> Option PyData
  | .non => some .none
  | .bl b => some (.bool b)
  | .int i => some (.int i)
  | .str x => some (.str x)
  | .lst xs => (toPys xs).map .list
  | .tup xs => (toPys xs).map .tuple
  | _ => none
def toPys : List D -> Option (List PyData)
  | [] => some []
  | x :: xs => match toPy x, toPys xs with
    | some p, some ps => some (p :: ps)
    | _, _ => none
end
section
variable {K : PySem.W.Frag} {cl : ClW} {F H : Hp}
mutual
theorem dp_of (s : Same F H) : ∀ (d : D) (v : V) (p : PyData), Rep K cl F v d -> toPy d = some p -> Dp K H v p
  | .non, v, p, r, e => by simp only [toPy] at e; cases e; rw [r.toNon]; exact .non
  | .bl b, v, p, r, e => by simp only [toPy] at e; cases e; rw [r.toBl]; exact .bl b
  | .int i, v, p, r, e => by simp only [toPy] at e; cases e; rw [r.toInt]; exact .int i
  | .str x, v, p, r, e => by simp only [toPy] at e; cases e; rw [r.toStr]; exact .str x
  | .lst xs, v, p, r, e => by
    simp only [toPy] at e
    obtain ⟨a, vs, rfl, h1, h2⟩ := r.toLst
    cases q : toPys xs with
    | none => rw [q] at e; cases e
    | some ps => rw [q] at e; cases e; exact .lst (same_l s h1) (dps_of s xs vs ps h2 q)
  | .tup xs, v, p, r, e => by
    simp only [toPy] at e
    obtain ⟨a, vs, rfl, h1, h2⟩ := r.toTup
    cases q : toPys xs with
    | none => rw [q] at e; cases e
    | some ps => rw [q] at e; cases e; exact .tup (same_t s h1) (dps_of s xs vs ps h2 q)
  | .byt _, v, p, r, e => by simp only [toPy] at e; cases e
  | .ty _, v, p, r, e => by simp only [toPy] at e; cases e
  | .ref _, v, p, r, e => by simp only [toPy] at e; cases e
  | .dK _ _, v, p, r, e => by simp only [toPy] at e; cases e
  | .dT _ _ _, v, p, r, e => by simp only [toPy] at e; cases e
  | .obj _ _ _, v, p, r, e => by simp only [toPy] at e; cases e
  | .cls _, v, p, r, e => by simp only [toPy] at e; cases e
theorem dps_of (s : Same F H) : ∀ (ds : List D) (vs : List V) (ps : List PyData), Reps K cl F vs ds -> toPys ds = some ps -> DpAll K H vs ps
  | [], vs, ps, r, e => by simp only [toPys] at e; cases e; rw [r.inv0]; exact .nil
  | d :: ds, vs, ps, r, e => by
    obtain ⟨v, ws, rfl, r1, r2⟩ := r.inv
    simp only [toPys] at e
    cases q1 : toPy d with
    | none => rw [q1] at e; cases e
    | some p =>
      cases q2 : toPys ds with
      | none => rw [q1, q2] at e; cases e
      | some qs => rw [q1, q2] at e; cases e; exact .cons (dp_of s d v p r1 q1) (dps_of s ds ws qs r2 q2)
end
theorem dp_vw (s : Same F H) {v : V} {d : D} {p : PyData} (h : Vw K cl F H v d) (e : toPy d = some p) : Dp K H v p := by
  rcases h with h | ⟨a, rfl, h⟩
  · exact dp_of s d v p h e
  · cases d with
    | lst ds =>
      obtain ⟨vs, h1, h2⟩ := h
      simp only [toPy] at e
      cases q : toPys ds with
      | none => rw [q] at e; cases e
      | some ps => rw [q] at e; cases e; exact .lst (SqL.of h1) (dps_of s ds vs ps h2 q)
    | dK _ _ => simp only [toPy] at e; cases e
    | dT _ _ _ => simp only [toPy] at e; cases e
    | obj _ _ _ => simp only [toPy] at e; cases e
    | dN _ _ _ => simp only [toPy] at e; cases e
    | _ => exact h.elim
end
def eqP (d e : D) : Option Bool := match toPy d, toPy e with
  | some p, some q => if SeqAt.shaped p && SeqAt.shaped q then some (PyData.eqv p q) else none
  | _, _ => none
def eqB : D -> D -> Option Bool
  | .int i, .int j => some (i == j)
  | .str x, .str y => some (x == y)
  | .bl x, .bl y => some (x == y)
  | .byt x, .byt y => some (x == y)
  | .non, .non => some true
  | .non, .int _ => some false
  | .non, .str _ => some false
  | .int _, .non => some false
  | .str _, .non => some false
  | .int _, .str _ => some false
  | .str _, .int _ => some false
  | d, e => eqP d e
def eqD (d e : D) : Option D := (eqB d e).map D.bl
def neD (d e : D) : Option D := (eqB d e).map fun b => D.bl !b
section
variable {K : PySem.W.Frag} {cl : ClW} {X : Cx}
theorem eqP_inv {d e : D} {b : Bool} (h : eqP d e = some b) : ∃ p q, toPy d = some p /\ toPy e = some q /\ SeqAt.shaped p = true /\ SeqAt.shaped q = true /\ b = PyData.eqv p q := by
  unfold eqP at h
  cases e1 : toPy d with
  | none => rw [e1] at h; cases h
  | some p =>
    cases e2 : toPy e with
    | none => rw [e1, e2] at h; cases h
    | some q =>
      rw [e1, e2] at h
      simp only at h
      split at h
      · rename_i hs
        cases h
        obtain ⟨h1, h2⟩ := Bool.and_eq_true_iff.mp hs
        exact ⟨p, q, rfl, rfl, h1, h2, rfl⟩
      · cases h
def rEqA (K : PySem.W.Frag) : R2 := fun x y H Q => rEq x y H Q \/ rEqD K x y H Q
def rNeA (K : PySem.W.Frag) : R2 := fun x y H Q => rNe x y H Q \/ rNeD K x y H Q
theorem op_eqA (hu : X.A.units + 64 < cLine) : OpR X (compareOp .Eq) (rEqA X.K) := op_eq.or (op_eqD hu)
theorem op_neA (hu : X.A.units + 64 < cLine) : OpR X (compareOp .NotEq) (rNeA X.K) := op_ne.or (op_neD hu)
theorem eqB_at {F H : Hp} (s : Same F H) {x y : V} {d e : D} {b : Bool} (hx : Vw K cl F H x d) (hy : Vw K cl F H y e) (h : eqB d e = some b) :
    (scal x y = true /\ decide (x = y) = b) \/ ∃ p q, Dp K H x p /\ Dp K H y q /\ SeqAt.shaped p = true /\ SeqAt.shaped q = true /\ b = PyData.eqv p q := by
  unfold eqB at h
  split at h
  · cases h; rw [hx.int, hy.int]; exact .inl ⟨rfl, dec_int⟩
  · cases h; rw [hx.str, hy.str]; exact .inl ⟨rfl, dec_str⟩
  · cases h; rw [hx.bl, hy.bl]; exact .inl ⟨rfl, dec_bl⟩
  · cases h
    rw [hx.byt, hy.byt]
    refine .inl ⟨rfl, ?_⟩
    rename_i x1 y1
    by_cases e : x1 = y1
    · subst e; simp
    · rw [decide_eq_false (fun z => e (V.byt.inj z))]
      exact (beq_eq_false_iff_ne.mpr e).symm
  · cases h; rw [hx.non, hy.non]; exact .inl ⟨rfl, rfl⟩
  · cases h; rw [hx.non, hy.int]; exact .inl ⟨rfl, rfl⟩
  · cases h; rw [hx.non, hy.str]; exact .inl ⟨rfl, rfl⟩
  · cases h; rw [hx.int, hy.non]; exact .inl ⟨rfl, rfl⟩
  · cases h; rw [hx.str, hy.non]; exact .inl ⟨rfl, rfl⟩
  · cases h; rw [hx.int, hy.str]; exact .inl ⟨rfl, rfl⟩
  · cases h; rw [hx.str, hy.int]; exact .inl ⟨rfl, rfl⟩
  · obtain ⟨p, q, h1, h2, h3, h4, h5⟩ := eqP_inv h
    exact .inr ⟨p, q, dp_vw s hx h1, dp_vw s hy h2, h3, h4, h5⟩
theorem lop_eq : LOp K cl (rEqA K) eqD := by
  intro F H M x y d e z Q Qd g hx hy h p q
  unfold eqD at h
  cases e1 : eqB d e with
  | none => rw [e1] at h; cases h
  | some b =>
    rw [e1] at h
    cases h
    rcases eqB_at g.sub hx hy e1 with ⟨h1, h2⟩ | ⟨pd, pe, h1, h2, h3, h4, rfl⟩
    · exact .inl ⟨h1, by rw [h2]; exact p.val g (.bl _) q⟩
    · exact .inr ⟨pd, pe, h1, h2, h3, h4, p.val g (.bl _) q⟩
theorem lop_ne : LOp K cl (rNeA K) neD := by
  intro F H M x y d e z Q Qd g hx hy h p q
  unfold neD at h
  cases e1 : eqB d e with
  | none => rw [e1] at h; cases h
  | some b =>
    rw [e1] at h
    cases h
    rcases eqB_at g.sub hx hy e1 with ⟨h1, h2⟩ | ⟨pd, pe, h1, h2, h3, h4, rfl⟩
    · exact .inl ⟨h1, by rw [h2]; exact p.val g (.bl _) q⟩
    · exact .inr ⟨pd, pe, h1, h2, h3, h4, p.val g (.bl _) q⟩
def absF : List D -> Option D
  | [.int i] => some (.int (if i < 0 then -i else i))
  | _ => none
def intF : List D -> Option D
  | [.int i] => some (.int i)
  | [.bl b] => some (.int (if b then 1 else 0))
  | _ => none
def lenF : List D -> Option D
  | [.lst xs] => some (.int xs.length)
  | [.tup xs] => some (.int xs.length)
  | [.str x] => if x.length <= sizeLine then some (.int x.length) else none
  | [.byt x] => if x.size <= sizeLine then some (.int x.size) else none
  | _ => none
def intsOf : List D -> Option (List Int)
  | [] => some []
  | .int i :: r => (intsOf r).map (i :: ·)
  | _ :: _ => none
theorem intsOf_eq : ∀ {ds : List D} {ns : List Int}, intsOf ds = some ns -> ds = ns.map D.int
  | [], ns, h => by simp only [intsOf] at h; cases h; rfl
  | d :: ds, ns, h => by
    cases d with
    | int i =>
      simp only [intsOf] at h
      cases e : intsOf ds with
      | none => rw [e] at h; cases h
      | some ms => rw [e] at h; cases h; rw [intsOf_eq e]; rfl
    | _ => simp only [intsOf] at h; cases h
theorem intsOf_map (ns : List Int) : intsOf (ns.map D.int) = some ns := by
  induction ns with
  | nil => rfl
  | cons n ns ih => simp only [List.map_cons, intsOf, ih]; rfl
def minF : List D -> Option D
  | [.lst xs] => (intsOf xs).bind fun ns => ns.min?.map D.int
  | [.int i, .int j] => some (.int (if j < i then j else i))
  | _ => none
def maxF : List D -> Option D
  | [.lst xs] => (intsOf xs).bind fun ns => ns.max?.map D.int
  | [.int i, .int j] => some (.int (if j > i then j else i))
  | _ => none
theorem reps1 {F : Hp} {M : Mem} {H : Hp} (g : Good K cl F H M) {xs : List V} {ds : List D} {d : D} (r : Reps K cl F xs ds) (e : ds.map (vw M) = [d]) : ∃ x, xs = [x] /\ Vw K cl F H x d := by
  cases ds with
  | nil => cases e
  | cons a t =>
    cases t with
    | nil =>
      obtain ⟨x, ws, rfl, r1, r2⟩ := r.inv
      obtain rfl := r2.inv0
      simp only [List.map_cons, List.map_nil, List.cons.injEq, and_true] at e
      exact ⟨x, rfl, e ▸ vw_ok g r1⟩
    | cons b t => simp at e
theorem reps2 {F : Hp} {M : Mem} {H : Hp} (g : Good K cl F H M) {xs : List V} {ds : List D} {d e' : D} (r : Reps K cl F xs ds) (e : ds.map (vw M) = [d, e']) : ∃ x y, xs = [x, y] /\ Vw K cl F H x d /\ Vw K cl F H y e' := by
  cases ds with
  | nil => cases e
  | cons a t =>
    cases t with
    | nil => simp at e
    | cons b t =>
      cases t with
      | nil =>
        obtain ⟨x, ws, rfl, r1, r2⟩ := r.inv
        obtain ⟨y, ws, rfl, r3, r4⟩ := r2.inv
        obtain rfl := r4.inv0
        simp only [List.map_cons, List.map_nil, List.cons.injEq, and_true] at e
        exact ⟨x, y, rfl, e.1 ▸ vw_ok g r1, e.2 ▸ vw_ok g r3⟩
      | cons c t => simp at e
theorem lc_int : LCall K cl (fun xs H Q => (∃ i, xs = [.int i] /\ Q (.int i) H) \/ ∃ k, xs = [.bl k] /\ Q (.int (if k then 1 else 0)) H) intF := by
  intro F H M xs ds z Q Qd g r h p q
  generalize e : ds.map (vw M) = es at h
  unfold intF at h
  split at h
  · cases h
    obtain ⟨x, rfl, hv⟩ := reps1 g r e
    obtain rfl := hv.int
    exact .inl ⟨_, rfl, p.val g (.int _) q⟩
  · cases h
    obtain ⟨x, rfl, hv⟩ := reps1 g r e
    obtain rfl := hv.bl
    exact .inr ⟨_, rfl, p.val g (.int _) q⟩
  · cases h
theorem lc_len : LCall K cl (fun xs H Q => ∃ x n, xs = [x] /\ LenV K x H n /\ Q (.int n) H) lenF := by
  intro F H M xs ds z Q Qd g r h p q
  generalize e : ds.map (vw M) = es at h
  unfold lenF at h
  split at h
  · cases h
    obtain ⟨x, rfl, hv⟩ := reps1 g r e
    obtain ⟨a, vs, rfl, h1, h2⟩ := hv.lst g.sub
    exact ⟨_, _, rfl, .inl ⟨vs, h1, rfl⟩, by rw [h2.length]; exact p.val g (.int _) q⟩
  · cases h
    obtain ⟨x, rfl, hv⟩ := reps1 g r e
    obtain ⟨a, vs, rfl, h1, h2⟩ := hv.tup g.sub
    exact ⟨_, _, rfl, .inr ⟨vs, h1, rfl⟩, by rw [h2.length]; exact p.val g (.int _) q⟩
  · split at h
    · cases h
      obtain ⟨x, rfl, hv⟩ := reps1 g r e
      obtain rfl := hv.str
      exact ⟨_, _, rfl, ⟨by assumption, rfl⟩, p.val g (.int _) q⟩
    · cases h
  · split at h
    · cases h
      obtain ⟨x, rfl, hv⟩ := reps1 g r e
      obtain rfl := hv.byt
      exact ⟨_, _, rfl, ⟨by assumption, rfl⟩, p.val g (.int _) q⟩
    · cases h
  · cases h
def tyName : D -> Option String
  | .non => some "NoneType"
  | .bl _ => some "bool"
  | .int _ => some "int"
  | .str _ => some "str"
  | .byt _ => some "bytes"
  | .lst _ => some "list"
  | .tup _ => some "tuple"
  | .dK _ _ => some "dict"
  | _ => none
def tyNames : List String := ["NoneType", "bool", "int", "str", "bytes", "list", "tuple", "dict"]
def isTy (a b : String) : Bool := a == b || (a == "bool" && b == "int")
theorem isTy_kit : ∀ a ∈ tyNames, ∀ b ∈ tyNames, kitB a b = some (isTy a b) := by decide +kernel
theorem tyName_mem {d : D} {n : String} (h : tyName d = some n) : n ∈ tyNames := by
  cases d <;> simp only [tyName] at h <;> first | (cases h; decide) | cases h
theorem tyX_of {F H : Hp} (s : Same F H) {v : V} {d : D} {n : String} (h : Vw K cl F H v d) (e : tyName d = some n) : TyX K H v (.type n) := by
  cases d with
  | non => cases e; rw [h.non]; exact .base .non
  | bl b => cases e; rw [h.bl]; exact .base (.bl b)
  | int i => cases e; rw [h.int]; exact .base (.int i)
  | str x => cases e; rw [h.str]; exact .base (.str x)
  | byt b => cases e; rw [h.byt]; exact .byt b
  | lst ds =>
    cases e
    obtain ⟨a, vs, rfl, h1, h2⟩ := h.lst s
    rcases h1 with (h1 | ⟨o, h1⟩) | ⟨o, its, n, h1, h3, _⟩
    · exact .base (.lst h1)
    · exact .base (.frz h1)
    · exact .kList h1 h3
  | tup ds =>
    cases e
    obtain ⟨a, vs, rfl, h1, h2⟩ := h.tup s
    rcases h1 with (h1 | ⟨o, h1⟩) | ⟨o, its, n, h1, h3, _⟩
    · exact .base (.tup h1)
    · exact .fTuple h1
    · exact .kTuple h1 h3
  | dK ks ds =>
    cases e
    rcases h with h | ⟨a, rfl, vs, h1, _⟩
    · cases h with | dK h1 _ _ => exact .base (.dK (s _ _ h1))
    · exact .base (.dK h1)
  | _ => cases e
def isiF : List D -> Option D
  | [d, .ty n] => match tyName d with
    | some a => if n ∈ tyNames then some (.bl (isTy a n)) else none
    | none => none
  | [d, .tup ts] => match tyName d with
    | some a => if ts.all (fun t => match t with | .ty n => decide (n ∈ tyNames) | _ => false) then some (.bl (ts.any fun t => match t with | .ty n => isTy a n | _ => false)) else none
    | none => none
  | _ => none
theorem kitAny_of {a : String} (ha : a ∈ tyNames) : ∀ {F : Hp} {vs : List V} {ts : List D}, Reps K cl F vs ts -> ts.all (fun t => match t with | .ty n => decide (n ∈ tyNames) | _ => false) = true ->
    ∃ us, Paired ClsV vs us /\ PySem.W.kitAny K (.type a) us = some (ts.any fun t => match t with | .ty n => isTy a n | _ => false)
  | F, vs, [], r, _ => by
    obtain rfl := r.inv0
    exact ⟨[], .nil, kitAny_nil⟩
  | F, vs, t :: ts, r, h => by
    obtain ⟨v, ws, rfl, r1, r2⟩ := r.inv
    rw [List.all_cons] at h
    obtain ⟨h1, h2⟩ := Bool.and_eq_true_iff.mp h
    obtain ⟨us, hp, hk⟩ := kitAny_of ha r2 h2
    cases t with
    | ty n =>
      have hn : n ∈ tyNames := of_decide_eq_true h1
      rw [r1.toTy]
      refine ⟨.type n :: us, .cons (.ty n) hp, ?_⟩
      have k1 : PySem.W.kitOne K (.type a) (.type n) = some (isTy a n) := kit_ty (isTy_kit a ha n hn)
      rw [List.any_cons]
      refine kitAny_cons k1 (fun e => ?_) fun e => ?_
      · simp only [e, Bool.false_or]; exact hk
      · simp only [e, Bool.true_or]
    | _ => cases h1
theorem lc_isi : LCall K cl (fun xs H Q => rIsi K xs H Q \/ rIsiT K xs H Q \/ rIsiK K xs H Q) isiF := by
  intro F H M xs ds z Q Qd g r h p q
  generalize e : ds.map (vw M) = es at h
  unfold isiF at h
  split at h
  · rename_i d n
    obtain ⟨x, y, rfl, hv, hw⟩ := reps2 g r e
    cases e2 : tyName d with
    | none => rw [e2] at h; cases h
    | some a =>
      rw [e2] at h
      simp only at h
      split at h
      · rename_i hn
        cases h
        have hy : y = .ty n := by
          rcases hw with hw | ⟨_, _, hw⟩
          · exact hw.toTy
          · exact hw.elim
        subst hy
        exact .inl ⟨x, .ty n, .type a, .type n, _, rfl, .ty n, tyX_of g.sub hv e2, kit_ty (isTy_kit a (tyName_mem e2) n hn), p.val g (.bl _) q⟩
      · cases h
  · rename_i d ts
    obtain ⟨x, y, rfl, hv, hw⟩ := reps2 g r e
    cases e2 : tyName d with
    | none => rw [e2] at h; cases h
    | some a =>
      rw [e2] at h
      simp only at h
      split at h
      · rename_i hn
        cases h
        rcases hw with hw | ⟨_, _, hw⟩
        · obtain ⟨b, vs, rfl, h1, h2⟩ := hw.toTup1
          obtain ⟨us, hp, hk⟩ := kitAny_of (tyName_mem e2) h2 hn
          rcases h1 with h1 | ⟨⟨oc, od, dt, sl⟩, its, n, h1, h3, h4, h5, h6⟩
          · exact .inr (.inl ⟨x, b, vs, .type a, us, _, rfl, g.sub _ _ h1, hp, tyX_of g.sub hv e2, hk, p.val g (.bl _) q⟩)
          · simp only at h3 h4
            subst h3 h4
            have e3 := ClsV.all hp h6
            refine .inr (.inr ⟨x, b, od, us, n, sl, .type a, _, rfl, ?_, tyX_of g.sub hv e2, hk, p.val g (.bl _) q⟩)
            rw [<- e3]
            simpa using h1
        · exact hw.elim
      · cases h
  · cases h
end
end DL
set_option Elab.async false
set_option linter.all false
set_option autoImplicit false
set_option maxRecDepth 100000
set_option maxHeartbeats 2000000
namespace DL
open PySem L2 PySem.W PySem.Spec
def FnB (cl : ClW) (P : Program) (w : World) (K : Frag) (mg : Str -> Option Value) (base : Heap) (k : Nat) (x : Str) (ps : List Str) (spd : SpD) : Prop :=
  ∃ f fd, mg x = some (.ref f) /\ keepIn K (.ref f) = true /\ Binds K fd ps [] /\ FnG cl P w K mg base k f fd ps spd
section
variable {cl : ClW} {X : Cx} {W : WX} {j k : Nat} {ps : List Str} {spd : SpD} {x : Str} {p pos : Pos} {e : Expr} {es : List Expr} {α : DTA}
theorem d_fn (c : Cap X W k) (G : FnB cl X.prog X.w X.K X.mg X.base j x ps spd) (hj : j <= k) (hg : Gl X x) (ha : DA cl X W (e :: es) α)
    (hdb : (x == ("__debug__" : Str)) = false := by decide) (he : starEach (e :: es) X.env = (false, eval e X.env) :: starEach es X.env := by rfl) (hpl : (backTo pos (starEach es X.env)).any (·.1) = false := by rfl) :
    DE cl X W (.Call (.Name x p) (e :: es) [] pos) (dCall spd [] α) := by
  obtain ⟨f, fd, h1, h2, h3, h4⟩ := G
  exact d_call c (h4.mono hj) hg h1 h2 h3 .nil (fun _ => .nil) ha hdb he hpl
theorem d_bltn {v : V} {u : Value} {d : D} (hg : Gl X x) (hm : X.mg x = none) (hv : bootBuiltins x = some u) (r : RelV v u) (rd : ∀ F, Rep X.K cl F v d) (hn : x ≠ "__name__" := by decide) (hd : (x == ("__debug__" : Str)) = false := by decide) : DE cl X W (.Name x pos) (dC d) :=
  d_c (pe_bltn hg hm hv r hn hd) rd
theorem d_ty {n : String} (hg : Gl X x) (hm : X.mg x = none) (hv : bootBuiltins x = some (.type n)) (hn : x ≠ "__name__" := by decide) (hd : (x == ("__debug__" : Str)) = false := by decide) : DE cl X W (.Name x pos) (dC (.ty n)) :=
  d_bltn (v := .ty n) hg hm hv rfl (fun _ => .ty n) hn hd
theorem d_globI {i : Int} (hg : Gl X x) (hm : ∃ t, X.mg x = some (.int i t)) (hd : (x == ("__debug__" : Str)) = false := by decide) : DE cl X W (.Name x pos) (dC (.int i)) := by
  obtain ⟨t, h⟩ := hm
  exact d_c (v := .int i) (pe_glob hg h ⟨t, rfl⟩ hd) fun _ => .int i
theorem d_globS {z : Str} (hg : Gl X x) (hm : ∃ t, X.mg x = some (.str z t)) (hd : (x == ("__debug__" : Str)) = false := by decide) : DE cl X W (.Name x pos) (dC (.str z)) := by
  obtain ⟨t, h⟩ := hm
  exact d_c (v := .str z) (pe_glob hg h ⟨t, rfl⟩ hd) fun _ => .str z
end
theorem good_script {K : Frag} {cl : ClW} {H : Hp} (hT : LamX.Tabs (tabsOf cl) H) (hn : ∀ b ps, H b ≠ some (.tbl ps)) : Good K cl H H (fun _ => none) := ⟨fun _ _ e => e, (fun _ _ e => by cases e), hT, hn⟩
theorem law_end {cl : ClW} {P : Program} {w : World} {K : Frag} {mg mb : Str -> Option Value} {k : Nat} {fa a : Addr} {x : Str} {spd : SpD} {s0 : Shared} {vs : List Value} {ns : List Int} {H : Hp}
    (KX : K.In s0.heap) (hns : s0.heap.Ns mainGlobals mg) (hb : s0.heap.Ns builtinsNs mb) (hbb : ∀ x : Str, x ≠ "__name__" -> mb x = bootBuiltins x) (hlim : s0.heap.NoLimit) (hg : s0.gens = #[])
    (ha : s0.heap.get? a = some { cls := .type "list", data := .seq vs.toArray }) (hr : RoomG k callerA) (F : ∀ base : Heap, K.In base -> base.Ns mainGlobals mg -> ∃ fd, Binds K fd [x] [] /\ FnG cl P w K mg base k fa fd [x] spd)
    (hO : Only H) (hS : SqL K H a (ns.map V.int)) (hok : HOk P w H s0.heap) (hA : ∀ b, H b ≠ none -> b = a) (hK : H a ≠ none -> K.lookup a = none) (hT : tabsOf cl = []) (hn : ∀ b ps, H b ≠ some (.tbl ps))
    (hsp : ∀ (M : Mem) (Qd : DV) (Ed : DEK), (∀ M', Qd (.bl true) M') -> spd [.lst (ns.map D.int)] M Qd Ed) :
    codeAny (model P w) callerA (.call (.ref fa) ⟨[.ref a], []⟩) (fun r s' => r = .ok (.ret (.bool true)) /\ OldK s0.heap s'.heap /\ s'.os = s0.os /\ PyProof.Rows.AllBare s'.gens) s0 := by
  have only : ∀ {b u}, H b = some u -> b = a := fun {b u} e => hA b (by rw [e]; exact nofun)
  have free : ∀ {b o es ep}, s0.heap.get? b = some o -> o.data = Data.dict es ep -> H b = none := by
    intro b o es ep e1 e2
    cases q : H b with
    | none => rfl
    | some u =>
      rw [only q, ha] at e1
      cases e1
      cases e2
  have ns2 : ∀ {b m}, s0.heap.Ns b m -> (hidT s0.heap H).Ns b m := by
    rintro b m ⟨o, es, ep, e1, e2, r⟩
    exact ⟨o, es, ep, hidT_get e1 (free e1 e2), e2, r⟩
  have kin : K.In (hidT s0.heap H) := by
    intro b o e
    refine hidT_get (KX b o e) ?_
    cases q : H b with
    | none => rfl
    | some u =>
      have z := only q
      subst z
      rw [hK (by rw [q]; exact nofun)] at e
      cases e
  obtain ⟨mc, l1, l2⟩ := hlim
  have md : Mod K mg (hidT s0.heap H) := ⟨kin, ns2 hns, ⟨mb, ns2 hb, hbb⟩, mc, ns2 l1, l2⟩
  have env : Env0 P w K mg (hidT s0.heap H) callerA [] s0 H := ⟨rfl, md, fun _ _ e => of_hidT e, Nat.le_of_eq (hidT_size _ _), trivial, fun b z => (by cases z), hok, .of_eq hg⟩
  have low : lower K cl spd [.ref a] H (fun v _ => v = .bl true) (fun _ _ _ => False) :=
    ⟨H, fun _ => none, [.lst (ns.map D.int)], fun d _ => d = .bl true, fun _ _ _ _ => False, good_script (by rw [hT]; exact fun _ z => by cases z) hn, .one (.lst hS (.of_ints ns)), hsp _ _ _ fun _ => rfl, fun v _ _ d _ _ _ r e => by subst e; exact r.toBl, fun _ _ _ _ _ _ _ _ _ _ z => z⟩
  obtain ⟨fd, hbd, G⟩ := F _ kin (ns2 hns)
  refine codeAny_mono (G.run callerA [] s0 H _ [.ref a] [.ref a] _ _ hr env (hbd s0 [.ref a] KX rfl) (.cons rfl .nil) low) fun r s' h => ?_
  cases r with
  | error e =>
    obtain ⟨_, _, _, _, _, _, _, _, _, _, _, _, z⟩ := (show L2.CX P w [] H s0 (fun _ _ _ => False) e s' from h)
    exact z.elim
  | ok fl =>
    cases fl with
    | ret u =>
      obtain ⟨v, H', os, bare, un, hok', rv, q⟩ := (show CE [] P w H s0 (fun v _ => v = .bl true) u s' from h)
      subst q
      cases rv
      refine ⟨rfl, OldK.of_keep fun b o e => ?_, os, bare⟩
      rcases hO b with z | ⟨ob, xs, z⟩
      · exact un.keep b o e z (fun y => by cases y) (fun y => by cases y)
      · have h1 := (hok b _ z).1
        have h2 := (hok' b _ (un.frzs b ob _ z)).1
        rw [e] at h1
        cases h1
        exact h2
    | next => exact False.elim h
    | brk => exact False.elim h
    | cont => exact False.elim h
set_option autoImplicit false in
theorem law_callD {cl : ClW} {P : Program} {w : World} {K : Frag} {mg mb : Str -> Option Value} {k : Nat} {fa a : Addr} {x : Str} {spd : SpD} {s0 : Shared} {vs : List Value} {ns : List Int}
    (KX : K.In s0.heap) (hns : s0.heap.Ns mainGlobals mg) (hb : s0.heap.Ns builtinsNs mb) (hbb : ∀ x : Str, x ≠ "__name__" -> mb x = bootBuiltins x) (hlim : s0.heap.NoLimit) (hg : s0.gens = #[])
    (ha : s0.heap.get? a = some { cls := .type "list", data := .seq vs.toArray }) (hi : PyProof.Rows.IntsAre vs ns) (hl : ns.length <= sizeLine) (hr : RoomG k callerA) (F : ∀ base : Heap, K.In base -> base.Ns mainGlobals mg -> ∃ fd, Binds K fd [x] [] /\ FnG cl P w K mg base k fa fd [x] spd)
    (hsp : ∀ (M : Mem) (Qd : DV) (Ed : DEK), (∀ M', Qd (.bl true) M') -> spd [.lst (ns.map D.int)] M Qd Ed) (hT : tabsOf cl = []) :
    codeAny (model P w) callerA (.call (.ref fa) ⟨[.ref a], []⟩) (fun r s' => r = .ok (.ret (.bool true)) /\ OldK s0.heap s'.heap /\ s'.os = s0.os /\ PyProof.Rows.AllBare s'.gens) s0 := by
  have hv := vals_ints hi
  have hle : vs.length <= sizeLine := by rw [hi.length]; exact hl
  cases hk : K.lookup a with
  | some o =>
    have e := KX a o hk
    rw [ha] at e
    cases e
    exact law_end (H := fun _ => none) KX hns hb hbb hlim hg ha hr F (fun _ => .inl rfl) (.inr ⟨_, vs.toArray, _, hk, rfl, rfl, rfl, by simpa using hle, by simpa using hv⟩) (fun _ _ z => by cases z) (fun _ z => (z rfl).elim) (fun z => (z rfl).elim) hT (fun _ _ z => by cases z) hsp
  | none =>
    let o : Obj := { cls := .type "list", data := .seq vs.toArray }
    have at_ : upd (fun _ => none) a (.frz o (.lst (ns.map V.int))) a = some (.frz o (.lst (ns.map V.int))) := upd_same
    have off : ∀ {b}, b ≠ a -> upd (fun _ => none) a (.frz o (.lst (ns.map V.int))) b = none := fun h => upd_ne h
    refine law_end (H := upd (fun _ => none) a (.frz o (.lst (ns.map V.int)))) KX hns hb hbb hlim hg ha hr F (fun b => ?_) (.inl (.inr ⟨o, at_⟩)) (fun b u z => ?_) (fun b z => ?_) (fun _ => hk) hT (fun b ps z => ?_) hsp
    · by_cases h : b = a
      · subst h; exact .inr ⟨_, _, at_⟩
      · exact .inl (off h)
    · by_cases h : b = a
      · subst h
        rw [at_] at z
        cases z
        exact ⟨ha, by rw [List.length_map]; exact hl, vs, _, hv, ha⟩
      · rw [off h] at z
        cases z
    · by_cases h : b = a
      · exact h
      · exact (z (off h)).elim
    · by_cases h : b = a
      · subst h
        rw [at_] at z
        cases z
      · rw [off h] at z
        cases z
theorem walk_D {l : OpenLaw} {n k : Nat} {q : Program} {loose : List Str} {XP : (Str -> Option Value) -> Heap -> Prop} {YP : World -> Heap -> Prop} {d : DefRec} {x : Str}
    (hn : l.most = some n) (hn2 : n <= sizeLine) (hdf : d.params.defaults = []) (hr : RoomG k callerA)
    (F : ∀ (w : World) (mg : Str -> Option Value) (fa : Addr) (h : Heap), YP w h -> h.Ns mainGlobals mg -> mg d.name = some (.ref fa) ->
      ∃ (cl : ClW) (K : Frag) (spd : SpD), tabsOf cl = [] /\ K.In h /\
        (∀ (ns : List Int) (M : Mem) (Qd : DV) (Ed : DEK), ns.length <= n -> (∀ M', Qd (.bl true) M') -> spd [.lst (ns.map D.int)] M Qd Ed) /\
        ∀ base : Heap, K.In base -> base.Ns mainGlobals mg -> ∃ fd, Binds K fd [x] [] /\ FnG cl l.prog w K mg base k fa fd [x] spd) :
    WalkO q loose XP YP l.row.toRowW d [] (fun f vs => PySem.call f vs) := by
  refine Att.attach_call hn hdf fun w s₀ s₁ mg mb fa o pm cd doc a vs ns G Y ho hd hcd hmg hobj hints hlen hg => ?_
  obtain ⟨cl, K, spd, hT, KX, hsp, hF⟩ := F w mg fa _ Y G.T.g hmg
  exact law_callD KX G.T.g G.T.b G.T.builtins G.T.nolimit hg hobj hints (Nat.le_trans hlen hn2) hr hF (fun M Qd Ed h => hsp ns M Qd Ed hlen h) hT
end DL
set_option Elab.async false
set_option linter.all false
set_option autoImplicit false
namespace DL
open PySem L2
@[simp] theorem size_line : sizeLine = 16777216 := sizeLine_eq
@[simp] theorem and_flat (a b c : Prop) : ((a /\ b) /\ c) = (a /\ b /\ c) := propext and_assoc
section
variable {M : Mem} {i j : Int} {b : Bool} {x y : Str} {xs ys : List D} {d e : D} {a : Addr}
@[simp] theorem vw_non : vw M .non = .non := rfl
@[simp] theorem vw_bl : vw M (.bl b) = .bl b := rfl
@[simp] theorem vw_int : vw M (.int i) = .int i := rfl
@[simp] theorem vw_str : vw M (.str x) = .str x := rfl
@[simp] theorem vw_byt {z : Array UInt8} : vw M (.byt z) = .byt z := rfl
@[simp] theorem vw_ty {n : String} : vw M (.ty n) = .ty n := rfl
@[simp] theorem vw_lst : vw M (.lst xs) = .lst xs := rfl
@[simp] theorem vw_tup : vw M (.tup xs) = .tup xs := rfl
@[simp] theorem vw_dK {ks : List Key} : vw M (.dK ks xs) = .dK ks xs := rfl
@[simp] theorem vw_dT {ep : Nat} {ks : List (List (Option Key))} : vw M (.dT ep ks xs) = .dT ep ks xs := rfl
@[simp] theorem vw_obj {c : Nat} {ns : List Str} : vw M (.obj c ns xs) = .obj c ns xs := rfl
@[simp] theorem vw_cls {c : Nat} : vw M (.cls c) = .cls c := rfl
theorem vw_ref (h : M a = some d) : vw M (.ref a) = d := by show (M a).getD _ = d; rw [h]; rfl
@[simp] theorem addD_int : addD (.int i) (.int j) = some (.int (i + j)) := rfl
@[simp] theorem addD_lst (h : xs.length + ys.length <= 16777216) : addD (.lst xs) (.lst ys) = some (.lst (xs ++ ys)) := if_pos (by rw [sizeLine_eq]; exact h)
@[simp] theorem addD_tup (h : xs.length + ys.length <= 16777216) : addD (.tup xs) (.tup ys) = some (.tup (xs ++ ys)) := if_pos (by rw [sizeLine_eq]; exact h)
@[simp] theorem addD_str (h : x.length + y.length <= 16777216) : addD (.str x) (.str y) = some (.str (x ++ y)) := if_pos (by rw [sizeLine_eq]; exact h)
@[simp] theorem mulD_int (h : (-18446744073709551616 < i /\ i < 18446744073709551616) \/ (-18446744073709551616 < j /\ j < 18446744073709551616)) : mulD (.int i) (.int j) = some (.int (i * j)) := if_pos h
@[simp] theorem fdivD_int (h : 0 < j) (h2 : j < 1000000000000000000000000000000000000) : fdivD (.int i) (.int j) = some (.int (i / j)) := if_pos ⟨h, Int.lt_trans h2 (by decide)⟩
@[simp] theorem modD_int (h : 0 < j) : modD (.int i) (.int j) = some (.int (i % j)) := if_pos h
@[simp] theorem absF_int : absF [.int i] = some (.int (if i < 0 then -i else i)) := rfl
@[simp] theorem intF_int : intF [.int i] = some (.int i) := rfl
@[simp] theorem intF_bl : intF [.bl b] = some (.int (if b then 1 else 0)) := rfl
@[simp] theorem vw_upd : vw (updM M a d) (.ref a) = d := by show (updM M a d a).getD _ = d; rw [updM_same]; rfl
@[simp] theorem upd_at : updM M a d a = some d := updM_same
@[simp] theorem powD_int : powD (.int i) (.int j) = if 0 <= j /\ j <= 1000000 /\ i.natAbs < 2 ^ 64 then some (.int (i ^ j.toNat)) else none := rfl
@[simp] theorem ixD_lst : ixD (.lst xs) (.int i) = atI xs i := rfl
@[simp] theorem ixD_tup : ixD (.tup xs) (.int i) = atI xs i := rfl
@[simp] theorem slD_lst {lo hi : Option Int} : slD (.lst xs) lo hi = some (.lst (cutD xs lo hi)) := rfl
@[simp] theorem slD_tup {lo hi : Option Int} : slD (.tup xs) lo hi = some (.tup (cutD xs lo hi)) := rfl
@[simp] theorem lenF_lst : lenF [.lst xs] = some (.int xs.length) := rfl
@[simp] theorem lenF_tup : lenF [.tup xs] = some (.int xs.length) := rfl
@[simp] theorem minF_2 : minF [.int i, .int j] = some (.int (if j < i then j else i)) := rfl
@[simp] theorem maxF_2 : maxF [.int i, .int j] = some (.int (if j > i then j else i)) := rfl
@[simp] theorem minF_l : minF [.lst xs] = (intsOf xs).bind fun ns => ns.min?.map D.int := rfl
@[simp] theorem maxF_l : maxF [.lst xs] = (intsOf xs).bind fun ns => ns.max?.map D.int := rfl
@[simp] theorem intsOf_nil : intsOf [] = some [] := rfl
@[simp] theorem intsOf_cons : intsOf (.int i :: xs) = (intsOf xs).map (i :: ·) := rfl
@[simp] theorem intsOf_ints (ns : List Int) : intsOf (ns.map D.int) = some ns := intsOf_map ns
theorem atI_at {α : Type} {l : List α} {k : Int} (h0 : 0 <= k) (h1 : k < l.length) : atI l k = l[k.toNat]? := by
  obtain ⟨n, rfl⟩ := Int.eq_ofNat_of_zero_le h0
  have hn : n < l.length := by omega
  rw [Int.toNat_natCast, List.getElem?_eq_getElem hn]
  exact atI_nat (List.getElem?_eq_getElem hn)
@[simp] theorem atI_0 {α : Type} {u : α} {l : List α} : atI (u :: l) 0 = some u := atI_nat (j := 0) rfl
@[simp] theorem atI_1 {α : Type} {u v : α} {l : List α} : atI (u :: v :: l) 1 = some v := atI_nat (j := 1) rfl
@[simp] theorem atI_2 {α : Type} {u v w : α} {l : List α} : atI (u :: v :: w :: l) 2 = some w := atI_nat (j := 2) rfl
@[simp] theorem atI_3 {α : Type} {u v w z : α} {l : List α} : atI (u :: v :: w :: z :: l) 3 = some z := atI_nat (j := 3) rfl
@[simp] theorem atI_4 {α : Type} {u v w z y : α} {l : List α} : atI (u :: v :: w :: z :: y :: l) 4 = some y := atI_nat (j := 4) rfl
@[simp] theorem eqD_tup : eqD (.tup xs) (.tup ys) = (eqP (.tup xs) (.tup ys)).map D.bl := rfl
@[simp] theorem neD_tup : neD (.tup xs) (.tup ys) = (eqP (.tup xs) (.tup ys)).map fun b => D.bl !b := rfl
@[simp] theorem eqD_lst : eqD (.lst xs) (.lst ys) = (eqP (.lst xs) (.lst ys)).map D.bl := rfl
@[simp] theorem neD_lst : neD (.lst xs) (.lst ys) = (eqP (.lst xs) (.lst ys)).map fun b => D.bl !b := rfl
@[simp] theorem eqD_int : eqD (.int i) (.int j) = some (.bl (i == j)) := rfl
@[simp] theorem neD_int : neD (.int i) (.int j) = some (.bl (!(i == j))) := rfl
@[simp] theorem eqD_str : eqD (.str x) (.str y) = some (.bl (x == y)) := rfl
@[simp] theorem neD_str : neD (.str x) (.str y) = some (.bl (!(x == y))) := rfl
@[simp] theorem eqD_bl {c : Bool} : eqD (.bl b) (.bl c) = some (.bl (b == c)) := rfl
@[simp] theorem neD_bl {c : Bool} : neD (.bl b) (.bl c) = some (.bl (!(b == c))) := rfl
end
end DL
set_option Elab.async false
set_option linter.all false
set_option maxRecDepth 100000
set_option maxHeartbeats 2000000
set_option autoImplicit false
namespace DL
open PySem L2
def setN (f : Str) : List Str -> List Str
  | [] => [f]
  | g :: r => if g = f then g :: r else g :: setN f r
def setV {α : Type} (f : Str) (d : α) : List Str -> List α -> List α
  | g :: r, e :: es => if g = f then d :: es else e :: setV f d r es
  | _, _ => [d]
def lookN {α : Type} (f : Str) : List Str -> List α -> Option α
  | g :: r, e :: es => if g = f then some e else lookN f r es
  | _, _ => none
theorem putF_zip (f : Str) (y : V) : ∀ (ns : List Str) (vs : List V), ns.length = vs.length -> putF f y (ns.zip vs) = (setN f ns).zip (setV f y ns vs) /\ (setN f ns).length = (setV f y ns vs).length
  | [], [], _ => ⟨rfl, rfl⟩
  | n :: ns, v :: vs, h => by
    obtain ⟨h1, h2⟩ := putF_zip f y ns vs (by simpa using h)
    show (if n = f then (n, y) :: ns.zip vs else (n, v) :: putF f y (ns.zip vs)) = (if n = f then n :: ns else n :: setN f ns).zip (if n = f then y :: vs else v :: setV f y ns vs) /\ (if n = f then n :: ns else n :: setN f ns).length = (if n = f then y :: vs else v :: setV f y ns vs).length
    by_cases e : n = f
    · simp only [if_pos e]
      exact ⟨rfl, by simpa using h⟩
    · simp only [if_neg e]
      exact ⟨by rw [h1]; rfl, by simp [h2]⟩
theorem lookN_zip {α : Type} (f : Str) : ∀ (ns : List Str) (vs : List α), (ns.zip vs).lookup f = lookN f ns vs
  | [], _ => by simp [lookN]
  | _ :: _, [] => by simp [lookN]
  | n :: ns, v :: vs => by
    show (match f == n with | true => some v | false => (ns.zip vs).lookup f) = if n = f then some v else lookN f ns vs
    rw [lookN_zip f ns vs]
    by_cases e : n = f
    · subst e; simp
    · rw [if_neg e, beq_eq_false_iff_ne.mpr (Ne.symm e)]
theorem lookN_none {α : Type} (f : Str) : ∀ (ns : List Str) (vs : List α), f ∉ ns -> lookN f ns vs = none
  | [], _, _ => by simp [lookN]
  | _ :: _, [], _ => by simp [lookN]
  | n :: ns, v :: vs, h => by
    show (if n = f then some v else lookN f ns vs) = none
    have ne : n ≠ f := fun e => h (by rw [e]; exact List.mem_cons_self)
    rw [if_neg ne]
    exact lookN_none f ns vs fun z => h (List.mem_cons_of_mem _ z)
section
variable {K : PySem.W.Frag} {cl : ClW} {F : Hp}
theorem reps_setV {f : Str} {y : V} {d : D} (r : Rep K cl F y d) : ∀ {ns : List Str} {vs : List V} {ds : List D}, Reps K cl F vs ds -> Reps K cl F (setV f y ns vs) (setV f d ns ds)
  | [], [], [], _ => .one r
  | [], _, _, h => by
    cases h <;> exact .one r
  | n :: ns, _, _, .nil => .one r
  | n :: ns, _, _, .cons h t => by
    show Reps K cl F (if n = f then y :: _ else _ :: setV f y ns _) (if n = f then d :: _ else _ :: setV f d ns _)
    by_cases e : n = f
    · simp only [if_pos e]; exact .cons r t
    · simp only [if_neg e]; exact .cons h (reps_setV r t)
theorem reps_lookN {f : Str} : ∀ {ns : List Str} {vs : List V} {ds : List D} {d : D}, Reps K cl F vs ds -> lookN f ns ds = some d -> ∃ v, lookN f ns vs = some v /\ Rep K cl F v d
  | [], vs, ds, d, r, h => by cases ds <;> simp [lookN] at h
  | n :: ns, _, _, d, .nil, h => by simp [lookN] at h
  | n :: ns, _, _, d, .cons (v := v) (d := e) r t, h => by
    have h : (if n = f then some e else lookN f ns _) = some d := h
    show ∃ w, (if n = f then some v else lookN f ns _) = some w /\ Rep K cl F w d
    by_cases q : n = f
    · simp only [if_pos q] at h ⊢
      cases h
      exact ⟨v, rfl, r⟩
    · simp only [if_neg q] at h ⊢
      exact reps_lookN t h
end
def FldOk (K : PySem.W.Frag) (cl : Nat -> Addr) (cs : List Nat) (f : Str) : Prop := ∀ c ∈ cs, Cls K (cl c) /\ NoAttr K (cl c) f
def fldD (cs : List Nat) (f : Str) : D -> Option D
  | .obj c ns ds => if c ∈ cs then lookN f ns ds else none
  | _ => none
def dFldSet (cs : List Nat) (f : Str) (τo τv : DTE) : DTS := fun E ρ M => τv ρ M (fun d M1 => τo ρ M1 (fun o M2 => ∃ a c ns ds, o = .ref a /\ M2 a = some (.obj c ns ds) /\ c ∈ cs /\ ns.length < 1000 /\ E.nx ρ (updM M2 a (.obj c (setN f ns) (setV f d ns ds)))) E.ex) E.ex
section
variable {cl : ClW} {X : Cx} {W : WX} {o e : Expr} {es : List Expr} {pos : Pos} {τ τo τv : DTE} {α : DTA} {f : Str} {cs : List Nat}
theorem d_fld (hf : FldOk X.K cl cs f) (ho : DE cl X W o τ) (hb : attributeBase o f X.env (eval o X.env) = eval o X.env := by rfl) : DE cl X W (.Attribute o f pos) (dUn (fldD cs f) τ) :=
  ⟨pe_imp (pe_fld ho.pe hb) fun σ H Q ⟨F, ρ, M, Qd, Xd, g, s, t, p, w⟩ => ⟨F, ρ, M, _, Xd, g, s, t, fun v H' F' d M' sm g' r ⟨z, e1, q⟩ => (by
    have hv := vw_ok g' r
    cases e2 : vw M' d with
    | obj c ns ds =>
      rw [e2] at hv e1
      simp only [fldD] at e1
      split at e1
      · rename_i hc
        obtain ⟨a, dx, vs, rfl, h1, h2, h3⟩ := hv.obj g'.sub
        obtain ⟨u, h4, h5⟩ := reps_lookN h3 e1
        obtain ⟨k1, k2⟩ := hf c hc
        exact ⟨a, cl c, dx, ns.zip vs, u, rfl, h1, k1, k2, by rw [lookN_zip]; exact h4, (p.mono sm).val g' h5 q⟩
      · cases e1
    | _ =>
      rw [e2] at e1
      cases e1), w⟩⟩
theorem ds_fld {pos' : Pos} (hf : FldOk X.K cl cs f) (ho : DE cl X W o τo) (hv : DE cl X W e τv) (hs : swapsWith e (some (.Attribute o f pos')) pos.line X.env = pure false := by rfl) : DS cl X W (.Assign [.Attribute o f pos'] e pos) (dFldSet cs f τo τv) :=
  ⟨ps_imp (ps_fld ho.pe hv.pe hs) fun D σ H ⟨F, ρ, M, E, g, s, q, ok⟩ => ⟨F, ρ, M, _, E.ex, g, s, q, fun y H1 F1 d M1 sm1 g1 r1 q1 => ⟨F1, ρ, M1, _, E.ex, g1, s.mono sm1, q1, fun x H2 F2 od M2 sm2 g2 r2 q2 => (by
    obtain ⟨a, c, ns, ds, e1, e2, e3, e4, q2⟩ := q2
    subst e1
    obtain rfl := r2.toRef
    obtain ⟨hF, dx, vs, h1, h2, h3⟩ := g2.cell a _ e2
    obtain ⟨k1, k2⟩ := hf c e3
    obtain ⟨z1, z2⟩ := putF_zip f y ns vs h2
    refine ⟨a, cl c, dx, ns.zip vs, rfl, h1, k1, k2, by rw [List.length_zip, <- h2, Nat.min_self]; exact e4, ?_⟩
    rw [z1]
    exact ok.nx _ _ F2 ρ _ (sm1.trans sm2) (g2.put (d := .obj c (setN f ns) (setV f d ns ds)) e2 ⟨dx, setV f y ns vs, upd_same, z2, reps_setV (r1.mono sm2) h3⟩) (s.mono (sm1.trans sm2)) q2), ok.ex.mono sm1⟩, ok.ex⟩⟩
end
def MkB (cl : ClW) (P : Program) (w : World) (K : PySem.W.Frag) (mg : Str -> Option Value) (base : Heap) (k : Nat) (x : Str) (c : Nat) (ps : List Str) (spd : SpD) : Prop :=
  mg x = some (.ref (cl c)) /\ ∃ f fd, Mk K (cl c) f /\ Binds K fd ps [] /\ FnG cl P w K mg base k f fd ps spd
def dMake (c : Nat) (spd : SpD) (α : DTA) : DTE := fun ρ M Q X => α ρ M (fun ds M1 => ∀ x, M1 x = none -> spd (.ref x :: ds) (updM M1 x (.obj c [] [])) (fun d M2 => d = .non /\ frz (.ref x) M2 Q) (fun c' ns es M2 => X c' ns es ρ M2)) X
def dMakeM (c : Nat) (spd : SpD) (α : DTA) : DTE := fun ρ M Q X => α ρ M (fun ds M1 => ∀ x, M1 x = none -> spd (.ref x :: ds) (updM M1 x (.obj c [] [])) (fun d M2 => d = .non /\ Q (.ref x) M2) (fun c' ns es M2 => X c' ns es ρ M2)) X
section
variable {cl : ClW} {X : Cx} {W : WX} {j k c : Nat} {ps : List Str} {spd : SpD} {x : Str} {p pos : Pos} {e : Expr} {es : List Expr} {α : DTA}
theorem run_mk {pins : List (Addr × Obj)} {σ : St} {H : Hp} {s : Shared} {Q : VK} {us : List Value} {kw : List (Str × Value)} {ws : List Value} {zs : List V} {f : Addr} {fd : FuncData} (cp : Cap X W (k + 1)) (M : Mk X.K (cl c) f) (F : FnG cl X.prog X.w X.K X.mg X.base k f fd ps spd)
    (I : Inv X pins σ H s) (r : Vals zs ws) (hb : ∀ (s : Shared) (x : Value), X.K.In s.heap -> ws.length + 1 = ps.length -> BindsTo s fd ⟨x :: us, kw⟩ (ps.zip (x :: ws)))
    (h : ∀ x dx, H x = none -> H dx = none -> dx ≠ x -> lower X.K cl spd (.ref x :: zs) (upd (upd H dx (.own x)) x (.ins (cl c) dx [])) (fun v H2 => v = .non /\ Q (.ref x) H2) (WE W σ)) :
    wpAny (model X.prog X.w) X.A (call (.ref (cl c)) us kw) (EP X pins σ Q) X.xe s := by
  have hq := h (s.heap.objs.size + 1) s.heap.objs.size (I.hok.fresh (Nat.le_succ _)) (I.hok.fresh (Nat.le_refl _)) (Nat.ne_of_lt (Nat.lt_succ_self _))
  have I2 := Inv.made (C := cl c) I
  have r2 : Vals (V.ref (s.heap.objs.size + 1) :: zs) (Value.ref (s.heap.objs.size + 1) :: ws) := .cons rfl r
  have hl : ws.length + 1 = ps.length := by
    have e1 := F.lenV hq
    have e2 := r.length
    simp only [List.length_cons] at e1
    omega
  refine wpAny_call (make_map (f := f) I.kIn M.makes M.init (beq_iff_eq.mp M.fn) (codeAny_mono (F.run _ X.stack _ _ _ (Value.ref (s.heap.objs.size + 1) :: ws) _ _ _ (cp.hr.make (cl c) us kw) (I2.env0.make (cl c) us kw) (hb _ _ I2.kIn hl) r2 hq) fun r s' hq' => ?_))
  cases r with
  | error e => exact passAt cp.tk σ pins _ _ e s' I2 hq'
  | ok fl =>
    cases fl with
    | ret u =>
      obtain ⟨v, H', I3, rv, ev, q3⟩ := I2.after hq'
      subst ev
      exact ⟨rv, V.ref (s.heap.objs.size + 1), H', I3, rfl, q3⟩
    | next => exact False.elim hq'
    | brk => exact False.elim hq'
    | cont => exact False.elim hq'
theorem low_mk {K : PySem.W.Frag} {σ : St} {F : Hp} {ρ : Env} {M : Mem} {Qd : DV} {Xd : DX} {vs : List V} {ds : List D} {H : Hp} {Q : VK} {x dx : Addr} (g : Good K cl F H M) (s : Slots K cl F σ ρ) (r : Reps K cl F vs ds) (hx : H x = none) (hdx : H dx = none) (ne : dx ≠ x)
    (q : spd (.ref x :: ds) (updM M x (.obj c [] [])) (fun d M2 => d = .non /\ Qd (.ref x) M2) (fun c' ns es M2 => Xd c' ns es ρ M2)) (p : Post K cl F Q Qd) (w : WOk K cl W F Xd) :
    lower K cl spd (.ref x :: vs) (upd (upd H dx (.own x)) x (.ins (cl c) dx [])) (fun v H2 => v = .non /\ Q (.ref x) H2) (WE W σ) := by
  have g1 : Good K cl F (upd H dx (.own x)) M := g.junk hdx
  have hx1 : upd H dx (.own x) x = none := by rw [upd_ne (Ne.symm ne)]; exact hx
  have g2 : Good K cl F (upd (upd H dx (.own x)) x (.ins (cl c) dx [])) (updM M x (.obj c [] [])) := g1.newM (d := .obj c [] []) hx1 ⟨dx, [], upd_same, rfl, .nil⟩
  exact ⟨F, _, .ref x :: ds, _, _, g2, .cons (.ref x) r, q, fun v H' F' d M' sm g' rv ⟨e1, q'⟩ => by subst e1; exact ⟨rv.toNon, p _ _ _ _ _ sm g' (.ref x) q'⟩,
    fun c' ns es H' F' M' dd sm g' ea q' => w c' ns es σ H' F' ρ M' dd sm g' (s.mono sm) ea q'⟩
theorem post_frz {K : PySem.W.Frag} {F : Hp} {Q : VK} {Qd : DV} (p : Post K cl F Q Qd) : Post K cl F Q (fun d M => frz d M Qd) := fun v H' F' d M' sm g' r q => by
  cases d with
  | ref a =>
    obtain rfl := r.toRef
    cases e : M' a with
    | none =>
      simp only [frz, e] at q
      exact p _ _ _ _ _ sm g' r q
    | some c =>
      simp only [frz, e] at q
      obtain ⟨F2, s2, g2, r2⟩ := g'.freeze e
      exact p _ _ _ _ _ (sm.trans s2) g2 r2 q
  | _ => exact p _ _ _ _ _ sm g' r q
theorem d_makeM (cp : Cap X W k) (G : MkB cl X.prog X.w X.K X.mg X.base j x c ps spd) (hj : j + 1 <= k) (hg : Gl X x) (ha : DA cl X W (e :: es) α)
    (hdb : (x == ("__debug__" : Str)) = false := by decide) (he : starEach (e :: es) X.env = (false, eval e X.env) :: starEach es X.env := by rfl) (hpl : (backTo pos (starEach es X.env)).any (·.1) = false := by rfl) :
    DE cl X W (.Call (.Name x p) (e :: es) [] pos) (dMakeM c spd α) := ⟨⟨fun pins s σ H Q I h => by
  obtain ⟨hm, f, fd, M, hb, G⟩ := G
  obtain ⟨k', rfl⟩ : ∃ k', k = k' + 1 := ⟨k - 1, by omega⟩
  obtain ⟨F, ρ, M0, Qd, Xd, g, sl, q, pp, w⟩ := h
  refine wpAny_Call_Name_kw (ld_glob I hg hm ?_ hdb)
  refine PySem.W.callWith_K (h₀ := X.base) I.ok.mod.kin M.kp (thn (ha.pa.run pos pins s σ H (fun vs H1 => ∀ x dx, H1 x = none -> H1 dx = none -> dx ≠ x -> lower X.K cl spd (.ref x :: vs) (upd (upd H1 dx (.own x)) x (.ins (cl c) dx [])) (fun v H2 => v = .non /\ Q (.ref x) H2) (WE W σ)) I
    ⟨F, ρ, M0, _, Xd, g, sl, q, fun vs H' F' ds M' sm g' r q' x dx hx hdx ne => ?_, w⟩) fun us s1 ⟨vs, H1, I1, r, q⟩ => ⟨I1.kIn, ?_⟩) he hpl
  · exact low_mk g' (sl.mono sm) r hx hdx ne (q' x (g'.freshM hx)) (pp.mono sm) (w.mono sm)
  · refine run_mk (kw := []) cp M (G.mono (by omega)) I1 r (fun s u hk hl => ?_) q
    have := hb s (u :: us) hk (by have := r.length; simp; omega)
    simpa using this⟩⟩
theorem d_make (cp : Cap X W k) (G : MkB cl X.prog X.w X.K X.mg X.base j x c ps spd) (hj : j + 1 <= k) (hg : Gl X x) (ha : DA cl X W (e :: es) α)
    (hdb : (x == ("__debug__" : Str)) = false := by decide) (he : starEach (e :: es) X.env = (false, eval e X.env) :: starEach es X.env := by rfl) (hpl : (backTo pos (starEach es X.env)).any (·.1) = false := by rfl) :
    DE cl X W (.Call (.Name x p) (e :: es) [] pos) (dMake c spd α) :=
  ⟨pe_imp (d_makeM cp G hj hg ha hdb he hpl).pe fun σ H Q ⟨F, ρ, M, Qd, Xd, g, s, q, p, w⟩ => ⟨F, ρ, M, fun d M => frz d M Qd, Xd, g, s, q, post_frz p, w⟩⟩
end
def MethB (cl : ClW) (P : Program) (w : World) (K : PySem.W.Frag) (mg : Str -> Option Value) (base : Heap) (k : Nat) (c : Nat) (m : Str) (spd : SpD) : Prop :=
  Cls K (cl c) /\ ∃ f fd ps, Meth K (cl c) m f /\ Binds K fd ps [] /\ FnG cl P w K mg base k f fd ps spd
def dMeth (tb : List (Nat × SpD)) (m : Str) (τ : DTE) (α : DTA) : DTE := fun ρ M Q X => τ ρ M (fun o M1 => ∃ c ns ds spd, vw M1 o = .obj c ns ds /\ tb.lookup c = some spd /\ m ∉ ns /\ α ρ M1 (fun as M2 => spd (o :: as) M2 Q (fun c' ns es M3 => X c' ns es ρ M3)) X) X
section
variable {cl : ClW} {X : Cx} {W : WX} {k : Nat} {m : Str} {p pos apos : Pos} {o e : Expr} {es : List Expr} {τ : DTE} {α : DTA} {tb : List (Nat × SpD)} {pl : Sem Bool}
theorem meth_at {K : PySem.W.Frag} {F H : Hp} {M : Mem} {v : V} {d : D} {c : Nat} {ns : List Str} {ds : List D} (g : Good K cl F H M) (r : Rep K cl F v d) (e : vw M d = .obj c ns ds) (hm : m ∉ ns) : ∃ a dx fs, v = .ref a /\ H a = some (.ins (cl c) dx fs) /\ fs.lookup m = none := by
  have hv := vw_ok g r
  rw [e] at hv
  obtain ⟨a, dx, vs, rfl, h1, h2, h3⟩ := hv.obj g.sub
  exact ⟨a, dx, _, rfl, h1, by rw [lookN_zip]; exact lookN_none m ns vs hm⟩
theorem d_meth (cp : Cap X W k) (hm : ∀ c spd, tb.lookup c = some spd -> MethB cl X.prog X.w X.K X.mg X.base k c m spd) (ho : DE cl X W o τ) (ha : DA cl X W (e :: es) α)
    (hst : starEach (e :: es) X.env = (false, eval e X.env) :: starEach es X.env := by rfl) (hpl : (backTo pos (starEach es X.env)).any (·.1) = false := by rfl)
    (ht : eval (.Call (.Attribute o m apos) (e :: es) [] pos) X.env = (do
      let ov <- eval o X.env
      standAt apos.atName
      let (f, first) <- holding [ov] (getMethod ov m pl)
      callWith pos f first (backTo pos (starEach (e :: es) X.env)) (backToKw pos (keywordEach [] X.env))) := by rfl) :
    DE cl X W (.Call (.Attribute o m apos) (e :: es) [] pos) (dMeth tb m τ α) := ⟨⟨fun pins s σ H Q I h => by
  obtain ⟨F, ρ, M, Qd, Xd, g, sl, q, p, w⟩ := h
  refine PySem.W.methodCall_KW (pl := pl) (thn (ho.pe.run pins s σ H (fun v H1 => ∃ F' ρ' M' o, Same F F' /\ Good X.K cl F' H1 M' /\ Rep X.K cl F' v o /\ ρ' = ρ /\ ∃ c ns ds spd, vw M' o = .obj c ns ds /\ tb.lookup c = some spd /\ m ∉ ns /\ α ρ M' (fun as M2 => spd (o :: as) M2 Qd (fun c' ns es M3 => Xd c' ns es ρ M3)) Xd) I
    ⟨F, ρ, M, _, Xd, g, sl, q, fun v H' F' d M' sm g' r q' => ⟨F', ρ, M', d, sm, g', r, rfl, q'⟩, w⟩) fun u s1 ⟨v, H1, I1, rv, F1, ρ1, M1, od, sm1, g1, r1, _, c, ns, ds, spd, e1, e2, e3, q1⟩ => ?_) ht
  obtain ⟨hc, f, fd, ps, mt, hb, G⟩ := hm c spd e2
  obtain ⟨a, dx, fs, rfl, ha1, ha2⟩ := meth_at g1 r1 e1 e3
  obtain rfl : u = Value.ref a := rv
  refine getmeth_ok I1 ha1 hc mt ha2 ?_
  refine PySem.W.callWith_K (first := [.ref a]) (h₀ := X.base) I.ok.mod.kin mt.kp (thn (ha.pa.run pos pins s1 σ H1 (fun vs H2 => lower X.K cl spd ((.ref a :: vs) ++ []) H2 Q (WE W σ)) I1 ⟨F1, ρ, M1, _, Xd, g1, sl.mono sm1, q1, fun vs H' F' as M' sm g' r q' => ?_, w.mono sm1⟩) fun us s2 ⟨vs, H2, I2, r, q2⟩ => ⟨I2.kIn, ?_⟩) hst hpl
  · show lower X.K cl spd ((.ref a :: vs) ++ []) H' Q (WE W σ)
    rw [List.append_nil]
    exact low_call g' (sl.mono (sm1.trans sm)) (.cons (r1.mono sm) r) q' (p.mono (sm1.trans sm)) (w.mono (sm1.trans sm))
  · exact run_g (us := .ref a :: us) (vs := .ref a :: vs) cp G hb .nil I2 (.cons rfl r) q2⟩⟩
theorem d_meth0 (cp : Cap X W k) (hm : ∀ c spd, tb.lookup c = some spd -> MethB cl X.prog X.w X.K X.mg X.base k c m spd) (ho : DE cl X W o τ)
    (ht : eval (.Call (.Attribute o m apos) [] [] pos) X.env = (do
      let ov <- eval o X.env
      standAt apos.atName
      let (f, first) <- holding [ov] (getMethod ov m pl)
      callWith pos f first (backTo pos (starEach [] X.env)) (backToKw pos (keywordEach [] X.env))) := by rfl) :
    DE cl X W (.Call (.Attribute o m apos) [] [] pos) (dMeth tb m τ dNil) := ⟨⟨fun pins s σ H Q I h => by
  obtain ⟨F, ρ, M, Qd, Xd, g, sl, q, p, w⟩ := h
  refine PySem.W.methodCall_KW (pl := pl) (thn (ho.pe.run pins s σ H (fun v H1 => ∃ F' M' o, Same F F' /\ Good X.K cl F' H1 M' /\ Rep X.K cl F' v o /\ ∃ c ns ds spd, vw M' o = .obj c ns ds /\ tb.lookup c = some spd /\ m ∉ ns /\ spd [o] M' Qd (fun c' ns es M3 => Xd c' ns es ρ M3)) I
    ⟨F, ρ, M, _, Xd, g, sl, q, fun v H' F' d M' sm g' r q' => ⟨F', M', d, sm, g', r, q'⟩, w⟩) fun u s1 ⟨v, H1, I1, rv, F1, M1, od, sm1, g1, r1, c, ns, ds, spd, e1, e2, e3, q1⟩ => ?_) ht
  obtain ⟨hc, f, fd, ps, mt, hb, G⟩ := hm c spd e2
  obtain ⟨a, dx, fs, rfl, ha1, ha2⟩ := meth_at g1 r1 e1 e3
  obtain rfl : u = Value.ref a := rv
  refine getmeth_ok I1 ha1 hc mt ha2 ?_
  exact PySem.W.callWith_K0 (first := [.ref a]) I1.kIn mt.kp (run_g (us := [.ref a]) (vs := [.ref a]) cp G hb .nil I1 (.cons rfl .nil) (low_call g1 (sl.mono sm1) (.one r1) q1 (p.mono sm1) (w.mono sm1)))⟩⟩
end
end DL
set_option Elab.async false
set_option linter.all false
set_option maxRecDepth 100000
set_option maxHeartbeats 2000000
set_option autoImplicit false
namespace DL
open PySem L2
def blsOf : List D -> Option (List Bool)
  | [] => some []
  | .bl i :: r => (blsOf r).map (i :: ·)
  | _ :: _ => none
theorem blsOf_eq : ∀ {ds : List D} {ns : List Bool}, blsOf ds = some ns -> ds = ns.map D.bl
  | [], ns, h => by simp only [blsOf] at h; cases h; rfl
  | d :: ds, ns, h => by
    cases d with
    | bl i =>
      simp only [blsOf] at h
      cases e : blsOf ds with
      | none => rw [e] at h; cases h
      | some ms => rw [e] at h; cases h; rw [blsOf_eq e]; rfl
    | _ => simp only [blsOf] at h; cases h
@[simp] theorem blsOf_map (ns : List Bool) : blsOf (ns.map D.bl) = some ns := by
  induction ns with
  | nil => rfl
  | cons n ns ih => simp only [List.map_cons, blsOf, ih]; rfl
def allF : List D -> Option D
  | [.lst xs] => (blsOf xs).map fun bs => .bl (bs.all id)
  | _ => none
def anyF : List D -> Option D
  | [.lst xs] => (blsOf xs).map fun bs => .bl (bs.any id)
  | _ => none
def strF : List D -> Option D
  | [.int i] => if i.natAbs.log2 < 1920 then some (.str (toString i)) else none
  | _ => none
def tupF : List D -> Option D
  | [.lst xs] => some (.tup xs)
  | [.tup xs] => some (.tup xs)
  | _ => none
def lstF : List D -> Option D
  | [.lst xs] => some (.lst xs)
  | [.tup xs] => some (.lst xs)
  | _ => none
section
variable {K : PySem.W.Frag} {cl : ClW} {F : Hp}
theorem Reps.bls : ∀ {vs : List V} {ns : List Bool}, Reps K cl F vs (ns.map D.bl) -> vs = ns.map V.bl
  | _, [], h => h.inv0
  | _, n :: ns, h => by
    obtain ⟨v, ws, rfl, a, b⟩ := h.inv
    rw [a.toBl, Reps.bls b]; rfl
theorem lc_all : LCall K cl (rAll K) allF := by
  intro F H M xs ds z Q Qd g r h p q
  generalize e : ds.map (vw M) = es at h
  unfold allF at h
  split at h
  · obtain ⟨x, rfl, hv⟩ := reps1 g r e
    obtain ⟨a, vs, rfl, h1, h2⟩ := hv.lst g.sub
    rename_i ys
    cases e2 : blsOf ys with
    | none => rw [e2] at h; cases h
    | some ns =>
      rw [e2] at h
      cases h
      rw [blsOf_eq e2] at h2
      exact ⟨a, ns, rfl, by rw [<- h2.bls]; exact h1, p.val g (.bl _) q⟩
  · cases h
theorem lc_str : LCall K cl (fun xs H Q => ∃ i, xs = [.int i] /\ i.natAbs.log2 < 1920 /\ Q (.str (toString i)) H) strF := by
  intro F H M xs ds z Q Qd g r h p q
  generalize e : ds.map (vw M) = es at h
  unfold strF at h
  split at h
  · obtain ⟨x, rfl, hv⟩ := reps1 g r e
    obtain rfl := hv.int
    split at h
    · cases h
      exact ⟨_, rfl, by assumption, p.val g (.str _) q⟩
    · cases h
  · cases h
theorem lc_tup : LCall K cl (fun xs H Q => ∃ p ys, xs = [.ref p] /\ ((SqL K H p ys /\ ∀ l, H l = none -> Q (.ref l) (upd H l (.tup ys))) \/ (SqT K H p ys /\ Q (.ref p) H))) tupF := by
  intro F H M xs ds z Q Qd g r h p q
  generalize e : ds.map (vw M) = es at h
  unfold tupF at h
  split at h
  · obtain ⟨x, rfl, hv⟩ := reps1 g r e
    obtain ⟨a, vs, rfl, h1, h2⟩ := hv.lst g.sub
    cases h
    exact ⟨a, vs, rfl, .inl ⟨h1, fun l hl => p.newT g h2 q hl⟩⟩
  · obtain ⟨x, rfl, hv⟩ := reps1 g r e
    rcases hv with hv | ⟨_, _, hv⟩
    · obtain ⟨a, vs, rfl, h1, h2⟩ := hv.toTup
      cases h
      exact ⟨a, vs, rfl, .inr ⟨same_t g.sub h1, p.val g hv q⟩⟩
    · exact hv.elim
  · cases h
theorem lc_lst : LCall K cl (fun xs H Q => ∃ p ys, xs = [.ref p] /\ (SqL K H p ys \/ SqT K H p ys) /\ ∀ l, H l = none -> Q (.ref l) (upd H l (.lst ys))) lstF := by
  intro F H M xs ds z Q Qd g r h p q
  generalize e : ds.map (vw M) = es at h
  unfold lstF at h
  split at h
  · obtain ⟨x, rfl, hv⟩ := reps1 g r e
    obtain ⟨a, vs, rfl, h1, h2⟩ := hv.lst g.sub
    cases h
    exact ⟨a, vs, rfl, .inl h1, fun l hl => p.newL g h2 q hl⟩
  · obtain ⟨x, rfl, hv⟩ := reps1 g r e
    obtain ⟨a, vs, rfl, h1, h2⟩ := hv.tup g.sub
    cases h
    exact ⟨a, vs, rfl, .inr h1, fun l hl => p.newL g h2 q hl⟩
  · cases h
end
def dLstOfM (α : DTA) : DTE := fun ρ M Q X => α ρ M (fun ds M1 => ∃ xs, lstF (ds.map (vw M1)) = some (.lst xs) /\ ∀ a, M1 a = none -> Q (.ref a) (updM M1 a (.lst xs))) X
section
variable {cl : ClW} {X : Cx} {W : WX} {e : Expr} {es : List Expr} {pos p : Pos} {α : DTA}
theorem d_listM (hg : Gl X "list") (hm : X.mg "list" = none) (hv : bootBuiltins "list" = some (.type "list")) (ha : DA cl X W [e] α)
    (he : starEach [e] X.env = (false, eval e X.env) :: starEach [] X.env := by rfl) (hpl : (backTo pos (starEach [] X.env)).any (·.1) = false := by rfl) : DE cl X W (.Call (.Name "list" p) [e] [] pos) (dLstOfM α) :=
  ⟨pe_imp (pe_callTy call_list_of hg hm hv ha.pa (by decide) (by decide) he hpl) fun σ H Q ⟨F, ρ, M, Qd, Xd, g, s, t, p, w⟩ => ⟨F, ρ, M, _, Xd, g, s, t, fun vs H' F' ds M' sm g' r ⟨xs, e1, q⟩ => (by
    generalize e : ds.map (vw M') = es at e1
    unfold lstF at e1
    split at e1
    · obtain ⟨x, rfl, hv⟩ := reps1 g' r e
      obtain ⟨a, us, rfl, h1, h2⟩ := hv.lst g'.sub
      cases e1
      exact ⟨a, us, rfl, .inl h1, fun l hl => p _ _ F' _ _ sm (g'.newM (d := .lst xs) hl ⟨us, upd_same, h2⟩) (.ref l) (q l (g'.freshM hl))⟩
    · obtain ⟨x, rfl, hv⟩ := reps1 g' r e
      obtain ⟨a, us, rfl, h1, h2⟩ := hv.tup g'.sub
      cases e1
      exact ⟨a, us, rfl, .inr h1, fun l hl => p _ _ F' _ _ sm (g'.newM (d := .lst xs) hl ⟨us, upd_same, h2⟩) (.ref l) (q l (g'.freshM hl))⟩
    · cases e1), w⟩⟩
end
@[simp] def flatD : D -> Bool
  | .non => true
  | .bl _ => true
  | .int _ => true
  | .str _ => true
  | _ => false
@[simp] def eqFD : D -> D -> Bool
  | .non, .non => true
  | .bl a, .bl b => a == b
  | .bl a, .int b => (if a then 1 else 0) == b
  | .int a, .bl b => a == (if b then 1 else 0)
  | .int a, .int b => a == b
  | .str a, .str b => a == b
  | _, _ => false
def keyD : D -> Option Key
  | .int i => some (.inl i)
  | .str x => some (.inr x)
  | _ => none
def inStr (x z : Str) : Bool := match x with
  | ⟨⟨[c]⟩⟩ => decide (c ∈ z.cps.toList)
  | x => !(Builtin.Str.occurrences z x 0 z.length 1).isEmpty
def inB (x : D) : D -> Option Bool
  | .lst xs => if flatD x && xs.all flatD then some (xs.any fun y => eqFD y x) else none
  | .tup xs => if flatD x && xs.all flatD then some (xs.any fun y => eqFD y x) else none
  | .str z => match x with
    | .str i => some (inStr i z)
    | _ => none
  | .dK ks _ => (keyD x).map fun k => ks.any fun j => decide (j = k)
  | _ => none
def inD (x y : D) : Option D := (inB x y).map D.bl
def ninD (x y : D) : Option D := (inB x y).map fun b => D.bl !b
section
variable {K : PySem.W.Frag} {cl : ClW} {F H : Hp} {X : Cx}
theorem flat_of {v : V} {d : D} (h : Vw K cl F H v d) (f : flatD d = true) : flatV v = true /\ Rep K cl F v d := by
  cases d with
  | non => obtain rfl := h.non; exact ⟨rfl, .non⟩
  | bl b => obtain rfl := h.bl; exact ⟨rfl, .bl b⟩
  | int b => obtain rfl := h.int; exact ⟨rfl, .int b⟩
  | str b => obtain rfl := h.str; exact ⟨rfl, .str b⟩
  | _ => cases f
theorem eq_of {v u : V} {d e : D} (h : Rep K cl F v d) (k : Rep K cl F u e) (f : flatD d = true) (f' : flatD e = true) : eqV v u = eqFD d e := by
  cases d with
  | non => obtain rfl := h.toNon; cases e with
    | non => obtain rfl := k.toNon; rfl
    | bl b => obtain rfl := k.toBl; rfl
    | int b => obtain rfl := k.toInt; rfl
    | str b => obtain rfl := k.toStr; rfl
    | _ => cases f'
  | bl b => obtain rfl := h.toBl; cases e with
    | non => obtain rfl := k.toNon; rfl
    | bl b => obtain rfl := k.toBl; rfl
    | int b => obtain rfl := k.toInt; rfl
    | str b => obtain rfl := k.toStr; rfl
    | _ => cases f'
  | int b => obtain rfl := h.toInt; cases e with
    | non => obtain rfl := k.toNon; rfl
    | bl b => obtain rfl := k.toBl; rfl
    | int b => obtain rfl := k.toInt; rfl
    | str b => obtain rfl := k.toStr; rfl
    | _ => cases f'
  | str b => obtain rfl := h.toStr; cases e with
    | non => obtain rfl := k.toNon; rfl
    | bl b => obtain rfl := k.toBl; rfl
    | int b => obtain rfl := k.toInt; rfl
    | str b => obtain rfl := k.toStr; rfl
    | _ => cases f'
  | _ => cases f
theorem flats_of {x : V} {d : D} (hx : Rep K cl F x d) (fd : flatD d = true) : ∀ {vs : List V} {ds : List D}, Reps K cl F vs ds -> ds.all flatD = true -> vs.all flatV = true /\ inV x vs = ds.any fun y => eqFD y d
  | _, _, .nil, _ => ⟨rfl, rfl⟩
  | _, _, .cons (v := v) (d := e) r t, f => by
    rw [List.all_cons, Bool.and_eq_true] at f
    obtain ⟨h1, h2⟩ := flats_of hx fd t f.2
    refine ⟨by rw [List.all_cons, (flat_of (H := F) (.inl r) f.1).1, h1]; rfl, ?_⟩
    unfold inV at h2 ⊢
    rw [List.any_cons, List.any_cons, h2, eq_of r hx f.1 fd]
theorem key_rep {v : V} {d : D} {k : Key} (h : Vw K cl F H v d) (e : keyD d = some k) : v = kV k := by
  cases d with
  | int i => cases e; exact h.int
  | str i => cases e; exact h.str
  | _ => cases e
theorem Vw.dK {v : V} {ks : List Key} {ds : List D} (g : Same F H) (h : Vw K cl F H v (.dK ks ds)) : ∃ a vs, v = .ref a /\ H a = some (.dK (ks.zip vs)) /\ ks.length = vs.length /\ Reps K cl F vs ds := by
  rcases h with h | ⟨a, rfl, vs, h1, h2, h3⟩
  · cases h with
    | dK h1 h2 h3 => exact ⟨_, _, rfl, g _ _ h1, h2, h3⟩
  · exact ⟨a, vs, rfl, h1, h2, h3⟩
def atK {α β : Type} [DecidableEq β] (k : β) : List β -> List α -> Option α
  | j :: ks, d :: ds => if j = k then some d else atK k ks ds
  | _, _ => none
theorem valV_zip {β : Type} [DecidableEq β] (k : β) : ∀ (ks : List β) (vs : List V), valV (ks.zip vs) k = atK k ks vs
  | [], _ => by simp [atK, valV]
  | _ :: _, [] => by simp [atK, valV]
  | j :: ks, v :: vs => by
    rw [List.zip_cons_cons]
    unfold atK
    by_cases e : j = k
    · rw [valV_pos e, if_pos e]
    · rw [valV_neg e, if_neg e, valV_zip k ks vs]
theorem atK_some {α β : Type} [DecidableEq β] (k : β) : ∀ (ks : List β) (vs : List α), ks.length = vs.length -> (atK k ks vs).isSome = ks.any fun j => decide (j = k)
  | [], _, _ => by simp [atK]
  | _ :: _, [], h => by simp at h
  | j :: ks, v :: vs, h => by
    unfold atK
    by_cases e : j = k
    · rw [if_pos e]; simp [e]
    · rw [if_neg e, atK_some k ks vs (by simpa using h)]
      simp [e]
theorem reps_atK {β : Type} [DecidableEq β] {k : β} : ∀ {ks : List β} {vs : List V} {ds : List D} {d : D}, Reps K cl F vs ds -> atK k ks ds = some d -> ∃ v, atK k ks vs = some v /\ Rep K cl F v d
  | [], vs, ds, d, r, h => by cases ds <;> simp [atK] at h
  | _ :: _, _, _, d, .nil, h => by simp [atK] at h
  | j :: ks, _, _, d, .cons (v := v) (d := e) r t, h => by
    unfold atK at h ⊢
    by_cases q : j = k
    · simp only [if_pos q] at h ⊢
      cases h
      exact ⟨v, rfl, r⟩
    · simp only [if_neg q] at h ⊢
      exact reps_atK t h
def rDIn (b : Bool) : R2 := fun y x H Q => ∃ a o, x = .ref a /\ DGet H a y o /\ Q (.bl (if b then o.isSome else !o.isSome)) H
theorem op_dIn (hu : X.A.units + 1 < cLine) : OpR X (compareOp .In) (rDIn true) := by
  intro pins s σ H x y v u Q I rx ry h
  obtain ⟨a, o, rfl, g, q⟩ := h
  cases ry
  exact d_in hu I g rx fun s' I' => ⟨.bl _, H, I', rfl, q⟩
theorem op_dNotIn (hu : X.A.units + 1 < cLine) : OpR X (compareOp .NotIn) (rDIn false) := by
  intro pins s σ H x y v u Q I rx ry h
  obtain ⟨a, o, rfl, g, q⟩ := h
  cases ry
  exact d_notIn hu I g rx fun s' I' => ⟨.bl _, H, I', rfl, q⟩
def rSgn (n : Bool) : R2 := fun x y H Q => ∃ (c : Nat) (z : Str), x = .str ⟨#[c]⟩ /\ y = .str z /\ Q (.bl (if n then !decide (c ∈ z.cps.toList) else decide (c ∈ z.cps.toList))) H
def rStrIn (n : Bool) : R2 := fun x y H Q => ∃ i j, x = .str i /\ y = .str j /\ Q (.bl (if n then !(!(Builtin.Str.occurrences j i 0 j.length 1).isEmpty) else (!(Builtin.Str.occurrences j i 0 j.length 1).isEmpty))) H
def rInAll (K : PySem.W.Frag) (n : Bool) : R2 := fun x y H Q => rIn K n x y H Q \/ rSgn n x y H Q \/ rStrIn n x y H Q \/ rDIn (!n) x y H Q
theorem op_inA (hu : X.A.units + 1 < cLine) : OpR X (compareOp .In) (rInAll X.K false) := op_in_seq.or (op_in_sign.or (op_in_str.or (op_dIn hu)))
theorem op_ninA (hu : X.A.units + 1 < cLine) : OpR X (compareOp .NotIn) (rInAll X.K true) := op_notIn_seq.or (op_notIn_sign.or (op_notIn_str.or (op_dNotIn hu)))
theorem in_at (s : Same F H) {n : Bool} {x y : V} {d e : D} {b : Bool} {Q : VK} (hx : Vw K cl F H x d) (hy : Vw K cl F H y e) (h : inB d e = some b) (q : Q (.bl (if n then !b else b)) H) : rInAll K n x y H Q := by
  cases e with
  | lst ds =>
    simp only [inB] at h
    split at h
    · rename_i hf
      cases h
      rw [Bool.and_eq_true] at hf
      obtain ⟨a, vs, rfl, h1, h2⟩ := hy.lst s
      obtain ⟨f1, r1⟩ := flat_of hx hf.1
      obtain ⟨f2, e2⟩ := flats_of r1 hf.1 h2 hf.2
      exact .inl ⟨a, vs, rfl, .inl h1, f1, f2, by rw [e2]; exact q⟩
    · cases h
  | tup ds =>
    simp only [inB] at h
    split at h
    · rename_i hf
      cases h
      rw [Bool.and_eq_true] at hf
      obtain ⟨a, vs, rfl, h1, h2⟩ := hy.tup s
      obtain ⟨f1, r1⟩ := flat_of hx hf.1
      obtain ⟨f2, e2⟩ := flats_of r1 hf.1 h2 hf.2
      exact .inl ⟨a, vs, rfl, .inr h1, f1, f2, by rw [e2]; exact q⟩
    · cases h
  | str z =>
    cases d with
    | str i =>
      simp only [inB] at h
      cases h
      obtain rfl := hx.str
      obtain rfl := hy.str
      by_cases hc : ∃ c, i = ⟨⟨[c]⟩⟩
      · obtain ⟨c, rfl⟩ := hc
        exact .inr (.inl ⟨c, z, rfl, rfl, q⟩)
      · have e1 : inStr i z = !(Builtin.Str.occurrences z i 0 z.length 1).isEmpty := by
          unfold inStr
          split
          · exact absurd ⟨_, rfl⟩ hc
          · rfl
        rw [e1] at q
        exact .inr (.inr (.inl ⟨_, z, rfl, rfl, q⟩))
    | _ => cases h
  | dK ks ds =>
    simp only [inB] at h
    cases e1 : keyD d with
    | none => rw [e1] at h; cases h
    | some k =>
      rw [e1] at h
      cases h
      obtain ⟨a, vs, rfl, h1, h2, h3⟩ := hy.dK s
      refine .inr (.inr (.inr ⟨a, _, rfl, by rw [key_rep hx e1]; exact DGet.k h1, ?_⟩))
      rw [valV_zip, atK_some k ks vs h2]
      cases n <;> exact q
  | _ => cases h
theorem lop_in : LOp K cl (rInAll K false) inD := by
  intro F H M x y d e z Q Qd g hx hy h p q
  unfold inD at h
  cases e1 : inB d e with
  | none => rw [e1] at h; cases h
  | some b => rw [e1] at h; cases h; exact in_at g.sub hx hy e1 (p.val g (.bl _) q)
theorem lop_nin : LOp K cl (rInAll K true) ninD := by
  intro F H M x y d e z Q Qd g hx hy h p q
  unfold ninD at h
  cases e1 : inB d e with
  | none => rw [e1] at h; cases h
  | some b => rw [e1] at h; cases h; exact in_at g.sub hx hy e1 (p.val g (.bl _) q)
def ixA : D -> D -> Option D
  | .dK ks ds, k => (keyD k).bind fun k => atK k ks ds
  | d, e => ixD d e
def rDIx : R2 := fun x y H Q => ∃ a v, x = .ref a /\ DGet H a y (some v) /\ Q v H
theorem ix_dict (hu : X.A.units + 1 < cLine) : IxR X rDIx := by
  intro value slice pins s σ H x y v u Q I rx ry h hs
  obtain ⟨a, z, rfl, g, q⟩ := h
  cases rx
  exact PyProof.Rows.tail_any (dict_typeIs I g) PySem.F.slot_dict_getitem.lookup (d_getItem hu I g ry fun w' s3 I3 rw' => ⟨z, H, I3, rw', q⟩) hs
theorem lixA : LOp K cl (fun x y H Q => rIx K x y H Q \/ rDIx x y H Q) ixA := by
  intro F H M x y d e z Q Qd g hx hy h p q
  unfold ixA at h
  split at h
  · rename_i ks ds
    cases e1 : keyD e with
    | none => rw [e1] at h; cases h
    | some k =>
      rw [e1] at h
      obtain ⟨a, vs, rfl, h1, h2, h3⟩ := hx.dK g.sub
      obtain ⟨v, h4, h5⟩ := reps_atK h3 h
      exact .inr ⟨a, v, rfl, by rw [key_rep hy e1, <- h4, <- valV_zip]; exact DGet.k h1, p.val g h5 q⟩
  · exact .inl (lix F H M x y d e z Q Qd g hx hy h p q)
variable {W : WX} {a b : Expr} {pos : Pos} {τa τb : DTE}
theorem d_ixA (hu : X.A.units + 1 < cLine) (ha : DE cl X W a τa) (hb : DE cl X W b τb) (hs : PlainIx b := by exact fun _ _ => rfl) : DE cl X W (.Subscript a b pos) (dOp ixA τa τb) :=
  ⟨pe_imp (pe_ix (ix_seq.or (ix_dict hu)) ha.pe hb.pe hs) fun σ H Q ⟨F, ρ, M, Qd, Xd, g, s, t, p, w⟩ =>
    ⟨F, ρ, M, _, Xd, g, s, t, fun v H' F' d M' sm g' r' q => ⟨F', ρ, M', _, Xd, g', s.mono sm, q, fun u H2 F2 e M2 sm2 g2 r2 q2 => by
      obtain ⟨z, e1, e2⟩ := q2
      exact lixA F2 H2 M2 v u _ _ z Q Qd g2 (vw_ok g2 (r'.mono sm2)) (vw_ok g2 r2) e1 (p.mono (sm.trans sm2)) e2, w.mono sm⟩, w⟩⟩
end
end DL
set_option Elab.async false
set_option linter.all false
set_option maxRecDepth 100000
set_option maxHeartbeats 4000000
set_option autoImplicit false
namespace DL
open PySem L2
section
open PySem.Spec PyProof.Rows HT
variable {prog : Program} {w : World} {A : Around} {E : Value -> Shared -> Prop} {s : Shared}
end
section
open PySem.Spec PyProof.Rows HT
variable {X : Cx}
end
@[simp] def revD : D -> Option D
  | .lst xs => some (.lst xs.reverse)
  | .tup xs => some (.tup xs.reverse)
  | _ => none
section
variable {cl : ClW} {X : Cx} {W : WX} {e : Expr} {τ : DTE} {pos : Pos}
end
def tyD (T : String) : D -> Bool
  | .lst _ => T == "list"
  | .str _ => T == "str"
  | .dK _ _ => T == "dict"
  | _ => false
def LMt (K : PySem.W.Frag) (cl : ClW) (r : V -> List V -> Hp -> VK -> Prop) (φ : D -> List D -> Mem -> DV -> Prop) : Prop :=
  ∀ F H M x xs d ds Q Qd, Good K cl F H M -> Rep K cl F x d -> Reps K cl F xs ds -> φ d ds M Qd -> Post K cl F Q Qd -> r x xs H Q
def dBM (T : String) (φ : D -> List D -> Mem -> DV -> Prop) (τ : DTE) (α : DTA) : DTE := fun ρ M Q X => τ ρ M (fun o M1 => tyD T (vw M1 o) = true /\ α ρ M1 (fun ds M2 => φ o ds M2 Q) X) X
section
variable {K : PySem.W.Frag} {cl : ClW} {F H : Hp} {X : Cx} {W : WX}
theorem tyV_of {T : String} {v : V} {d : D} (s : Same F H) (h : Vw K cl F H v d) (e : tyD T d = true) : tyV K T v H := by
  cases d with
  | lst ds =>
    obtain ⟨a, vs, rfl, h1, h2⟩ := h.lst s
    exact .inl ⟨eq_of_beq e, vs, h1⟩
  | str z =>
    obtain rfl := h.str
    exact eq_of_beq e
  | dK ks ds =>
    obtain ⟨a, vs, rfl, h1, h2, h3⟩ := h.dK s
    exact .inr (.inr (.inl ⟨eq_of_beq e, .inl ⟨_, h1⟩⟩))
  | _ => cases e
variable {o e : Expr} {es : List Expr} {τ : DTE} {α : DTA} {name : Str} {apos cpos : Pos} {T id : String} {r : V -> List V -> Hp -> VK -> Prop} {φ : D -> List D -> Mem -> DV -> Prop}
theorem d_bm (pa : PlainAttrs T) (slot : Slot T name id) (hty : typeOf (.builtin id) = pure (.type "method_descriptor")) (hm : MtR X id r) (hl : LMt X.K cl r φ) (ho : DE cl X W o τ) (ha : DA cl X W (e :: es) α)
    (hbase : attributeBase o name X.env (eval o X.env) = eval o X.env := by rfl)
    (hfew : ((backTo cpos (starEach (e :: es) X.env)).all (fun x => !x.1) && (backToKw cpos (keywordEach [] X.env)).all (fun x => x.1.isSome)
      && decide ((e :: es).length + ([] : List Keyword).length + (if ([] : List Keyword).isEmpty then 0 else 1) < 30)) = true := by rfl)
    (hline : (apos.endLine == cpos.line) = true := by rfl) (hs : starEach (e :: es) X.env = (false, eval e X.env) :: starEach es X.env := by rfl) (hplain : (backTo cpos (starEach es X.env)).any (·.1) = false := by rfl) :
    DE cl X W (.Call (.Attribute o name apos) (e :: es) [] cpos) (dBM T φ τ α) :=
  ⟨pe_imp (pe_bm pa slot hty hm ho.pe ha.pa hbase hfew hline hs hplain) fun σ H Q ⟨F, ρ, M, Qd, Xd, g, s, t, p, w⟩ => ⟨F, ρ, M, _, Xd, g, s, t, fun v H' F' d M' sm g' r' ⟨e1, q⟩ =>
    ⟨tyV_of g'.sub (vw_ok g' r') e1, F', ρ, M', _, Xd, g', s.mono sm, q, fun vs H2 F2 ds M2 sm2 g2 r2 q2 => hl F2 H2 M2 v vs d ds Q Qd g2 (r'.mono sm2) r2 q2 (p.mono (sm.trans sm2)), w.mono sm⟩, w⟩⟩
def φApp : D -> List D -> Mem -> DV -> Prop := fun o ds M Q => ∃ a xs d, o = .ref a /\ ds = [d] /\ M a = some (.lst xs) /\ xs.length < sizeLine /\ Q .non (updM M a (.lst (xs ++ [d])))
theorem lm_app : LMt K cl rAppend φApp := by
  intro F H M x xs d ds Q Qd g rx rs h p
  obtain ⟨a, ys, y, rfl, rfl, h1, h2, q⟩ := h
  obtain rfl := rx.toRef
  obtain ⟨hF, vs, h3, h4⟩ := g.cell a _ h1
  obtain ⟨v, ws, rfl, r1, r2⟩ := rs.inv
  obtain rfl := r2.inv0
  exact ⟨a, vs, v, rfl, rfl, h3, by rw [h4.length]; exact h2, p _ _ F _ _ (Same.refl F) (g.put (d := .lst (ys ++ [y])) h1 ⟨vs ++ [v], upd_same, h4.append (.one r1)⟩) .non q⟩
theorem Reps.erase : ∀ {vs : List V} {ds : List D} (i : Nat), Reps K cl F vs ds -> Reps K cl F (vs.eraseIdx i) (ds.eraseIdx i)
  | _, _, _, .nil => .nil
  | _, _, 0, .cons _ t => t
  | _, _, i + 1, .cons r t => .cons r (Reps.erase i t)
def φPopAt : D -> List D -> Mem -> DV -> Prop := fun o ds M Q => ∃ a xs i k d, o = .ref a /\ ds = [.int i] /\ M a = some (.lst xs) /\ -(2 ^ 63) <= i /\ i < 2 ^ 63 /\ seqIndex? i xs.length = some k /\ xs[k]? = some d /\ Q d (updM M a (.lst (xs.eraseIdx k)))
theorem lm_popAt : LMt K cl rPopAt φPopAt := by
  intro F H M x xs d ds Q Qd g rx rs h p
  obtain ⟨a, ys, i, k, y, rfl, rfl, h1, b1, b2, h2, h2', q⟩ := h
  obtain rfl := rx.toRef
  obtain ⟨u, ws, rfl, r1, r2⟩ := rs.inv
  obtain rfl := r2.inv0
  obtain rfl := r1.toInt
  obtain ⟨hF, vs, h3, h4⟩ := g.cell a _ h1
  obtain ⟨v, h5, h6⟩ := h4.get h2'
  exact ⟨a, vs, i, k, v, rfl, rfl, h3, b1, b2, by rw [h4.length]; exact h2, h5, p _ _ F _ _ (Same.refl F) (g.put (d := .lst (ys.eraseIdx k)) h1 ⟨vs.eraseIdx k, upd_same, h4.erase k⟩) h6 q⟩
end
end DL
set_option Elab.async false
set_option linter.all false
set_option maxRecDepth 100000
set_option maxHeartbeats 4000000
set_option autoImplicit false
namespace DL
open PySem L2
theorem RoomG.u1 {k : Nat} {A : Around} (r : RoomG k A) : A.units + 1 < cLine := Nat.lt_of_le_of_lt (by omega) r.room.units
section
open PySem.Spec PyProof.Rows
variable {X : Cx}
end
section
variable {K : PySem.W.Frag} {cl : ClW}
end
@[simp] def iEn (τ : DTE) : DTI := fun ρ M R X => τ ρ M (fun d M1 => ∃ xs, d = .lst xs /\ R (xs.zipIdx.map fun p => D.tup [.int (p.2 : Nat), p.1]) M1) X
@[simp] def iZp (τ τ' : DTE) : DTI := fun ρ M R X => τ ρ M (fun d M1 => τ' ρ M1 (fun e M2 => ∃ xs ys, d = .lst xs /\ e = .lst ys /\ R ((xs.zip ys).map fun p => D.tup [p.1, p.2]) M2) X) X
section
variable {cl : ClW} {X : Cx} {W : WX} {a b : Expr} {pos : Pos} {τa τb : DTE}
end
end DL
set_option Elab.async false
set_option linter.all false
set_option maxRecDepth 100000
set_option maxHeartbeats 4000000
set_option autoImplicit false
namespace DL
open PySem L2
def FnC (cl : ClW) (P : Program) (w : World) (K : PySem.W.Frag) (mg : Str -> Option Value) (base : Heap) (k : Nat) (x qual : Str) (params : Arguments) (body : List Stmt) (scope : Scope) (f : Addr) (ps : List Str) (spd : SpD) : Prop :=
  ∃ fd, FunD K x qual params body scope [] [] f fd /\ FnG cl P w K mg base k f fd ps spd
def pick {α : Type} (ord : List Nat) (l : List α) : List α := ord.filterMap (l[·]?)
theorem pick_len {α β : Type} (l : List α) (m : List β) (h : l.length = m.length) : ∀ ord : List Nat, (pick ord l).length = (pick ord m).length
  | [] => rfl
  | j :: ord => by
    have ih := pick_len l m h ord
    unfold pick at ih ⊢
    rw [List.filterMap_cons, List.filterMap_cons]
    by_cases hj : j < l.length
    · rw [List.getElem?_eq_getElem hj, List.getElem?_eq_getElem (h ▸ hj)]
      simp [ih]
    · rw [List.getElem?_eq_none (by omega), List.getElem?_eq_none (by omega)]
      exact ih
theorem vals_pick {vs : List V} {us : List Value} (h : Vals vs us) : ∀ ord : List Nat, Vals (pick ord vs) (pick ord us)
  | [] => .nil
  | j :: ord => by
    have ih := vals_pick h ord
    have hl := h.length
    unfold DL.pick at ih ⊢
    rw [List.filterMap_cons, List.filterMap_cons]
    cases e : vs[j]? with
    | none =>
      have : us.length <= j := by have := List.getElem?_eq_none_iff.mp e; omega
      rw [List.getElem?_eq_none this]
      exact ih
    | some v =>
      obtain ⟨u, hu, r⟩ := h.get e
      rw [hu]
      exact .cons r ih
theorem Reps.pick {K : PySem.W.Frag} {cl : ClW} {F : Hp} {vs : List V} {ds : List D} (h : Reps K cl F vs ds) : ∀ ord : List Nat, Reps K cl F (pick ord vs) (pick ord ds)
  | [] => .nil
  | j :: ord => by
    have ih := Reps.pick h ord
    have hl := h.length
    unfold DL.pick at ih ⊢
    rw [List.filterMap_cons, List.filterMap_cons]
    cases e : ds[j]? with
    | none =>
      have : vs.length <= j := by have := List.getElem?_eq_none_iff.mp e; omega
      rw [List.getElem?_eq_none this]
      exact ih
    | some v =>
      obtain ⟨u, hu, r⟩ := h.get e
      rw [hu]
      exact .cons r ih
def KBp (K : PySem.W.Frag) (fd : FuncData) (ps : List Str) (n : Nat) (ks : List Str) (ord : List Nat) : Prop :=
  ∀ (s : Shared) (us ws : List Value), K.In s.heap -> us.length = n -> ws.length = ks.length -> BindsTo s fd ⟨us, ks.zip ws⟩ (ps.zip (pick ord (us ++ ws)))
theorem kb_of {K : PySem.W.Frag} {x qual : Str} {params : Arguments} {body : List Stmt} {scope : Scope} {kws : List (Str × V)} {f : Addr} {fd : FuncData} {ps ks : List Str} {n : Nat} {ord : List Nat} (F : FunD K x qual params body scope [] kws f fd)
    (h : ∀ (kV doc pm : Value) (an : Option Addr) (cdv ct : Value) (us ws : List Value), us.length = n -> ws.length = ks.length -> bindArgs (PySem.W.fnOf x qual params body scope .none kV doc pm an cdv ct) ⟨us, ks.zip ws⟩ = pure (ps.zip (pick ord (us ++ ws)))) : KBp K fd ps n ks ord := by
  obtain ⟨oc, od, dV, kV, doc, pm, an, cdv, ct, osl, rfl, lk, hcd, hD, hK⟩ := F.ex
  rcases hD with ⟨_, rfl⟩ | ⟨e, _⟩
  · exact fun s us ws _ hu hw => .of_eq (h kV doc pm an cdv ct us ws hu hw)
  · exact absurd rfl e
section
variable {cl : ClW} {P : Program} {w : World} {K : PySem.W.Frag} {mg : Str -> Option Value} {base : Heap} {k : Nat} {x qual : Str} {params : Arguments} {body : List Stmt} {scope : Scope} {N ps ks : List Str} {spd : SpD} {f : Addr} {t : DTS} {c n : Nat} {ord : List Nat} {m : Str}
theorem fnC_of (F : ∃ fd, FunD K x qual params body scope [] [] f fd) (S : FnScope N ps scope)
    (hbody : ∀ (cdv : Value) (A : Around) (outer : List PySem.Env) (s : Shared) (H : Hp) (E : XK), Cap (cxOf (L2.CX P w) P w K mg base N qual scope f cdv A outer s H E) (fun cls d _ H => E cls d H) k ->
      DSs cl (cxOf (L2.CX P w) P w K mg base N qual scope f cdv A outer s H E) (fun cls d _ H => E cls d H) body t)
    (hsp : ∀ ds M Q E, spd ds M Q E -> ds.length = ps.length /\ t (dEnds Q E) (startD N ds) M) : FnC cl P w K mg base (k + 1) x qual params body scope f ps spd := by
  obtain ⟨fd, F⟩ := F
  exact ⟨fd, F, fn_d F S t hbody hsp⟩
def FnBK (cl : ClW) (P : Program) (w : World) (K : PySem.W.Frag) (mg : Str -> Option Value) (base : Heap) (k : Nat) (x : Str) (n : Nat) (ks : List Str) (ord : List Nat) (spd : SpD) : Prop :=
  ∃ f fd ps, mg x = some (.ref f) /\ PySem.W.keepIn K (.ref f) = true /\ KBp K fd ps n ks ord /\ FnG cl P w K mg base k f fd ps spd
abbrev HBind (x qual : Str) (params : Arguments) (body : List Stmt) (scope : Scope) (ps : List Str) : Prop := ∀ (kV doc pm : Value) (an : Option Addr) (cdv ct : Value) (us : List Value), us.length = ps.length -> bindArgs (PySem.W.fnOf x qual params body scope .none kV doc pm an cdv ct) ⟨us, []⟩ = pure (ps.zip us)
abbrev HBindK (x qual : Str) (params : Arguments) (body : List Stmt) (scope : Scope) (ps : List Str) (n : Nat) (ks : List Str) (ord : List Nat) : Prop := ∀ (kV doc pm : Value) (an : Option Addr) (cdv ct : Value) (us ws : List Value), us.length = n -> ws.length = ks.length -> bindArgs (PySem.W.fnOf x qual params body scope .none kV doc pm an cdv ct) ⟨us, ks.zip ws⟩ = pure (ps.zip (pick ord (us ++ ws)))
theorem FnC.fn (C : FnC cl P w K mg base k x qual params body scope f ps spd) {y : Str} (hm : mg y = some (.ref f)) (hb : HBind x qual params body scope ps) : FnB cl P w K mg base k y ps spd := by
  obtain ⟨fd, F, G⟩ := C
  exact ⟨f, fd, hm, F.kp, F.bindsN hb, G⟩
theorem FnC.fnK (C : FnC cl P w K mg base k x qual params body scope f ps spd) {y : Str} (hm : mg y = some (.ref f)) (hb : HBindK x qual params body scope ps n ks ord) : FnBK cl P w K mg base k y n ks ord spd := by
  obtain ⟨fd, F, G⟩ := C
  exact ⟨f, fd, ps, hm, F.kp, kb_of F hb, G⟩
theorem FnC.meth (C : FnC cl P w K mg base k x qual params body scope f ps spd) (hc : Cls K (cl c)) (hm : Meth K (cl c) m f) (hb : HBind x qual params body scope ps) {j : Nat} (hj : k <= j) : MethB cl P w K mg base j c m spd := by
  obtain ⟨fd, F, G⟩ := C
  exact ⟨hc, f, fd, ps, hm, F.bindsN hb, G.mono hj⟩
theorem FnC.mk (C : FnC cl P w K mg base k x qual params body scope f ps spd) {y : Str} (hy : mg y = some (.ref (cl c))) (hm : Mk K (cl c) f) (hb : HBind x qual params body scope ps) : MkB cl P w K mg base k y c ps spd := by
  obtain ⟨fd, F, G⟩ := C
  exact ⟨hy, f, fd, hm, F.bindsN hb, G⟩
end
structure DK (cl : ClW) (X : Cx) (W : WX) (kws : List Keyword) (τ : DTA) : Prop where
  pk : PK X kws (lowA X.K cl W τ)
section
variable {cl : ClW} {X : Cx} {W : WX} {e o : Expr} {es : List Expr} {kws : List Keyword} {nm : Option Str} {kpos pos apos p : Pos} {τ : DTE} {α β : DTA} {x m : Str} {n k j c : Nat} {ks ps : List Str} {ord : List Nat} {spd : SpD} {f : Addr} {fd : FuncData} {pl : Sem Bool}
theorem dk_nil : DK cl X W [] dNil := ⟨⟨fun pos pins s σ H Q I ⟨F, ρ, M, Qd, Xd, g, sl, t, p, w⟩ => pk_nil.run pos pins s σ H Q I (p [] H F [] M (Same.refl F) g .nil t)⟩⟩
theorem dk_cons (ha : DE cl X W e τ) (hr : DK cl X W kws α) : DK cl X W (⟨nm, e, kpos⟩ :: kws) (dCons τ α) :=
  ⟨⟨fun pos pins s σ H Q I ⟨F, ρ, M, Qd, Xd, g, sl, t, p, w⟩ => (pk_cons ha.pe hr.pk).run pos pins s σ H Q I ⟨F, ρ, M, _, Xd, g, sl, t, fun v H' F' d M' sm g' r q => ⟨F', ρ, M', _, Xd, g', sl.mono sm, q, fun vs H2 F2 ds M2 sm2 g2 r2 q2 => p _ _ _ _ _ (sm.trans sm2) g2 (.cons (r.mono sm2) r2) q2, w.mono sm⟩, w⟩⟩⟩
theorem run_gk {pins : List (Addr × Obj)} {σ : St} {H : Hp} {s : Shared} {Q : VK} {us ws : List Value} {vs zs : List V} (cp : Cap X W k) (F : FnG cl X.prog X.w X.K X.mg X.base k f fd ps spd) (hb : KBp X.K fd ps n ks ord)
    (I : Inv X pins σ H s) (r : Vals vs us) (rz : Vals zs ws) (hn : us.length = n) (hw : ws.length = ks.length) (h : lower X.K cl spd (pick ord (vs ++ zs)) H Q (WE W σ)) : wpAny (model X.prog X.w) X.A (call (.ref f) us (ks.zip ws)) (EP X pins σ Q) X.xe s := by
  have r2 : Vals (pick ord (vs ++ zs)) (pick ord (us ++ ws)) := vals_pick (r.append rz) ord
  refine wpAny_call (codeAny_mono (F.run X.A X.stack s H ⟨us, ks.zip ws⟩ (pick ord (us ++ ws)) (pick ord (vs ++ zs)) Q _ cp.hr I.env0 (hb s us ws I.kIn hn hw) r2 h) fun r s' hq => ?_)
  cases r with
  | error e => exact passAt cp.tk σ pins H s e s' I hq
  | ok fl =>
    cases fl with
    | ret u => exact I.after hq
    | next => exact False.elim hq
    | brk => exact False.elim hq
    | cont => exact False.elim hq
def dCallK (spd : SpD) (n : Nat) (ord : List Nat) (β : DTA) : DTE := fun ρ M Q X => β ρ M (fun es M1 => es.length = n /\ spd (pick ord es) M1 Q (fun c ns es M2 => X c ns es ρ M2)) X
theorem d_fnK0 (cp : Cap X W k) (G : FnBK cl X.prog X.w X.K X.mg X.base j x 0 ks ord spd) (hj : j <= k) (hg : Gl X x) (hkw : DK cl X W kws β) (hn : ks.length = n := by rfl)
    (hall : (backToKw pos (keywordEach kws X.env)).all (·.1.isSome) = true := by rfl) (hks : (backToKw pos (keywordEach kws X.env)).filterMap (·.1) = ks := by rfl)
    (hdb : (x == ("__debug__" : Str)) = false := by decide) (hpl : ((backTo pos (starEach [] X.env)).any (·.1) || (backToKw pos (keywordEach kws X.env)).any (·.1.isNone)) = false := by rfl) :
    DE cl X W (.Call (.Name x p) [] kws pos) (dCallK spd n ord β) := ⟨⟨fun pins s σ H Q I h => by
  obtain ⟨f, fd, ps, hm, hk, hb, G⟩ := G
  obtain ⟨F, ρ, M, Qd, Xd, g, sl, q, pp, w⟩ := h
  refine wpAny_Call_Name_kw (ld_glob I hg hm ?_ hdb)
  refine PySem.W.callWith_KW0 (h₀ := X.base) I.ok.mod.kin hk hall (thn (hkw.pk.run pos pins s σ H (fun vs H1 => vs.length = n /\ lower X.K cl spd (pick ord vs) H1 Q (WE W σ)) I ⟨F, ρ, M, _, Xd, g, sl, q, fun vs H' F' ds M' sm g' r q' => ?_, w⟩) fun ws s1 ⟨vs, H1, I1, r, hl, q⟩ => ⟨I1.kIn, ?_⟩) hpl
  · obtain ⟨e1, q'⟩ := q'
    exact ⟨by rw [r.length]; exact e1, low_call g' (sl.mono sm) (r.pick ord) q' (pp.mono sm) (w.mono sm)⟩
  · rw [hks]
    exact run_gk (us := []) (vs := []) cp (G.mono hj) hb I1 .nil r rfl (by have := r.length; omega) q⟩⟩
end
end DL
set_option Elab.async false
set_option linter.all false
set_option maxRecDepth 100000
set_option maxHeartbeats 4000000
set_option autoImplicit false
namespace DL
open PySem L2
theorem forD_run {γ : DTG} {t : DTS} {E : DEnds} (xs : List D) (P : List D -> Env -> Mem -> Prop)
    (step : ∀ (done : List D) (x : D) (rest : List D) (ρ : Env) (M : Mem) (Nx : Env -> Mem -> Prop), xs = done ++ x :: rest -> P done ρ M -> (∀ ρ' M', P (done ++ [x]) ρ' M' -> Nx ρ' M') ->
      γ x ρ M (fun ρ2 M2 => t { E with nx := Nx, ct := Nx, bk := E.nx } ρ2 M2) E.ex)
    (fin : ∀ ρ M, P xs ρ M -> E.nx ρ M) {ρ : Env} {M : Mem} (h0 : P [] ρ M) : forD γ t xs E ρ M := by
  have go : ∀ (rest done : List D) (ρ : Env) (M : Mem), xs = done ++ rest -> P done ρ M -> forD γ t rest E ρ M := by
    intro rest
    induction rest with
    | nil =>
      intro done ρ M e p
      rw [List.append_nil] at e
      subst e
      exact fin ρ M p
    | cons x rest ih =>
      intro done ρ M e p
      exact step done x rest ρ M (forD γ t rest E) e p fun ρ' M' p' => ih (done ++ [x]) ρ' M' (by rw [e]; simp) p'
  exact go xs [] ρ M rfl h0
theorem lcD_run {γ : DTG} {υ : DTT} {τ : DTE} {vs : List Nat} {a : Addr} {Q : DV} {ρ : Env} (xs : List D) (P : List D -> List D -> Mem -> Prop)
    (step : ∀ (done : List D) (x : D) (rest acc : List D) (M : Mem) (Nx : Mem -> Prop), xs = done ++ x :: rest -> M a = some (.lst acc) -> P done acc M -> (∀ acc' M', M' a = some (.lst acc') -> P (done ++ [x]) acc' M' -> Nx M') ->
      γ x (wipeD ρ vs) M (fun ρ2 M2 => υ ρ2 M2 (fun b M3 => if b = true then τ ρ2 M3 (fun d M4 => ∃ acc, M4 a = some (.lst acc) /\ acc.length < sizeLine /\ Nx (updM M4 a (.lst (acc ++ [d])))) noX else Nx M3) noX) noX)
    (fin : ∀ acc M, M a = some (.lst acc) -> P xs acc M -> Q (.lst acc) (delM M a)) {M : Mem} (h0 : P [] [] (updM M a (.lst []))) : lcD γ υ τ vs a xs ρ (updM M a (.lst [])) Q := by
  have go : ∀ (rest done acc : List D) (M : Mem), xs = done ++ rest -> M a = some (.lst acc) -> P done acc M -> lcD γ υ τ vs a rest ρ M Q := by
    intro rest
    induction rest with
    | nil =>
      intro done acc M e ha p
      rw [List.append_nil] at e
      subst e
      exact ⟨acc, ha, fin acc M ha p⟩
    | cons x rest ih =>
      intro done acc M e ha p
      exact step done x rest acc M (fun M' => lcD γ υ τ vs a rest ρ M' Q) e ha p fun acc' M' ha' p' => ih (done ++ [x]) acc' M' (by rw [e]; simp) ha' p'
  exact go xs [] [] _ rfl updM_same h0
theorem lcD_fn {γ : DTG} {υ : DTT} {τ : DTE} {vs : List Nat} {a : Addr} {Q : DV} {ρ : Env} {M : Mem} (f : D -> Option D) (xs : List D) (hl : xs.length <= 16777216) (hM : M a = none)
    (step : ∀ x ∈ xs, ∀ (M1 : Mem) (T : Option D -> Mem -> Prop), (∀ b, b ≠ a -> M1 b = M b) -> T (f x) M1 -> γ x (wipeD ρ vs) M1 (fun ρ2 M2 => υ ρ2 M2 (fun b M3 => if b = true then τ ρ2 M3 (fun d M4 => T (some d) M4) noX else T none M3) noX) noX)
    (q : Q (.lst (xs.filterMap f)) M) : lcD γ υ τ vs a xs ρ (updM M a (.lst [])) Q := by
  refine lcD_run xs (fun done acc M1 => acc = done.filterMap f /\ M1 = updM M a (.lst acc)) ?_ ?_ ⟨rfl, rfl⟩
  · rintro done x rest acc M1 Nx e ha ⟨rfl, rfl⟩ nx
    have hx : x ∈ xs := by rw [e]; simp
    have hlen : (done.filterMap f).length < sizeLine := by
      have h1 := List.length_filterMap_le f done
      have h2 := congrArg List.length e
      rw [List.length_append, List.length_cons] at h2
      rw [sizeLine_eq]
      omega
    refine step x hx (updM M a (.lst (done.filterMap f))) (fun o M4 => match o with | some d => ∃ acc, M4 a = some (.lst acc) /\ acc.length < sizeLine /\ Nx (updM M4 a (.lst (acc ++ [d]))) | none => Nx M4) (fun b hb => updM_ne hb) ?_
    cases ho : f x with
    | none =>
      refine nx _ _ updM_same ⟨?_, rfl⟩
      rw [List.filterMap_append]
      simp [ho]
    | some d =>
      refine ⟨_, updM_same, hlen, nx _ _ updM_same ⟨?_, ?_⟩⟩
      · rw [List.filterMap_append]
        simp [ho]
      · exact updM_updM
  · rintro acc M1 ha ⟨rfl, rfl⟩
    rw [delM_updM hM]
    exact q
section
variable {cl : ClW} {X : Cx} {W : WX} {x f : Str} {p pos : Pos} {c : Nat} {d : D}
theorem d_clsN (hg : Gl X x) (hm : X.mg x = some (.ref (cl c))) (hd : (x == ("__debug__" : Str)) = false := by decide) : DE cl X W (.Name x pos) (dC (.cls c)) :=
  d_c (v := .ref (cl c)) (pe_glob hg hm rfl hd) fun _ => .cls c
end
section
variable {cl : ClW} {X : Cx} {W : WX} {kx vx tg iter : Expr} {ifs : List Expr} {scope : Scope} {own : List (Str × Nat)} {pos : Pos} {ι : DTI} {is : List Nat} {γ : DTG} {υ : DTT} {τk τv : DTE}
end
end DL
set_option Elab.async false
set_option linter.all false
set_option maxRecDepth 100000
set_option maxHeartbeats 4000000
set_option autoImplicit false
namespace DL
open PySem L2
section
open PySem.Spec PyProof.Rows
variable {X : Cx} {tg : Expr}
def iSeqV (K : PySem.W.Frag) (tl : TE) : TI := fun σ H R => tl σ H fun x H1 => (∃ a, x = .ref a /\ (∃ xs, SqL K H1 a xs) /\ R (Itl K a) H1) \/ (∃ a, x = .ref a /\ (∃ xs, SqT K H1 a xs) /\ R (Itt K a) H1) \/ (∃ z, x = .str z /\ R (Its z) H1) \/ (∃ z, x = .byt z /\ R (Itb z) H1)
theorem pi_seqV {l : Expr} {tl : TE} (hl : PE X l tl) : PI X tg l (iSeqV X.K tl) := by
  refine ⟨fun pins s σ H R I h => ?_⟩
  refine thn (hl.run pins s σ H _ I h) fun v s1 ⟨x, H1, I1, r1, q1⟩ => ?_
  rcases q1 with ⟨a, e, ⟨xs, hq⟩, q⟩ | ⟨a, e, ⟨xs, hq⟩, q⟩ | ⟨x, ex, q⟩ | ⟨x, ex, q⟩
  · subst e
    cases r1
    obtain ⟨its, rv, p, hz⟩ := I1.list hq
    refine wpAny_pyIter_list p.isList ?_
    refine ⟨s1.heap.objs.size, [s1.heap.objs.size], _, _, H1, rfl, I1.kept (t' := s1.toks) fun b o e => Heap.get?_push_of_some _ e, turn_list a _, ⟨_, Heap.get?_push_size _ rfl, rfl, rfl⟩, fun b hb => ?_, q⟩
    have e : b = s1.heap.objs.size := by simpa using hb
    subst e
    exact I1.fpOk (Nat.le_refl _) (I1.hok.fresh (Nat.le_refl _))
  · subst e
    cases r1
    obtain ⟨its, rv, p, hz⟩ := I1.tuple hq
    refine wpAny_pyIter_tuple (show s1.heap.IsTuple a its.toArray from p) ?_
    refine ⟨s1.heap.objs.size, [s1.heap.objs.size], _, _, H1, rfl, I1.kept (t' := s1.toks) fun b o e => Heap.get?_push_of_some _ e, turn_tuple a _, ⟨_, Heap.get?_push_size _ rfl, rfl, rfl⟩, fun b hb => ?_, q⟩
    have e : b = s1.heap.objs.size := by simpa using hb
    subst e
    exact I1.fpOk (Nat.le_refl _) (I1.hok.fresh (Nat.le_refl _))
  · subst ex
    obtain ⟨t, rfl⟩ := r1
    cases ha : x.cps.all (· < 128)
    · exact wpAny_pyIter_wide ha (pi_one (tk := s1.toks) I1 _ (turn_str _ x t "str_iterator" (.inr rfl)) ⟨_, Heap.get?_push_size _ rfl, rfl, rfl⟩ q)
    · exact wpAny_pyIter_ascii ha (pi_one (tk := s1.toks) I1 _ (turn_str _ x t "str_ascii_iterator" (.inl rfl)) ⟨_, Heap.get?_push_size _ rfl, rfl, rfl⟩ q)
  · subst ex
    obtain ⟨t, rfl⟩ := r1
    exact PySem.W.KBw.pyIter_bytes (pi_one (tk := s1.toks) I1 _ (turn_byt _ x t) ⟨_, Heap.get?_push_size _ rfl, rfl, rfl⟩ q)
end
@[simp] def itD : D -> Option (List D)
  | .lst xs => some xs
  | .tup xs => some xs
  | .str z => some (z.cps.toList.map fun c => D.str ⟨#[c]⟩)
  | .byt b => some (b.toList.map fun c => D.int ((c.toNat : Nat) : Int))
  | _ => none
@[simp] def iS (τ : DTE) : DTI := fun ρ M R X => τ ρ M (fun d M1 => ∃ xs, itD d = some xs /\ R xs M1) X
section
variable {cl : ClW} {X : Cx} {W : WX} {e : Expr} {τ : DTE}
theorem di_seq {tg : Expr} (h : DE cl X W e τ) : DI cl X W tg e (iS τ) := ⟨pi_imp (pi_seqV h.pe) fun σ H R ⟨F, ρ, M, Rd, Xd, g, s, q, p, w⟩ =>
  ⟨F, ρ, M, _, Xd, g, s, q, fun v H' F' d M' sm g' r ⟨xs, e1, q'⟩ => (by
    cases d with
    | lst ds =>
      cases e1
      obtain ⟨a, vs, rfl, h1, h2⟩ := r.toLst
      refine .inl ⟨a, rfl, ⟨vs, same_l g'.sub h1⟩, p _ _ F' xs M' sm g' (fun i F2 H2 M2 sm2 g2 => ⟨fun d hd => ?_, fun hl => ⟨vs, same_l (sm2.trans g2.sub) h1, by rw [h2.length]; exact hl⟩⟩) q'⟩
      obtain ⟨v, hv, rv⟩ := h2.get hd
      refine ⟨⟨vs, v, same_l (sm2.trans g2.sub) h1, hv⟩, fun x H3 ⟨e1, e2⟩ => ?_⟩
      subst e1
      have := e2 vs (same_l (sm2.trans g2.sub) h1)
      rw [hv] at this
      cases this
      exact ⟨F2, Same.refl F2, g2, rv.mono sm2⟩
    | tup ds =>
      cases e1
      obtain ⟨a, vs, rfl, h1, h2⟩ := r.toTup
      refine .inr (.inl ⟨a, rfl, ⟨vs, same_t g'.sub h1⟩, p _ _ F' xs M' sm g' (fun i F2 H2 M2 sm2 g2 => ⟨fun d hd => ?_, fun hl => ⟨vs, same_t (sm2.trans g2.sub) h1, by rw [h2.length]; exact hl⟩⟩) q'⟩)
      obtain ⟨v, hv, rv⟩ := h2.get hd
      refine ⟨⟨vs, v, same_t (sm2.trans g2.sub) h1, hv⟩, fun x H3 ⟨e1, e2⟩ => ?_⟩
      subst e1
      have := e2 vs (same_t (sm2.trans g2.sub) h1)
      rw [hv] at this
      cases this
      exact ⟨F2, Same.refl F2, g2, rv.mono sm2⟩
    | str z =>
      cases e1
      obtain rfl := r.toStr
      refine .inr (.inr (.inl ⟨z, rfl, p _ _ F' _ M' sm g' (fun i F2 H2 M2 sm2 g2 => ⟨fun d hd => ?_, fun hl => ?_⟩) q'⟩))
      · rw [List.getElem?_map] at hd
        obtain ⟨c, hc, rfl⟩ := Option.map_eq_some_iff.mp hd
        have hc' : z.cps[i]? = some c := by simpa using hc
        refine ⟨(Array.getElem?_eq_some_iff.mp hc').1, fun x H3 ⟨e1, c2, e2, e3⟩ => ?_⟩
        subst e1 e3
        rw [hc'] at e2
        cases e2
        exact ⟨F2, Same.refl F2, g2, .str _⟩
      · show z.cps.size <= i
        simpa using hl
    | byt z =>
      cases e1
      obtain rfl := r.toByt
      refine .inr (.inr (.inr ⟨z, rfl, p _ _ F' _ M' sm g' (fun i F2 H2 M2 sm2 g2 => ⟨fun d hd => ?_, fun hl => ?_⟩) q'⟩))
      · rw [List.getElem?_map] at hd
        obtain ⟨c, hc, rfl⟩ := Option.map_eq_some_iff.mp hd
        have hc' : z[i]? = some c := by simpa using hc
        refine ⟨(Array.getElem?_eq_some_iff.mp hc').1, fun x H3 ⟨e1, c2, e2, e3⟩ => ?_⟩
        subst e1 e3
        rw [hc'] at e2
        cases e2
        exact ⟨F2, Same.refl F2, g2, .int _⟩
      · show z.size <= i
        simpa using hl
    | _ => cases e1), w⟩⟩
end
theorem tb_nil {p : Nat -> SpD -> Prop} : ∀ c spd, ([] : List (Nat × SpD)).lookup c = some spd -> p c spd := fun _ _ h => by cases h
theorem tb_cons {p : Nat -> SpD -> Prop} {c0 : Nat} {s0 : SpD} {l : List (Nat × SpD)} (h : p c0 s0) (t : ∀ c spd, l.lookup c = some spd -> p c spd) : ∀ c spd, ((c0, s0) :: l).lookup c = some spd -> p c spd := fun c spd e => by
  rw [List.lookup_cons] at e
  split at e
  · rename_i q
    cases e
    rw [eq_of_beq q]
    exact h
  · exact t c spd e
end DL
set_option Elab.async false
set_option linter.all false
set_option maxRecDepth 100000
set_option maxHeartbeats 2000000
set_option autoImplicit false
namespace DL
open PySem L2
section
variable {M : Mem} {i j : Int} {b : Bool} {x y : Str} {xs ys : List D} {d e : D} {a : Addr} {ks : List Key}
@[simp] theorem ixA_lst : ixA (.lst xs) e = ixD (.lst xs) e := rfl
@[simp] theorem ixA_tup : ixA (.tup xs) e = ixD (.tup xs) e := rfl
@[simp] theorem ixA_str : ixA (.str x) e = ixD (.str x) e := rfl
@[simp] theorem ixA_dK : ixA (.dK ks xs) e = (keyD e).bind fun k => atK k ks xs := rfl
@[simp] theorem keyD_int : keyD (.int i) = some (.inl i) := rfl
@[simp] theorem keyD_str : keyD (.str x) = some (.inr x) := rfl
@[simp] theorem tupF_lst : tupF [.lst xs] = some (.tup xs) := rfl
@[simp] theorem tupF_tup : tupF [.tup xs] = some (.tup xs) := rfl
@[simp] theorem lstF_lst : lstF [.lst xs] = some (.lst xs) := rfl
@[simp] theorem lstF_tup : lstF [.tup xs] = some (.lst xs) := rfl
@[simp] theorem allF_lst : allF [.lst xs] = (blsOf xs).map fun bs => .bl (bs.all id) := rfl
@[simp] theorem anyF_lst : anyF [.lst xs] = (blsOf xs).map fun bs => .bl (bs.any id) := rfl
@[simp] theorem inD_def : inD d e = (inB d e).map D.bl := rfl
@[simp] theorem ninD_def : ninD d e = (inB d e).map fun b => D.bl !b := rfl
@[simp] theorem inB_lst : inB d (.lst xs) = if flatD d && xs.all flatD then some (xs.any fun y => eqFD y d) else none := rfl
@[simp] theorem inB_tup : inB d (.tup xs) = if flatD d && xs.all flatD then some (xs.any fun y => eqFD y d) else none := rfl
@[simp] theorem inB_dK : inB d (.dK ks xs) = (keyD d).map fun k => ks.any fun j => decide (j = k) := rfl
@[simp] theorem inB_str : inB (.str x) (.str y) = some (inStr x y) := rfl
@[simp] theorem tyD_lst : tyD "list" (.lst xs) = true := rfl
end
end DL
set_option Elab.async false
set_option linter.all false
set_option maxRecDepth 100000
set_option autoImplicit false
namespace DL
open PySem L2
end DL
set_option Elab.async false
set_option linter.all false
set_option maxRecDepth 100000
set_option autoImplicit false
namespace DL
open PySem L2
mutual
def plD : Nat -> D -> Bool
  | _, .non => true
  | _, .bl _ => true
  | _, .int _ => true
  | _, .str x => PyData.strOk x
  | n + 1, .lst xs => plDs n xs
  | n + 1, .tup xs => plDs n xs
  | _, _ => false
def plDs : Nat -> List D -> Bool
  | _, [] => true
  | n, x :: xs => plD n x && plDs n xs
end
mutual
def eqT : D -> D -> Bool
  | .non, .non => true
  | .bl a, .bl b => a == b
  | .bl a, .int j => (if a then 1 else 0) == j
  | .int i, .bl b => i == (if b then 1 else 0)
  | .int i, .int j => i == j
  | .str x, .str y => x == y
  | .lst xs, .lst ys => eqTs xs ys
  | .tup xs, .tup ys => eqTs xs ys
  | _, _ => false
def eqTs : List D -> List D -> Bool
  | [], [] => true
  | x :: xs, y :: ys => eqT x y && eqTs xs ys
  | _, _ => false
end
mutual
theorem plD_py : ∀ (n : Nat) (d : D), plD n d = true -> ∃ p, toPy d = some p /\ p.canLay0 = true /\ p.depth <= n
  | n, .non, _ => ⟨.none, rfl, rfl, by simp [PyData.depth]⟩
  | n, .bl b, _ => ⟨.bool b, rfl, rfl, by simp [PyData.depth]⟩
  | n, .int b, _ => ⟨.int b, rfl, rfl, by simp [PyData.depth]⟩
  | n, .str b, h => ⟨.str b, rfl, by simpa [PyData.canLay0, plD] using h, by simp [PyData.depth]⟩
  | n + 1, .lst xs, h => by
    obtain ⟨ps, h1, h2, h3⟩ := plDs_py n xs (by simpa [plD] using h)
    exact ⟨.list ps, by simp [toPy, h1], by simpa [PyData.canLay0] using h2, by simp [PyData.depth]; omega⟩
  | n + 1, .tup xs, h => by
    obtain ⟨ps, h1, h2, h3⟩ := plDs_py n xs (by simpa [plD] using h)
    exact ⟨.tuple ps, by simp [toPy, h1], by simpa [PyData.canLay0] using h2, by simp [PyData.depth]; omega⟩
  | 0, .lst _, h => by simp [plD] at h
  | 0, .tup _, h => by simp [plD] at h
  | _, .byt _, h => by simp [plD] at h
  | _, .ty _, h => by simp [plD] at h
  | _, .ref _, h => by simp [plD] at h
  | _, .dK _ _, h => by simp [plD] at h
  | _, .dT _ _ _, h => by simp [plD] at h
  | _, .obj _ _ _, h => by simp [plD] at h
  | _, .cls _, h => by simp [plD] at h
  | _, .exc _ _ _ _ _, h => by simp [plD] at h
  | _, .xob _ _ _, h => by simp [plD] at h
  | _, .thk _ _ _ _ _, h => by simp [plD] at h
  | _, .dN _ _ _, h => by simp [plD] at h
theorem plDs_py : ∀ (n : Nat) (ds : List D), plDs n ds = true -> ∃ ps, toPys ds = some ps /\ PyData.canLayAll0 ps = true /\ PyData.depthAll ps <= n
  | n, [], _ => ⟨[], rfl, rfl, by simp [PyData.depthAll]⟩
  | n, x :: xs, h => by
    simp only [plDs, Bool.and_eq_true] at h
    obtain ⟨p, h1, h2, h3⟩ := plD_py n x h.1
    obtain ⟨ps, k1, k2, k3⟩ := plDs_py n xs h.2
    exact ⟨p :: ps, by simp [toPys, h1, k1], by simp [PyData.canLayAll0, h2, k2], by simp [PyData.depthAll]; omega⟩
end
theorem toPy_inv {d : D} {p : PyData} (h : toPy d = some p) : (d = .non /\ p = .none) \/ (∃ b, d = .bl b /\ p = .bool b) \/ (∃ i, d = .int i /\ p = .int i) \/ (∃ x, d = .str x /\ p = .str x) \/ (∃ xs ps, d = .lst xs /\ p = .list ps /\ toPys xs = some ps) \/ (∃ xs ps, d = .tup xs /\ p = .tuple ps /\ toPys xs = some ps) := by
  cases d with
  | non => simp only [toPy] at h; cases h; exact .inl ⟨rfl, rfl⟩
  | bl b => simp only [toPy] at h; cases h; exact .inr (.inl ⟨b, rfl, rfl⟩)
  | int b => simp only [toPy] at h; cases h; exact .inr (.inr (.inl ⟨b, rfl, rfl⟩))
  | str b => simp only [toPy] at h; cases h; exact .inr (.inr (.inr (.inl ⟨b, rfl, rfl⟩)))
  | lst xs =>
    simp only [toPy] at h
    obtain ⟨ps, h1, rfl⟩ := Option.map_eq_some_iff.mp h
    exact .inr (.inr (.inr (.inr (.inl ⟨xs, ps, rfl, rfl, h1⟩))))
  | tup xs =>
    simp only [toPy] at h
    obtain ⟨ps, h1, rfl⟩ := Option.map_eq_some_iff.mp h
    exact .inr (.inr (.inr (.inr (.inr ⟨xs, ps, rfl, rfl, h1⟩))))
  | _ => simp only [toPy] at h; cases h
theorem toPys_cons {x : D} {xs : List D} {ps : List PyData} (h : toPys (x :: xs) = some ps) : ∃ p qs, ps = p :: qs /\ toPy x = some p /\ toPys xs = some qs := by
  simp only [toPys] at h
  cases e1 : toPy x with
  | none => rw [e1] at h; cases h
  | some p =>
    cases e2 : toPys xs with
    | none => rw [e1, e2] at h; cases h
    | some qs => rw [e1, e2] at h; cases h; exact ⟨p, qs, rfl, rfl, rfl⟩
mutual
theorem eqv_T : ∀ (d e : D) (p q : PyData), toPy d = some p -> toPy e = some q -> PyData.eqv p q = eqT d e
  | .non, e, p, q, h, k => by
    simp only [toPy] at h; cases h
    rcases toPy_inv k with ⟨rfl, rfl⟩ | ⟨b, rfl, rfl⟩ | ⟨b, rfl, rfl⟩ | ⟨b, rfl, rfl⟩ | ⟨xs, ps, rfl, rfl, _⟩ | ⟨xs, ps, rfl, rfl, _⟩ <;> rfl
  | .bl a, e, p, q, h, k => by
    simp only [toPy] at h; cases h
    rcases toPy_inv k with ⟨rfl, rfl⟩ | ⟨b, rfl, rfl⟩ | ⟨b, rfl, rfl⟩ | ⟨b, rfl, rfl⟩ | ⟨xs, ps, rfl, rfl, _⟩ | ⟨xs, ps, rfl, rfl, _⟩ <;> rfl
  | .int a, e, p, q, h, k => by
    simp only [toPy] at h; cases h
    rcases toPy_inv k with ⟨rfl, rfl⟩ | ⟨b, rfl, rfl⟩ | ⟨b, rfl, rfl⟩ | ⟨b, rfl, rfl⟩ | ⟨xs, ps, rfl, rfl, _⟩ | ⟨xs, ps, rfl, rfl, _⟩ <;> rfl
  | .str a, e, p, q, h, k => by
    simp only [toPy] at h; cases h
    rcases toPy_inv k with ⟨rfl, rfl⟩ | ⟨b, rfl, rfl⟩ | ⟨b, rfl, rfl⟩ | ⟨b, rfl, rfl⟩ | ⟨xs, ps, rfl, rfl, _⟩ | ⟨xs, ps, rfl, rfl, _⟩ <;> rfl
  | .lst xs, e, p, q, h, k => by
    simp only [toPy] at h
    obtain ⟨ps, h1, rfl⟩ := Option.map_eq_some_iff.mp h
    rcases toPy_inv k with ⟨rfl, rfl⟩ | ⟨b, rfl, rfl⟩ | ⟨b, rfl, rfl⟩ | ⟨b, rfl, rfl⟩ | ⟨ys, qs, rfl, rfl, k1⟩ | ⟨ys, qs, rfl, rfl, k1⟩
    · rfl
    · rfl
    · rfl
    · rfl
    · simp only [PyData.eqv, eqT]
      exact eqvs_T xs ys ps qs h1 k1
    · rfl
  | .tup xs, e, p, q, h, k => by
    simp only [toPy] at h
    obtain ⟨ps, h1, rfl⟩ := Option.map_eq_some_iff.mp h
    rcases toPy_inv k with ⟨rfl, rfl⟩ | ⟨b, rfl, rfl⟩ | ⟨b, rfl, rfl⟩ | ⟨b, rfl, rfl⟩ | ⟨ys, qs, rfl, rfl, k1⟩ | ⟨ys, qs, rfl, rfl, k1⟩
    · rfl
    · rfl
    · rfl
    · rfl
    · rfl
    · simp only [PyData.eqv, eqT]
      exact eqvs_T xs ys ps qs h1 k1
  | .byt _, _, _, _, h, _ => by simp only [toPy] at h; cases h
  | .ty _, _, _, _, h, _ => by simp only [toPy] at h; cases h
  | .ref _, _, _, _, h, _ => by simp only [toPy] at h; cases h
  | .dK _ _, _, _, _, h, _ => by simp only [toPy] at h; cases h
  | .dT _ _ _, _, _, _, h, _ => by simp only [toPy] at h; cases h
  | .obj _ _ _, _, _, _, h, _ => by simp only [toPy] at h; cases h
  | .cls _, _, _, _, h, _ => by simp only [toPy] at h; cases h
theorem eqvs_T : ∀ (ds es : List D) (ps qs : List PyData), toPys ds = some ps -> toPys es = some qs -> PyData.eqvAll ps qs = eqTs ds es
  | [], [], ps, qs, h, k => by simp only [toPys] at h k; cases h; cases k; simp only [PyData.eqvAll, eqTs]
  | [], e :: es, ps, qs, h, k => by
    obtain ⟨q, qs', rfl, _, _⟩ := toPys_cons k
    simp only [toPys] at h; cases h; simp only [PyData.eqvAll, eqTs]
  | d :: ds, [], ps, qs, h, k => by
    obtain ⟨q, qs', rfl, _, _⟩ := toPys_cons h
    simp only [toPys] at k; cases k; simp only [PyData.eqvAll, eqTs]
  | d :: ds, e :: es, ps, qs, h, k => by
    obtain ⟨p, ps', rfl, h1, h2⟩ := toPys_cons h
    obtain ⟨q, qs', rfl, k1, k2⟩ := toPys_cons k
    simp only [PyData.eqvAll, eqTs]
    rw [eqv_T d e p q h1 k1, eqvs_T ds es ps' qs' h2 k2]
end
theorem eqP_pl {n m : Nat} {d e : D} (hd : plD n d = true) (he : plD m e = true) (hn : n <= 64 := by decide) (hm : m <= 64 := by decide) : eqP d e = some (eqT d e) := by
  obtain ⟨p, h1, h2, h3⟩ := plD_py n d hd
  obtain ⟨q, k1, k2, k3⟩ := plD_py m e he
  unfold eqP
  rw [h1, k1]
  have s1 : SeqAt.shaped p = true := by unfold SeqAt.shaped; rw [h2, decide_eq_true (by omega)]; rfl
  have s2 : SeqAt.shaped q = true := by unfold SeqAt.shaped; rw [k2, decide_eq_true (by omega)]; rfl
  simp only [s1, s2, Bool.and_self, if_true]
  rw [eqv_T d e p q h1 k1]
theorem eqD_lst' {n m : Nat} {xs ys : List D} (hd : plDs n xs = true) (he : plDs m ys = true) (hn : n < 64 := by decide) (hm : m < 64 := by decide) : eqD (.lst xs) (.lst ys) = some (.bl (eqTs xs ys)) := by
  show (eqP _ _).map D.bl = _
  rw [eqP_pl (n := n + 1) (m := m + 1) (by simpa [plD] using hd) (by simpa [plD] using he) hn hm]
  simp only [Option.map_some, eqT]
theorem neD_lst' {n m : Nat} {xs ys : List D} (hd : plDs n xs = true) (he : plDs m ys = true) (hn : n < 64 := by decide) (hm : m < 64 := by decide) : neD (.lst xs) (.lst ys) = some (.bl !(eqTs xs ys)) := by
  show (eqP _ _).map (fun b => D.bl !b) = _
  rw [eqP_pl (n := n + 1) (m := m + 1) (by simpa [plD] using hd) (by simpa [plD] using he) hn hm]
  simp only [Option.map_some, eqT]
theorem eqD_tup' {n m : Nat} {xs ys : List D} (hd : plDs n xs = true) (he : plDs m ys = true) (hn : n < 64 := by decide) (hm : m < 64 := by decide) : eqD (.tup xs) (.tup ys) = some (.bl (eqTs xs ys)) := by
  show (eqP _ _).map D.bl = _
  rw [eqP_pl (n := n + 1) (m := m + 1) (by simpa [plD] using hd) (by simpa [plD] using he) hn hm]
  simp only [Option.map_some, eqT]
theorem neD_tup' {n m : Nat} {xs ys : List D} (hd : plDs n xs = true) (he : plDs m ys = true) (hn : n < 64 := by decide) (hm : m < 64 := by decide) : neD (.tup xs) (.tup ys) = some (.bl !(eqTs xs ys)) := by
  show (eqP _ _).map (fun b => D.bl !b) = _
  rw [eqP_pl (n := n + 1) (m := m + 1) (by simpa [plD] using hd) (by simpa [plD] using he) hn hm]
  simp only [Option.map_some, eqT]
mutual
theorem eqT_refl : ∀ (n : Nat) (d : D), plD n d = true -> eqT d d = true
  | _, .non, _ => by simp [eqT]
  | _, .bl _, _ => by simp [eqT]
  | _, .int _, _ => by simp [eqT]
  | _, .str _, _ => by simp [eqT]
  | n + 1, .lst xs, h => by simp only [eqT]; exact eqTs_refl n xs (by simpa [plD] using h)
  | n + 1, .tup xs, h => by simp only [eqT]; exact eqTs_refl n xs (by simpa [plD] using h)
  | 0, .lst _, h => by simp [plD] at h
  | 0, .tup _, h => by simp [plD] at h
  | _, .byt _, h => by simp [plD] at h
  | _, .ty _, h => by simp [plD] at h
  | _, .ref _, h => by simp [plD] at h
  | _, .dK _ _, h => by simp [plD] at h
  | _, .dT _ _ _, h => by simp [plD] at h
  | _, .obj _ _ _, h => by simp [plD] at h
  | _, .cls _, h => by simp [plD] at h
  | _, .exc _ _ _ _ _, h => by simp [plD] at h
  | _, .xob _ _ _, h => by simp [plD] at h
  | _, .thk _ _ _ _ _, h => by simp [plD] at h
  | _, .dN _ _ _, h => by simp [plD] at h
theorem eqTs_refl : ∀ (n : Nat) (ds : List D), plDs n ds = true -> eqTs ds ds = true
  | _, [], _ => by simp [eqTs]
  | n, d :: ds, h => by
    simp only [plDs, Bool.and_eq_true] at h
    simp only [eqTs, Bool.and_eq_true]
    exact ⟨eqT_refl n d h.1, eqTs_refl n ds h.2⟩
end
theorem plDs_all {n : Nat} : ∀ {ds : List D}, plDs n ds = true ↔ ∀ d ∈ ds, plD n d = true
  | [] => by simp [plDs]
  | d :: ds => by simp [plDs, plDs_all (ds := ds)]
@[simp] theorem plDs_nil {n : Nat} : plDs n [] = true := by simp [plDs]
theorem plDs_map {α : Type} {n : Nat} {f : α -> D} {l : List α} (h : ∀ x ∈ l, plD n (f x) = true) : plDs n (l.map f) = true := plDs_all.mpr fun d hd => by
  obtain ⟨x, hx, rfl⟩ := List.mem_map.mp hd
  exact h x hx
@[simp] theorem eqTs_nilr {xs : List D} : eqTs xs [] = xs.isEmpty := by cases xs <;> simp [eqTs]
end DL
set_option Elab.async false
set_option linter.all false
set_option maxRecDepth 100000
set_option maxHeartbeats 1000000
namespace DL
open PySem L2
theorem toNat_inj {a b : Char} (h : a.toNat = b.toNat) : a = b := by
  have : a.val = b.val := UInt32.toNat_inj.mp h
  exact Char.ext this
@[simp] theorem ofStr_inj (a b : String) : (Str.ofString a = Str.ofString b) = (a = b) := by
  refine propext ⟨fun h => ?_, fun h => by rw [h]⟩
  rw [Str.ofString_eq_toList, Str.ofString_eq_toList] at h
  have h2 : a.toList.map Char.toNat = b.toList.map Char.toNat := by simpa using h
  have h3 : a.toList = b.toList := List.map_inj_right (fun x y e => toNat_inj e) |>.mp h2
  exact String.toList_inj.mp h3
@[simp] theorem ofStr_beq (a b : String) : (Str.ofString a == Str.ofString b) = (a == b) := by
  by_cases h : a = b
  · subst h; simp
  · have h1 : ¬ (Str.ofString a = Str.ofString b) := by rw [ofStr_inj]; exact h
    rw [beq_false_of_ne h1, beq_false_of_ne h]
def methAt (tb : List (Nat × SpD)) (m : Str) (o : D) (M : Mem) (R : SpD -> Prop) : Prop := ∃ c ns ds spd, vw M o = .obj c ns ds /\ tb.lookup c = some spd /\ m ∉ ns /\ R spd
theorem methAt_obj {tb : List (Nat × SpD)} {m : Str} {M : Mem} {R : SpD -> Prop} {c : Nat} {ns : List Str} {ds : List D} : methAt tb m (.obj c ns ds) M R ↔ ∃ spd, tb.lookup c = some spd /\ m ∉ ns /\ R spd := by
  constructor
  · rintro ⟨c', ns', ds', spd, h, h1, h2, h3⟩
    rw [vw_obj] at h
    cases h
    exact ⟨spd, h1, h2, h3⟩
  · rintro ⟨spd, h1, h2, h3⟩
    exact ⟨c, ns, ds, spd, rfl, h1, h2, h3⟩
end DL
set_option Elab.async false
set_option linter.all false
set_option maxRecDepth 100000
set_option maxHeartbeats 1000000
set_option autoImplicit false
namespace FL
open PySem L2 DL
def Keep (M M' : Mem) : Prop := ∀ b d, M b = some d -> M' b = some d
theorem Keep.refl (M : Mem) : Keep M M := fun _ _ h => h
theorem Keep.trans {M M1 M2 : Mem} (h : Keep M M1) (k : Keep M1 M2) : Keep M M2 := fun b d e => k b d (h b d e)
theorem Keep.new {M : Mem} {a : Addr} {d : D} (h : M a = none) : Keep M (updM M a d) := fun b e q => by
  rw [updM_ne (fun z => by rw [z, h] at q; cases q)]; exact q
theorem Keep.vw {M M' : Mem} (k : Keep M M') {d : D} (h : ∀ a, d = .ref a -> (M a).isSome) : vw M' d = vw M d := by
  cases d with
  | ref a =>
    have := h a rfl
    cases e : M a with
    | none => rw [e] at this; cases this
    | some c => rw [vw_ref e, vw_ref (k a c e)]
  | _ => rfl
def Well (M : Mem) (r : Addr) (n : Nat) : Prop := ∃ a b c : Int, M r = some (.lst [.int a, .int b, .int c]) /\ 0 <= b /\ b < 2147483629 /\ 0 <= c /\ c <= n
structure WTo (M M' : Mem) (r : Addr) (n : Nat) : Prop where
  ok : Well M' r n
  keep : ∀ b d, b ≠ r -> M b = some d -> M' b = some d
theorem Well.mono {M : Mem} {r : Addr} {n m : Nat} (h : Well M r n) (l : n <= m) : Well M r m := by
  obtain ⟨a, b, c, h1, h2, h3, h4, h5⟩ := h
  exact ⟨a, b, c, h1, h2, h3, h4, by omega⟩
theorem Well.keep {M M' : Mem} {r : Addr} {n : Nat} (h : Well M r n) (k : Keep M M') : Well M' r n := by
  obtain ⟨a, b, c, h1, h2⟩ := h
  exact ⟨a, b, c, k _ _ h1, h2⟩
theorem Well.there {M : Mem} {r : Addr} {n : Nat} (h : Well M r n) : ∃ d, M r = some d := by
  obtain ⟨a, b, c, h1, _⟩ := h
  exact ⟨_, h1⟩
theorem Well.ne {M : Mem} {r a : Addr} {n : Nat} (h : Well M r n) (e : M a = none) : r ≠ a := fun z => by
  obtain ⟨d, q⟩ := h.there
  rw [z, e] at q
  cases q
theorem WTo.refl {M : Mem} {r : Addr} {n : Nat} (h : Well M r n) : WTo M M r n := ⟨h, fun _ _ _ q => q⟩
theorem WTo.trans {M M1 M2 : Mem} {r : Addr} {n m : Nat} (h : WTo M M1 r n) (k : WTo M1 M2 r m) : WTo M M2 r m := ⟨k.ok, fun b d hb q => k.keep b d hb (h.keep b d hb q)⟩
theorem WTo.mono {M M1 : Mem} {r : Addr} {n m : Nat} (h : WTo M M1 r n) (l : n <= m) : WTo M M1 r m := ⟨h.ok.mono l, h.keep⟩
theorem WTo.keep1 {M M1 : Mem} {r a : Addr} {n : Nat} {d : D} (h : WTo M M1 r n) (e : M a = some d) (hne : a ≠ r) : M1 a = some d := h.keep a d hne e
theorem WTo.put {M : Mem} {r : Addr} {n : Nat} {a b c : Int} (hb : 0 <= b) (hb2 : b < 2147483629) (hc : 0 <= c) (hn : c <= n) : WTo M (updM M r (.lst [.int a, .int b, .int c])) r n :=
  ⟨⟨a, b, c, updM_same, hb, hb2, hc, hn⟩, fun _ _ h q => by rw [updM_ne h]; exact q⟩
theorem WTo.upd {M M1 : Mem} {r a : Addr} {n : Nat} {d : D} (h : WTo M M1 r n) (e : M a = none) (hne : a ≠ r) : WTo M (updM M1 a d) r n := by
  refine ⟨?_, fun b c hb q => ?_⟩
  · obtain ⟨x, y, z, h1, h2⟩ := h.ok
    exact ⟨x, y, z, by rw [updM_ne (Ne.symm hne)]; exact h1, h2⟩
  · rw [updM_ne (fun z => by rw [z, e] at q; cases q)]
    exact h.keep b c hb q
theorem WTo.del {M M1 : Mem} {r a : Addr} {n : Nat} (h : WTo M M1 r n) (e : M a = none) (hne : a ≠ r) : WTo M (delM M1 a) r n := by
  refine ⟨?_, fun b c hb q => ?_⟩
  · obtain ⟨x, y, z, h1, h2⟩ := h.ok
    exact ⟨x, y, z, by rw [delM_ne (Ne.symm hne)]; exact h1, h2⟩
  · rw [delM_ne (fun z => by rw [z, e] at q; cases q)]
    exact h.keep b c hb q
def isL (c : Nat) : Bool := decide (97 <= c) && decide (c <= 122)
def isS (c : Nat) : Bool := isL c || (decide (48 <= c) && decide (c <= 57))
def S (cs : List Nat) : Str := ⟨cs.toArray⟩
@[simp] theorem S_inj {a b : List Nat} : S a = S b ↔ a = b := by
  constructor
  · intro h
    have := congrArg (fun x : Str => x.cps.toList) h
    simpa [S] using this
  · rintro rfl; rfl
def NameOk (cs : List Nat) : Prop := ∃ c r, cs = c :: r /\ r.length <= 7 /\ isL c = true /\ ∀ e ∈ r, isS e = true
theorem isS_lt {c : Nat} (h : isS c = true) : c < 1114112 := by simp [isS, isL] at h; omega
theorem isL_S {c : Nat} (h : isL c = true) : isS c = true := by simp [isS, h]
theorem NameOk.all {cs : List Nat} (h : NameOk cs) : ∀ c ∈ cs, isS c = true := by
  obtain ⟨c, r, rfl, _, h1, h2⟩ := h
  intro e he
  rcases List.mem_cons.mp he with rfl | he
  · exact isL_S h1
  · exact h2 e he
theorem NameOk.ok {cs : List Nat} (h : NameOk cs) (n : Nat) : plD n (.str (S cs)) = true := by
  simp [plD, PyData.strOk, S]
  intro c hc
  exact isS_lt (h.all c hc)
theorem NameOk.len {cs : List Nat} (h : NameOk cs) : 1 <= cs.length /\ cs.length <= 8 := by
  obtain ⟨c, r, rfl, h1, _⟩ := h
  simp; omega
theorem S_append (a b : List Nat) : S a ++ S b = S (a ++ b) := by
  show Str.append (S a) (S b) = _
  unfold Str.append S
  simp
@[simp] theorem S_length (a : List Nat) : (S a).length = a.length := by simp [S, Str.length]
theorem S_of (z : Str) : z = S z.cps.toList := by cases z; simp [S]
theorem S_take (e : List Nat) (k : Nat) : cutS (S e) none (some (k : Int)) = S (e.take k) := by
  unfold cutS
  rw [HT.sIx_none, HT.sIx_nat]
  simp [S, Str.length]
theorem S_drop (e : List Nat) (k : Nat) : cutS (S e) (some (k : Int)) none = S (e.drop k) := by
  unfold cutS
  rw [HT.sIx_none, HT.sIx_nat]
  simp [S, Str.length]
  by_cases h : k <= e.length
  · rw [Nat.min_eq_left h, List.take_of_length_le (by simp)]
  · rw [Nat.min_eq_right (by omega), List.drop_length, List.drop_of_length_le (by omega)]; simp
theorem range_at {n : Nat} {f : Nat -> D} {done rest : List D} {x : D} (h : (List.range n).map f = done ++ x :: rest) : done.length < n /\ x = f done.length := by
  have h1 := congrArg List.length h
  simp at h1
  have h2 : done.length < n := by omega
  refine ⟨h2, ?_⟩
  have h3 := congrArg (fun l : List D => l[done.length]?) h
  simp [h2] at h3
  exact h3.symm
def dg (k : Nat) : List Nat := ((toString (k : Int) : String) : Str).cps.toList
theorem dg_ok : ∀ k : Fin 60, (∀ e ∈ dg k.val, 48 <= e /\ e <= 57) /\ (dg k.val).length <= 2 := by decide +kernel
theorem dg_inj : ∀ j k : Fin 60, dg j.val = dg k.val -> j = k := by decide +kernel
structure Row where
  nm : List Nat
  va : Int
  lv : Int
def Row.d (r : Row) : D := .tup [.str (S r.nm), .int r.va, .int r.lv]
def LevOk (ls : List Int) : Prop := ∀ (i : Nat) (l : Int), ls[i]? = some l -> 0 <= l /\ (i = 0 -> l = 0) /\ ∀ k : Nat, i = k + 1 -> ∃ m : Int, ls[k]? = some m /\ l <= m + 1
structure RowsOk (rs : List Row) : Prop where
  len : rs.length <= 60
  names : ∀ r ∈ rs, NameOk r.nm
  vals : ∀ r ∈ rs, -(10 ^ 30) <= r.va /\ r.va <= 10 ^ 30
  nd : (rs.map Row.nm).Nodup
  lev : LevOk (rs.map Row.lv)
theorem LevOk.snoc {ls : List Int} {l : Int} (h : LevOk ls) (h0 : 0 <= l) (h1 : ls = [] -> l = 0) (h2 : ∀ m, ls.getLast? = some m -> l <= m + 1) : LevOk (ls ++ [l]) := by
  intro i x hx
  by_cases hi : i < ls.length
  · rw [List.getElem?_append_left hi] at hx
    obtain ⟨a, b, c⟩ := h i x hx
    refine ⟨a, b, fun k hk => ?_⟩
    obtain ⟨m, hm, hl⟩ := c k hk
    exact ⟨m, by rw [List.getElem?_append_left (by omega)]; exact hm, hl⟩
  · rw [List.getElem?_append_right (by omega)] at hx
    have hi2 : i = ls.length := by
      have := (List.getElem?_eq_some_iff.mp hx).1
      simp at this
      omega
    subst hi2
    simp at hx
    subst hx
    refine ⟨h0, fun z => h1 (List.eq_nil_of_length_eq_zero z), fun k hk => ?_⟩
    have hk2 : k < ls.length := by omega
    refine ⟨ls[k], by rw [List.getElem?_append_left hk2]; simp [hk2], h2 _ ?_⟩
    rw [List.getLast?_eq_getElem?, hk]
    simp [hk2]
def anc (ls : List Int) : Nat -> Int -> List Nat
  | 0, _ => []
  | i + 1, lev => if ls.getD i 0 < lev then i :: anc ls i (ls.getD i 0) else anc ls i lev
def ancs (ls : List Int) (p : Nat) : List Nat := anc ls p (ls.getD p 0)
theorem anc_lt (ls : List Int) : ∀ (i : Nat) (lev : Int), ∀ j ∈ anc ls i lev, j < i
  | 0, _, j, h => by simp [anc] at h
  | i + 1, lev, j, h => by
    unfold anc at h
    split at h
    · rcases List.mem_cons.mp h with rfl | h
      · omega
      · have := anc_lt ls i _ j h; omega
    · have := anc_lt ls i _ j h; omega
theorem anc_step (ls : List Int) : ∀ (i : Nat) (lev : Int) (q : Nat) (r : List Nat), anc ls i lev = q :: r -> r = ancs ls q
  | 0, _, q, r, h => by simp [anc] at h
  | i + 1, lev, q, r, h => by
    unfold anc at h
    split at h
    · cases h; rfl
    · exact anc_step ls i lev q r h
def line (ls : List Int) (p : Nat) : List Nat := p :: ancs ls p
theorem line_le (ls : List Int) (p : Nat) : ∀ j ∈ line ls p, j <= p := by
  intro j hj
  rcases List.mem_cons.mp hj with rfl | h
  · omega
  · exact Nat.le_of_lt (anc_lt ls _ _ j h)
theorem line_cons {ls : List Int} {p q : Nat} {r : List Nat} (h : ancs ls p = q :: r) : line ls p = p :: line ls q := by
  unfold line
  rw [h, anc_step ls _ _ q r h]
theorem ancs_lt {ls : List Int} {p q : Nat} {r : List Nat} (h : ancs ls p = q :: r) : q < p := anc_lt ls p _ q (by unfold ancs at h; rw [h]; simp)
end FL
set_option Elab.async false
set_option linter.all false
set_option maxRecDepth 100000
set_option maxHeartbeats 1000000
namespace FL
open PySem L2 DL
theorem inStr_1 (c : Nat) (z : Str) : inStr ⟨#[c]⟩ z = decide (c ∈ z.cps.toList) := rfl
def strD (x : List Nat) : D := .str (S x)
theorem mem_made {x : List Nat} (ns : List (List Nat)) : ((ns.map strD).any fun y => eqFD y (.str (S x))) = decide (x ∈ ns) := by
  induction ns with
  | nil => simp
  | cons y ns ih =>
    simp only [List.map_cons, List.any_cons, ih, strD]
    by_cases e : y = x
    · subst e; simp
    · have : ¬ (S y = S x) := by simpa using e
      simp [this, e, Ne.symm e]
theorem strD_add (a b : List Nat) (h : a.length + b.length <= 16777216) : addD (strD a) (strD b) = some (strD (a ++ b)) := by
  unfold strD
  rw [addD_str (by simpa using h), S_append]
theorem lenF_strD {M : Mem} {x : List Nat} (h : x.length <= 16777216) : lenF [vw M (strD x)] = some (.int x.length) := by
  show lenF [D.str (S x)] = _
  simp [lenF, h]
theorem slD_take {M : Mem} {x : List Nat} {k : Nat} (h : x.length <= 16777216) : slD (vw M (strD x)) none (some (k : Int)) = some (strD (x.take k)) := by
  show slD (D.str (S x)) none (some (k : Int)) = _
  simp [slD, h, S_take, strD]
theorem slD_drop {M : Mem} {x : List Nat} {k : Nat} (h : x.length <= 16777216) : slD (vw M (strD x)) (some ((k : Int) + 1)) none = some (strD (x.drop (k + 1))) := by
  show slD (D.str (S x)) (some ((k : Int) + 1)) none = _
  have e : ((k : Int) + 1) = ((k + 1 : Nat) : Int) := by omega
  rw [e]
  simp only [slD]
  rw [if_pos (by simpa using h), S_drop]
  rfl
theorem atI_lastF {α : Type} (l : List α) (x : α) : atI (l ++ [x]) (-1) = some x := by
  unfold atI ixN
  have h : (1 : Int) <= l.length + 1 := by omega
  have h2 : (-1 + ((l.length : Int) + 1)).toNat = l.length := by omega
  simp [h, h2]
theorem take_snoc {α : Type} {l : List α} {k : Nat} (h : k < l.length) : l.take k ++ [l[k]] = l.take (k + 1) := by
  rw [List.take_succ, List.getElem?_eq_getElem h]; rfl
theorem atI_get' {α : Type} {l : List α} {k : Nat} {x : α} (h : l[k]? = some x) : atI l (k : Int) = some x := atI_nat h
theorem sIx_nat (n d p : Nat) : HT.sIx n d (some (p : Int)) = min p n := by
  have h0 : ¬ ((p : Int) < 0) := by omega
  unfold HT.sIx
  simp [h0]
theorem cutD_to {xs : List D} {p : Nat} : cutD xs none (some (p : Int)) = xs.take p := by
  unfold cutD
  rw [sIx_nat]
  have e0 : HT.sIx xs.length 0 none = 0 := rfl
  rw [e0]
  simp only [List.drop_zero, Nat.sub_zero]
  by_cases h : p <= xs.length
  · rw [Nat.min_eq_left h]
  · rw [Nat.min_eq_right (by omega), List.take_of_length_le (Nat.le_refl _), List.take_of_length_le (by omega)]
theorem cutD_from {xs : List D} {p : Nat} : cutD xs (some (p : Int)) none = xs.drop p := by
  unfold cutD
  rw [sIx_nat]
  have e0 : HT.sIx xs.length xs.length none = xs.length := rfl
  rw [e0]
  by_cases h : p <= xs.length
  · rw [Nat.min_eq_left h]
    exact List.take_of_length_le (by simp)
  · rw [Nat.min_eq_right (by omega), List.drop_of_length_le (Nat.le_refl _), List.drop_of_length_le (by omega)]
    simp
def spotsK (rs : List Row) : List Key := rs.map fun r => .inr (S r.nm)
def places (n : Nat) : List D := (List.range n).map fun (i : Nat) => D.int (i : Int)
def FD (rs : List Row) : D := .obj 0 ["rows", "order", "spots"] [.tup (rs.map Row.d), .tup (rs.map fun r => strD r.nm), .dK (spotsK rs) (places rs.length)]
@[simp] theorem vw_FD {M : Mem} {rs : List Row} : vw M (FD rs) = FD rs := rfl
@[simp] theorem vw_strD {M : Mem} {x : List Nat} : vw M (strD x) = strD x := rfl
@[simp] theorem methAt_FD {tb : List (Nat × SpD)} {m : Str} {M : Mem} {R : SpD -> Prop} {rs : List Row} : methAt tb m (FD rs) M R ↔ ∃ spd, tb.lookup 0 = some spd /\ m ∉ (["rows", "order", "spots"] : List Str) /\ R spd := methAt_obj
def nmAt (rs : List Row) (i : Nat) : D := strD ((rs.map Row.nm).getD i [])
@[simp] theorem vw_nmAt {M : Mem} {rs : List Row} {i : Nat} : vw M (nmAt rs i) = nmAt rs i := rfl
def lvs (rs : List Row) : List Int := rs.map Row.lv
theorem lvs_of {rs : List Row} {p : Nat} {x : Row} (h : rs[p]? = some x) : (lvs rs).getD p 0 = x.lv := by
  unfold lvs
  simp [List.getD, h]
theorem anc_bound {ls : List Int} {i : Nat} {lev : Int} {j n : Nat} (h : j ∈ anc ls i lev) (hi : i <= n) : j < n := Nat.lt_of_lt_of_le (anc_lt ls i lev j h) hi
theorem anc_len (ls : List Int) : ∀ (i : Nat) (lev : Int), (anc ls i lev).length <= i
  | 0, _ => by simp [anc]
  | i + 1, lev => by
    unfold anc
    split
    · have := anc_len ls i (ls.getD i 0); simp; exact this
    · have := anc_len ls i lev; omega
theorem ancs_len (ls : List Int) (p : Nat) : (ancs ls p).length <= p := anc_len ls p _
theorem enum_rows (rs : List Row) : ((rs.map Row.d).zipIdx.map fun p => D.tup [.int (p.2 : Nat), p.1]) = rs.zipIdx.map fun p => D.tup [.int (p.2 : Nat), Row.d p.1] := by
  refine List.ext_getElem (by simp) fun i h1 h2 => ?_
  simp
def optNm (rs : List Row) : Option Nat -> D
  | some i => nmAt rs i
  | none => .non
def optI : Option Nat -> D
  | some i => .int (i : Int)
  | none => .non
@[simp] theorem optI_some (i : Nat) : optI (some i) = .int (i : Int) := rfl
@[simp] theorem optI_none : optI none = .non := rfl
def intD (i : Nat) : D := .int (i : Int)
def keepIn (l : List Nat) : D -> Option D
  | .int i => if i.toNat ∈ l then some (.int i) else none
  | _ => none
@[simp] theorem vw_optNm {M : Mem} {rs : List Row} {o : Option Nat} : vw M (optNm rs o) = optNm rs o := by cases o <;> rfl
end FL
set_option Elab.async false
set_option linter.all false
set_option maxRecDepth 100000
set_option maxHeartbeats 4000000
set_option autoImplicit false
namespace DL
open PySem L2
section
variable {cl : ClW} {X : Cx} {W : WX} {k : Nat} {f : Addr} {fd : FuncData} {ps : List Str} {spd : SpD}
theorem env_at {pins : List (Addr × Obj)} {σ : St} {H : Hp} {s : Shared} {A : Around} (I : Inv X pins σ H s) (hfr : A.frames = X.A.frames) : Env0 X.prog X.w X.K X.mg X.base A X.stack s H := by
  have e := I.env0
  exact ⟨by rw [hfr]; exact e.frames, e.mod, e.bs, e.bsz, e.funs, e.frf, e.hok, e.bare⟩
theorem run_gA {A : Around} {pins : List (Addr × Obj)} {σ : St} {H : Hp} {s : Shared} {Q : VK} {us : List Value} {vs : List V} (tk : Takes X W) (hr : RoomG k A) (hfr : A.frames = X.A.frames) (G : FnG cl X.prog X.w X.K X.mg X.base k f fd ps spd) (hb : Binds X.K fd ps [])
    (I : Inv X pins σ H s) (r : Vals vs us) (h : lower X.K cl spd vs H Q (WE W σ)) : wpAny (model X.prog X.w) A (call (.ref f) us) (EP X pins σ Q) X.xe s := by
  have hl : us.length = ps.length := by rw [<- Paired.length r]; exact G.lenV h
  have hbb : BindsTo s fd ⟨us, []⟩ (ps.zip us) := by
    have := hb s us I.kIn (by simpa using hl)
    simpa using this
  refine wpAny_call (codeAny_mono (G.run A X.stack s H ⟨us, []⟩ us vs Q _ hr (env_at I hfr) hbb r h) fun r s' hq => ?_)
  cases r with
  | error e => exact passAt tk σ pins H s e s' I hq
  | ok fl =>
    cases fl with
    | ret u => exact I.after hq
    | next => exact False.elim hq
    | brk => exact False.elim hq
    | cont => exact False.elim hq
end
abbrev DB2 := D -> D -> DL.Env -> Mem -> DV -> DX -> Prop
def BinG (cl : ClW) (X : Cx) (W : WX) (op : Value -> Value -> Sem Value) (φ : DB2) : Prop :=
  ∀ (pins : List (Addr × Obj)) (s : Shared) (σ : St) (H F : Hp) (ρ : DL.Env) (M : Mem) (v u : Value) (x y : V) (d e : D) (Q : VK) (Qd : DV) (Xd : DX), Inv X pins σ H s -> RelV x v -> RelV y u -> Good X.K cl F H M -> Slots X.K cl F σ ρ -> Rep X.K cl F x d -> Rep X.K cl F y e ->
    φ d e ρ M Qd Xd -> Post X.K cl F Q Qd -> WOk X.K cl W F Xd -> wpAny (model X.prog X.w) X.A (op v u) (EP X pins σ Q) X.xe s
@[simp] def dBin (φ : DB2) (τa τb : DTE) : DTE := fun ρ M Q X => τa ρ M (fun d M1 => τb ρ M1 (fun e M2 => φ d e ρ M2 Q X) X) X
@[simp] def bOp (f : D -> D -> Option D) : DB2 := fun d e _ M Q _ => ∃ z, f (vw M d) (vw M e) = some z /\ Q z M
@[simp] def bOr (φ ψ : DB2) : DB2 := fun d e ρ M Q X => φ d e ρ M Q X \/ ψ d e ρ M Q X
section
variable {cl : ClW} {X : Cx} {W : WX} {pos : Pos} {a b : Expr} {τa τb : DTE}
theorem BinG.or {op : Value -> Value -> Sem Value} {φ ψ : DB2} (h : BinG cl X W op φ) (h' : BinG cl X W op ψ) : BinG cl X W op (bOr φ ψ) := fun pins s σ H F ρ M v u x y d e Q Qd Xd I rx ry g sl r1 r2 q p w => by
  rcases q with q | q
  · exact h pins s σ H F ρ M v u x y d e Q Qd Xd I rx ry g sl r1 r2 q p w
  · exact h' pins s σ H F ρ M v u x y d e Q Qd Xd I rx ry g sl r1 r2 q p w
theorem BinG.of_op {op : Value -> Value -> Sem Value} {r : R2} {f : D -> D -> Option D} (ho : OpR X op r) (hf : LOp X.K cl r f) : BinG cl X W op (bOp f) := fun pins s σ H F ρ M v u x y d e Q Qd Xd I rx ry g sl r1 r2 q p w => by
  obtain ⟨z, e1, q⟩ := q
  exact ho pins s σ H x y v u Q I rx ry (hf F H M x y _ _ z Q Qd g (vw_ok g r1) (vw_ok g r2) e1 p q)
theorem bin_low {σ : St} {H : Hp} {Q : VK} {φ : DB2} (h : lowE X.K cl W (dBin φ τa τb) σ H Q) : lowE X.K cl W τa σ H (fun x H1 => ∃ F ρ M d Qd Xd, Good X.K cl F H1 M /\ Slots X.K cl F σ ρ /\ Rep X.K cl F x d /\ τb ρ M (fun e M2 => φ d e ρ M2 Qd Xd) Xd /\ Post X.K cl F Q Qd /\ WOk X.K cl W F Xd) := by
  obtain ⟨F, ρ, M, Qd, Xd, g, s, q, p, w⟩ := h
  exact ⟨F, ρ, M, _, Xd, g, s, q, fun x H1 F1 d M1 sm g1 r q1 => ⟨F1, ρ, M1, d, Qd, Xd, g1, s.mono sm, r, q1, p.mono sm, w.mono sm⟩, w⟩
theorem run_bin {op : Value -> Value -> Sem Value} {φ : DB2} (ho : BinG cl X W op φ) (ha : DE cl X W a τa) (hb : DE cl X W b τb) {pins : List (Addr × Obj)} {s : Shared} {σ : St} {H : Hp} {Q : VK} (I : Inv X pins σ H s) (h : lowE X.K cl W (dBin φ τa τb) σ H Q) :
    wpAny (model X.prog X.w) X.A (eval a X.env) (fun v s1 => wpAny (model X.prog X.w) X.A (eval b X.env) (fun u s2 => wpAny (model X.prog X.w) X.A (op v u) (EP X pins σ Q) X.xe s2) X.xe s1) X.xe s := by
  refine thn (ha.pe.run pins s σ H _ I (bin_low h)) fun v s1 ⟨x, H1, I1, r1, F1, ρ, M1, d, Qd, Xd, g1, sl1, rd, q1, p1, w1⟩ => ?_
  refine thn (hb.pe.run pins s1 σ H1 (fun y H2 => ∃ F2 M2 e, Same F1 F2 /\ Good X.K cl F2 H2 M2 /\ Rep X.K cl F2 y e /\ φ d e ρ M2 Qd Xd) I1 ⟨F1, ρ, M1, _, Xd, g1, sl1, q1, fun y H2 F2 e M2 sm g2 r2 q2 => ⟨F2, M2, e, sm, g2, r2, q2⟩, w1⟩) fun u s2 ⟨y, H2, I2, r2, F2, M2, e, sm, g2, re, q2⟩ => ?_
  exact ho pins s2 σ H2 F2 ρ M2 v u x y d e Q Qd Xd I2 r1 r2 g2 (sl1.mono sm) (rd.mono sm) re q2 (p1.mono sm) (w1.mono sm)
theorem d_bin {op : Operator} {φ : DB2} (ho : BinG cl X W (binaryOp op) φ) (ha : DE cl X W a τa) (hb : DE cl X W b τb) : DE cl X W (.BinOp a op b pos) (dBin φ τa τb) := ⟨⟨fun pins s σ H Q I h => wpAny_BinOp (run_bin ho ha hb I h)⟩⟩
theorem d_cmpG {op : CmpOp} {φ : DB2} (ho : BinG cl X W (compareOp op) φ) (ha : DE cl X W a τa) (hb : DE cl X W b τb) (hm : behindInMarks op b = false) : DE cl X W (.Compare a [op] [b] pos) (dBin φ τa τb) := ⟨⟨fun pins s σ H Q I h => wpAny_Compare1 (run_bin ho ha hb I h) hm⟩⟩
theorem d_tcmpG {op : CmpOp} {φ : DB2} (ho : BinG cl X W (compareOp op) φ) (ha : DE cl X W a τa) (hb : DE cl X W b τb) (hm : behindInMarks op b = false) : DT cl X W (.Compare a [op] [b] pos) (dTest (dBin φ τa τb)) := ⟨⟨fun pins s σ H Q I h => by
  obtain ⟨F, ρ, M, Qd, Xd, g, sl, q, p, w⟩ := h
  have h2 : lowE X.K cl W (dBin φ τa τb) σ H (fun x H' => ∃ k, x = .bl k /\ Q k H') := ⟨F, ρ, M, _, Xd, g, sl, q, p.test, w⟩
  refine wpAny_isTrue_Compare1 (thn (run_bin ho ha hb I h2) fun v s1 q1 => thn q1 fun u s2 q2 => thn q2 fun c s3 ⟨z, H3, I3, r3, k, e, q3⟩ => ?_) hm
  subst e
  cases r3
  exact wpAny_truthy_bool ⟨H3, I3, q3⟩⟩⟩
end
end DL
set_option Elab.async false
set_option linter.all false
set_option maxRecDepth 100000
set_option maxHeartbeats 4000000
set_option autoImplicit false
namespace DL
open PySem L2
@[simp] def kB : D -> Option D
  | .bl b => some (.bl b)
  | _ => none
@[simp] def kNB : D -> Option D
  | .bl b => some (.bl !b)
  | _ => none
@[simp] def kV : D -> Option D
  | .bl b => some (.bl b)
  | .obj c ns ds => some (.obj c ns ds)
  | _ => none
def bOwn (tb : List (Nat × SpD)) (k : D -> Option D) : DB2 := fun d e ρ M Q X => ∃ c ns ds spd, vw M d = .obj c ns ds /\ tb.lookup c = some spd /\ spd [d, e] M (fun r M' => ∃ z, k r = some z /\ Q z M') (fun c' ns es M' => X c' ns es ρ M')
def okE (cs : List Nat) : D -> Bool
  | .obj c _ _ => decide (c ∈ cs)
  | d => (tyName d).isSome
def bEq (tb : List (Nat × SpD)) (cs : List Nat) (k : D -> Option D) : DB2 := fun d e ρ M Q X => okE cs (vw M e) = true /\ bOwn tb k d e ρ M Q X
section
variable {cl : ClW} {X : Cx} {W : WX} {k : Nat} {tb : List (Nat × SpD)}
theorem inst_at {pins : List (Addr × Obj)} {σ : St} {H : Hp} {s : Shared} {a C dx : Addr} {fs : List (Str × V)} (I : Inv X pins σ H s) (h : H a = some (.ins C dx fs)) : ∃ od, PySem.W.InstAt s.heap a (PySem.W.instObj C dx) C (some od) := by
  obtain ⟨mA, J, _⟩ := ins_get I.hok h
  obtain ⟨od, J, _⟩ := J.look
  exact ⟨od, J⟩
theorem obj_at {F H : Hp} {M : Mem} {v : V} {d : D} {c : Nat} {ns : List Str} {ds : List D} (g : Good X.K cl F H M) (r : Rep X.K cl F v d) (e : vw M d = .obj c ns ds) : ∃ a dx fs, v = .ref a /\ H a = some (.ins (cl c) dx fs) := by
  have hv := vw_ok g r
  rw [e] at hv
  obtain ⟨a, dx, vs, rfl, h1, h2, h3⟩ := hv.obj g.sub
  exact ⟨a, dx, _, rfl, h1⟩
theorem post_kB {F : Hp} {Q : VK} {Qd : DV} (p : Post X.K cl F Q Qd) (n : Bool) : Post X.K cl F (fun v H' => ∃ b, v = .bl b /\ Q (.bl (if n then !b else b)) H') (fun r M' => ∃ z, (if n then kNB r else kB r) = some z /\ Qd z M') := fun v H' F' d M' sm g' r ⟨z, e, q⟩ => by
  obtain ⟨b, rfl⟩ : ∃ b, d = .bl b := by
    cases d with
    | bl b => exact ⟨b, rfl⟩
    | _ => cases n <;> cases e
  cases r
  cases n
  · cases e; exact ⟨b, rfl, p _ _ _ _ _ sm g' (.bl b) q⟩
  · cases e; exact ⟨b, rfl, p _ _ _ _ _ sm g' (.bl !b) q⟩
def NfOk (K : PySem.W.Frag) (cl : Nat -> Addr) (cs : List Nat) : Prop := ∀ c ∈ cs, (∀ n ∈ tyNames, PySem.W.notFirst K (cl c) (.type n) = true) /\ ∀ c' ∈ cs, PySem.W.notFirst K (cl c) (.ref (cl c')) = true
theorem type_at {pins : List (Addr × Obj)} {σ : St} {H F : Hp} {s : Shared} {M : Mem} {y : V} {u : Value} {e : D} {cs : List Nat} (nf : NfOk X.K cl cs) {c : Nat} (hc : c ∈ cs) (I : Inv X pins σ H s) (ry : RelV y u) (g : Good X.K cl F H M) (r2 : Rep X.K cl F y e) (ok : okE cs (vw M e) = true) :
    ∃ t, PySem.W.Looks (model X.prog X.w) s.heap (typeOf u) t /\ PySem.W.notFirst X.K (cl c) t = true := by
  have hv := vw_ok g r2
  have bt : ∀ n, tyName (vw M e) = some n -> ∃ t, PySem.W.Looks (model X.prog X.w) s.heap (typeOf u) t /\ PySem.W.notFirst X.K (cl c) t = true := fun n hn => by
    obtain ⟨P, Z, z, _⟩ := kit_of I ry (tyX_of g.sub hv hn)
    exact ⟨_, Z.ty _ _ I.kIn z, (nf c hc).1 n (tyName_mem hn)⟩
  cases hn : tyName (vw M e) with
  | some n => exact bt n hn
  | none =>
    cases hd : vw M e with
    | obj c' ns ds =>
      rw [hd] at ok
      have hc' : c' ∈ cs := of_decide_eq_true ok
      obtain ⟨a, dx, fs, rfl, ha⟩ := obj_at g r2 hd
      obtain rfl : u = Value.ref a := ry
      obtain ⟨od, J⟩ := inst_at I ha
      exact ⟨_, J.type, (nf c hc).2 c' hc'⟩
    | _ =>
      rw [hd] at ok hn
      exact absurd ok (by unfold okE; simp [hn])
end
end DL
set_option Elab.async false
set_option linter.all false
set_option maxRecDepth 100000
set_option maxHeartbeats 4000000
set_option autoImplicit false
namespace DL
open PySem L2
section
variable {prog : Program} {w : World} {A : Around} {E : Value -> Shared -> Prop} {s : Shared} {K : PySem.W.Frag} {x C L f : Addr} {h₀ : Heap} {m : Str -> Option Value} {ox : Obj} {od : Option Obj} {b tb : Value}
theorem ne_try {Q : Option Value -> Shared -> Prop} (hu : A.units + 1 < cLine) (KX : K.In s.heap) (I : PySem.W.InstAt s.heap x ox C od) (hN : PySem.W.findIn K (.ref C) "__ne__" = some (some (.builtin "object.__ne__"))) (hE : PySem.W.findIn K (.ref C) "__eq__" = some (some (.ref f))) (hf : PySem.W.isFn K (.ref f) = true) (hO : PySem.W.mroIn K C (.type "object") = some true)
    (h : wpAny (model prog w) A.in1 (call (.ref f) [.ref x, b]) (fun v s' => ∃ r, v = .bool r /\ Q (some (.bool (!r))) s') E s) : wpAny (model prog w) A (tryCompare (.ref x) "__ne__" b) Q E s := by
  have ne := F.cmp_object.ne
  have body : wpAny (model prog w) A (call (.builtin "object.__ne__") [.ref x, b]) (fun v s' => ∃ r, v = .bool (!r) /\ Q (some (.bool (!r))) s') E s := by
    refine wpAny_call (codeAny_call_builtin ne.plain F.cmpEntry_ne (PySem.W.check_slot F.cmpKind_ne F.cmpSplit_ne (I.type.andThen (PySem.W.looks_mroIn KX hO)) (F.cmpArgs_ne _ _) ?_))
    unfold Builtin.«object.__ne__»
    repeat (first
      | with_reducible refine wpAny_cRoomFor hu ?_
      | (refine wpAny_bind (m := callSpecialIfBound? (.ref x) (Str.ofString "__eq__") [b]) (PySem.W.ifBound_K KX I hE hf (wpAny_mono h (fun r s' hr => by
          obtain ⟨c, rfl, hq⟩ := hr
          repeat (first | exact ⟨c, rfl, hq⟩ | exact wpAny_pure ⟨c, rfl, hq⟩ | exact wpAny_truthy_bool ⟨c, rfl, hq⟩ | (refine wpAny_bind (m := truthy (.bool _)) (wpAny_truthy_bool ?_)) | wp_step)) fun _ _ e => e)))
      | wp_step)
  unfold tryCompare
  have fin : wpAny (model prog w) A (call (.builtin "object.__ne__") ([.ref x] ++ [b]) >>= fun v => pure (some v)) (fun o s' => ∃ r, o = some (.bool (!r)) /\ Q (some (.bool (!r))) s') E s :=
    wpAny_bind (wpAny_mono body (fun v s' ⟨r, e, q⟩ => wpAny_pure ⟨r, by rw [e], q⟩) fun _ _ e => e)
  have one : wpAny (model prog w) A (callSpecialIfBound? (.ref x) "__ne__" [b]) (fun o s' => ∃ r, o = some (.bool (!r)) /\ Q (some (.bool (!r))) s') E s := by
    simp only [callSpecialIfBound?, bindSpecialIfBound?]
    refine wpAny_holding (wpAny_bind (wpAny_bind (wpAny_bind (I.type.here ((PySem.W.looks_findIn KX hN).here ?_)))))
    simp only [ne.bind]
    refine wpAny_bind (wpAny_askSetting (wpAny_ite ?_))
    split
    · exact wpAny_bind (wpAny_pure (wpAny_pure fin))
    · exact wpAny_tryCatch (wpAny_bind (wpAny_pure (wpAny_pure fin)))
  refine wpAny_bind (wpAny_mono one (fun o s' ⟨r, e, q⟩ => ?_) fun _ _ e => e)
  subst e
  exact wpAny_pure q
theorem ne_K {Q : Value -> Shared -> Prop} (hu : A.units + 1 < cLine) (KX : K.In s.heap) (I : PySem.W.InstAt s.heap x ox C od) (hb : PySem.W.Looks (model prog w) s.heap (typeOf b) tb) (hn : PySem.W.notFirst K C tb = true) (hN : PySem.W.findIn K (.ref C) "__ne__" = some (some (.builtin "object.__ne__"))) (hE : PySem.W.findIn K (.ref C) "__eq__" = some (some (.ref f))) (hf : PySem.W.isFn K (.ref f) = true) (hO : PySem.W.mroIn K C (.type "object") = some true)
    (h : wpAny (model prog w) A.in1 (call (.ref f) [.ref x, b]) (fun v s' => ∃ r, v = .bool r /\ Q (.bool (!r)) s') E s) : wpAny (model prog w) A (richCompare .NotEq (.ref x) b) Q E s := by
  have one : wpAny (model prog w) A (tryCompare (.ref x) (cmpInfo .NotEq).2.1 b) (fun r s' => ∃ v, r = some v /\ Q v s') E s :=
    ne_try hu KX I hN hE hf hO (wpAny_mono h (fun v s' ⟨r, e, q⟩ => ⟨r, e, _, rfl, q⟩) fun _ _ e => e)
  have two : wpAny (model prog w) A (tryCompare (.ref x) (cmpInfo .NotEq).2.1 b) (fun r s' => ∃ v, r = some v /\ wpAny (model prog w) A (pure v : Sem Value) Q E s') E s := wpAny_mono one (fun r s' ⟨v, e, q⟩ => ⟨v, e, wpAny_pure q⟩) fun _ _ e => e
  unfold richCompare
  simp only [oneThing_ref]
  refine wpAny_holding (wpAny_bind (wpAny_cRoomFor (by omega) ?_))
  refine wpAny_bind (I.type.here (wpAny_bind (hb.here ?_)))
  split
  · rename_i q
    have e : PySem.W.subIn K tb (.ref C) = some false := by
      rcases Bool.or_eq_true_iff.mp hn with e | e
      · rw [beq_iff_eq.mp e] at q
        exact absurd q (by simp)
      · exact beq_iff_eq.mp e
    refine wpAny_bind ((PySem.W.looks_subIn KX e).here ?_)
    simp only [Bool.false_eq_true, if_false]
    refine wpAny_bind (wpAny_mono two (fun r s' ⟨v, e, z⟩ => ?_) fun _ _ e => e)
    subst e
    exact z
  · refine wpAny_bind (wpAny_pure ?_)
    simp only [Bool.false_eq_true, if_false]
    refine wpAny_bind (wpAny_mono two (fun r s' ⟨v, e, z⟩ => ?_) fun _ _ e => e)
    subst e
    exact z
end
section
variable {cl : ClW} {X : Cx} {W : WX} {k : Nat} {tb : List (Nat × SpD)}
def NeOk (K : PySem.W.Frag) (cl : Nat -> Addr) (cs : List Nat) : Prop := ∀ c ∈ cs, PySem.W.findIn K (.ref (cl c)) "__ne__" = some (some (.builtin "object.__ne__")) /\ PySem.W.mroIn K (cl c) (.type "object") = some true
theorem own_ne {cs : List Nat} (cp : Cap X W (k + 1)) (nf : NfOk X.K cl cs) (no : NeOk X.K cl cs) (htb : ∀ c spd, tb.lookup c = some spd -> c ∈ cs) (hm : ∀ c spd, tb.lookup c = some spd -> MethB cl X.prog X.w X.K X.mg X.base k c "__eq__" spd) : BinG cl X W (compareOp .NotEq) (bEq tb cs kNB) := by
  intro pins s σ H F ρ M v u x y d e Q Qd Xd I rx ry g sl r1 r2 ⟨ok, c, ns, ds, spd, e1, e2, q⟩ p w
  obtain ⟨hc, f, fd, ps, mt, hb, G⟩ := hm c spd e2
  obtain ⟨t, ht, hn⟩ := type_at nf (htb c spd e2) I ry g r2 ok
  obtain ⟨n1, n2⟩ := no c (htb c spd e2)
  obtain ⟨a, dx, fs, rfl, ha⟩ := obj_at g r1 e1
  obtain rfl : v = Value.ref a := rx
  obtain ⟨od, J⟩ := inst_at I ha
  refine ne_K (RoomG.u1 cp.hr) I.kIn J ht hn n1 mt.at_ mt.fn n2 (wpAny_mono (run_gA (us := [.ref a, u]) (vs := [.ref a, y]) cp.tk cp.hr.in1 rfl G hb I (.cons rfl (.cons ry .nil)) (low_call g sl (.cons r1 (.one r2)) q (post_kB p true) w)) (fun r s' ⟨z, H', I', rz, b, ez, qz⟩ => ?_) fun _ _ h => h)
  subst ez
  cases rz
  exact ⟨b, rfl, .bl !b, H', I', rfl, qz⟩
structure TyC (K : PySem.W.Frag) (C : Addr) : Prop where
  cls : Cls K C
  ha : PySem.W.findIn K (.ref C) "__class__" = some (some (.builtin "object.__class__"))
  hn : PySem.W.specialIn K (.builtin "object.__class__") "__get__" = some (some (.builtin "getset_descriptor.__get__"))
  htk : PySem.W.takesIn K (.builtin "object.__class__") = some true
  hm : PySem.W.mroIn K C (.type "object") = some true
structure IsoOk (K : PySem.W.Frag) (cl : Nat -> Addr) (c : Nat) (yes no : List Nat) : Prop where
  y : ∀ j ∈ yes, TyC K (cl j) /\ PySem.W.kitOne K (.ref (cl j)) (.ref (cl c)) = some true
  n : ∀ j ∈ no, TyC K (cl j) /\ PySem.W.kitOne K (.ref (cl j)) (.ref (cl c)) = some false
  t : ∀ n ∈ tyNames, PySem.W.kitOne K (.type n) (.ref (cl c)) = some false
def isoF (c : Nat) (yes no : List Nat) : List D -> Option D
  | [.obj j _ _, .cls i] => if i = c then if j ∈ yes then some (.bl true) else if j ∈ no then some (.bl false) else none else none
  | [d, .cls i] => if i = c then if (tyName d).isSome then some (.bl false) else none else none
  | _ => none
theorem Vw.cls {K : PySem.W.Frag} {F H : Hp} {v : V} {c : Nat} (h : Vw K cl F H v (.cls c)) : v = .ref (cl c) := by
  rcases h with h | ⟨a, rfl, h⟩
  · exact h.toCls
  · exact h.elim
theorem lc_iso {K : PySem.W.Frag} {c : Nat} {yes no : List Nat} (ok : IsoOk K cl c yes no) : LCall K cl (rIsi K) (isoF c yes no) := by
  intro F H M xs ds z Q Qd g r h p q
  generalize e : ds.map (vw M) = es at h
  have fin : ∀ {x y : V} {i : Nat} {t : Value} {b : Bool}, xs = [x, y] -> y = .ref (cl i) -> i = c -> TyX K H x t -> PySem.W.kitOne K t (.ref (cl c)) = some b -> z = .bl b -> rIsi K xs H Q := by
    intro x y i t b h1 h2 h3 h4 h5 h6
    subst h3 h6
    exact ⟨x, y, t, _, b, h1, by rw [h2]; exact .own _, h4, h5, p.val g (.bl b) q⟩
  unfold isoF at h
  split at h
  · rename_i j ns ds' i
    obtain ⟨x, y, h1, hv, hw⟩ := reps2 g r e
    obtain ⟨a, dx, vs, rfl, k1, k2, k3⟩ := hv.obj g.sub
    have ty : ∀ {j : Nat}, TyC K (cl j) -> H a = some (.ins (cl j) dx (ns.zip vs)) -> TyX K H (.ref a) (.ref (cl j)) := fun t k => .base (.ins k t.cls t.ha t.hn t.htk t.hm)
    split at h
    · rename_i hi
      split at h
      · rename_i hy
        exact fin h1 hw.cls hi (ty (ok.y j hy).1 k1) (ok.y j hy).2 (by cases h; rfl)
      · split at h
        · rename_i hy
          exact fin h1 hw.cls hi (ty (ok.n j hy).1 k1) (ok.n j hy).2 (by cases h; rfl)
        · cases h
    · cases h
  · rename_i d i _
    obtain ⟨x, y, h1, hv, hw⟩ := reps2 g r e
    split at h
    · rename_i hi
      split at h
      · rename_i ht
        cases hn : tyName d with
        | none => rw [hn] at ht; cases ht
        | some n => exact fin h1 hw.cls hi (tyX_of g.sub hv hn) (ok.t n (tyName_mem hn)) (by cases h; rfl)
      · cases h
    · cases h
  · cases h
end
end DL
set_option Elab.async false
set_option linter.all false
set_option maxRecDepth 100000
set_option maxHeartbeats 2000000
set_option autoImplicit false
namespace DL
open PySem L2
section
variable {K : PySem.W.Frag} {cl : ClW}
theorem and2 {a b : Bool} (h : (a && b) = true) : a = true /\ b = true := Bool.and_eq_true_iff.mp h
def tycB (K : PySem.W.Frag) (C : Addr) : Bool := He.eqO (PySem.W.findIn K (.ref C) "__class__") (some (some (.builtin "object.__class__"))) && (He.eqO (PySem.W.specialIn K (.builtin "object.__class__") "__get__") (some (some (.builtin "getset_descriptor.__get__"))) && ((PySem.W.takesIn K (.builtin "object.__class__") == some true) && (PySem.W.mroIn K C (.type "object") == some true)))
theorem tycB_ok {C : Addr} (c : Cls K C) (h : tycB K C = true) : TyC K C := by
  obtain ⟨h1, h⟩ := and2 h
  obtain ⟨h2, h⟩ := and2 h
  obtain ⟨h3, h4⟩ := and2 h
  exact ⟨c, He.eqO_ok h1, He.eqO_ok h2, beq_iff_eq.mp h3, beq_iff_eq.mp h4⟩
def isoB (K : PySem.W.Frag) (cl : Nat -> Addr) (c : Nat) (yes no : List Nat) : Bool := (yes.all fun j => PySem.W.kitOne K (.ref (cl j)) (.ref (cl c)) == some true) && ((no.all fun j => PySem.W.kitOne K (.ref (cl j)) (.ref (cl c)) == some false) && (tyNames.all fun n => PySem.W.kitOne K (.type n) (.ref (cl c)) == some false))
theorem isoB_ok {cl : Nat -> Addr} {c : Nat} {yes no : List Nat} (h : isoB K cl c yes no = true) (t : ∀ j ∈ yes ++ no, TyC K (cl j)) : IsoOk K cl c yes no := by
  obtain ⟨h1, h⟩ := and2 h
  obtain ⟨h2, h3⟩ := and2 h
  exact ⟨fun j hj => ⟨t j (by simp [hj]), beq_iff_eq.mp (List.all_eq_true.mp h1 j hj)⟩, fun j hj => ⟨t j (by simp [hj]), beq_iff_eq.mp (List.all_eq_true.mp h2 j hj)⟩, fun n hn => beq_iff_eq.mp (List.all_eq_true.mp h3 n hn)⟩
def nfB (K : PySem.W.Frag) (cl : Nat -> Addr) (cs : List Nat) : Bool := cs.all fun c => (tyNames.all fun n => PySem.W.notFirst K (cl c) (.type n)) && (cs.all fun c' => PySem.W.notFirst K (cl c) (.ref (cl c')))
theorem nfB_ok {cl : Nat -> Addr} {cs : List Nat} (h : nfB K cl cs = true) : NfOk K cl cs := fun c hc => by
  obtain ⟨h1, h2⟩ := and2 (List.all_eq_true.mp h c hc)
  exact ⟨fun n hn => List.all_eq_true.mp h1 n hn, fun c' hc' => List.all_eq_true.mp h2 c' hc'⟩
def neB (K : PySem.W.Frag) (cl : Nat -> Addr) (cs : List Nat) : Bool := cs.all fun c => He.eqO (PySem.W.findIn K (.ref (cl c)) "__ne__") (some (some (.builtin "object.__ne__"))) && (PySem.W.mroIn K (cl c) (.type "object") == some true)
theorem neB_ok {cl : Nat -> Addr} {cs : List Nat} (h : neB K cl cs = true) : NeOk K cl cs := fun c hc => by
  obtain ⟨h1, h2⟩ := and2 (List.all_eq_true.mp h c hc)
  exact ⟨He.eqO_ok h1, beq_iff_eq.mp h2⟩
theorem tb_in {tb : List (Nat × SpD)} {cs : List Nat} (h : (tb.map (·.1)).all (fun c => decide (c ∈ cs)) = true) : ∀ c spd, tb.lookup c = some spd -> c ∈ cs := by
  intro c spd e
  induction tb with
  | nil => cases e
  | cons p r ih =>
    obtain ⟨c0, s0⟩ := p
    rw [List.map_cons, List.all_cons] at h
    obtain ⟨h1, h2⟩ := and2 h
    by_cases hc : c = c0
    · subst hc; exact of_decide_eq_true h1
    · have : (c == c0) = false := by simpa using hc
      simp only [List.lookup, this] at e
      exact ih h2 e
end
section
variable {cl : ClW} {X : Cx} {W : WX} {pos : Pos}
theorem d_dict0 : DE cl X W (.Dict [] [] pos) (dC (.dK [] [])) := ⟨pe_imp pe_dnewK fun σ H Q ⟨F, ρ, M, Qd, Xd, g, s, q, p, w⟩ a ha => p _ _ _ _ _ (same_new (g.freshF ha)) (g.new ha) (.dK upd_same rfl .nil) q⟩
end
@[simp] theorem isoF_obj {c j : Nat} {yes no : List Nat} {ns : List Str} {ds : List D} : isoF c yes no [.obj j ns ds, .cls c] = if j ∈ yes then some (.bl true) else if j ∈ no then some (.bl false) else none := by simp [isoF]
theorem isoF_ty {c : Nat} {yes no : List Nat} {d : D} {n : String} (h : tyName d = some n) : isoF c yes no [d, .cls c] = some (.bl false) := by
  cases d <;> simp [isoF, tyName] at h ⊢
end DL
set_option Elab.async false
set_option linter.all false
set_option maxRecDepth 100000
set_option maxHeartbeats 4000000
set_option autoImplicit false
namespace DL
open PySem L2
def spX (C : Addr) (fs : List Str) : Sp := fun vs H Q _ => ∃ (a : Addr) (ws : List V), vs = .ref a :: ws /\ ws.length = fs.length /\ H a = some (exo a C none) /\
  ∀ (d : Addr) (H' : Hp), H d = none -> d ≠ a -> H' a = some (exo a C (some d)) -> H' d = some (exd d (fs.reverse.zip ws.reverse)) -> (∀ b, b ≠ a -> b ≠ d -> H' b = H b) -> Q .non H'
structure ExcK (P : Program) (w : World) (K : PySem.W.Frag) (mg : Str -> Option Value) (base : Heap) (x : Str) (C : Addr) (fs : List Str) : Prop where
  oex : OexC K C
  gl : mg x = some (.ref C)
  ini : ∃ fI fd ps, PySem.W.findIn K (.ref C) "__init__" = some (some (.ref fI)) /\ PySem.W.typeIn K (.ref fI) = some (.type "function") /\ FnOk P w K mg base (L2.CX P w) 1 fI fd ps (spX C fs) /\ Binds K fd ps []
section
variable {P : Program} {w : World} {K : PySem.W.Frag} {mg : Str -> Option Value} {base : Heap} {qual : Str} {params : Arguments} {scope : Scope} {f C : Addr} {fd : FuncData}
theorem xinit1 {p1 p2 p3 p4 : Pos} {g : Str} (T : OexC K C) (hno : PySem.W.findIn K (.ref C) g = some none) (F : FunD K "__init__" qual params [.Assign [.Attribute (.Name "self" p1) g p2] (.Name g p3) p4] scope [] [] f fd) (S : FnScope ["self", g] ["self", g] scope)
    (h0 : Vis scope "self" := by first | exact Or.inl rfl | exact Or.inr (Or.inl rfl)) (h1 : Vis scope g := by first | exact Or.inl rfl | exact Or.inr (Or.inl rfl)) (hd : (g == ("__debug__" : Str)) = false := by decide) (hcd : (g == ("__classdict__" : Str)) = false := by decide) : FnOk P w K mg base (L2.CX P w) 1 f fd ["self", g] (spX C [g]) := by
  refine F.ok S (fun vs H Q E ⟨a, ws, e, hl, _⟩ => by rw [e, List.length_cons, hl]; rfl) fun cdv A outer s H vs Q E hr ⟨a, ws, e, hl, ha, q⟩ => ?_
  obtain ⟨v, rfl⟩ : ∃ v, ws = [v] := by
    match ws, hl with
    | [v], _ => exact ⟨v, rfl⟩
  subst e
  refine ⟨_, pss_one (ps_ost (pe_var (i := 0) rfl h0 (by decide)) (pe_var (i := 1) rfl h1 hd hcd)), ?_⟩
  refine ⟨v, rfl, .ref a, rfl, a, C, rfl, T, hno, .inl ⟨ha, fun d hd hne => q d _ hd hne upd_same (by rw [upd_ne hne, upd_same]; rfl) (fun b h1 h2 => by rw [upd_ne h1, upd_ne h2])⟩⟩
end
def dRaise (c : Nat) (fs : List Str) (α : DTA) : DTS := fun E ρ M => α ρ M (fun ds M1 => ds.length = fs.length /\ E.ex c fs.reverse ds.reverse ρ M1) E.ex
section
variable {cl : ClW} {X : Cx} {W : WX} {k : Nat} {x : Str} {c : Nat} {fs : List Str} {e : Expr} {es : List Expr} {α : DTA} {p p2 pos : Pos}
theorem ds_raise (cp : Cap X W k) (hk : 2 <= k) (T : ExcK X.prog X.w X.K X.mg X.base x (cl c) fs) (hf : fs.length <= 900) (hg : Gl X x) (ha : DA cl X W (e :: es) α)
    (hdb : (x == ("__debug__" : Str)) = false := by decide) (he : starEach (e :: es) X.env = (false, eval e X.env) :: starEach es X.env := by rfl) (hpl : (backTo p2 (starEach es X.env)).any (·.1) = false := by rfl) :
    DS cl X W (.Raise (some (.Call (.Name x p) (e :: es) [] p2)) none pos) (dRaise c fs α) := by
  obtain ⟨fI, fd, ps, iC, tI, F1, hb⟩ := T.ini
  refine ⟨ps_imp (ps_raise cp.calm cp.tk (pmk_oex T.oex iC tI F1 (cp.hr.mono hk).room hb .nil (fun pins σ H s e s' I h => ?_) hg T.gl ha.pa hdb he hpl)) fun D σ H ⟨F, ρ, M, E, g, s, q, ok⟩ => ?_⟩
  · obtain ⟨_, _, _, _, _, _, _, _, _, _, _, _, h⟩ := h
    exact h.elim
  · refine ⟨F, ρ, M, _, E.ex, g, s, q, fun vs H1 F1 ds M1 sm g1 r1 ⟨hl, q1⟩ => ⟨by rw [r1.length, hl]; omega, fun a ha => ?_⟩, ok.ex⟩
    refine ⟨a, vs, by rw [List.append_nil], by rw [r1.length, hl], upd_same, fun d H' hd hne h1 h2 h3 => ⟨rfl, d, _, h1, h2, ?_, ?_⟩⟩
    · rw [upd_ne hne] at hd; exact hd
    · rw [upd_ne hne] at hd
      have eH : L2.upd (L2.del H' a) d (.xd (fs.reverse.zip vs.reverse)) = L2.upd H1 d (.xd (fs.reverse.zip vs.reverse)) := by
        funext b
        by_cases hb : b = d
        · rw [hb, upd_same, upd_same]
        · rw [upd_ne hb, upd_ne hb]
          by_cases hb2 : b = a
          · rw [hb2, del_same, ha]
          · rw [del_ne hb2, h3 b hb2 hb, upd_ne hb2]
      rw [eH]
      have sm2 : Same F1 (L2.upd F1 d (.xd (fs.reverse.zip vs.reverse))) := same_new (g1.freshF hd)
      exact ok.ex c _ _ σ _ _ ρ M1 (some d) (sm.trans sm2) (g1.new hd) (s.mono (sm.trans sm2)) (.inr ⟨d, vs.reverse, rfl, upd_same, by rw [List.length_reverse, List.length_reverse, r1.length, hl], (r1.mono sm2).reverse⟩) q1
end
end DL
set_option Elab.async false
set_option linter.all false
set_option maxRecDepth 100000
set_option maxHeartbeats 4000000
set_option autoImplicit false
namespace DL
open PySem L2
abbrev Clause := Value × Option Nat × (Addr -> Value -> Option Addr -> TS)
abbrev SuiteOk (X : Cx) (su : List Stmt) (ts : Addr -> Value -> Option Addr -> TS) : Prop := ∀ (a : Addr) (oe : Obj) (cl : Value) (d : Option Addr) (pn : List (Addr × Obj)), Zc cl d oe -> (∃ vs, oe.data = .fields vs) -> PSs (X.suite a ((a, oe) :: pn)) su (ts a cl d)
inductive Mix (X : Cx) : List ExceptHandler -> List Clause -> Prop
  | nil : Mix X [] []
  | only {x : Str} {c : Value} {ts : Addr -> Value -> Option Addr -> TS} {st : Stmt} {su : List Stmt} {np hp : Pos} {hs : List ExceptHandler} {l : List Clause} (hc : Names X x c) (h : SuiteOk X (st :: su) ts) (r : Mix X hs l) : Mix X (.ExceptHandler (some (.Name x np)) none (st :: su) hp :: hs) ((c, none, ts) :: l)
  | as {x n : Str} {i : Nat} {c : Value} {ts : Addr -> Value -> Option Addr -> TS} {st : Stmt} {su : List Stmt} {np hp : Pos} {hs : List ExceptHandler} {l : List Clause} (hN : X.N.Nodup) (hi : X.N[i]? = some n) (hn : X.env.kindOf n = some .local) (hc : Names X x c) (h : SuiteOk X (st :: su) ts) (r : Mix X hs l) :
      Mix X (.ExceptHandler (some (.Name x np)) (some n) (st :: su) hp :: hs) ((c, some i, ts) :: l)
section
variable {X : Cx} {body : List Stmt} {hd0 : ExceptHandler} {hds : List ExceptHandler} {l : List Clause} {pos : Pos} {tb : WX -> TS} {Wo : WX}
end
end DL
set_option Elab.async false
set_option linter.all false
set_option maxRecDepth 100000
set_option maxHeartbeats 4000000
set_option autoImplicit false
namespace DL
open PySem L2
structure DClause where
  k : Nat
  slot : Option Nat
  su : D -> DTS
def XOk (cl : ClW) (x : D) (a : Addr) (cls : Value) (d : Option Addr) : Prop := ∃ dd c ns ds, x = .exc a dd c ns ds /\ d = some dd /\ cls = .ref (cl c)
section
variable {cl : ClW} {X : Cx} {W : WX}
inductive DMix (cl : ClW) (X : Cx) : List ExceptHandler -> List DClause -> Prop
  | nil : DMix cl X [] []
  | only {x : Str} {k : Nat} {su : D -> DTS} {st : Stmt} {ss : List Stmt} {np hp : Pos} {hs : List ExceptHandler} {l : List DClause} (hc : Names X x (.ref (cl k)))
      (h : ∀ (x : D) (a : Addr) (oe : Obj) (cls : Value) (d : Option Addr) (pn : List (Addr × Obj)), XOk cl x a cls d -> Zc cls d oe -> (∃ vs, oe.data = .fields vs) -> DSs cl (X.suite a ((a, oe) :: pn)) W0 (st :: ss) (su x)) (r : DMix cl X hs l) :
      DMix cl X (.ExceptHandler (some (.Name x np)) none (st :: ss) hp :: hs) (⟨k, none, su⟩ :: l)
  | as {x n : Str} {i k : Nat} {su : D -> DTS} {st : Stmt} {ss : List Stmt} {np hp : Pos} {hs : List ExceptHandler} {l : List DClause} (hN : X.N.Nodup) (hi : X.N[i]? = some n) (hn : X.env.kindOf n = some .local) (hc : Names X x (.ref (cl k)))
      (h : ∀ (x : D) (a : Addr) (oe : Obj) (cls : Value) (d : Option Addr) (pn : List (Addr × Obj)), XOk cl x a cls d -> Zc cls d oe -> (∃ vs, oe.data = .fields vs) -> DSs cl (X.suite a ((a, oe) :: pn)) W0 (st :: ss) (su x)) (r : DMix cl X hs l) :
      DMix cl X (.ExceptHandler (some (.Name x np)) (some n) (st :: ss) hp :: hs) (⟨k, some i, su⟩ :: l)
end
end DL
set_option Elab.async false
set_option linter.all false
set_option maxRecDepth 100000
set_option maxHeartbeats 4000000
set_option autoImplicit false
namespace DL
open PySem L2
structure CapS (A : Around) : Prop where
  un : A.units + 200 < cLine
  gd : A.guards = some []
section
variable {X : Cx}
end
def excF (cs : List Nat) (f : Str) : D -> Option D
  | .exc _ _ c ns ds => if c ∈ cs then lookN f ns ds else none
  | _ => none
@[simp] def dXf (cs : List Nat) (f : Str) (x : D) (τ : DTE) : DTE := fun ρ M Q X => τ ρ M (fun d M1 => d = x /\ ∃ v, excF cs f x = some v /\ Q v M1) X
section
variable {cl : ClW} {X : Cx} {a : Addr} {oe : Obj} {cls : Value} {d : Option Addr} {pn : List (Addr × Obj)} {x : D} {e : Expr} {τ : DTE} {f : Str} {cs : List Nat} {pos : Pos}
end
def oexB (K : PySem.W.Frag) (C : Addr) : Bool := (match K.lookup C with
  | some ⟨.type "type", _, .cls cd, sl⟩ => (match cd.mro, sl.toList with
    | .ref C' :: bm, [_, _, _, _, some (.builtin n), _] => decide (C' = C) && (decide (n = "ValueError.__new__") && (!cd.hasDel && (cd.hasDict && PySem.HandSPX.refsVE bm)))
    | _, _ => false)
  | _ => false) && (He.eqO (PySem.W.findIn K (.ref C) "__setattr__") (some (some (.builtin "object.__setattr__"))) && ((PySem.W.subIn K (.ref C) (.type "BaseException") == some true) && ((PySem.W.typeIn K (.ref C) == some (.type "type")) && PySem.W.keepIn K (.ref C))))
theorem oexB_ok {K : PySem.W.Frag} {C : Addr} (h : oexB K C = true) : OexC K C := by
  obtain ⟨h0, h⟩ := and2 h
  obtain ⟨h1, h⟩ := and2 h
  obtain ⟨h2, h⟩ := and2 h
  obtain ⟨h3, h4⟩ := and2 h
  refine ⟨?_, He.eqO_ok h1, beq_iff_eq.mp h2, beq_iff_eq.mp h3, h4⟩
  split at h0
  · rename_i dd cd sl ho
    split at h0
    · rename_i C' bm k0 k1 k2 k3 n k5 hm hs
      obtain ⟨g1, h0⟩ := and2 h0
      obtain ⟨g2, h0⟩ := and2 h0
      obtain ⟨g3, h0⟩ := and2 h0
      obtain ⟨g4, g5⟩ := and2 h0
      have e1 := of_decide_eq_true g1
      have e2 := of_decide_eq_true g2
      have e3 : cd.hasDel = false := by simpa using g3
      subst e1 e2
      obtain ⟨nm, bs, mro, ns, qn, hd, sn, sb, ab, col, del⟩ := cd
      dsimp only at hm e3 g4
      subst hm e3 g4
      have hsl : sl = #[k0, k1, k2, k3, some (.builtin "ValueError.__new__"), k5] := by
        cases sl
        dsimp only at hs
        rw [hs]
      subst hsl
      exact ⟨nm, qn, ns, bs, bm, sn, sb, ab, col, dd, k0, k1, k2, k3, k5, ho, g5⟩
    · cases h0
  · cases h0
def xnB (K : PySem.W.Frag) (C : Addr) (fI : Addr) (fs : List Str) : Bool := He.eqO (PySem.W.findIn K (.ref C) "__init__") (some (some (.ref fI))) && ((PySem.W.typeIn K (.ref fI) == some (.type "function")) && (fs.all fun f => He.eqO (PySem.W.findIn K (.ref C) f) (some none)))
theorem xnB_ok {K : PySem.W.Frag} {C fI : Addr} {fs : List Str} (h : xnB K C fI fs = true) : PySem.W.findIn K (.ref C) "__init__" = some (some (.ref fI)) /\ PySem.W.typeIn K (.ref fI) = some (.type "function") /\ ∀ f ∈ fs, PySem.W.findIn K (.ref C) f = some none := by
  obtain ⟨h1, h⟩ := and2 h
  obtain ⟨h2, h3⟩ := and2 h
  exact ⟨He.eqO_ok h1, beq_iff_eq.mp h2, fun f hf => He.eqO_ok (List.all_eq_true.mp h3 f hf)⟩
section
variable {K : PySem.W.Frag} {cl : ClW}
end
end DL
set_option Elab.async false
set_option linter.all false
set_option maxRecDepth 100000
set_option maxHeartbeats 4000000
namespace DL
open PySem L2
section
variable {cl : ClW} {X : Cx} {W : WX} {elt tg iter : Expr} {ifs : List Expr} {scope : Scope} {own : List (Str × Nat)} {pos : Pos} {ι : DTI} {is : List Nat} {γ : DTG} {υ : DTT} {τ : DTE}
end
section
variable {cl : ClW} {X : Cx} {W : WX} {st : Stmt} {t : DTS}
end
end DL
set_option Elab.async false
set_option linter.all false
set_option maxRecDepth 100000
set_option maxHeartbeats 4000000
set_option autoImplicit false
namespace DL
open PySem L2
theorem meets_enum1 {v : Value} {o : Obj} {H : Heap -> Prop} (B : Begins v o H) :
    Meets (Builtin.«enumerate.__new__» ⟨[.type "enumerate", v], []⟩) (fun _ R s => H s.heap /\
      R (.ok (.ret (.ref (s.heap.push o).objs.size))) { s with heap := (s.heap.push o).push { cls := .type "enumerate", data := .fields #[.none, .bool false, .ref s.heap.objs.size, rawInt 0, .none, .none] } }) :=
  .of_wp fun prog w A R s ⟨h1, h⟩ => by
    obtain ⟨hp, g, d, tk, os⟩ := s
    have sb := sub_enumerate
    have q1 : ∀ {A' : Around} {E : Value -> Shared -> Prop} {Q : Value -> Shared -> Prop}, Q (.ref hp.objs.size) ⟨hp.push o, g, d, tk, os⟩ -> wpAny (model prog w) A' (pyIter v) Q E ⟨hp, g, d, tk, os⟩ :=
      fun q => B.iter prog w _ _ ⟨hp, g, d, tk, os⟩ _ h1 q
    wp_walk using q1
    refine wpAny_stack_any fun st => wpAny_pure ?_
    split
    · rename_i c _ _ _ _ _
      cases (c == Value.type "enumerate")
      · wp_walk using q1
        exact ⟨_, rfl, h⟩
      · wp_walk using q1
        exact ⟨_, rfl, h⟩
    · wp_walk using q1
      exact ⟨_, rfl, h⟩
section
variable {prog : Program} {w : World} {A : Around} {E : Value -> Shared -> Prop} {s : Shared}
theorem call_enum1 {v : Value} {o : Obj} {H : Heap -> Prop} {Q : Value -> Shared -> Prop} (B : Begins v o H) (h1 : H s.heap)
    (h : ∀ h', IsEnum h' (s.heap.objs.size + 1) s.heap.objs.size 0 .none -> h'.get? s.heap.objs.size = some o -> (∀ b o, s.heap.get? b = some o -> h'.get? b = some o) -> Q (.ref (s.heap.objs.size + 1)) { s with heap := h' }) :
    wpAny (model prog w) A (call (.type "enumerate") [v]) Q E s := by
  refine callType_new F.called_enumerate (by decide) (F.typeCall_enumerate_1 _) (F.newCall_enumerate_1 _) (fun obj => F.args_object_init_2 obj _) F.entry_enumerate_new (meets_enum1 B) ⟨h1, ?_⟩
  have hz : (s.heap.push o).objs.size = s.heap.objs.size + 1 := Heap.size_push ..
  show _ /\ _
  rw [hz]
  have at1 := Heap.get?_push_size (s.heap.push o) (o := { cls := .type "enumerate", data := .fields #[.none, .bool false, .ref s.heap.objs.size, rawInt 0, .none, .none] }) rfl
  rw [hz] at at1
  exact ⟨⟨_, at1, rfl⟩, h _ at1 (Heap.get?_push_of_some _ (Heap.get?_push_size _ B.free)) fun b o x => Heap.get?_push_of_some _ (Heap.get?_push_of_some _ x)⟩
end
def IteT (K : PySem.W.Frag) (a : Addr) : It :=
  ⟨fun i H => ∃ (xs : List V) (x : V), SqT K H a xs /\ xs[i]? = some x, fun i H v H' => ∃ T x, v = .ref T /\ H T = none /\ H' = upd H T (.tup [.int (i : Nat), x]) /\ ∀ xs, SqT K H a xs -> xs[i]? = some x, fun i H => ∃ xs : List V, SqT K H a xs /\ xs.length <= i⟩
theorem turn_enumT {P : Program} {w : World} {K : PySem.W.Frag} {elts : List Expr} {kk : Nat} {tpos : Pos} (a e it : Addr) :
    Turn P w K (.Tuple elts kk tpos) (IteT K a) [e, it] e (fun i h => (∃ old, IsEnum h e it ((i : Nat) : Int) old) /\ h.IsTupleIter it a i /\ e ≠ it) where
  mem := by simp
  obj := fun i h ⟨⟨old, he⟩, ⟨o, ho, hc, hd⟩, _⟩ b hb => by
    rcases List.mem_cons.mp hb with rfl | hb
    · exact ⟨_, he, fun v q => nomatch q⟩
    · rw [List.mem_singleton.mp hb]
      exact ⟨o, ho, fun v q => by rw [hd] at q; cases q⟩
  keep := fun i h h' ⟨⟨old, he⟩, hi, hne⟩ k => ⟨⟨old, k e (by simp) _ he⟩, hi.at fun o q => k it (by simp) o q, hne⟩
  item := by
    intro X hP hw hK hc i pins s σ H E I hf ⟨⟨old, he⟩, hit, hne⟩ ⟨xs, x, hq, hx⟩
    subst hP hw hK
    obtain ⟨its, rv, p, hz⟩ := I.tuple hq
    obtain ⟨u, hu, ru⟩ := rv.get hx
    have hel : e < s.heap.objs.size := Heap.lt_size he
    have hil : it < s.heap.objs.size := by obtain ⟨_, q, _⟩ := hit; exact Heap.lt_size q
    have nai : a ≠ it := fun z => by
      obtain ⟨o1, e1, c1, _⟩ := p
      obtain ⟨o2, e2, c2, _⟩ := hit
      rw [z, e2] at e1
      cases e1
      rw [c2] at c1
      exact absurd c1 (by simp)
    have nae : e ∉ [it, a] := fun hm => by
      rcases List.mem_cons.mp hm with z | hm
      · exact hne z
      · have z := List.mem_singleton.mp hm
        obtain ⟨o1, e1, c1, _⟩ := p
        rw [<- z, he] at e1
        cases e1
        exact absurd c1 (by simp)
    have hlt : i < its.toArray.size := by simpa using (List.getElem?_eq_some_iff.mp hu).1
    have hh : X.A.in1.handled = none := I.ok.hd hc
    refine wpAny_pyNext_enum_itemD (Draws.tuple hh it a nai its.toArray) he ⟨hit, p⟩ hlt hne nae fun y h' tk hy ho hst hT hsz hk => ?_
    have hyu : y = u := by
      have : its.toArray[i]? = some u := by simpa using hu
      rw [this] at hy
      exact (Option.some.inj hy).symm
    subst hyu
    refine ⟨_, rfl, wpAny_letOwnedTupleGo_enum (s := { s with heap := h', toks := tk + 1 }) ho fun h'' he' sb => ?_⟩
    have hT2 : h''.get? s.heap.objs.size = some { cls := .type "tuple", data := .seq #[.int i tk, y] } := (sb.2 _ (Nat.ne_of_gt hel)).trans hT
    have new : ObjOk X.prog X.w (upd H s.heap.objs.size (.tup [.int (i : Nat), x])) h'' s.heap.objs.size (.tup [.int (i : Nat), x]) :=
      ⟨by show 2 <= sizeLine; decide, [.int i tk, y], .cons ⟨_, rfl⟩ (.cons ru .nil), ⟨_, hT2, rfl, _, rfl⟩⟩
    have I1 : Inv X pins σ (upd H s.heap.objs.size (.tup [.int (i : Nat), x])) { s with heap := h'', toks := tk + 1 } :=
      I.turnedNew (ch := [e, it]) (fun b ob hb q => (sb.2 b (fun z => hb (by simp [z]))).trans (hk b ob (fun z => hb (by simp [z])) (fun z => hb (by simp [z])) q)) hf (Nat.le_refl _) new
    refine ⟨.ref s.heap.objs.size, _, I1, rfl, ⟨_, x, rfl, I.hok.fresh (Nat.le_refl _), rfl, fun ys hy => by rw [I.tuple_inj hy hq]; exact hx⟩, ⟨⟨y, ?_⟩, hst.1.at fun o q => (sb.2 it (Ne.symm hne)).trans q, hne⟩, fun b hb => ?_⟩
    · rw [show ((i + 1 : Nat) : Int) = (i : Int) + 1 by omega]
      exact he'
    · have hlt2 : b < s.heap.objs.size := by
        rcases List.mem_cons.mp hb with rfl | hb
        · exact hel
        · rw [List.mem_singleton.mp hb]; exact hil
      rw [upd_ne (Nat.ne_of_lt hlt2)]
      exact (hf b hb).1
  done := by
    intro X hP hw hK hc i pins s σ H E I hf ⟨⟨old, he⟩, hit, hne⟩ ⟨xs, hq, hx⟩
    subst hP hw hK
    obtain ⟨its, rv, p, hz⟩ := I.tuple hq
    have hl : xs.length = its.length := Paired.length rv
    have hh : X.A.in1.handled = none := I.ok.hd hc
    have D0 : Draws X.prog X.w X.A.in1 it [it, a] i (fun _ _ => True) (fun j h => j = i /\ h.IsTupleIter it a j /\ h.IsTuple a its.toArray) := {
      live := fun _ _ ⟨_, st, _⟩ => let ⟨o, ho, _⟩ := st; ⟨o, ho⟩
      frame := fun _ _ _ ⟨e, s1, s2⟩ hk => ⟨e, s1.at fun o e => hk it (by simp) o e, s2.at fun o e => hk a (by simp) o e⟩
      item := fun j s Q E hj ⟨e, _⟩ _ => absurd e (by omega)
      done := fun s Q E ⟨_, s1, s2⟩ hE => wpAny_nextOf_tuple_end hh s1 s2 (by simp; omega) hE }
    obtain ⟨f0, f1, f2, f3, f4, f5⟩ := hf it (by simp)
    exact wpAny_pyNext_enum_endD D0 he ⟨rfl, hit, p⟩ fun h' eb => ⟨rfl, I.turned (t' := s.toks) (fun b o hb q => eb b o hb q) f0 f1 f3 f4 f5⟩
  self := fun A i s Q E ⟨⟨_, he⟩, _⟩ h => wpAny_pyIter_enum he h
def iEnumT (K : PySem.W.Frag) (ta : TA) : TI := fun σ H R => ta σ H fun vs H1 => (∃ a xs, vs = [.ref a] /\ SqL K H1 a xs /\ R (Ite K a) H1) \/ ∃ a xs, vs = [.ref a] /\ SqT K H1 a xs /\ R (IteT K a) H1
theorem pi_enumT {X : Cx} {e : Expr} {ta : TA} {p pos tpos : Pos} {elts : List Expr} {kk : Nat} (hg : Gl X "enumerate") (hm : X.mg "enumerate" = none) (ha : PA X [e] ta) (hs : starEach [e] X.env = [(false, eval e X.env)] := by rfl) :
    PI X (.Tuple elts kk tpos) (.Call (.Name "enumerate" p) [e] [] pos) (iEnumT X.K ta) := by
  refine ⟨fun pins s σ H R I h => PyProof.Rows.Call_ (ld_blt I hg hm PyProof.Rows.boot_enumerate (PyProof.Rows.callWith_type1 (thn (ha.run pos pins s σ H _ I h) fun us s1 ⟨vs, H1, I1, r1, q1⟩ => ?_) hs rfl))⟩
  have fps : ∀ b ∈ [s1.heap.objs.size + 1, s1.heap.objs.size], FpOk X pins H1 b := fun b hb => by
    have hle : s1.heap.objs.size <= b := by
      rcases List.mem_cons.mp hb with z | hb
      · rw [z]; exact Nat.le_add_right _ _
      · rw [List.mem_singleton.mp hb]; exact Nat.le_refl _
    exact I1.fpOk hle (I1.hok.fresh hle)
  rcases q1 with ⟨a, xs, rfl, hq, q⟩ | ⟨a, xs, rfl, hq, q⟩
  · obtain ⟨u, rfl, ru⟩ := vals1 r1
    obtain rfl : u = Value.ref a := ru
    obtain ⟨its, rv, pl, hz⟩ := I1.list hq
    exact call_enumerate_list pl.isList fun h' e1 e2 hsz hk => wpAny_pyIter_enum e1 ⟨s1.heap.objs.size + 1, [s1.heap.objs.size + 1, s1.heap.objs.size], _, _, H1, rfl, I1.kept (t' := s1.toks) hk, turn_enum a _ _, ⟨⟨.none, e1⟩, e2, Nat.succ_ne_self _⟩, fps, q⟩
  · obtain ⟨u, rfl, ru⟩ := vals1 r1
    obtain rfl : u = Value.ref a := ru
    obtain ⟨its, rv, pl, hz⟩ := I1.tuple hq
    exact call_enum1 (begins_tuple a its.toArray) pl fun h' e1 e2 hk => wpAny_pyIter_enum e1 ⟨s1.heap.objs.size + 1, [s1.heap.objs.size + 1, s1.heap.objs.size], _, _, H1, rfl, I1.kept (t' := s1.toks) hk, turn_enumT a _ _, ⟨⟨.none, e1⟩, ⟨_, e2, rfl, rfl⟩, Nat.succ_ne_self _⟩, fps, q⟩
@[simp] def enD : D -> Option (List D)
  | .lst xs => some xs
  | .tup xs => some xs
  | _ => none
@[simp] def iEnT (τ : DTE) : DTI := fun ρ M R X => τ ρ M (fun d M1 => ∃ xs, enD d = some xs /\ R (xs.zipIdx.map fun p => D.tup [.int (p.2 : Nat), p.1]) M1) X
section
variable {cl : ClW} {X : Cx} {W : WX} {a : Expr} {pos : Pos} {τa : DTE}
theorem di_enumT {elts : List Expr} {kk : Nat} {tpos p : Pos} (hg : Gl X "enumerate") (hm : X.mg "enumerate" = none) (ha : DE cl X W a τa) (hs : starEach [a] X.env = [(false, eval a X.env)] := by rfl) :
    DI cl X W (.Tuple elts kk tpos) (.Call (.Name "enumerate" p) [a] [] pos) (iEnT τa) :=
  ⟨pi_imp (pi_enumT hg hm (da_cons (W := W) (cl := cl) ha da_nil hs).pa hs) fun σ H R ⟨F, ρ, M, Rd, Xd, g, s, q, p, w⟩ =>
    ⟨F, ρ, M, fun ds M1 => ∃ d xs, ds = [d] /\ enD d = some xs /\ Rd (xs.zipIdx.map fun p => D.tup [.int (p.2 : Nat), p.1]) M1, Xd, g, s, (by
      unfold iEnT at q
      unfold dCons dNil
      have same : (fun d M1 => ∃ xs, enD d = some xs /\ Rd (xs.zipIdx.map fun p => D.tup [.int (p.2 : Nat), p.1]) M1) = (fun d M1 => ∃ d' xs, [d] = [d'] /\ enD d' = some xs /\ Rd (xs.zipIdx.map fun p => D.tup [.int (p.2 : Nat), p.1]) M1) := by
        funext d M1
        simp
      rw [same] at q
      exact q), fun vs H' F' ds M' sm g' r ⟨d, xs, e1, e2, q'⟩ => (by
      subst e1
      obtain ⟨v, ws, rfl, r1, r2⟩ := r.inv
      obtain rfl := r2.inv0
      have item : ∀ (us : List V), Reps X.K cl F' us xs -> ∀ (i : Nat) (F2 H2 : Hp) (M2 : Mem), Same F' F2 -> Good X.K cl F2 H2 M2 -> ∀ d0, (xs.zipIdx.map fun p => D.tup [.int (p.2 : Nat), p.1])[i]? = some d0 ->
          ∃ v0, us[i]? = some v0 /\ ∀ (T : Addr) (x0 : V) (H3 : Hp), H2 T = none -> H3 = upd H2 T (.tup [.int (i : Nat), x0]) -> x0 = v0 -> ∃ F3, Same F2 F3 /\ Good X.K cl F3 H3 M2 /\ Rep X.K cl F3 (.ref T) d0 := fun us hu i F2 H2 M2 sm2 g2 d0 hd => by
        rw [List.getElem?_map, List.getElem?_zipIdx] at hd
        cases e3 : xs[i]? with
        | none => rw [e3] at hd; cases hd
        | some d1 =>
          rw [e3] at hd
          cases hd
          obtain ⟨v0, h3, h4⟩ := hu.get e3
          refine ⟨v0, h3, fun T x0 H3 hT eH ex => ?_⟩
          subst eH ex
          have sm3 : Same F2 (upd F2 T (.tup [.int (i : Nat), x0])) := same_new (g2.freshF hT)
          refine ⟨_, sm3, g2.new hT, .tup (SqT1.of upd_same) (.cons ?_ (.one (h4.mono (sm2.trans sm3))))⟩
          simpa using Rep.int (i : Int)
      cases d with
      | lst ys =>
        have ey : ys = xs := by simpa using e2
        subst ey
        obtain ⟨a, us, rfl, h1, h2⟩ := r1.toLst
        refine .inl ⟨a, us, rfl, same_l g'.sub h1, p _ _ F' _ M' sm g' (fun i F2 H2 M2 sm2 g2 => ⟨fun d0 hd => ?_, fun hl => ⟨us, same_l (sm2.trans g2.sub) h1, by rw [h2.length]; simpa using hl⟩⟩) q'⟩
        obtain ⟨v0, h3, h4⟩ := item us h2 i F2 H2 M2 sm2 g2 d0 hd
        refine ⟨⟨us, v0, same_l (sm2.trans g2.sub) h1, h3⟩, fun x H3 ⟨T, x0, ex, hT, eH, hy⟩ => ?_⟩
        subst ex
        have h5 := hy us (same_l (sm2.trans g2.sub) h1)
        rw [h3] at h5
        exact h4 T x0 H3 hT eH (Option.some.inj h5).symm
      | tup ys =>
        have ey : ys = xs := by simpa using e2
        subst ey
        obtain ⟨a, us, rfl, h1, h2⟩ := r1.toTup
        refine .inr ⟨a, us, rfl, same_t g'.sub h1, p _ _ F' _ M' sm g' (fun i F2 H2 M2 sm2 g2 => ⟨fun d0 hd => ?_, fun hl => ⟨us, same_t (sm2.trans g2.sub) h1, by rw [h2.length]; simpa using hl⟩⟩) q'⟩
        obtain ⟨v0, h3, h4⟩ := item us h2 i F2 H2 M2 sm2 g2 d0 hd
        refine ⟨⟨us, v0, same_t (sm2.trans g2.sub) h1, h3⟩, fun x H3 ⟨T, x0, ex, hT, eH, hy⟩ => ?_⟩
        subst ex
        have h5 := hy us (same_t (sm2.trans g2.sub) h1)
        rw [h3] at h5
        exact h4 T x0 H3 hT eH (Option.some.inj h5).symm
      | _ => cases e2), w⟩⟩
end
end DL
set_option Elab.async false
set_option linter.all false
set_option maxRecDepth 100000
set_option maxHeartbeats 4000000
set_option autoImplicit false
namespace DL
open PySem L2
section
variable {P : Program} {w : World} {A : Around} {E : Value -> Shared -> Prop} {s : Shared} {K : PySem.W.Frag} {x C : Addr} {ox od : Obj}
end
section
variable {cl : ClW} {X : Cx} {a : Addr} {oe : Obj} {cls : Value} {d : Option Addr} {pn : List (Addr × Obj)} {x : D} {tb : List ((Nat × Nat) × Bool)}
end
end DL
set_option Elab.async false
set_option linter.all false
set_option maxRecDepth 100000
set_option maxHeartbeats 4000000
set_option autoImplicit false
namespace DL
open PySem L2
@[simp] def kLen : D -> Option D
  | .int i => if 0 <= i /\ i < 2 ^ 62 then some (.int i) else none
  | _ => none
section
variable {cl : ClW} {X : Cx} {W : WX} {k : Nat} {tb : List (Nat × SpD)} {e : Expr} {τ : DTE} {p pos : Pos}
end
end DL
set_option Elab.async false
set_option linter.all false
set_option maxRecDepth 100000
set_option maxHeartbeats 1000000
set_option autoImplicit false
namespace FL
open PySem L2 DL
def Rn (M : Mem) (r : Addr) : Prop := ∃ a b c : Int, M r = some (.lst [.int a, .int b, .int c]) /\ 0 <= a /\ 0 <= b /\ b < 2147483629 /\ 0 <= c
structure RTo (M M' : Mem) (r : Addr) : Prop where
  ok : Rn M' r
  keep : ∀ b d, b ≠ r -> M b = some d -> M' b = some d
theorem cells_int (ns : List Int) (k : Nat) : ∀ x : D, x ∈ cutD (ns.map D.int ++ [D.int 0]) none (some (k : Int)) -> ∃ i : Int, x = D.int i := by
  intro x hx
  rw [cutD_to] at hx
  have := List.mem_of_mem_take hx
  simp at this
  rcases this with ⟨a, _, rfl⟩ | rfl
  · exact ⟨a, rfl⟩
  · exact ⟨0, rfl⟩
theorem cells_add (ns : List Int) (h : ns.length <= 63) : addD (.lst (ns.map D.int)) (.lst [.int 0]) = some (.lst (ns.map D.int ++ [.int 0])) := addD_lst (by simp; omega)
end FL
set_option Elab.async false
set_option linter.all false
set_option maxRecDepth 100000
set_option maxHeartbeats 1000000
set_option autoImplicit false
namespace FL
open PySem L2 DL
def clash (rs os : List Row) : Option (List Nat) := ((os.map Row.nm).filter fun x => decide (x ∈ rs.map Row.nm)).head?
def sumD (rs os : List Row) : D := match clash rs os with
  | some x => .tup [.str "twice", strD x]
  | none => if 60 < rs.length + os.length then .tup [.str "forest", .tup [.int (-1), .str "rows"]] else .tup [.str "rows", .tup ((rs ++ os).map Row.d)]
theorem sumD_tup (rs os : List Row) : ∃ xs, sumD rs os = .tup xs := by
  unfold sumD
  split
  · exact ⟨_, rfl⟩
  · split
    · exact ⟨_, rfl⟩
    · exact ⟨_, rfl⟩
@[simp] theorem vw_sumD {M : Mem} {rs os : List Row} : vw M (sumD rs os) = sumD rs os := by
  obtain ⟨xs, e⟩ := sumD_tup rs os
  rw [e]; rfl
def unS : D -> List Nat
  | .str z => z.cps.toList
  | _ => []
@[simp] theorem unS_strD (x : List Nat) : unS (strD x) = x := by simp [unS, strD, S]
theorem ixN_nat {n p : Nat} (h : p < n) : ixN n (p : Int) = some p := by
  unfold ixN
  rw [if_pos (by omega), if_pos (by omega)]
  simp
end FL
set_option Elab.async false
set_option linter.all false
set_option maxRecDepth 100000
set_option maxHeartbeats 4000000
set_option autoImplicit false
namespace DL
open PySem L2
section
variable {K : PySem.W.Frag} {cl : ClW} {F H : Hp} {X : Cx}
end
@[simp] def dListRg (τ : DTE) : DTE := fun ρ M Q X => τ ρ M (fun d M1 => ∃ n : Int, d = .int n /\ 0 <= n /\ n <= 16777216 /\ Q (.lst ((List.range n.toNat).map fun (i : Nat) => D.int (i : Int))) M1) X
section
variable {cl : ClW} {X : Cx} {W : WX} {a : Expr} {τ : DTE} {p1 p2 p3 p4 : Pos}
end
end DL
set_option Elab.async false
set_option linter.all false
set_option maxRecDepth 100000
set_option maxHeartbeats 4000000
set_option autoImplicit false
namespace FL
open PySem L2 DL
def kids (ls : List Int) (p : Nat) : Nat := ((ls.drop (p + 1)).takeWhile fun l => decide (ls.getD p 0 < l)).length
theorem anc_count {ls : List Int} (L : LevOk ls) : ∀ (i : Nat) (lev : Int), i <= ls.length -> (i = 0 -> lev <= 0) -> (∀ j, i = j + 1 -> lev <= ls.getD j 0 + 1) -> 0 <= lev -> ((anc ls i lev).length : Int) = lev
  | 0, lev, _, h0, _, h => by have := h0 rfl; simp [anc]; omega
  | i + 1, lev, hi, _, h1, h => by
    have hl := h1 i rfl
    have hi2 : i < ls.length := by omega
    obtain ⟨a, b, c⟩ := L i _ (List.getElem?_eq_getElem hi2)
    have eg : ls.getD i 0 = ls[i] := by simp [List.getD, hi2]
    have hz : i = 0 -> ls.getD i 0 <= 0 := fun z => by rw [eg]; have := b z; omega
    have hs : ∀ j, i = j + 1 -> ls.getD i 0 <= ls.getD j 0 + 1 := fun j z => by
      subst z
      obtain ⟨m, e1, e2⟩ := c j rfl
      rw [eg]
      simp only [List.getD, e1, Option.getD_some]
      omega
    unfold anc
    split
    · rename_i hlt
      have := anc_count L i (ls.getD i 0) (by omega) hz hs (by rw [eg]; exact a)
      simp only [List.length_cons]
      omega
    · rename_i hlt
      exact anc_count L i lev (by omega) (fun z => by have := hz z; omega) (fun j z => by have := hs j z; omega) h
theorem ancs_count {ls : List Int} (L : LevOk ls) {p : Nat} (hp : p < ls.length) : ((ancs ls p).length : Int) = ls.getD p 0 := by
  obtain ⟨a, b, c⟩ := L p _ (List.getElem?_eq_getElem hp)
  have eg : ls.getD p 0 = ls[p] := by simp [List.getD, hp]
  refine anc_count L p _ (by omega) (fun z => ?_) (fun j z => ?_) (by rw [eg]; exact a)
  · rw [eg]; have := b z; omega
  · subst z
    obtain ⟨m, e1, e2⟩ := c j rfl
    rw [eg]
    simp only [List.getD, e1, Option.getD_some]
    omega
section
variable {α : Type} {γ : DTG} {υ : DTT} {τ : DTE} {vs : List Nat} {a : Addr} {Q : DV} {R : Mem -> Prop} {ρ : DL.Env} {M : Mem}
theorem Keep.updN {M M1 : Mem} {a : Addr} {d : D} (h : Keep M M1) (e : M a = none) : Keep M (updM M1 a d) := fun b c hb => by
  have z : b ≠ a := fun z => by rw [z, e] at hb; cases hb
  rw [updM_ne z]; exact h b c hb
theorem Keep.delN {M M1 : Mem} {a : Addr} (h : Keep M M1) (e : M a = none) : Keep M (delM M1 a) := fun b c hb => by
  have z : b ≠ a := fun z => by rw [z, e] at hb; cases hb
  rw [delM_ne z]; exact h b c hb
theorem lcD_ix (g : α -> D) (f : α -> Option D) (l : List α) (hl : l.length <= 16777216) (hM : M a = none)
    (step : ∀ i ∈ l, ∀ (M1 : Mem) (T : Option D -> Mem -> Prop), Keep M M1 -> (∀ M2, Keep M1 M2 -> T (f i) M2) -> γ (g i) (wipeD ρ vs) M1 (fun ρ2 M2 => υ ρ2 M2 (fun b M3 => if b = true then τ ρ2 M3 (fun d M4 => T (some d) M4) noX else T none M3) noX) noX)
    (q : ∀ M', Keep M M' -> Q (.lst (l.filterMap f)) M') : lcD γ υ τ vs a (l.map g) ρ (updM M a (.lst [])) Q := by
  have go : ∀ (r done : List α) (M1 : Mem), l = done ++ r -> M1 a = some (.lst (done.filterMap f)) -> Keep M M1 -> lcD γ υ τ vs a (r.map g) ρ M1 Q := by
    intro r
    induction r with
    | nil =>
      intro done M1 e ha k
      rw [List.append_nil] at e
      subst e
      exact ⟨_, ha, q _ (k.delN hM)⟩
    | cons i r ih =>
      intro done M1 e ha k
      have hi : i ∈ l := by rw [e]; simp
      have e2 : l = (done ++ [i]) ++ r := by rw [e]; simp
      refine step i hi M1 (fun o M4 => match o with
        | some d => ∃ acc, M4 a = some (.lst acc) /\ acc.length < sizeLine /\ lcD γ υ τ vs a (r.map g) ρ (updM M4 a (.lst (acc ++ [d]))) Q
        | none => lcD γ υ τ vs a (r.map g) ρ M4 Q) k fun M2 k2 => ?_
      have kk : Keep M M2 := fun b c hb => k2 b c (k b c hb)
      cases hf : f i with
      | some d =>
        have hlen : (done.filterMap f).length < sizeLine := by
          have h1 := List.length_filterMap_le f done
          have h2 := congrArg List.length e
          rw [List.length_append, List.length_cons] at h2
          rw [sizeLine_eq]; omega
        refine ⟨_, k2 _ _ ha, hlen, ih (done ++ [i]) _ e2 ?_ (kk.updN hM)⟩
        rw [updM_same, List.filterMap_append]
        simp [hf]
      | none =>
        refine ih (done ++ [i]) _ e2 ?_ kk
        rw [List.filterMap_append]
        simp [hf]
        exact k2 _ _ ha
  exact go l [] _ rfl updM_same (fun b c hb => by
    have z : b ≠ a := fun z => by rw [z, hM] at hb; cases hb
    rw [updM_ne z]; exact hb)
end
end FL
set_option Elab.async false
set_option linter.all false
set_option maxRecDepth 100000
set_option maxHeartbeats 4000000
set_option autoImplicit false
namespace DL
open PySem L2
mutual
inductive Dv (M : Mem) : D -> D -> Prop
  | same (d : D) : Dv M d d
  | ref {a : Addr} {ds es : List D} : M a = some (.lst ds) -> Dvs M ds es -> Dv M (.ref a) (.lst es)
  | lst {ds es : List D} : Dvs M ds es -> Dv M (.lst ds) (.lst es)
  | tup {ds es : List D} : Dvs M ds es -> Dv M (.tup ds) (.tup es)
inductive Dvs (M : Mem) : List D -> List D -> Prop
  | nil : Dvs M [] []
  | cons {d e : D} {ds es : List D} : Dv M d e -> Dvs M ds es -> Dvs M (d :: ds) (e :: es)
end
section
variable {K : PySem.W.Frag} {cl : ClW} {F H : Hp} {M : Mem} {X : Cx} {W : WX}
@[simp] def bDeepEq : DB2 := fun d e _ M Q _ => ∃ d' e' b, Dv M d d' /\ Dv M e e' /\ eqP d' e' = some b /\ Q (.bl b) M
@[simp] def bDeepNe : DB2 := fun d e _ M Q _ => ∃ d' e' b, Dv M d d' /\ Dv M e e' /\ eqP d' e' = some b /\ Q (.bl !b) M
@[simp] def dRevM (τ : DTE) : DTE := fun ρ M Q X => τ ρ M (fun d M1 => ∃ xs, vw M1 d = .lst xs /\ ∀ a, M1 a = none -> Q (.ref a) (updM M1 a (.lst xs.reverse))) X
variable {e : Expr} {τ : DTE} {pos : Pos}
def truD : D -> Option Bool
  | .bl b => some b
  | .int i => some (i != 0)
  | .non => some false
  | .lst xs => some (!xs.isEmpty)
  | .tup xs => some (!xs.isEmpty)
  | _ => none
@[simp] def dOrT (τa τb : DTE) : DTE := fun ρ M Q X => τa ρ M (fun d M1 => ∃ k, truD (vw M1 d) = some k /\ if k = true then Q d M1 else τb ρ M1 Q X) X
variable {a b : Expr} {τa τb : DTE} {rest : List Expr}
end
end DL
set_option Elab.async false
set_option linter.all false
set_option maxRecDepth 100000
set_option maxHeartbeats 4000000
set_option autoImplicit false
namespace FL
open PySem L2 DL
theorem anc_iff (ls : List Int) (p : Nat) : ∀ (i : Nat) (lev : Int), p ∈ anc ls i lev ↔ p < i /\ ls.getD p 0 < lev /\ ∀ k, p < k -> k < i -> ls.getD p 0 < ls.getD k 0
  | 0, lev => by simp [anc]
  | i + 1, lev => by
    unfold anc
    split
    · rename_i hlt
      rw [List.mem_cons, anc_iff ls p i]
      constructor
      · rintro (rfl | ⟨h1, h2, h3⟩)
        · exact ⟨by omega, hlt, fun k h1 h2 => by omega⟩
        · refine ⟨by omega, by omega, fun k h4 h5 => ?_⟩
          by_cases e : k = i
          · subst e; exact h2
          · exact h3 k h4 (by omega)
      · rintro ⟨h1, h2, h3⟩
        by_cases e : p = i
        · exact .inl e
        · exact .inr ⟨by omega, h3 i (by omega) (by omega), fun k h4 h5 => h3 k h4 (by omega)⟩
    · rename_i hlt
      rw [anc_iff ls p i]
      constructor
      · rintro ⟨h1, h2, h3⟩
        refine ⟨by omega, h2, fun k h4 h5 => ?_⟩
        by_cases e : k = i
        · subst e; omega
        · exact h3 k h4 (by omega)
      · rintro ⟨h1, h2, h3⟩
        have : p ≠ i := fun e => by subst e; exact hlt h2
        exact ⟨by omega, h2, fun k h4 h5 => h3 k h4 (by omega)⟩
def sibs (ls : List Int) (o : Option Nat) : List Nat := (List.range ls.length).filter fun j => decide ((ancs ls j).head? = o)
theorem idx_at {p : Nat} : ∀ {l : List Nat}, p ∈ l -> l[l.idxOf p]? = some p /\ ∀ m j, m < l.idxOf p -> l[m]? = some j -> j ≠ p
  | [], h => by simp at h
  | x :: l, h => by
    rw [List.idxOf_cons]
    by_cases e : x = p
    · subst e
      simp
    · have e2 : (x == p) = false := beq_false_of_ne e
      rw [e2]
      simp only [cond_false]
      have hl : p ∈ l := by
        rcases List.mem_cons.mp h with rfl | h
        · exact absurd rfl e
        · exact h
      obtain ⟨h1, h2⟩ := idx_at hl
      refine ⟨by rw [List.getElem?_cons_succ]; exact h1, fun m j hm hj => ?_⟩
      cases m with
      | zero => simp at hj; subst hj; exact e
      | succ m => exact h2 m j (by omega) (by simpa using hj)
theorem ancs_bound {ls : List Int} {i j n : Nat} (h : j ∈ ancs ls i) (hi : i <= n) : j < n := anc_bound (ls := ls) (i := i) (lev := ls.getD i 0) h hi
theorem in_ints (p : Nat) (l : List Nat) : inD (.int (p : Int)) (.lst (l.map intD)) = some (.bl (decide (p ∈ l))) := by
  have f2 : (l.map intD).all flatD = true := by simp [intD]
  rw [inD_def, inB_lst, show flatD (.int (p : Int)) = true from rfl, f2]
  simp only [Bool.and_self, if_true, Option.map_some]
  congr 2
  rw [Bool.eq_iff_iff]
  simp [intD]
  constructor
  · rintro ⟨x, h1, h2⟩
    have : x = p := by omega
    subst this; exact h1
  · exact fun h => ⟨p, h, rfl⟩
end FL
set_option Elab.async false
set_option linter.all false
set_option maxRecDepth 100000
set_option maxHeartbeats 4000000
namespace DL
open PySem L2
abbrev DTIg := DL.Env -> Mem -> ((Mem -> Prop) -> List D -> Mem -> Prop) -> DX -> Prop
def WalksG (K : PySem.W.Frag) (cl : ClW) (J : It) (F : Hp) (C : Mem -> Prop) (xs : List D) : Prop := ∀ i F' H' M', Same F F' -> Good K cl F' H' M' -> C M' ->
  (∀ d, xs[i]? = some d -> J.go i H' /\ ∀ x H3, J.yld i H' x H3 -> ∃ F3, Same F' F3 /\ Good K cl F3 H3 M' /\ Rep K cl F3 x d) /\ (xs.length <= i -> J.stop i H')
structure DIg (cl : ClW) (X : Cx) (W : WX) (tg iter : Expr) (ι : DTIg) : Prop where
  pi : PI X tg iter (fun σ H R => ∃ F ρ M Rd Xd, Good X.K cl F H M /\ Slots X.K cl F σ ρ /\ ι ρ M Rd Xd /\ (∀ J H' F' C xs M', Same F F' -> Good X.K cl F' H' M' -> WalksG X.K cl J F' C xs -> Rd C xs M' -> R J H') /\ WOk X.K cl W F Xd)
def forG (C : Mem -> Prop) (γ : DTG) (t : DTS) : List D -> DTS
  | [] => fun E ρ M => C M /\ E.nx ρ M
  | x :: xs => fun E ρ M => C M /\ γ x ρ M (fun ρ2 M2 => t { E with nx := forG C γ t xs E, ct := forG C γ t xs E, bk := E.nx } ρ2 M2) E.ex
def dForG (ι : DTIg) (γ : DTG) (t : DTS) : DTS := fun E ρ M => ι ρ M (fun C xs M1 => forG C γ t xs E ρ M1) E.ex
def lcG (C : Mem -> Prop) (γ : DTG) (υ : DTT) (τ : DTE) (vs : List Nat) (a : Addr) : List D -> DL.Env -> Mem -> (Mem -> Prop) -> Prop
  | [] => fun _ M R => C M /\ R M
  | x :: xs => fun ρ M R => C M /\ γ x (wipeD ρ vs) M (fun ρ2 M2 => υ ρ2 M2 (fun b M3 => if b = true then τ ρ2 M3 (fun d M4 => ∃ acc, M4 a = some (.lst acc) /\ acc.length < sizeLine /\ lcG C γ υ τ vs a xs ρ (updM M4 a (.lst (acc ++ [d]))) R) noX else lcG C γ υ τ vs a xs ρ M3 R) noX) noX
def endF (a : Addr) (Q : DV) : Mem -> Prop := fun M => ∃ ds, M a = some (.lst ds) /\ Q (.lst ds) (delM M a)
def dLcG (ι : DTIg) (γ : DTG) (υ : DTT) (τ : DTE) (vs : List Nat) : DTE := fun ρ M Q X => ι ρ M (fun C xs M1 => ∀ a, M1 a = none -> lcG C γ υ τ vs a xs ρ (updM M1 a (.lst [])) (endF a Q)) X
@[simp] def iSG (τ : DTE) : DTIg := fun ρ M R X => τ ρ M (fun d M1 => ∃ xs, itD (vw M1 d) = some xs /\ R (fun M => itD (vw M d) = some xs) xs M1) X
@[simp] def iEnG (τ : DTE) : DTIg := fun ρ M R X => τ ρ M (fun d M1 => ∃ xs, enD (vw M1 d) = some xs /\ R (fun M => enD (vw M d) = some xs) (xs.zipIdx.map fun p => D.tup [.int (p.2 : Nat), p.1]) M1) X
@[simp] def iG (ι : DTI) : DTIg := fun ρ M R X => ι ρ M (fun xs M1 => R (fun _ => True) xs M1) X
section
variable {K : PySem.W.Frag} {cl : ClW} {F H : Hp} {M : Mem}
theorem cellL (g : Good K cl F H M) {a : Addr} {xs : List D} (e : itD (vw M (.ref a)) = some xs \/ enD (vw M (.ref a)) = some xs) : M a = some (.lst xs) /\ ∃ vs, H a = some (.lst vs) /\ Reps K cl F vs xs := by
  have hv : vw M (.ref a) = (M a).getD (.ref a) := rfl
  cases hM : M a with
  | none => rw [hv, hM] at e; rcases e with e | e <;> cases e
  | some c =>
    rw [hv, hM] at e
    obtain ⟨_, h2⟩ := g.cell a c hM
    cases c with
    | lst ds =>
      have : ds = xs := by rcases e with e | e <;> exact Option.some.inj e
      subst this
      exact ⟨rfl, h2⟩
    | tup ds => exact h2.elim
    | str ds => exact h2.elim
    | byt ds => exact h2.elim
    | _ => rcases e with e | e <;> cases e
end
section
variable {cl : ClW} {X : Cx} {W : WX} {e : Expr} {τ : DTE}
theorem di_seqG {tg : Expr} (h : DE cl X W e τ) : DIg cl X W tg e (iSG τ) := ⟨pi_imp (pi_seqV h.pe) fun σ H R ⟨F, ρ, M, Rd, Xd, g, s, q, p, w⟩ =>
  ⟨F, ρ, M, _, Xd, g, s, q, fun v H' F' d M' sm g' r ⟨xs, e1, q'⟩ => (by
    cases d with
    | ref a =>
      obtain rfl := r.toRef
      obtain ⟨_, vs, h1, h2⟩ := cellL g' (.inl e1)
      refine .inl ⟨a, rfl, ⟨vs, SqL.of h1⟩, p _ _ F' _ xs M' sm g' (fun i F2 H2 M2 sm2 g2 hC => ?_) q'⟩
      obtain ⟨_, vs, h1, h2⟩ := cellL g2 (.inl hC)
      refine ⟨fun d hd => ?_, fun hl => ⟨vs, SqL.of h1, by rw [h2.length]; exact hl⟩⟩
      obtain ⟨v, hv, rv⟩ := h2.get hd
      refine ⟨⟨vs, v, SqL.of h1, hv⟩, fun x H3 ⟨e1, e2⟩ => ?_⟩
      subst e1
      have := e2 vs (SqL.of h1)
      rw [hv] at this
      cases this
      exact ⟨F2, Same.refl F2, g2, rv⟩
    | lst ds =>
      cases e1
      obtain ⟨a, vs, rfl, h1, h2⟩ := r.toLst
      refine .inl ⟨a, rfl, ⟨vs, same_l g'.sub h1⟩, p _ _ F' _ xs M' sm g' (fun i F2 H2 M2 sm2 g2 _ => ⟨fun d hd => ?_, fun hl => ⟨vs, same_l (sm2.trans g2.sub) h1, by rw [h2.length]; exact hl⟩⟩) q'⟩
      obtain ⟨v, hv, rv⟩ := h2.get hd
      refine ⟨⟨vs, v, same_l (sm2.trans g2.sub) h1, hv⟩, fun x H3 ⟨e1, e2⟩ => ?_⟩
      subst e1
      have := e2 vs (same_l (sm2.trans g2.sub) h1)
      rw [hv] at this
      cases this
      exact ⟨F2, Same.refl F2, g2, rv.mono sm2⟩
    | tup ds =>
      cases e1
      obtain ⟨a, vs, rfl, h1, h2⟩ := r.toTup
      refine .inr (.inl ⟨a, rfl, ⟨vs, same_t g'.sub h1⟩, p _ _ F' _ xs M' sm g' (fun i F2 H2 M2 sm2 g2 _ => ⟨fun d hd => ?_, fun hl => ⟨vs, same_t (sm2.trans g2.sub) h1, by rw [h2.length]; exact hl⟩⟩) q'⟩)
      obtain ⟨v, hv, rv⟩ := h2.get hd
      refine ⟨⟨vs, v, same_t (sm2.trans g2.sub) h1, hv⟩, fun x H3 ⟨e1, e2⟩ => ?_⟩
      subst e1
      have := e2 vs (same_t (sm2.trans g2.sub) h1)
      rw [hv] at this
      cases this
      exact ⟨F2, Same.refl F2, g2, rv.mono sm2⟩
    | str z =>
      cases e1
      obtain rfl := r.toStr
      refine .inr (.inr (.inl ⟨z, rfl, p _ _ F' _ _ M' sm g' (fun i F2 H2 M2 sm2 g2 _ => ⟨fun d hd => ?_, fun hl => ?_⟩) q'⟩))
      · rw [List.getElem?_map] at hd
        obtain ⟨c, hc, rfl⟩ := Option.map_eq_some_iff.mp hd
        have hc' : z.cps[i]? = some c := by simpa using hc
        refine ⟨(Array.getElem?_eq_some_iff.mp hc').1, fun x H3 ⟨e1, c2, e2, e3⟩ => ?_⟩
        subst e1 e3
        rw [hc'] at e2
        cases e2
        exact ⟨F2, Same.refl F2, g2, .str _⟩
      · show z.cps.size <= i
        simpa using hl
    | byt z =>
      cases e1
      obtain rfl := r.toByt
      refine .inr (.inr (.inr ⟨z, rfl, p _ _ F' _ _ M' sm g' (fun i F2 H2 M2 sm2 g2 _ => ⟨fun d hd => ?_, fun hl => ?_⟩) q'⟩))
      · rw [List.getElem?_map] at hd
        obtain ⟨c, hc, rfl⟩ := Option.map_eq_some_iff.mp hd
        have hc' : z[i]? = some c := by simpa using hc
        refine ⟨(Array.getElem?_eq_some_iff.mp hc').1, fun x H3 ⟨e1, c2, e2, e3⟩ => ?_⟩
        subst e1 e3
        rw [hc'] at e2
        cases e2
        exact ⟨F2, Same.refl F2, g2, .int _⟩
      · show z.size <= i
        simpa using hl
    | _ => cases e1), w⟩⟩
variable {elt tg iter kx vx : Expr} {ifs : List Expr} {scope : Scope} {own : List (Str × Nat)} {pos : Pos} {ι : DTIg} {is : List Nat} {γ : DTG} {υ : DTT} {τk τv : DTE} {sts : List Stmt} {t : DTS}
theorem ds_forG (hp : PassesOwn (model X.prog X.w) X.A X.env X.xe) (hc : X.calm = true) (hi : DIg cl X W tg iter ι) (hg : DG cl X W tg is γ) (hb : DSs cl X W sts t) (hs : ∀ x, foldedSetIterable iter X.env x = pure x := by intro _; rfl) :
    DS cl X W (.For tg iter sts [] pos) (dForG ι γ t) := ⟨ps_imp (ps_for hp hc hi.pi hg.pg hb.pss hs) fun D σ H ⟨F, ρ, M, E, g, s, q, ok⟩ => by
  refine ⟨F, ρ, M, _, E.ex, g, s, q, fun J H1 F1 C xs M1 sm1 g1 wk q1 => ?_, ok.ex⟩
  refine ⟨fun i m σ H => m = xs.length - i /\ i <= xs.length /\ ∃ F' ρ M, Same F1 F' /\ Good X.K cl F' H M /\ Slots X.K cl F' σ ρ /\ forG C γ t (xs.drop i) E ρ M, ⟨xs.length, by simp, Nat.zero_le _, F1, ρ, M1, Same.refl F1, g1, s.mono sm1, by simpa using q1⟩, ?_⟩
  rintro i m σ2 H2 ⟨rfl, hi, F2, ρ2, M2, sm2, g2, s2, q2⟩
  have ok2 := ok.mono (sm1.trans sm2)
  by_cases hlt : i < xs.length
  · rw [List.drop_eq_getElem_cons hlt] at q2
    unfold forG at q2
    obtain ⟨hC, q2⟩ := q2
    obtain ⟨go, yl⟩ := (wk i F2 H2 M2 sm2 g2 hC).1 xs[i] (by simp [hlt])
    refine .inr ⟨go, fun σ' H' => ∃ F' ρ' M', Same F1 F' /\ Good X.K cl F' H' M' /\ Slots X.K cl F' σ' ρ' /\ forG C γ t (xs.drop (i + 1)) E ρ' M', fun σ' H' n => ⟨xs.length - (i + 1), by omega, rfl, hlt, n⟩, fun x H3 y => ?_⟩
    obtain ⟨F3, sm3, g3, r3⟩ := yl x H3 y
    refine ⟨F3, ρ2, M2, xs[i], _, E.ex, g3, s2.mono sm3, r3, q2, fun σ4 H4 F4 ρ4 M4 sm4 g4 s4 _ q4 => ?_, ok2.ex.mono sm3⟩
    have ok4 := ok2.mono (sm3.trans sm4)
    exact ⟨F4, ρ4, M4, _, g4, s4, q4, ⟨fun σ' H' F' ρ' M' sm' g' s' q' => ⟨F', ρ', M', ((sm2.trans sm3).trans sm4).trans sm', g', s', q'⟩, ok4.rt, ok4.nx, fun σ' H' F' ρ' M' sm' g' s' q' => ⟨F', ρ', M', ((sm2.trans sm3).trans sm4).trans sm', g', s', q'⟩, ok4.ex⟩⟩
  · have e : i = xs.length := by omega
    subst e
    rw [List.drop_length] at q2
    exact .inl ⟨(wk _ F2 H2 M2 sm2 g2 q2.1).2 (Nat.le_refl _), ok2.nx _ _ F2 ρ2 M2 (Same.refl F2) g2 s2 q2.2⟩⟩
theorem lcG_lift {K : PySem.W.Frag} (his : ∀ i ∈ is, i ∈ own.map (·.2)) {σ : St} {H : Hp} {Q : VK} {F : Hp} {ρ : DL.Env} {M : Mem} {Xd : DX} (R : Addr -> Mem -> Prop) (g : Good K cl F H M) (s : Slots K cl F σ ρ)
    (q : ι ρ M (fun C xs M1 => ∀ a, M1 a = none -> lcG C γ υ τ (own.map (·.2)) a xs ρ (updM M1 a (.lst [])) (R a)) Xd) (p : ∀ a H' F' M', Same F F' -> Good K cl F' H' M' -> R a M' -> Q (.ref a) H') (w : WOk K cl W F Xd) :
    tLc (fun σ H R => ∃ F ρ M Rd Xd, Good K cl F H M /\ Slots K cl F σ ρ /\ ι ρ M Rd Xd /\ (∀ J H' F' C xs M', Same F F' -> Good K cl F' H' M' -> WalksG K cl J F' C xs -> Rd C xs M' -> R J H') /\ WOk K cl W F Xd)
      (fun v σ H Q => ∃ F ρ M d Qd Xd, Good K cl F H M /\ Slots K cl F σ ρ /\ Rep K cl F v d /\ γ d ρ M Qd Xd /\ (∀ σ' H' F' ρ' M', Same F F' -> Good K cl F' H' M' -> Slots K cl F' σ' ρ' -> (∀ vs : List Nat, (∀ i ∈ is, i ∈ vs) -> wipe σ' vs = wipe σ vs) -> Qd ρ' M' -> Q σ' H') /\ WOk K cl W0 F Xd)
      (lowT K cl W0 υ) (lowE K cl W0 τ) (own.map (·.2)) σ H Q := by
  refine ⟨F, ρ, M, _, Xd, g, s, q, fun J H1 F1 C xs M1 sm1 g1 wk q1 a hD => ?_, w⟩
  refine ⟨fun i m H => m = xs.length - i /\ i <= xs.length /\ ∃ F' M, Same F1 F' /\ Good K cl F' H M /\ lcG C γ υ τ (own.map (·.2)) a (xs.drop i) ρ M (R a),
    ⟨xs.length, by simp, Nat.zero_le _, F1, updM M1 a (.lst []), Same.refl F1, g1.newM (d := .lst []) hD ⟨[], upd_same, .nil⟩, by simpa using q1 a (g1.freshM hD)⟩, ?_⟩
  rintro i m H2 ⟨rfl, hi, F2, M2, sm2, g2, q2⟩
  by_cases hlt : i < xs.length
  · rw [List.drop_eq_getElem_cons hlt] at q2
    unfold lcG at q2
    obtain ⟨hC, q2⟩ := q2
    obtain ⟨go, yl⟩ := (wk i F2 H2 M2 sm2 g2 hC).1 xs[i] (by simp [hlt])
    refine .inr ⟨go, fun H' => ∃ F' M', Same F1 F' /\ Good K cl F' H' M' /\ lcG C γ υ τ (own.map (·.2)) a (xs.drop (i + 1)) ρ M' (R a), fun H' n => ⟨xs.length - (i + 1), by omega, rfl, hlt, n⟩, fun x H3 y => ?_⟩
    obtain ⟨F3, sm3, g3, r3⟩ := yl x H3 y
    refine ⟨F3, wipeD ρ (own.map (·.2)), M2, xs[i], _, noX, g3, (s.mono ((sm1.trans sm2).trans sm3)).wipe _, r3, q2, fun σ4 H4 F4 ρ4 M4 sm4 g4 s4 w4 q4 => ⟨?_, ?_⟩, wok0⟩
    · rw [w4 _ his]
      exact wipe_idem _ _ _ fun _ h => h
    · refine ⟨F4, ρ4, M4, _, noX, g4, s4, q4, fun k H5 F5 M5 sm5 g5 q5 => ?_, wok0⟩
      cases k with
      | true =>
        rw [if_pos rfl] at q5 ⊢
        refine ⟨F5, ρ4, M5, _, noX, g5, s4.mono sm5, q5, fun y2 H6 F6 d M6 sm6 g6 r6 q6 => ?_, wok0⟩
        obtain ⟨acc, e1, e2, q6⟩ := q6
        obtain ⟨hF, vs, h1, h2⟩ := g6.cell a _ e1
        refine ⟨vs, h1, by rw [h2.length]; exact e2, F6, _, (((sm2.trans sm3).trans sm4).trans sm5).trans sm6, g6.put (d := .lst (acc ++ [d])) e1 ⟨vs ++ [y2], upd_same, h2.append (.one r6)⟩, q6⟩
      | false =>
        rw [if_neg Bool.false_ne_true] at q5 ⊢
        exact ⟨F5, M5, ((sm2.trans sm3).trans sm4).trans sm5, g5, q5⟩
  · have e : i = xs.length := by omega
    subst e
    rw [List.drop_length] at q2
    unfold lcG at q2
    exact .inl ⟨(wk _ F2 H2 M2 sm2 g2 q2.1).2 (Nat.le_refl _), p _ _ _ _ (sm1.trans sm2) g2 q2.2⟩
theorem endF_ok {K : PySem.W.Frag} {F : Hp} {Q : VK} {Qd : DV} (p : Post K cl F Q Qd) : ∀ a H' F' M', Same F F' -> Good K cl F' H' M' -> endF a Qd M' -> Q (.ref a) H' := fun a H' F' M' sm g ⟨ds, e1, q⟩ => by
  obtain ⟨F3, sm3, g3, r3⟩ := g.freeze e1
  exact p _ _ _ _ _ (sm.trans sm3) g3 r3 q
theorem d_lcG (hc : X.calm = true) (hN : X.N.Nodup) (hi : DIg cl X W tg iter ι) (ok : BlkOk X.N X.env.scope scope own)
    (hg : ∀ (s : Shared) (H : Hp) (C : Addr) (cs : List (Str × Addr)) (fp : List Addr), DG cl (X.blk s H scope (compEnvC scope cs C X.env) fp) W0 tg is γ) (ht : ∀ (s : Shared) (H : Hp) (C : Addr) (cs : List (Str × Addr)) (fp : List Addr), DTs cl (X.blk s H scope (compEnvC scope cs C X.env) fp) W0 ifs υ)
    (he : ∀ (s : Shared) (H : Hp) (C : Addr) (cs : List (Str × Addr)) (fp : List Addr), DE cl (X.blk s H scope (compEnvC scope cs C X.env) fp) W0 elt τ) (his : ∀ i ∈ is, i ∈ own.map (·.2) := by decide) (hs : ∀ x, foldedSetIterable iter X.env x = pure x := by intro _; rfl) :
    DE cl X W (.ListComp elt [⟨tg, iter, ifs, 0⟩] scope pos) (dLcG ι γ υ τ (own.map (·.2))) :=
  ⟨pe_imp (pe_lc hc hN hi.pi ok (fun s H C cs fp => (hg s H C cs fp).pg) (fun s H C cs fp => (ht s H C cs fp).pts) (fun s H C cs fp => (he s H C cs fp).pe) hs) fun σ H Q ⟨F, ρ, M, Qd, Xd, g, s, q, p, w⟩ => lcG_lift his (fun a => endF a Qd) g s q (endF_ok p) w⟩
theorem di_enumG {a : Expr} {τa : DTE} {elts : List Expr} {kk : Nat} {tpos p : Pos} (hg : Gl X "enumerate") (hm : X.mg "enumerate" = none) (ha : DE cl X W a τa) (hs : starEach [a] X.env = [(false, eval a X.env)] := by rfl) :
    DIg cl X W (.Tuple elts kk tpos) (.Call (.Name "enumerate" p) [a] [] pos) (iEnG τa) :=
  ⟨pi_imp (pi_enumT hg hm (da_cons (W := W) (cl := cl) ha da_nil hs).pa hs) fun σ H R ⟨F, ρ, M, Rd, Xd, g, s, q, p, w⟩ =>
    ⟨F, ρ, M, fun ds M1 => ∃ d xs, ds = [d] /\ enD (vw M1 d) = some xs /\ Rd (fun M => enD (vw M d) = some xs) (xs.zipIdx.map fun p => D.tup [.int (p.2 : Nat), p.1]) M1, Xd, g, s, (by
      unfold iEnG at q
      unfold dCons dNil
      have same : (fun d M1 => ∃ xs, enD (vw M1 d) = some xs /\ Rd (fun M => enD (vw M d) = some xs) (xs.zipIdx.map fun p => D.tup [.int (p.2 : Nat), p.1]) M1) = (fun d0 M1 => ∃ d xs, [d0] = [d] /\ enD (vw M1 d) = some xs /\ Rd (fun M => enD (vw M d) = some xs) (xs.zipIdx.map fun p => D.tup [.int (p.2 : Nat), p.1]) M1) := by
        funext d M1
        simp
      rw [same] at q
      exact q), fun vs H' F' ds M' sm g' r ⟨d, xs, e1, e2, q'⟩ => (by
      subst e1
      obtain ⟨v, ws, rfl, r1, r2⟩ := r.inv
      obtain rfl := r2.inv0
      have item : ∀ (us : List V) (i : Nat) (F2 H2 : Hp) (M2 : Mem), Reps X.K cl F2 us xs -> Good X.K cl F2 H2 M2 -> ∀ d0, (xs.zipIdx.map fun p => D.tup [.int (p.2 : Nat), p.1])[i]? = some d0 ->
          ∃ v0, us[i]? = some v0 /\ ∀ (T : Addr) (x0 : V) (H3 : Hp), H2 T = none -> H3 = upd H2 T (.tup [.int (i : Nat), x0]) -> x0 = v0 -> ∃ F3, Same F2 F3 /\ Good X.K cl F3 H3 M2 /\ Rep X.K cl F3 (.ref T) d0 := fun us i F2 H2 M2 hu g2 d0 hd => by
        rw [List.getElem?_map, List.getElem?_zipIdx] at hd
        cases e3 : xs[i]? with
        | none => rw [e3] at hd; cases hd
        | some d1 =>
          rw [e3] at hd
          cases hd
          obtain ⟨v0, h3, h4⟩ := hu.get e3
          refine ⟨v0, h3, fun T x0 H3 hT eH ex => ?_⟩
          subst eH ex
          have sm3 : Same F2 (upd F2 T (.tup [.int (i : Nat), x0])) := same_new (g2.freshF hT)
          refine ⟨_, sm3, g2.new hT, .tup (SqT1.of upd_same) (.cons ?_ (.one (h4.mono sm3)))⟩
          simpa using Rep.int (i : Int)
      cases d with
      | ref b =>
        obtain rfl := r1.toRef
        obtain ⟨_, us, h1, h2⟩ := cellL g' (.inr e2)
        refine .inl ⟨b, us, rfl, SqL.of h1, p _ _ F' _ _ M' sm g' (fun i F2 H2 M2 sm2 g2 hC => ?_) q'⟩
        obtain ⟨_, us, h1, h2⟩ := cellL g2 (.inr hC)
        refine ⟨fun d0 hd => ?_, fun hl => ⟨us, SqL.of h1, by rw [h2.length]; simpa using hl⟩⟩
        obtain ⟨v0, h3, h4⟩ := item us i F2 H2 M2 h2 g2 d0 hd
        refine ⟨⟨us, v0, SqL.of h1, h3⟩, fun x H3 ⟨T, x0, ex, hT, eH, hy⟩ => ?_⟩
        subst ex
        have h5 := hy us (SqL.of h1)
        rw [h3] at h5
        exact h4 T x0 H3 hT eH (Option.some.inj h5).symm
      | lst ys =>
        have ey : ys = xs := by simpa using e2
        subst ey
        obtain ⟨a, us, rfl, h1, h2⟩ := r1.toLst
        refine .inl ⟨a, us, rfl, same_l g'.sub h1, p _ _ F' _ _ M' sm g' (fun i F2 H2 M2 sm2 g2 _ => ⟨fun d0 hd => ?_, fun hl => ⟨us, same_l (sm2.trans g2.sub) h1, by rw [h2.length]; simpa using hl⟩⟩) q'⟩
        obtain ⟨v0, h3, h4⟩ := item us i F2 H2 M2 (h2.mono sm2) g2 d0 hd
        refine ⟨⟨us, v0, same_l (sm2.trans g2.sub) h1, h3⟩, fun x H3 ⟨T, x0, ex, hT, eH, hy⟩ => ?_⟩
        subst ex
        have h5 := hy us (same_l (sm2.trans g2.sub) h1)
        rw [h3] at h5
        exact h4 T x0 H3 hT eH (Option.some.inj h5).symm
      | tup ys =>
        have ey : ys = xs := by simpa using e2
        subst ey
        obtain ⟨a, us, rfl, h1, h2⟩ := r1.toTup
        refine .inr ⟨a, us, rfl, same_t g'.sub h1, p _ _ F' _ _ M' sm g' (fun i F2 H2 M2 sm2 g2 _ => ⟨fun d0 hd => ?_, fun hl => ⟨us, same_t (sm2.trans g2.sub) h1, by rw [h2.length]; simpa using hl⟩⟩) q'⟩
        obtain ⟨v0, h3, h4⟩ := item us i F2 H2 M2 (h2.mono sm2) g2 d0 hd
        refine ⟨⟨us, v0, same_t (sm2.trans g2.sub) h1, h3⟩, fun x H3 ⟨T, x0, ex, hT, eH, hy⟩ => ?_⟩
        subst ex
        have h5 := hy us (same_t (sm2.trans g2.sub) h1)
        rw [h3] at h5
        exact h4 T x0 H3 hT eH (Option.some.inj h5).symm
      | _ => cases e2), w⟩⟩
end
theorem forG_run {C : Mem -> Prop} {γ : DTG} {t : DTS} {E : DEnds} (xs : List D) (P : List D -> DL.Env -> Mem -> Prop)
    (step : ∀ (done : List D) (x : D) (rest : List D) (ρ : DL.Env) (M : Mem) (Nx : DL.Env -> Mem -> Prop), xs = done ++ x :: rest -> P done ρ M -> (∀ ρ' M', P (done ++ [x]) ρ' M' -> Nx ρ' M') -> C M /\ γ x ρ M (fun ρ2 M2 => t { E with nx := Nx, ct := Nx, bk := E.nx } ρ2 M2) E.ex)
    (fin : ∀ ρ M, P xs ρ M -> C M /\ E.nx ρ M) {ρ : DL.Env} {M : Mem} (h0 : P [] ρ M) : forG C γ t xs E ρ M := by
  have go : ∀ (rest done : List D) (ρ : DL.Env) (M : Mem), xs = done ++ rest -> P done ρ M -> forG C γ t rest E ρ M := by
    intro rest
    induction rest with
    | nil => intro done ρ M e p; rw [List.append_nil] at e; subst e; exact fin ρ M p
    | cons x rest ih => intro done ρ M e p; exact step done x rest ρ M _ e p fun ρ' M' p' => ih (done ++ [x]) ρ' M' (by rw [e, List.append_assoc]; rfl) p'
  exact go xs [] ρ M rfl h0
theorem lcG_run {C : Mem -> Prop} {γ : DTG} {υ : DTT} {τ : DTE} {vs : List Nat} {a : Addr} {R : Mem -> Prop} {ρ : DL.Env} (xs : List D) (P : List D -> List D -> Mem -> Prop)
    (step : ∀ (done : List D) (x : D) (rest acc : List D) (M : Mem) (Nx : Mem -> Prop), xs = done ++ x :: rest -> M a = some (.lst acc) -> P done acc M -> (∀ acc' M', M' a = some (.lst acc') -> P (done ++ [x]) acc' M' -> Nx M') ->
      C M /\ γ x (wipeD ρ vs) M (fun ρ2 M2 => υ ρ2 M2 (fun b M3 => if b = true then τ ρ2 M3 (fun d M4 => ∃ acc, M4 a = some (.lst acc) /\ acc.length < sizeLine /\ Nx (updM M4 a (.lst (acc ++ [d])))) noX else Nx M3) noX) noX)
    (fin : ∀ acc M, M a = some (.lst acc) -> P xs acc M -> C M /\ R M) {M : Mem} (h0 : P [] [] (updM M a (.lst []))) : lcG C γ υ τ vs a xs ρ (updM M a (.lst [])) R := by
  have go : ∀ (rest done acc : List D) (M : Mem), xs = done ++ rest -> M a = some (.lst acc) -> P done acc M -> lcG C γ υ τ vs a rest ρ M R := by
    intro rest
    induction rest with
    | nil => intro done acc M e ha p; rw [List.append_nil] at e; subst e; exact fin acc M ha p
    | cons x rest ih => intro done acc M e ha p; exact step done x rest acc M _ e ha p fun acc' M' ha' p' => ih (done ++ [x]) acc' M' (by rw [e, List.append_assoc]; rfl) ha' p'
  exact go xs [] [] _ rfl updM_same h0
end DL
set_option Elab.async false
set_option linter.all false
set_option maxRecDepth 100000
set_option maxHeartbeats 4000000
namespace DL
open PySem L2
open PyProof.Rows (Compare_chain isTrue_chain chain_link chain_last test_link test_last ite_tt ite_ff)
section
variable {cl : ClW} {X : Cx} {a : Addr} {oe : Obj} {cls : Value} {d : Option Addr} {pn : List (Addr × Obj)} {x : D}
end
section
variable {cl : ClW} {X : Cx} {W : WX} {pos : Pos} {a b : Expr} {τa τb : DTE}
theorem Reps.rep {K : PySem.W.Frag} {F : Hp} {vs : List V} {ds : List D} (h : Reps K cl F vs ds) : ∀ n : Nat, Reps K cl F (List.replicate n vs).flatten (List.replicate n ds).flatten
  | 0 => .nil
  | n + 1 => by
    rw [List.replicate_succ, List.replicate_succ, List.flatten_cons, List.flatten_cons]
    exact h.append (Reps.rep h n)
theorem Good.drop {K : PySem.W.Frag} {F H : Hp} {M : Mem} (g : Good K cl F H M) (p : Addr) : Good K cl F H (delM M p) := ⟨g.sub, fun a d e => by
  by_cases h : a = p
  · subst h; rw [delM_same] at e; cases e
  · rw [delM_ne h] at e; exact g.cell a d e, g.tab, g.noT⟩
def bRep : DB2 := fun d e _ M Q _ => ∃ p xs k, d = .ref p /\ M p = some (.lst xs) /\ e = .int k /\ -(2 ^ 63) <= k /\ k < 2 ^ 63 /\ xs.length * k.toNat <= sizeLine /\ Q (.lst (List.replicate k.toNat xs).flatten) M
def bRepD : DB2 := fun d e _ M Q _ => ∃ p xs k, d = .ref p /\ M p = some (.lst xs) /\ e = .int k /\ -(2 ^ 63) <= k /\ k < 2 ^ 63 /\ xs.length * k.toNat <= sizeLine /\ Q (.lst (List.replicate k.toNat xs).flatten) (delM M p)
theorem bin_rep : BinG cl X W (binaryOp .Mult) bRep := by
  intro pins s σ H F ρ M v u x y d e Q Qd Xd I rx ry g sl r1 r2 h p w
  obtain ⟨b, xs, k, rfl, hM, rfl, k1, k2, hl, q⟩ := h
  obtain rfl := r1.toRef
  obtain rfl := r2.toInt
  obtain ⟨hF, vs, h1, h2⟩ := g.cell b _ hM
  exact op_rep pins s σ H _ _ v u Q I rx ry ⟨b, k, vs, rfl, rfl, h1, k1, k2, by rw [h2.length]; exact hl, fun c hc => p.newL g (h2.rep _) q hc⟩
theorem bin_repD : BinG cl X W (binaryOp .Mult) bRepD := by
  intro pins s σ H F ρ M v u x y d e Q Qd Xd I rx ry g sl r1 r2 h p w
  obtain ⟨b, xs, k, rfl, hM, rfl, k1, k2, hl, q⟩ := h
  obtain rfl := r1.toRef
  obtain rfl := r2.toInt
  obtain ⟨hF, vs, h1, h2⟩ := g.cell b _ hM
  exact op_rep pins s σ H _ _ v u Q I rx ry ⟨b, k, vs, rfl, rfl, h1, k1, k2, by rw [h2.length]; exact hl, fun c hc => p.newL (g.drop b) (h2.rep _) q hc⟩
end
section
variable {X : Cx} {a b c d : Expr} {ta tb tc td : TE} {pos : Pos}
end
section
variable {cl : ClW} {X : Cx} {W : WX} {a b c d : Expr} {τa τb τc τd : DTE} {pos : Pos}
@[simp] def dChain3 (f f' f'' : D -> D -> Option D) (τa τb τc τd : DTE) : DTE := fun ρ M Q X => τa ρ M (fun d M1 => τb ρ M1 (fun e M2 => ∃ k, f (vw M2 d) (vw M2 e) = some (.bl k) /\
  if k = true then τc ρ M2 (fun h M3 => ∃ k, f' (vw M3 e) (vw M3 h) = some (.bl k) /\ if k = true then τd ρ M3 (fun j M4 => ∃ z, f'' (vw M4 h) (vw M4 j) = some z /\ Q z M4) X else Q (.bl false) M3) X else Q (.bl false) M2) X) X
end
end DL
set_option Elab.async false
set_option linter.all false
set_option maxRecDepth 100000
set_option maxHeartbeats 4000000
namespace DL
open PySem L2
open PySem.SeqAt
section
open AutoSeq1 (wpAny_loadPart')
variable {prog : Program} {w : World}
inductive EqL (prog : Program) (w : World) (A : Around) (s : Shared) : List (Value × Value) -> List Bool -> Prop
  | nil : EqL prog w A s [] []
  | cons {p : Value × Value} {b : Bool} {ps : List (Value × Value)} {bs : List Bool} : EqP prog w A s p.1 p.2 b -> EqL prog w A s ps bs -> EqL prog w A s (p :: ps) (b :: bs)
section
variable {K : Type} [DecidableEq K] {knd : KeyKind prog w K} {a : Addr} {ka : List (K × Value)} {A : Around} {s : Shared} {v : Value}
end
end
mutual
def eqX : D -> D -> Bool
  | .non, .non => true
  | .bl a, .bl b => a == b
  | .bl a, .int j => (if a then 1 else 0) == j
  | .int i, .bl b => i == (if b then 1 else 0)
  | .int i, .int j => i == j
  | .str x, .str y => x == y
  | .lst xs, .lst ys => eqXs xs ys
  | .tup xs, .tup ys => eqXs xs ys
  | .dK ks ds, .dK ls es => ks.length == ls.length && eqKs ks ds ls es
  | _, _ => false
def eqXs : List D -> List D -> Bool
  | [], [] => true
  | x :: xs, y :: ys => eqX x y && eqXs xs ys
  | _, _ => false
def eqKs : List Key -> List D -> List Key -> List D -> Bool
  | k :: ks, d :: ds, ls, es => (match atK k ls es with
    | some e => eqX d e
    | none => false) && eqKs ks ds ls es
  | _, _, _, _ => true
end
mutual
def plX : Nat -> D -> Bool
  | _, .non => true
  | _, .bl _ => true
  | _, .int _ => true
  | _, .str _ => true
  | n + 1, .lst xs => plXs n xs
  | n + 1, .tup xs => plXs n xs
  | n + 1, .dK ks ds => decide ks.Nodup && ks.length == ds.length && plXs n ds
  | _, _ => false
def plXs : Nat -> List D -> Bool
  | _, [] => true
  | n, x :: xs => plX n x && plXs n xs
end
section
variable {X : Cx} {pins : List (Addr × Obj)} {σ : St} {H : Hp} {s : Shared} {cl : ClW}
inductive Side (X : Cx) (cl : ClW) (H : Hp) (s : Shared) : D -> Value -> Prop
  | non : Side X cl H s .non .none
  | bl (b : Bool) : Side X cl H s (.bl b) (.bool b)
  | int (i : Int) (t : Tok) : Side X cl H s (.int i) (.int i t)
  | str (x : Str) (t : Tok) : Side X cl H s (.str x) (.str x t)
  | lst {a : Addr} {us : List Value} {vs : List V} {ds : List D} : s.heap.IsList a us.toArray -> Vals vs us -> Reps X.K cl H vs ds -> Side X cl H s (.lst ds) (.ref a)
  | tup {a : Addr} {us : List Value} {vs : List V} {ds : List D} : s.heap.IsTuple a us.toArray -> Vals vs us -> Reps X.K cl H vs ds -> Side X cl H s (.tup ds) (.ref a)
  | dK {a : Addr} {ks : List Key} {us : List (Key × Value)} {vs : List V} {ds : List D} : (a == sysModules) = false -> s.heap.DictOf (mixKind X.prog X.w) a us -> KV (ks.zip vs) us -> ks.length = vs.length -> Reps X.K cl H vs ds -> Side X cl H s (.dK ks ds) (.ref a)
end
end DL
set_option Elab.async false
set_option linter.all false
set_option maxRecDepth 100000
set_option maxHeartbeats 4000000
namespace DL
open PySem L2
open PySem.SeqAt
section
open AutoSeq1 (wpAny_loadPart')
open MeetsSeq MeetsSeq2 MeetsSeq3 SeqRoads2
variable {prog : Program} {w : World}
end
section
variable {X : Cx} {pins : List (Addr × Obj)} {σ : St} {H : Hp} {s : Shared} {cl : ClW}
end
section
variable {K : PySem.W.Frag} {cl : ClW} {F H : Hp} {M : Mem} {X : Cx} {W : WX}
@[simp] def bEqX : DB2 := fun d e _ M Q _ => ∃ d' e' n, Dv M d d' /\ Dv M e e' /\ n <= 60 /\ plX n d' = true /\ plX n e' = true /\ Q (.bl (eqX d' e')) M
@[simp] def bNeX : DB2 := fun d e _ M Q _ => ∃ xs ys n, Dv M d (.lst xs) /\ Dv M e (.lst ys) /\ n <= 60 /\ plXs n xs = true /\ plXs n ys = true /\ Q (.bl (!eqXs xs ys)) M
end
end DL
set_option Elab.async false
set_option linter.all false
set_option maxRecDepth 100000
set_option maxHeartbeats 4000000
namespace DL
open PySem L2
end DL
set_option Elab.async false
set_option linter.all false
set_option maxRecDepth 100000
set_option maxHeartbeats 4000000
namespace FL
open PySem L2 DL
def seqs : D -> Option (List D)
  | .lst xs => some xs
  | .tup xs => some xs
  | _ => none
theorem seqs_it {d : D} {xs : List D} (h : seqs d = some xs) : itD d = some xs := by cases d <;> first | exact h | cases h
theorem seqs_en {d : D} {xs : List D} (h : seqs d = some xs) : enD d = some xs := by cases d <;> first | exact h | cases h
theorem seqs_ix {d : D} {xs : List D} (h : seqs d = some xs) (k : Int) : ixA d (.int k) = atI xs k := by cases d <;> first | (cases h; rfl) | cases h
theorem seqs_len {d : D} {xs : List D} (h : seqs d = some xs) : lenF [d] = some (.int xs.length) := by cases d <;> first | (cases h; rfl) | cases h
theorem seqs_ty {d : D} {xs : List D} (h : seqs d = some xs) : ∃ n, tyName d = some n /\ (n == "list" || n == "tuple") = true := by
  cases d <;> first | exact ⟨_, rfl, by decide⟩ | cases h
theorem seqs_no {d : D} {n : String} (h : seqs d = none) (t : tyName d = some n) : (n == "list" || n == "tuple") = false := by
  cases d <;> first | (cases t; decide) | (cases t; done) | (cases h; done)
theorem seqs_sl {d : D} {xs : List D} (h : seqs d = some xs) (lo hi : Option Int) : ∃ e, slD d lo hi = some e /\ seqs e = some (cutD xs lo hi) /\ ∀ M, vw M e = e := by
  cases d <;> first | (cases h; exact ⟨_, rfl, rfl, fun _ => rfl⟩) | cases h
theorem seqs_or {d : D} {xs : List D} (h : seqs d = some xs) : d = .lst xs \/ d = .tup xs := by cases d <;> first | (cases h; simp) | cases h
def nameC : List Nat -> Bool
  | [] => false
  | c :: r => decide (r.length <= 7) && (isL c && r.all isS)
theorem nameC_iff {cs : List Nat} : nameC cs = true ↔ NameOk cs := by
  cases cs with
  | nil => simp [nameC, NameOk]
  | cons c r =>
    simp only [nameC, Bool.and_eq_true, decide_eq_true_eq, List.all_eq_true, NameOk]
    constructor
    · rintro ⟨h1, h2, h3⟩; exact ⟨c, r, rfl, h1, h2, h3⟩
    · rintro ⟨c', r', e, h1, h2, h3⟩; cases e; exact ⟨h1, h2, h3⟩
def nameB : D -> Bool
  | .str z => nameC z.cps.toList
  | _ => false
def valB : D -> Bool
  | .int i => decide (-(10 ^ 30) <= i) && decide (i <= 10 ^ 30)
  | _ => false
def wordD : Option String -> D
  | some w => .str w
  | none => .non
structure Pl (d : D) : Prop where
  ty : ∃ n, tyName d = some n
  st : ∀ z, d = .str z -> z.length <= 1000 /\ ∀ c ∈ z.cps.toList, c < 1114112
structure PlRow (y : D) : Prop where
  pl : Pl y
  it : ∀ l, seqs y = some l -> ∀ c ∈ l, Pl c
theorem Pl.vw {d : D} (h : Pl d) (M : Mem) : DL.vw M d = d := by
  obtain ⟨n, hn⟩ := h.ty
  cases d <;> first | rfl | cases hn
def dueD : Option (Int × String) -> D
  | some (p, w) => .tup [.int p, .str w]
  | none => .non
structure Handed (M : Mem) (d : D) : Prop where
  ty : ∃ n, tyName (vw M d) = some n
  rows : ∀ xs, seqs (vw M d) = some xs -> xs.length <= 60 -> ∀ y ∈ xs, PlRow (vw M y)
theorem lcG_fn {C : Mem -> Prop} {γ : DTG} {υ : DTT} {τ : DTE} {vs : List Nat} {a : Addr} {Q : DV} {ρ : DL.Env} {M : Mem} (f : D -> Option D) (xs : List D) (hl : xs.length <= 16777216) (hM : M a = none) (hC : ∀ M1, (∀ b, b ≠ a -> M1 b = M b) -> C M1)
    (step : ∀ x ∈ xs, ∀ (M1 : Mem) (T : Option D -> Mem -> Prop), (∀ b, b ≠ a -> M1 b = M b) -> T (f x) M1 -> γ x (wipeD ρ vs) M1 (fun ρ2 M2 => υ ρ2 M2 (fun b M3 => if b = true then τ ρ2 M3 (fun d M4 => T (some d) M4) noX else T none M3) noX) noX)
    (q : Q (.lst (xs.filterMap f)) M) : lcG C γ υ τ vs a xs ρ (updM M a (.lst [])) (endF a Q) := by
  have far : ∀ (d : D) b, b ≠ a -> updM M a d b = M b := fun d b hb => updM_ne hb
  refine lcG_run xs (fun done acc M1 => acc = done.filterMap f /\ M1 = updM M a (.lst acc)) ?_ ?_ ⟨rfl, rfl⟩
  · rintro done x rest acc M1 Nx e ha ⟨rfl, rfl⟩ nx
    have hx : x ∈ xs := by rw [e]; simp
    have hlen : (done.filterMap f).length < sizeLine := by
      have h1 := List.length_filterMap_le f done
      have h2 : done.length < xs.length := by rw [e]; simp
      rw [size_line]; omega
    refine ⟨hC _ (far _), step x hx _ (fun o M' => match o with
      | some d => ∃ acc, M' a = some (.lst acc) /\ acc.length < sizeLine /\ Nx (updM M' a (.lst (acc ++ [d])))
      | none => Nx M') (far _) ?_⟩
    cases hf : f x with
    | none => exact nx _ _ updM_same ⟨by simp [hf], by simp [hf]⟩
    | some d => exact ⟨_, updM_same, hlen, nx _ _ updM_same ⟨by simp [hf], by simp [hf, updM_updM]⟩⟩
  · rintro acc M1 ha ⟨rfl, rfl⟩
    exact ⟨hC _ (far _), _, updM_same, by rw [delM_updM hM]; exact q⟩
theorem pl_of {d : D} {n : String} (h : tyName d = some n) (hs : ∀ z, d ≠ .str z) : Pl d := ⟨⟨n, h⟩, fun z e => absurd e (hs z)⟩
theorem pl_lit (z : String) (h1 : (Str.ofString z).length <= 1000) (h2 : (Str.ofString z).cps.toList.all (fun c => decide (c < 1114112)) = true) : Pl (.str z) := ⟨⟨_, rfl⟩, fun w e => by
  cases e
  exact ⟨h1, fun c hc => by simpa using List.all_eq_true.mp h2 c hc⟩⟩
theorem pl_name {x : List Nat} (h : NameOk x) (k : List Nat) (hk : k.length <= 10) (hk2 : ∀ c ∈ k, c < 1114112) : Pl (strD (x ++ k)) := ⟨⟨_, rfl⟩, fun w e => by
  cases e
  have := h.len
  refine ⟨by simp; omega, fun c hc => ?_⟩
  simp [S] at hc
  rcases hc with hc | hc
  · exact isS_lt (h.all c hc)
  · exact hk2 c hc⟩
theorem pl_nm {x : List Nat} (h : NameOk x) : Pl (strD x) := by simpa using pl_name h [] (by simp) (by simp)
end FL
set_option Elab.async false
set_option linter.all false
set_option maxRecDepth 100000
set_option maxHeartbeats 4000000
namespace DL
open PySem L2
section
variable {X : Cx} {cl : ClW}
end
section
variable {X : Cx} {cl : ClW} {W : WX} {pos : Pos}
structure DPs (cl : ClW) (X : Cx) (W : WX) (pos : Pos) (keys : List (Option Expr)) (values : List Expr) (prs : List (DTE × DTE)) : Prop where
  pps : PPs X pos keys values (prs.map fun q => (lowE X.K cl W q.1, lowE X.K cl W q.2))
inductive Pairs2 (K : PySem.W.Frag) (cl : ClW) (F : Hp) : List (V × V) -> List (D × D) -> Prop
  | nil : Pairs2 K cl F [] []
  | cons {x y : V} {d e : D} {ps : List (V × V)} {qs : List (D × D)} : Rep K cl F x d -> Rep K cl F y e -> Pairs2 K cl F ps qs -> Pairs2 K cl F ((x, y) :: ps) ((d, e) :: qs)
end
end DL
set_option Elab.async false
set_option linter.all false
set_option maxRecDepth 100000
set_option maxHeartbeats 4000000
namespace DL
open PySem L2
section
variable {cl : ClW} {X : Cx} {W : WX} {elt tg iter tg1 iter1 : Expr} {ifs ifs1 : List Expr} {scope : Scope} {own : List (Str × Nat)} {vs1 : List Nat} {pos : Pos} {ι ι1 : DTIg} {is is1 : List Nat} {γ γ1 : DTG} {υ υ1 : DTT} {τ : DTE}
end
end DL
set_option Elab.async false
set_option linter.all false
set_option maxRecDepth 100000
set_option maxHeartbeats 4000000
namespace DL
open PySem L2
def cmpX (k : Int -> Int -> Bool) (f : Ordering -> Bool) : D -> D -> Option D
  | .byt x, .byt y => some (.bl (f (Builtin.Bytes.order x.toList y.toList)))
  | d, e => cmpD k d e
section
variable {K : PySem.W.Frag} {cl : ClW}
end
section
variable {X : Cx}
end
def is8 (ns : List Int) : Bool := ns.all fun n => decide (0 <= n) && decide (n < 256)
theorem is8_iff {ns : List Int} : is8 ns = true ↔ ∀ n ∈ ns, 0 <= n /\ n < 256 := by simp [is8, List.all_eq_true]
def bytesF : List D -> Option D
  | [.lst xs] => (intsOf xs).bind fun ns => if is8 ns = true then some (.byt (byteArr ns)) else none
  | [.tup xs] => (intsOf xs).bind fun ns => if is8 ns = true then some (.byt (byteArr ns)) else none
  | [.byt b] => some (.byt b)
  | _ => none
theorem intsSome {xs : List D} {z : D} {f : List Int -> D} (h : ((intsOf xs).bind fun ns => if is8 ns = true then some (f ns) else none) = some z) : ∃ ns, xs = ns.map D.int /\ (∀ n ∈ ns, 0 <= n /\ n < 256) /\ z = f ns := by
  cases e : intsOf xs with
  | none => rw [e] at h; cases h
  | some ns =>
    rw [e] at h
    simp only [Option.bind_some] at h
    by_cases k : is8 ns = true
    · rw [if_pos k] at h
      cases h
      exact ⟨ns, intsOf_eq e, is8_iff.mp k, rfl⟩
    · rw [if_neg k] at h; cases h
section
variable {K : PySem.W.Frag} {cl : ClW} {X : Cx}
def rBytes (K : PySem.W.Frag) : List V -> Hp -> VK -> Prop := fun xs H Q => r1 (kByts K) xs H Q \/ ∃ p ns, xs = [.ref p] /\ SqT K H p (ns.map V.int) /\ B8 ns /\ Q (.byt (byteArr ns)) H
theorem call_bytesA (hc : X.calm = true) : CallR X (.type "bytes") (rBytes X.K) := by
  intro pins s σ H xs us Q I r h
  rcases h with h | h
  · exact call_r1 (rl_bytes hc) pins s σ H xs us Q I r h
  · exact call_bytes_tup hc pins s σ H xs us Q I r h
theorem lc_bytes : LCall K cl (rBytes K) bytesF := by
  intro F H M xs ds z Q Qd g r h p q
  generalize e : ds.map (vw M) = es at h
  unfold bytesF at h
  split at h
  · obtain ⟨x, rfl, hv⟩ := reps1 g r e
    obtain ⟨a, vs, rfl, h1, h2⟩ := hv.lst g.sub
    obtain ⟨ns, rfl, h8, rfl⟩ := intsSome (f := fun ns => D.byt (byteArr ns)) h
    rw [h2.ints] at h1
    exact .inl (.inr ⟨a, ns, rfl, h1, h8, p.val g (.byt _) q⟩)
  · obtain ⟨x, rfl, hv⟩ := reps1 g r e
    obtain ⟨a, vs, rfl, h1, h2⟩ := hv.tup g.sub
    obtain ⟨ns, rfl, h8, rfl⟩ := intsSome (f := fun ns => D.byt (byteArr ns)) h
    rw [h2.ints] at h1
    exact .inr ⟨a, ns, rfl, h1, h8, p.val g (.byt _) q⟩
  · cases h
    obtain ⟨x, rfl, hv⟩ := reps1 g r e
    obtain rfl := hv.byt
    exact .inl (.inl ⟨_, rfl, p.val g (.byt _) q⟩)
  · cases h
def slB : D -> Option Int -> Option Int -> Option D
  | .byt b, lo, hi => if b.size <= 16777216 then some (.byt (PySem.W.KBy.picked b lo hi)) else none
  | _, _, _ => none
theorem d_sliceB {W : WX} {e : Expr} {τ : DTE} {lo hi : Option Expr} {τl τh : DTO} {p2 pos : Pos} (he : DE cl X W e τ) (hl : DO cl X W lo τl) (hu : DO cl X W hi τh) : DE cl X W (.Subscript e (.Slice lo hi none p2) pos) (dSl slB τ τl τh) :=
  ⟨pe_imp (pe_slice sl_byt he.pe hl.po hu.po) fun σ H Q ⟨F, ρ, M, Qd, Xd, g, s, t, p, w⟩ =>
    ⟨F, ρ, M, _, Xd, g, s, t, fun v H1 F1 d M1 sm1 g1 r1 q1 => ⟨F1, ρ, M1, _, Xd, g1, s.mono sm1, q1, fun l H2 F2 M2 sm2 g2 q2 => ⟨F2, ρ, M2, _, Xd, g2, s.mono (sm1.trans sm2), q2, fun h H3 F3 M3 sm3 g3 q3 => (by
      obtain ⟨z, e1, e2⟩ := q3
      have hv := vw_ok g3 (r1.mono (sm2.trans sm3))
      have p' := p.mono ((sm1.trans sm2).trans sm3)
      cases hd : vw M3 d with
      | byt b =>
        rw [hd] at hv e1
        simp only [slB] at e1
        split at e1
        · cases e1
          obtain rfl := hv.byt
          exact ⟨b, rfl, by assumption, p'.val g3 (.byt _) e2⟩
        · cases e1
      | _ => rw [hd] at e1; cases e1), w.mono (sm1.trans sm2)⟩, w.mono sm1⟩, w⟩⟩
def rIxB : R2 := fun x y H Q => ∃ (b : Array UInt8) (i : Int) (k : Nat) (c : UInt8), x = .byt b /\ y = .int i /\ b.size <= 16777216 /\ seqIndex? i b.size = some k /\ b[k]? = some c /\ Q (.int (c.toNat : Nat)) H
theorem ix_byt : IxR X rIxB := by
  intro value slice pins s σ H x y v u Q I rx ry h hs
  obtain ⟨b, i, k, c, rfl, rfl, hz, hk, hc, q⟩ := h
  obtain ⟨t, rfl⟩ := rx
  obtain ⟨t', rfl⟩ := ry
  refine PyProof.Rows.tail_any (PySem.W.typeIs_bytes s b t) PySem.W.FB.slot_bytes_getitem.lookup (PySem.getItem_gives (PySem.W.typeIs_bytes s _ t) (by decide) PySem.W.FB.slot_bytes_getitem PySem.W.FB.entry_bytes_getitem (PySem.W.FB.args_bytes_getitem_2 _ _) (PySem.W.gives_bytes_getitem _ i t t' c ?_ ?_) ⟨.int (c.toNat : Nat), H, I.tok _, ⟨_, rfl⟩, q⟩) hs
  · unfold seqIndex? at hk
    simp only [Builtin.Bytes.fitsIndex, Bool.and_eq_true, decide_eq_true_eq]
    dsimp only at hk
    split at hk <;> split at hk <;> simp_all <;> omega
  · rw [hk]; simpa using hc
def ixB : D -> D -> Option D
  | .byt b, .int i => if b.size <= 16777216 then (seqIndex? i b.size).bind fun k => (b[k]?).map fun c => .int (c.toNat : Nat) else none
  | _, _ => none
theorem lixB : LOp K cl rIxB ixB := by
  intro F H M x y d e z Q Qd g hx hy h p q
  unfold ixB at h
  split at h
  · rename_i b i
    obtain rfl := hx.byt; obtain rfl := hy.int
    split at h
    · cases e1 : seqIndex? i b.size with
      | none => rw [e1] at h; cases h
      | some k =>
        rw [e1] at h
        simp only [Option.bind_some] at h
        cases e2 : b[k]? with
        | none => rw [e2] at h; cases h
        | some c =>
          rw [e2] at h
          cases h
          exact ⟨b, i, k, c, rfl, rfl, by assumption, e1, e2, p.val g (.int _) q⟩
    · cases h
  · cases h
theorem d_ixB {W : WX} {a b : Expr} {pos : Pos} {τa τb : DTE} (ha : DE cl X W a τa) (hb : DE cl X W b τb) (hs : PlainIx b := by exact fun _ _ => rfl) : DE cl X W (.Subscript a b pos) (dOp ixB τa τb) :=
  ⟨pe_imp (pe_ix ix_byt ha.pe hb.pe hs) fun σ H Q ⟨F, ρ, M, Qd, Xd, g, s, t, p, w⟩ =>
    ⟨F, ρ, M, _, Xd, g, s, t, fun v H' F' d M' sm g' r' q => ⟨F', ρ, M', _, Xd, g', s.mono sm, q, fun u H2 F2 e M2 sm2 g2 r2 q2 => by
      obtain ⟨z, e1, e2⟩ := q2
      exact lixB F2 H2 M2 v u _ _ z Q Qd g2 (vw_ok g2 (r'.mono sm2)) (vw_ok g2 r2) e1 (p.mono (sm.trans sm2)) e2, w.mono sm⟩, w⟩⟩
end
end DL
set_option Elab.async false
set_option linter.all false
set_option maxRecDepth 100000
set_option maxHeartbeats 4000000
set_option autoImplicit false
namespace DL
open PySem L2
section
variable {cl : ClW} {X : Cx} {W : WX} {x : Str} {pos : Pos}
end
end DL
set_option Elab.async false
set_option linter.all false
set_option maxRecDepth 100000
set_option maxHeartbeats 4000000
set_option autoImplicit false
namespace DL
open PySem L2 PySem.SeqAt
section
variable {A : Around} {s : Shared}
end
def bulky : D -> Bool
  | .lst _ => true
  | .tup _ => true
  | .dK _ _ => true
  | _ => false
@[simp] def bInX (neg : Bool) : DB2 := fun d e _ M Q _ => ∃ (d' : D) (n : Nat) (zs : List Str), Dv M d d' /\ plX n d' = true /\ bulky d' = true /\ vw M e = .lst (zs.map D.str) /\ Q (.bl neg) M
section
variable {cl : ClW} {X : Cx} {W : WX} {pins : List (Addr × Obj)} {σ : St} {H : Hp} {s : Shared}
end
end DL
set_option Elab.async false
set_option linter.all false
set_option maxRecDepth 100000
set_option autoImplicit false
namespace DL
open PySem L2
def obsR (n : Nat) (fa : List He.Fa) (fn : List He.DefD) (ex : PySem.W.Frag -> Bool) (g : Addr -> Option Obj) : He.AlD × Bool := (He.obsD fa fn (He.frG g (List.range n)), ex (He.frG g (List.range n)))
def hookR (n : Nat) (fa : List He.Fa) (fn : List He.DefD) (ex : PySem.W.Frag -> Bool) : PySem.W.Hook where
  α := He.AlD × Bool
  obs := fun s => obsR n fa fn ex s.heap.get?
  val := fun _ => (He.valD fn, true)
  says := fun _ h => ∃ K : PySem.W.Frag, K.In h /\ He.SaysD fa fn K /\ ex K = true
  of := fun _ _ e => ⟨_, He.frG_in, congrArg Prod.fst e, congrArg Prod.snd e⟩
  keeps := fun _ _ _ ⟨K, hK, c⟩ k => ⟨K, PySem.W.Frag.In.keeps hK k, c⟩
theorem obsR_eq {n : Nat} {fa : List He.Fa} {fn : List He.DefD} {ex : PySem.W.Frag -> Bool} {g : Addr -> Option Obj} {s : Shared} (h : ∀ a, g a = s.heap.get? a) : obsR n fa fn ex g = (hookR n fa fn ex).obs s := by
  have e : g = s.heap.get? := funext h
  rw [e] <;> rfl
theorem opt_pair {α β γ : Type} {o : Option α} {f : α -> β} {g : α -> γ} {a : β} {b : γ} (h1 : o.map f = some a) (h2 : o.map g = some b) : ∃ s, o = some s /\ f s = a /\ g s = b := by
  cases o with
  | none => cases h1
  | some s => exact ⟨s, rfl, Option.some.inj h1, Option.some.inj h2⟩
open PySem.W PySem.Calls PyProof.Rows HandSHeadRun in
theorem runR_of {r : OpenRow} {q : Program} {n : Nat} {fa : List He.Fa} {fn : List He.DefD} {ex : PySem.W.Frag -> Bool} {M : Nat} {loose : List PySem.Str} {w : World}
    (h1 : ∀ os, (HandSHeadRun.endF (stepQ (denQ tabQ) r.prog w) M r.prog w os).map (fun s => (looksF r.prog (boot_heap w.params) s.abs, seenQ q loose (importedModules r.prog.main.body) (fun s => xlAt q [] s && recOk r.toRowW.records s) s.abs)) = some (true, openGood q loose))
    (h2 : ∀ os, (HandSHeadRun.endF (stepQ (denQ tabQ) r.prog w) M r.prog w os).map (fun s => fa.all fun f => f.ok (He.frG (getT s) (List.range n))) = some true)
    (h3 : ∀ os, (HandSHeadRun.endF (stepQ (denQ tabQ) r.prog w) M r.prog w os).map (fun s => (fn.all fun d => d.ok (He.frG (getT s) (List.range n)), fn.map fun d => He.fnW (He.frG (getT s) (List.range n)) d.at_)) = some (true, fn.map He.DefD.val))
    (h4 : ∀ os, (HandSHeadRun.endF (stepQ (denQ tabQ) r.prog w) M r.prog w os).map (fun s => ex (He.frG (getT s) (List.range n))) = some true) :
    RunEq r q (hookR n fa fn ex) (fun s => obsR n fa fn ex (getT s)) M loose w := by
  intro os
  obtain ⟨s, e, a1, a2⟩ := opt_pair (h1 os) (h2 os)
  have b3 := h3 os
  have b4 := h4 os
  rw [e] at b3 b4 ⊢
  have b3 := Option.some.inj b3
  have b4 := Option.some.inj b4
  have c1 := congrArg Prod.fst a1
  have c2 := congrArg Prod.snd a1
  have d1 := congrArg Prod.fst b3
  have d2 := congrArg Prod.snd b3
  simp only at c1 c2 d1 d2 b4 a2
  show some (looksF r.prog (boot_heap w.params) s.abs, seenQ q loose (importedModules r.prog.main.body) (fun s => xlAt q [] s && recOk r.toRowW.records s) s.abs, ((((fa.all fun f => f.ok (He.frG (getT s) (List.range n))) && fn.all fun d => d.ok (He.frG (getT s) (List.range n))), fn.map fun d => He.fnW (He.frG (getT s) (List.range n)) d.at_), ex (He.frG (getT s) (List.range n)))) = _
  rw [c1, c2, a2, d1, d2, b4]
  rfl
end DL
set_option Elab.async false
set_option linter.all false
set_option maxRecDepth 100000
set_option maxHeartbeats 4000000
namespace DL
open PySem L2
def bAddM : DB2 := fun d e _ M Q _ => ∃ xs ys, vw M d = .lst xs /\ vw M e = .lst ys /\ xs.length + ys.length <= sizeLine /\ ∀ a, M a = none -> Q (.ref a) (updM M a (.lst (xs ++ ys)))
section
variable {cl : ClW} {X : Cx} {W : WX} {e : Expr} {τ : DTE} {pos : Pos}
theorem bin_addM : BinG cl X W (binaryOp .Add) bAddM := by
  intro pins s σ H F ρ M v u x y d e Q Qd Xd I rx ry g sl r1 r2 h p w
  obtain ⟨xs, ys, e1, e2, hl, q⟩ := h
  have h1 := vw_ok g r1
  have h2 := vw_ok g r2
  rw [e1] at h1
  rw [e2] at h2
  obtain ⟨a, vs, rfl, a1, a2⟩ := h1.lst g.sub
  obtain ⟨b, us, rfl, b1, b2⟩ := h2.lst g.sub
  exact op_catS pins s σ H _ _ v u Q I rx ry ⟨a, b, vs, us, rfl, rfl, a1, b1, by rw [a2.length, b2.length]; exact hl, fun c hc => p _ _ F _ _ (Same.refl F) (g.newM (d := .lst (xs ++ ys)) hc ⟨_, upd_same, a2.append b2⟩) (.ref c) (q c (g.freshM hc))⟩
end
@[simp] def bEqE : DB2 := fun d e _ M Q _ => ∃ xs ys, vw M d = .lst xs /\ vw M e = .lst ys /\ (xs = [] \/ ys = []) /\ Q (.bl (xs.isEmpty && ys.isEmpty)) M
@[simp] def bNeE : DB2 := fun d e _ M Q _ => ∃ xs ys, vw M d = .lst xs /\ vw M e = .lst ys /\ (xs = [] \/ ys = []) /\ Q (.bl (!(xs.isEmpty && ys.isEmpty))) M
section
open PySem.SeqAt
variable {cl : ClW} {X : Cx} {W : WX}
theorem bin_eqE (hu : X.A.units + 64 < cLine) : BinG cl X W (compareOp .Eq) bEqE := fun pins s σ H F ρ M v u x y d e Q Qd Xd I rx ry g sl r1 r2 q p w => by
  obtain ⟨xs, ys, e1, e2, hz, q⟩ := q
  have h1 := vw_ok g r1
  have h2 := vw_ok g r2
  rw [e1] at h1
  rw [e2] at h2
  obtain ⟨a, vs, rfl, a1, a2⟩ := h1.lst g.sub
  obtain ⟨b, us, rfl, b1, b2⟩ := h2.lst g.sub
  cases rx
  cases ry
  obtain ⟨is, i1, i2, _⟩ := I.list a1
  obtain ⟨js, j1, j2, _⟩ := I.list b1
  have l1 := i1.length
  have l2 := j1.length
  have l3 := a2.length
  have l4 := b2.length
  by_cases hl : xs.length = ys.length
  · have x0 : xs = [] := by rcases hz with z | z <;> subst z <;> simpa using hl
    have y0 : ys = [] := by subst x0; simpa using hl.symm
    subst x0 y0
    have i0 : is = [] := by simpa [l3] using l1.symm
    have j0 : js = [] := by simpa [l4] using l2.symm
    subst i0 j0
    exact RcAt.lists (e := fun _ => true) i2.isList j2.isList rfl (by omega) (fun j h => absurd h (by simp)) X.prog X.w X.xe _ ⟨.bl true, H, I, rfl, p.val g (.bl _) q⟩
  · have e0 : (xs.isEmpty && ys.isEmpty) = false := by cases xs <;> cases ys <;> simp at hl ⊢
    rw [e0] at q
    exact RcAt.lists_lengths i2.isList j2.isList (by simp; omega) (by omega) X.prog X.w X.xe _ ⟨.bl false, H, I, rfl, p.val g (.bl _) q⟩
theorem bin_neE (hu : X.A.units + 64 < cLine) : BinG cl X W (compareOp .NotEq) bNeE := fun pins s σ H F ρ M v u x y d e Q Qd Xd I rx ry g sl r1 r2 q p w => by
  obtain ⟨xs, ys, e1, e2, hz, q⟩ := q
  have h1 := vw_ok g r1
  have h2 := vw_ok g r2
  rw [e1] at h1
  rw [e2] at h2
  obtain ⟨a, vs, rfl, a1, a2⟩ := h1.lst g.sub
  obtain ⟨b, us, rfl, b1, b2⟩ := h2.lst g.sub
  cases rx
  cases ry
  obtain ⟨is, i1, i2, _⟩ := I.list a1
  obtain ⟨js, j1, j2, _⟩ := I.list b1
  have l1 := i1.length
  have l2 := j1.length
  have l3 := a2.length
  have l4 := b2.length
  by_cases hl : xs.length = ys.length
  · have x0 : xs = [] := by rcases hz with z | z <;> subst z <;> simpa using hl
    have y0 : ys = [] := by subst x0; simpa using hl.symm
    subst x0 y0
    have i0 : is = [] := by simpa [l3] using l1.symm
    have j0 : js = [] := by simpa [l4] using l2.symm
    subst i0 j0
    exact RcNeAt.lists (e := fun _ => true) i2.isList j2.isList rfl (by omega) (fun j h => absurd h (by simp)) X.prog X.w X.xe _ ⟨.bl false, H, I, rfl, p.val g (.bl _) q⟩
  · have e0 : (xs.isEmpty && ys.isEmpty) = false := by cases xs <;> cases ys <;> simp at hl ⊢
    rw [e0] at q
    exact RcNeAt.lists_lengths i2.isList j2.isList (by simp; omega) (by omega) X.prog X.w X.xe _ ⟨.bl true, H, I, rfl, p.val g (.bl _) q⟩
end
end DL
set_option Elab.async false
set_option linter.all false
set_option maxRecDepth 100000
set_option maxHeartbeats 4000000
namespace DL
open PySem L2
end DL
set_option Elab.async false
set_option linter.all false
set_option maxRecDepth 100000
set_option maxHeartbeats 4000000
namespace DL
open PySem L2
mutual
def toPyX : D -> Option PyData
  | .non => some .none
  | .bl b => some (.bool b)
  | .int i => some (.int i)
  | .str x => some (.str x)
  | .lst xs => (toPyXs xs).map .list
  | .tup xs => (toPyXs xs).map .tuple
  | .dK [] [] => some (.dict [])
  | _ => none
def toPyXs : List D -> Option (List PyData)
  | [] => some []
  | d :: ds => (toPyX d).bind fun p => (toPyXs ds).map fun ps => p :: ps
end
def SmOk (K : PySem.W.Frag) : Prop := ∃ o, K.lookup sysModules = some o /\ o.cls = .type "dict"
def smB (K : PySem.W.Frag) : Bool := match K.lookup sysModules with
  | some o => o.cls == .type "dict"
  | none => false
theorem smB_ok {K : PySem.W.Frag} (h : smB K = true) : SmOk K := by
  unfold smB at h
  split at h
  · exact ⟨_, by assumption, beq_iff_eq.mp h⟩
  · cases h
section
variable {X : Cx} {cl : ClW} {pins : List (Addr × Obj)} {σ : St} {H : Hp} {s : Shared}
theorem sm_ne (I : Inv X pins σ H s) (sm : SmOk X.K) {a : Addr} {o : Obj} (h : s.heap.get? a = some o) (hc : o.cls = .type "list") : sysModules ≠ a := fun e => by
  obtain ⟨o', h1, h2⟩ := sm
  have := I.kIn _ _ h1
  rw [e, h] at this
  have e2 := Option.some.inj this
  rw [<- e2, hc] at h2
  exact absurd h2 (by decide)
mutual
theorem reads_of (I : Inv X pins σ H s) (sm : SmOk X.K) : ∀ {x : V} {d : D}, Rep X.K cl H x d -> ∀ {u : Value} {p : PyData}, RelV x u -> toPyX d = some p -> ∃ as, Reads s.heap u p as /\ sysModules ∉ as
  | _, _, .non, u, p, r, e => by cases (show u = Value.none from r); cases e; exact ⟨[], .none, by simp⟩
  | _, _, .bl b, u, p, r, e => by cases (show u = Value.bool b from r); cases e; exact ⟨[], .bool b, by simp⟩
  | _, _, .int i, u, p, r, e => by obtain ⟨t, rfl⟩ := r; cases e; exact ⟨[], .int i t, by simp⟩
  | _, _, .str z, u, p, r, e => by obtain ⟨t, rfl⟩ := r; cases e; exact ⟨[], .str z t, by simp⟩
  | _, _, .lst h1 h2, u, p, r, e => by
    cases (show u = Value.ref _ from r)
    obtain ⟨us, r1, p1, _⟩ := I.list h1
    obtain ⟨o, ho, hc, n, hd⟩ := p1.isList
    simp only [toPyX] at e
    obtain ⟨ps, e1, rfl⟩ := Option.map_eq_some_iff.mp e
    obtain ⟨as, q1, q2⟩ := readss_of I sm h2 r1 e1
    refine ⟨_, .list ho hc hd q1, ?_⟩
    intro z
    rcases List.mem_cons.mp z with z | z
    · exact sm_ne I sm ho hc z
    · exact q2 z
  | _, _, .tup h1 h2, u, p, r, e => by
    cases (show u = Value.ref _ from r)
    obtain ⟨us, r1, p1, _⟩ := I.tuple h1.sq
    obtain ⟨o, ho, hc, n, hd⟩ := p1
    simp only [toPyX] at e
    obtain ⟨ps, e1, rfl⟩ := Option.map_eq_some_iff.mp e
    obtain ⟨as, q1, q2⟩ := readss_of I sm h2 r1 e1
    exact ⟨_, .tuple ho hc hd q1, q2⟩
  | _, _, .dK (a := a) (ks := ks) (ds := ds) h1 h2 h3, u, p, r, e => by
    cases (show u = Value.ref _ from r)
    obtain ⟨_, y, us, r1, dd⟩ := (show ObjOk X.prog X.w H s.heap _ (.dK _) from I.hok _ _ h1)
    cases ks with
    | cons k ks => simp [toPyX] at e
    | nil =>
      cases ds with
      | cons d ds => simp [toPyX] at e
      | nil =>
        cases e
        have hu : us = [] := by
          have := KV.length r1
          simp at this
          exact List.eq_nil_of_length_eq_zero this.symm
        subst hu
        obtain ⟨o, es, ep, ho, hx, hd, _, hp, _⟩ := dd
        have he : es.toList = [] := List.eq_nil_of_length_eq_zero (by rw [hp.length]; rfl)
        refine ⟨a :: [] ++ [], .dict ho hx.1 hd (kvs := []) (by rw [he]; exact .nil) (by rw [he]; exact .nil), ?_⟩
        simp only [List.append_nil, List.mem_singleton]
        intro z
        rw [<- z] at y
        cases y
  | _, _, .byt b, u, p, r, e => by simp [toPyX] at e
  | _, _, .ty b, u, p, r, e => by simp [toPyX] at e
  | _, _, .ref b, u, p, r, e => by simp [toPyX] at e
  | _, _, .cls b, u, p, r, e => by simp [toPyX] at e
  | _, _, .dT _ _ _ _, u, p, r, e => by simp [toPyX] at e
  | _, _, .obj _ _ _, u, p, r, e => by simp [toPyX] at e
  | _, _, .exc _ _ _, u, p, r, e => by simp [toPyX] at e
  | _, _, .xob _ _ _, u, p, r, e => by simp [toPyX] at e
  | _, _, .thk _ _, u, p, r, e => by simp [toPyX] at e
  | _, _, .dN _ _ _, u, p, r, e => by simp [toPyX] at e
theorem readss_of (I : Inv X pins σ H s) (sm : SmOk X.K) : ∀ {xs : List V} {ds : List D}, Reps X.K cl H xs ds -> ∀ {us : List Value} {ps : List PyData}, Vals xs us -> toPyXs ds = some ps -> ∃ as, ReadsAll s.heap us ps as /\ sysModules ∉ as
  | _, _, .nil, us, ps, r, e => by cases r; cases e; exact ⟨[], .nil, by simp⟩
  | _, _, .cons h t, us, ps, r, e => by
    cases r with
    | cons r1 r2 =>
      simp only [toPyXs] at e
      obtain ⟨p, e1, e2⟩ := Option.bind_eq_some_iff.mp e
      obtain ⟨ps, e3, rfl⟩ := Option.map_eq_some_iff.mp e2
      obtain ⟨as, a1, a2⟩ := reads_of I sm h r1 e1
      obtain ⟨bs, b1, b2⟩ := readss_of I sm t r2 e3
      exact ⟨_, .cons a1 b1, fun z => (List.mem_append.mp z).elim a2 b2⟩
end
end
section
variable {K : PySem.W.Frag} {cl : ClW} {X : Cx}
end
end DL
set_option Elab.async false
set_option linter.all false
set_option maxRecDepth 100000
set_option maxHeartbeats 4000000
set_option autoImplicit false
namespace DL
open PySem L2 PyProof.Rows
structure KeyS (x : Str) (scope : Scope) : Prop where
  kind : scope.kind = .function
  co : scope.isCoroutine = false
  gen : scope.isGenerator = false
  own : scope.names.lookup x = some .local
  nc : ∀ y ∈ scope.names, y.2 ≠ .cell
  nf : ∀ y ∈ scope.names, y.2 ≠ .free
section
variable {P : Program} {w : World} {A : Around} {s : Shared}
end
section
variable {cl : ClW} {X : Cx} {W : WX} {e : Expr} {α : DTA} {p p1 p2 p3 pos lpos kpos : Pos} {k i j : Nat} {cc P : Addr} {x : Str} {params : Arguments} {scope : Scope}
end
end DL
set_option Elab.async false
set_option linter.all false
set_option maxRecDepth 100000
set_option maxHeartbeats 4000000
set_option autoImplicit false
namespace DL
open PySem L2
section
variable {K : PySem.W.Frag} {cl : ClW}
end
inductive DJ (cl : ClW) (X : Cx) (W : WX) : List Expr -> List DTE -> Prop where
  | nil : DJ cl X W [] []
  | cons {e : Expr} {τ : DTE} {es : List Expr} {ts : List DTE} (h : DE cl X W e τ) (r : DJ cl X W es ts) : DJ cl X W (e :: es) (τ :: ts)
section
variable {cl : ClW} {X : Cx} {W : WX} {e e1 e2 o : Expr} {es : List Expr} {ts : List DTE} {pos tpos : Pos} {τ τo τv : DTE} {f : Str} {cs : List Nat}
end
end DL
set_option Elab.async false
set_option linter.all false
set_option maxRecDepth 100000
set_option maxHeartbeats 4000000
set_option autoImplicit false
namespace DL
open PySem L2
section
variable {cl : ClW} {X : Cx} {W : WX} {j k c : Nat} {ps : List Str} {spd : SpD} {x : Str} {p sp_ pos : Pos} {e : Expr} {τ : DTE}
end
section
variable {K : PySem.W.Frag} {cl : ClW}
end
end DL
set_option Elab.async false
set_option linter.all false
set_option autoImplicit false
set_option maxRecDepth 100000
set_option maxHeartbeats 2000000
namespace DL
open PySem L2 PySem.W PySem.Spec
structure TabsAt (K : Frag) (h : Heap) (cs : List (Addr × Addr)) : Prop where
  at_ : ∀ p ∈ cs, h.get? p.2 = some { cls := .none, data := .fields #[] }
  off : ∀ p ∈ cs, K.lookup p.2 = none
  code : ∀ p ∈ cs, CodeHd h p.1 p.2
end DL
set_option Elab.async false
set_option linter.all false
set_option maxRecDepth 100000
set_option maxHeartbeats 2000000
set_option autoImplicit false
namespace DL
open PySem L2
def codeF (K : PySem.W.Frag) (f : Addr) : Addr := match K.lookup f with
  | some o => match o.data with
    | .func fd => match fd.code with
      | .ref c => c
      | _ => 0
    | _ => 0
  | none => 0
def tabF (K : PySem.W.Frag) (c : Addr) : Addr := match K.lookup c with
  | some o => match o.data with
    | .fields vs => match vs[11]? with
      | some (Value.ref p) => p
      | _ => 0
    | _ => 0
  | none => 0
def tabD (K : PySem.W.Frag) (d : Str × Option Str) : Addr := tabF K (codeF K (He.fAd K d))
structure TabK (h : Heap) (K : PySem.W.Frag) (d : Str × Option Str) : Prop where
  hd : PySem.W.codeHdIn K (codeF K (He.fAd K d)) (tabD K d) = true
  at_ : h.get? (tabD K d) = some { cls := .none, data := .fields #[] }
  off : K.lookup (tabD K d) = none
  gl : mainGlobals ≠ tabD K d
  nz : tabD K d ≠ 0
  code : ∀ fd o, K.lookup (He.fAd K d) = some o -> o.data = .func fd -> fd.code = .ref (codeF K (He.fAd K d))
end DL
set_option Elab.async false
set_option linter.all false
set_option maxRecDepth 100000
set_option maxHeartbeats 2000000
set_option autoImplicit false
namespace DL
open PySem L2
section
variable {cl : ClW} {P : Program} {w : World} {K : PySem.W.Frag} {mg : Str -> Option Value} {base h : Heap} {k : Nat} {x qual : Str} {params : Arguments} {body : List Stmt} {scope : Scope} {N ps : List Str} {spd : SpD} {d : Str × Option Str} {t : DTS}
end
end DL
set_option Elab.async false
set_option linter.all false
set_option maxRecDepth 100000
set_option maxHeartbeats 2000000
set_option autoImplicit false
namespace DL
open PySem L2
section
variable {X : Cx} {o e : Expr} {to ta : TE} {apos cpos : Pos}
def tBjoin (K : PySem.W.Frag) (to ta : TE) : TE := fun σ H Q => to σ H fun x H1 => (∃ b, x = V.byt b) /\ ta σ H1 fun y H2 => rBjoin K x [y] H2 Q
theorem pe_bjoin (ho : PE X o to) (ha : PE X e ta)
    (hbase : attributeBase o "join" X.env (eval o X.env) = eval o X.env := by rfl)
    (hfew : ((backTo cpos (starEach [e] X.env)).all (fun x => !x.1) && (backToKw cpos (keywordEach [] X.env)).all (fun x => x.1.isSome)
      && decide (([e] : List Expr).length + ([] : List Keyword).length + (if ([] : List Keyword).isEmpty then 0 else 1) < 30)) = true := by rfl)
    (hline : (apos.endLine == cpos.line) = true := by rfl) (hs : starEach [e] X.env = [(false, eval e X.env)] := by rfl) :
    PE X (.Call (.Attribute o "join" apos) [e] [] cpos) (tBjoin X.K to ta) := by
  refine ⟨fun pins s σ H Q I h => ?_⟩
  refine wpAny_Call_method_late hbase hfew hline rfl (thn (ho.run pins s σ H _ I h) fun v s1 ⟨x, H1, I1, r1, hb, q1⟩ => ?_)
  obtain ⟨b, rfl⟩ := hb
  obtain ⟨t, rfl⟩ := (show ∃ t, v = Value.bytes b t from r1)
  refine ⟨"bytes", "bytes.join", PySem.W.FB.plainAttrs_bytes, R59.slot_bjoin, R59.type_bjoin, PySem.W.typeIs_bytes s1 b t, (fun _ e => by cases e), ?_⟩
  rw [hs]
  refine Calls.callWith_builtin rfl (Calls.evalArgs_plain ?_)
  have hA := (pa_cons (X := X) ha pa_nil hs).run cpos pins s1 σ H1 (fun vs H2 => rBjoin X.K (.byt b) vs H2 Q) I1 q1
  rw [hs] at hA
  exact thn hA fun us s2 ⟨vs, H2, I2, r2, q2⟩ => mt_bjoin pins s2 σ H2 (.byt b) vs (.bytes b t) us Q I2 ⟨t, rfl⟩ r2 q2
end
section
variable {cl : ClW} {X : Cx} {W : WX} {o e : Expr} {τo τ : DTE} {apos cpos : Pos}
def dBjoin (τo τ : DTE) : DTE := fun ρ M Q X => τo ρ M (fun d M1 => ∃ sep, d = .byt sep /\ τ ρ M1 (fun z M2 => ∃ bs : List (Array UInt8), vw M2 z = .lst (bs.map D.byt) /\
  Builtin.Bytes.tooLong (bs.toArray.foldl (· + ·.size) (sep.size * (bs.length - 1))) = false /\ (Builtin.Bytes.joined sep bs).size <= sizeLine /\ Q (.byt (Builtin.Bytes.joined sep bs)) M2) X) X
theorem Reps.byts {K : PySem.W.Frag} {F : Hp} : ∀ {bs : List (Array UInt8)} {vs : List V}, Reps K cl F vs (bs.map D.byt) -> vs = bs.map V.byt
  | [], _, .nil => rfl
  | b :: bs, _, .cons r t => by rw [Reps.byts t, r.toByt]; rfl
theorem d_bjoin (ho : DE cl X W o τo) (he : DE cl X W e τ)
    (hbase : attributeBase o "join" X.env (eval o X.env) = eval o X.env := by rfl)
    (hfew : ((backTo cpos (starEach [e] X.env)).all (fun x => !x.1) && (backToKw cpos (keywordEach [] X.env)).all (fun x => x.1.isSome)
      && decide (([e] : List Expr).length + ([] : List Keyword).length + (if ([] : List Keyword).isEmpty then 0 else 1) < 30)) = true := by rfl)
    (hline : (apos.endLine == cpos.line) = true := by rfl) (hs : starEach [e] X.env = [(false, eval e X.env)] := by rfl) :
    DE cl X W (.Call (.Attribute o "join" apos) [e] [] cpos) (dBjoin τo τ) :=
  ⟨pe_imp (pe_bjoin ho.pe he.pe hbase hfew hline hs) fun σ H Q ⟨F, ρ, M, Qd, Xd, g, s, t, p, w⟩ => ⟨F, ρ, M, _, Xd, g, s, t, fun v H' F' d M' sm g' r ⟨sep, e1, q⟩ => by
    subst e1
    obtain rfl := r.toByt
    refine ⟨⟨_, rfl⟩, F', ρ, M', _, Xd, g', s.mono sm, q, fun v2 H2 F2 z M2 sm2 g2 r2 ⟨bs, hv, h1, h2, q2⟩ => ?_, w.mono sm⟩
    have hw := vw_ok g2 r2
    rw [hv] at hw
    obtain ⟨a, vs, rfl, k1, k2⟩ := hw.lst g2.sub
    rw [Reps.byts k2] at k1
    exact ⟨sep, a, bs, rfl, rfl, k1, h1, h2, p _ _ _ _ _ (sm.trans sm2) g2 (.byt _) q2⟩, w⟩⟩
end
end DL
set_option Elab.async false
set_option linter.all false
set_option maxRecDepth 100000
set_option maxHeartbeats 4000000
set_option autoImplicit false
namespace DLB
open PySem PySem.W
theorem owner_bi : Manifest.owners.lookup (String.ofList ['r', 'o', 't', 'a', 'r', 'e', 't', 'i', '_', 's', 'e', 't', 'y', 'b'].reverse) = some Manifest.sig_bytes_iterator := by kernel_rfl
theorem slot_bi_next : Slot "bytes_iterator" "__next__" "bytes_iterator.__next__" :=
  .of (owner := "bytes_iterator") (n := "__next__") (by rw [typeLookup_type, builtinLookup_eq_fast]; kernel_rfl) (by decide +kernel) (by decide +kernel) (by decide +kernel)
    (by first | exact .inl (by decide +kernel) | exact .inr (by decide +kernel)) (by rw [isSubtype_type]; kernel_rfl)
theorem entry_bi_next : entryFor table "bytes_iterator.__next__" = some Builtin.«bytes_iterator.__next__» := entryFor_of_tree (by kernel_rfl)
theorem args_bi_next_1 (a : Value) : argsOk "bytes_iterator.__next__" ⟨[a], []⟩ := by
  unfold argsOk; rw [signature?_of (id := "bytes_iterator.__next__") (n := ['_', '_', 't', 'x', 'e', 'n', '_', '_']) (o := ['r', 'o', 't', 'a', 'r', 'e', 't', 'i', '_', 's', 'e', 't', 'y', 'b']) (by kernel_rfl) owner_bi]; kernel_rfl
def IsBi (h : Heap) (it : Addr) (b : Array UInt8) (t : Tok) (i : Nat) : Prop := ∃ o, h.get? it = some o /\ o.cls = .type "bytes_iterator" /\ o.data = .fields #[.bytes b t, .int i 0]
section
variable {prog : Program} {w : World} {A : Around} {E : Value -> Shared -> Prop} {s : Shared} {it : Addr} {b : Array UInt8} {t : Tok} {i : Nat}
theorem IsBi.typeIs (h : IsBi s.heap it b t i) : s.TypeIs (.ref it) "bytes_iterator" := by
  obtain ⟨o, ho, hc, _⟩ := h
  exact ⟨o, ho, hc⟩
theorem nextOf_bi_item {c : UInt8} {Q : Value -> Shared -> Prop} (hit : IsBi s.heap it b t i) (hx : b[i]? = some c)
    (hQ : ∀ h', IsBi h' it b t (i + 1) -> Heap.SameBut it s.heap h' -> Q (.int (c.toNat : Nat) s.toks) { s with heap := h', toks := s.toks + 1 }) :
    wpAny (model prog w) A (Builtin.SmallTypes.nextOf (.ref it)) Q E s := by
  obtain ⟨o, ho, hc, hd⟩ := id hit
  unfold Builtin.SmallTypes.nextOf
  refine wpAny_bind (wpAny_callSpecial?_slot (name := Str.ofString "__next__") hit.typeIs slot_bi_next
    (wpAny_call_entry slot_bi_next hit.typeIs entry_bi_next ?_ (args_bi_next_1 _)))
  show wpAny _ _ (field (.ref it) 0 >>= _) _ _ s
  refine wpAny_bind (wpAny_field ho hd (x := .bytes b t) rfl ?_)
  show wpAny _ _ (if (Value.bytes b t == Value.none) = true then _ else _) _ _ s
  rw [if_neg (show ¬ ((Value.bytes b t == Value.none) = true) from Bool.false_ne_true)]
  show wpAny _ _ (field (.ref it) 1 >>= _) _ _ s
  refine wpAny_bind (wpAny_field ho hd (x := .int i 0) rfl ?_)
  refine wpAny_bind (wpAny_of_eq (a := b) rfl ?_)
  simp only [Int.toNat_natCast, hx]
  refine wpAny_bind (wpAny_setField ho hd (by simp) (wpAny_bind (wpAny_mkInt (wpAny_pure ⟨_, rfl, wpAny_pure (hQ _ ?_ (Heap.SameBut.update ..))⟩))))
  exact ⟨_, Heap.get?_update_self _ ho (Obj.isFreed_of_fields (Obj.data_mapFields hd _)), (Obj.cls_mapFields ..).trans hc, by
    rw [Obj.data_mapFields hd]; simp [rawInt]⟩
theorem nextOf_bi_end {Q : Value -> Shared -> Prop} (hh : A.handled = none) (hit : IsBi s.heap it b t i) (hx : b[i]? = none)
    (hE : ∀ h' e, Heap.ExtBut it s.heap h' -> (∃ o, h'.get? e = some o /\ o.cls = .type "StopIteration") -> E (.ref e) { s with heap := h' }) :
    wpAny (model prog w) A (Builtin.SmallTypes.nextOf (.ref it)) Q E s := by
  obtain ⟨o, ho, hc, hd⟩ := id hit
  unfold Builtin.SmallTypes.nextOf
  refine wpAny_bind (wpAny_callSpecial?_slot (name := Str.ofString "__next__") hit.typeIs slot_bi_next
    (wpAny_call_entry slot_bi_next hit.typeIs entry_bi_next ?_ (args_bi_next_1 _)))
  show wpAny _ _ (field (.ref it) 0 >>= _) _ _ s
  refine wpAny_bind (wpAny_field ho hd (x := .bytes b t) rfl ?_)
  show wpAny _ _ (if (Value.bytes b t == Value.none) = true then _ else _) _ _ s
  rw [if_neg (show ¬ ((Value.bytes b t == Value.none) = true) from Bool.false_ne_true)]
  show wpAny _ _ (field (.ref it) 1 >>= _) _ _ s
  refine wpAny_bind (wpAny_field ho hd (x := .int i 0) rfl ?_)
  refine wpAny_bind (wpAny_of_eq (a := b) rfl ?_)
  simp only [Int.toNat_natCast, hx]
  refine wpAny_bind (wpAny_rule (wpAny_bind (wpAny_setField ho hd (by simp) ?_)))
  show wpAny _ _ (newExc (.type "StopIteration") [] >>= _) _ _ _
  refine wpAny_bind ?_
  simp only [newExc, newTuple]
  refine wpAny_bind (wpAny_newObj_type ?_ (by size_fits))
  refine wpAny_bind (m := firstArgMember _ _) (wpAny_of_eq (a := Value.none) (by first | rfl | (simp only [firstArgMember]; rfl)) ?_)
  refine wpAny_newObj_type ?_ (by size_fits)
  simp only [raiseNew]
  refine wpAny_bind (wpAny_handled ?_)
  first | rw [show A.in1.handled = none from hh] | rw [hh]
  refine wpAny_bind (wpAny_pure (wpAny_throw ?_))
  exact hE _ _ (((Heap.SameBut.update ..).extBut.push _).push _) ⟨_, Heap.get?_push_size _ rfl, rfl⟩
theorem pyIter_bytes {Q : Value -> Shared -> Prop} (hQ : Q (.ref s.heap.objs.size) { s with heap := s.heap.push { cls := .type "bytes_iterator", data := .fields #[.bytes b t, .int 0 0] } }) : wpAny (model prog w) A (pyIter (.bytes b t)) Q E s := by
  refine wpAny_pyIter_slot (typeIs_bytes s b t) FB.slot_bytes_iter (wpAny_call_entry FB.slot_bytes_iter (typeIs_bytes s b t) FB.entry_bytes_iter ?_ (FB.args_bytes_iter_1 _))
  show wpAny _ _ (do ret (<- newFields "bytes_iterator" [.bytes b t, rawInt 0])) _ _ s
  exact wpAny_bind (wpAny_newObj_type (wpAny_pure ⟨_, rfl, "bytes_iterator", _, ⟨_, Heap.get?_push_size _ rfl, rfl⟩, slot_bi_next.lookup, hQ⟩))
end
theorem draws_bytes {prog : Program} {w : World} {A : Around} (hh : A.handled = none) (it : Addr) (b : Array UInt8) (t : Tok) :
    Draws prog w A it [it] b.size (fun i v => ∃ c u, b[i]? = some c /\ v = .int (c.toNat : Nat) u) (fun i h => IsBi h it b t i) where
  live := fun _ _ st => let ⟨o, ho, _⟩ := st; ⟨o, ho⟩
  frame := fun _ _ _ st hk => let ⟨o, ho, r⟩ := st; ⟨o, hk it (by simp) o ho, r⟩
  item := fun i s Q E hi st hQ => by
    refine nextOf_bi_item st (c := b[i]) (by simp [hi]) fun h' hit' hs' => ?_
    exact hQ _ h' (s.toks + 1) ⟨_, _, by simp [hi], rfl⟩ hit' hs'
  done := fun s Q E st hE => nextOf_bi_end hh st (by simp) hE
theorem begins_bytes (b : Array UInt8) (t : Tok) : Begins (.bytes b t) { cls := .type "bytes_iterator", data := .fields #[.bytes b t, .int 0 0] } fun _ => True where
  iter := fun prog w A E s Q _ h => pyIter_bytes h
  keeps := fun _ _ _ _ => trivial
  free := rfl
end DLB
set_option Elab.async false
set_option linter.all false
set_option maxRecDepth 100000
set_option maxHeartbeats 4000000
set_option autoImplicit false
namespace DLC
open PySem PySem.W Builtin PyProof.Rows SeqAt
section
variable {prog : Program} {w : World} {A : Around} {E Q : Value -> Shared -> Prop} {s : Shared} {b c : Array UInt8} {t u : Tok}
theorem rc_bytes (hu : A.units < cLine) (q : Q (.bool (b == c)) s) : wpAny (model prog w) A (richCompare .Eq (.bytes b t) (.bytes c u)) Q E s := by
  refine wpAny_richCompare_same_room (op := .Eq) (typeIs_bytes s b t) (typeIs_bytes s c u) FB.slot_bytes_eq (call_gives FB.slot_bytes_eq (typeIs_bytes s b t) FB.entry_bytes_eq (FB.args_bytes_eq_2 _ _) (gives_bytes_eq b c t u) ⟨(fun z => nomatch z), ?_⟩) hu
  have e : (b.toList == c.toList) = (b == c) := by
    rw [Bool.eq_iff_iff]; simp [Array.toList_inj]
  rw [e]; exact q
end
end DLC
set_option Elab.async false
set_option linter.all false
set_option maxRecDepth 100000
set_option maxHeartbeats 4000000
set_option autoImplicit false
namespace DL
open PySem L2
inductive Wkd where
  | txt (z : Str)
  | byt (b : Array UInt8)
  | lst (a : Addr)
  | tup (a : Addr)
namespace Wkd
def v : Wkd -> V
  | .txt z => .str z
  | .byt b => .byt b
  | .lst a => .ref a
  | .tup a => .ref a
def val (t : Tok) : Wkd -> Value
  | .txt z => .str z t
  | .byt b => .bytes b t
  | .lst a => .ref a
  | .tup a => .ref a
def has (K : PySem.W.Frag) (H : Hp) : Wkd -> List V -> Prop
  | .txt z, xs => xs = z.cps.toList.map fun c => V.str ⟨#[c]⟩
  | .byt b, xs => xs = b.toList.map fun c => V.int (c.toNat : Nat)
  | .lst a, xs => SqL K H a xs
  | .tup a, xs => SqT K H a xs
def st (t : Tok) (it : Addr) (i : Nat) (h : Heap) : Wkd -> Prop
  | .txt z => h.IsStrIter it (strIterType z) z t i
  | .byt b => DLB.IsBi h it b t i
  | .lst a => h.IsListIter it a i
  | .tup a => h.IsTupleIter it a i
def ads : Wkd -> List Addr
  | .txt _ => []
  | .byt _ => []
  | .lst a => [a]
  | .tup a => [a]
def mk (t : Tok) : Wkd -> Obj
  | .txt z => { cls := .type (strIterType z), data := .fields #[.str z t, .int 0 0] }
  | .byt b => { cls := .type "bytes_iterator", data := .fields #[.bytes b t, .int 0 0] }
  | .lst a => { cls := .type "list_iterator", data := .fields #[.ref a, .int 0 0] }
  | .tup a => { cls := .type "tuple_iterator", data := .fields #[.ref a, .int 0 0] }
variable {k : Wkd} {t : Tok} {it : Addr} {i : Nat} {h h' : Heap}
theorem st_obj (s : k.st t it i h) : ∃ o, h.get? it = some o /\ ∀ v, o.data ≠ .cell v := by
  cases k <;> exact let ⟨o, e, _, d⟩ := s; ⟨o, e, fun v z => by rw [d] at z; cases z⟩
theorem st_keep (s : k.st t it i h) (e : ∀ o, h.get? it = some o -> h'.get? it = some o) : k.st t it i h' := by
  cases k <;> exact let ⟨o, ho, r⟩ := s; ⟨o, e o ho, r⟩
theorem st_mk (e : h.get? it = some (k.mk t)) : k.st t it 0 h := by
  cases k <;> exact ⟨_, e, rfl, rfl⟩
theorem rel {u : Value} (r : RelV k.v u) : ∃ t, u = k.val t := by
  cases k with
  | txt z => exact r
  | byt b => exact r
  | lst a => exact ⟨0, r⟩
  | tup a => exact ⟨0, r⟩
variable {X : Cx} {pins : List (Addr × Obj)} {σ : St} {H : Hp} {s : Shared} {xs ys : List V}
theorem inj (I : Inv X pins σ H s) (q : k.has X.K H xs) (q' : k.has X.K H ys) : ys = xs := by
  cases k with
  | txt z => exact q'.trans q.symm
  | byt b => exact q'.trans q.symm
  | lst a => exact I.list_inj q' q
  | tup a => exact I.tuple_inj q' q
theorem lt (I : Inv X pins σ H s) (q : k.has X.K H xs) : ∀ a ∈ k.ads, a < s.heap.objs.size := by
  intro a ha
  cases k with
  | txt z => cases ha
  | byt b => cases ha
  | lst b =>
    obtain rfl := List.mem_singleton.mp ha
    obtain ⟨its, rv, p, _⟩ := I.list q
    obtain ⟨o, e, _⟩ := p.isList
    exact Heap.lt_size e
  | tup b =>
    obtain rfl := List.mem_singleton.mp ha
    obtain ⟨its, rv, p, _⟩ := I.tuple q
    obtain ⟨o, e, _⟩ := p
    exact Heap.lt_size e
theorem begins (I : Inv X pins σ H s) (q : k.has X.K H xs) (t : Tok) : ∃ G : Heap -> Prop, Begins (k.val t) (k.mk t) G /\ G s.heap := by
  cases k with
  | txt z => exact ⟨_, begins_text z t, trivial⟩
  | byt b => exact ⟨_, DLB.begins_bytes b t, trivial⟩
  | lst b =>
    obtain ⟨its, rv, p, _⟩ := I.list q
    exact ⟨_, begins_list b its.toArray, p.isList⟩
  | tup b =>
    obtain ⟨its, rv, p, _⟩ := I.tuple q
    exact ⟨_, begins_tuple b its.toArray, p⟩
theorem weak {P : Program} {w : World} {A : Around} {fp : List Addr} {n : Nat} {φ ψ : Nat -> Value -> Prop} {S : Nat -> Heap -> Prop} (D : Draws P w A it fp n φ S) (h : ∀ i v, φ i v -> ψ i v) : Draws P w A it fp n ψ S :=
  ⟨D.live, D.frame, fun i s Q E hi hs hQ => D.item i s Q E hi hs fun x h' tk hp => hQ x h' tk (h _ _ hp), D.done⟩
theorem seqD {its : List Value} (r : Vals xs its) (i : Nat) (v : Value) (e : its.toArray[i]? = some v) : ∃ x, xs[i]? = some x /\ RelV x v := by
  have e' : its[i]? = some v := by simpa using e
  have hl : xs.length = its.length := Paired.length r
  have hi : i < xs.length := by rw [hl]; exact (List.getElem?_eq_some_iff.mp e').1
  obtain ⟨u, hu, ru⟩ := r.get (List.getElem?_eq_getElem hi)
  rw [e'] at hu
  cases hu
  exact ⟨_, List.getElem?_eq_getElem hi, ru⟩
theorem draws (I : Inv X pins σ H s) (q : k.has X.K H xs) {A : Around} (hh : A.handled = none) (ne : it ∉ k.ads) (t : Tok) :
    ∃ S : Nat -> Heap -> Prop, Draws X.prog X.w A it (it :: k.ads) xs.length (fun i v => ∃ x, xs[i]? = some x /\ RelV x v) S /\ (∀ i, k.st t it i s.heap -> S i s.heap) /\ ∀ i h, S i h -> k.st t it i h := by
  cases k with
  | txt z =>
    have hn : xs.length = z.cps.size := by rw [show xs = _ from q]; simp
    rw [hn]
    refine ⟨fun i h => h.IsStrIter it (strIterType z) z t i, weak (Draws.text hh it z t) fun i v ⟨c, u, hc, ev⟩ => ⟨.str ⟨#[c]⟩, ?_, u, ev⟩, fun i h => h, fun i h s => s⟩
    rw [show xs = _ from q, List.getElem?_map]
    have : z.cps.toList[i]? = some c := by simpa using hc
    rw [this]
    rfl
  | byt b =>
    have hn : xs.length = b.size := by rw [show xs = _ from q]; simp
    rw [hn]
    refine ⟨fun i h => DLB.IsBi h it b t i, weak (DLB.draws_bytes hh it b t) fun i v ⟨c, u, hc, ev⟩ => ⟨.int (c.toNat : Nat), ?_, u, ev⟩, fun i h => h, fun i h s => s⟩
    rw [show xs = _ from q, List.getElem?_map]
    have : b.toList[i]? = some c := by simpa using hc
    rw [this]
    rfl
  | lst b =>
    obtain ⟨its, rv, p, _⟩ := I.list q
    have hn : xs.length = its.toArray.size := by simpa using Paired.length rv
    rw [hn]
    refine ⟨fun i h => h.IsListIter it b i /\ h.IsList b its.toArray, weak (Draws.list hh it b (fun e => ne (by rw [e]; exact List.mem_singleton.mpr rfl)) its.toArray) fun i v e => seqD rv i v e, fun i h => ⟨h, p.isList⟩, fun i h s => s.1⟩
  | tup b =>
    obtain ⟨its, rv, p, _⟩ := I.tuple q
    have hn : xs.length = its.toArray.size := by simpa using Paired.length rv
    rw [hn]
    refine ⟨fun i h => h.IsTupleIter it b i /\ h.IsTuple b its.toArray, weak (Draws.tuple hh it b (fun e => ne (by rw [e]; exact List.mem_singleton.mpr rfl)) its.toArray) fun i v e => seqD rv i v e, fun i h => ⟨h, p⟩, fun i h s => s.1⟩
end Wkd
structure Five (k1 k2 : Wkd) (z TI TO i1 i2 : Addr) : Prop where
  nd : [z, TI, TO, i1, i2].Nodup
  f1 : ∀ a ∈ k1.ads, a ∉ [z, TI, TO, i1, i2]
  f2 : ∀ a ∈ k2.ads, a ∉ [z, TI, TO, i1, i2]
end DL
set_option Elab.async false
set_option linter.all false
set_option maxRecDepth 100000
set_option maxHeartbeats 4000000
set_option autoImplicit false
namespace DL
open PySem L2
theorem Wkd.shift {P : Program} {w : World} {A : Around} {it : Addr} {fp : List Addr} {n : Nat} {φ : Nat -> Value -> Prop} {S : Nat -> Heap -> Prop} (D : Draws P w A it fp n φ S) (c : Nat) : Draws P w A it fp (n + c) (fun i v => φ (i - c) v) (fun i h => c <= i /\ S (i - c) h) where
  live := fun i h s => D.live _ h s.2
  frame := fun i h h' s k => ⟨s.1, D.frame _ h h' s.2 k⟩
  item := fun i s Q E hi hs hQ => D.item (i - c) s Q E (by omega) hs.2 fun x h' tk hp s' sb => hQ x h' tk hp ⟨by omega, by rw [show i + 1 - c = i - c + 1 by omega]; exact s'⟩ sb
  done := fun s Q E hs hE => D.done s Q E (by have h2 := hs.2; rw [Nat.add_sub_cancel] at h2; exact h2) hE
def IteG (K : PySem.W.Frag) (k : Wkd) (n c : Nat) : It where
  go := fun i H => ∃ xs x, k.has K H xs /\ xs.length = n /\ xs[i]? = some x
  yld := fun i H v H' => ∃ T x, v = .ref T /\ H T = none /\ H' = upd H T (.tup [.int ((i + c : Nat)), x]) /\ ∀ xs, k.has K H xs -> xs[i]? = some x
  stop := fun i H => ∃ xs, k.has K H xs /\ xs.length = n /\ n <= i
theorem turn_enumG {P : Program} {w : World} {K : PySem.W.Frag} {elts : List Expr} {kk : Nat} {tpos : Pos} {k : Wkd} {n c : Nat} {t : Tok} {e it : Addr} (hne : e ≠ it) (h1 : ∀ a ∈ k.ads, a ≠ e /\ a ≠ it) :
    Turn P w K (.Tuple elts kk tpos) (IteG K k n c) [e, it] e (fun i h => (∃ old, IsEnum h e it ((i + c : Nat) : Int) old) /\ k.st t it i h /\ i <= n) where
  mem := List.mem_cons_self
  obj := fun i h ⟨⟨old, he⟩, s1, _⟩ b hb => by
    rcases List.mem_cons.mp hb with z | hb
    · rw [z]; exact ⟨_, he, fun v q => nomatch q⟩
    · rw [List.mem_singleton.mp hb]; exact Wkd.st_obj s1
  keep := fun i h h' ⟨⟨old, he⟩, s1, l⟩ kp => ⟨⟨old, kp e (by simp) _ he⟩, Wkd.st_keep s1 fun o q => kp it (by simp) o q, l⟩
  item := by
    intro X hP hw hK hc i pins s σ H E I hf ⟨⟨old, he⟩, s1, l⟩ ⟨xs, x, q1, e1, hx⟩
    subst hP hw hK
    have hh : X.A.in1.handled = none := I.ok.hd hc
    obtain ⟨S, D, to_, of_⟩ := k.draws I q1 hh (it := it) (fun hm => (h1 _ hm).2 rfl) t
    have hi : i < xs.length := (List.getElem?_eq_some_iff.mp hx).1
    have hel : e < s.heap.objs.size := Heap.lt_size he
    refine wpAny_pyNext_enum_itemD (Wkd.shift D c) he ⟨Nat.le_add_left c i, by rw [Nat.add_sub_cancel]; exact to_ _ s1⟩ (by omega) hne (fun hm => (List.mem_cons.mp hm).elim hne fun hm => (h1 _ hm).1 rfl) fun v h' tk hv ho hst hT hsz hk => ?_
    rw [Nat.add_sub_cancel] at hv
    obtain ⟨x', hx', rx⟩ := hv
    obtain rfl := Option.some.inj (hx.symm.trans hx')
    refine ⟨_, rfl, wpAny_letOwnedTupleGo_enum (s := { s with heap := h', toks := tk + 1 }) ho fun h'' he' sb => ?_⟩
    have hT2 : h''.get? s.heap.objs.size = some { cls := .type "tuple", data := .seq #[.int ((i + c : Nat) : Int) tk, v] } := (sb.2 _ (Nat.ne_of_gt hel)).trans hT
    have new : ObjOk X.prog X.w (upd H s.heap.objs.size (.tup [.int ((i + c : Nat)), x])) h'' s.heap.objs.size (.tup [.int ((i + c : Nat)), x]) :=
      ⟨by show 2 <= sizeLine; decide, [.int ((i + c : Nat) : Int) tk, v], .cons ⟨_, rfl⟩ (.cons rx .nil), ⟨_, hT2, rfl, _, rfl⟩⟩
    have I1 : Inv X pins σ (upd H s.heap.objs.size (.tup [.int ((i + c : Nat)), x])) { s with heap := h'', toks := tk + 1 } :=
      I.turnedNew (ch := [e, it]) (fun b ob hb q => (sb.2 b (fun z => hb (by simp [z]))).trans (hk b ob (fun z => hb (by simp [z])) (fun z => hb (by simp [z])) q)) hf (Nat.le_refl _) new
    refine ⟨.ref s.heap.objs.size, _, I1, rfl, ⟨_, x, rfl, I.hok.fresh (Nat.le_refl _), rfl, fun ys hy => by rw [k.inj I q1 hy]; exact hx⟩, ⟨⟨v, ?_⟩, ?_, by omega⟩, fun b hb => ?_⟩
    · rw [show ((i + 1 + c : Nat) : Int) = ((i + c : Nat) : Int) + 1 by omega]
      exact he'
    · have h2 := hst.2
      rw [show i + c + 1 - c = i + 1 by omega] at h2
      exact Wkd.st_keep (of_ _ _ h2) fun o q => (sb.2 it (Ne.symm hne)).trans q
    · have hlt2 : b < s.heap.objs.size := by
        rcases List.mem_cons.mp hb with z | hb
        · rw [z]; exact hel
        · rw [List.mem_singleton.mp hb]; obtain ⟨o, q, _⟩ := Wkd.st_obj s1; exact Heap.lt_size q
      rw [upd_ne (Nat.ne_of_lt hlt2)]
      exact (hf b hb).1
  done := by
    intro X hP hw hK hc i pins s σ H E I hf ⟨⟨old, he⟩, s1, l⟩ ⟨xs, q1, e1, hend⟩
    subst hP hw hK e1
    have hh : X.A.in1.handled = none := I.ok.hd hc
    obtain ⟨S, D, to_, of_⟩ := k.draws I q1 hh (it := it) (fun hm => (h1 _ hm).2 rfl) t
    obtain rfl : i = xs.length := by omega
    obtain ⟨f0, f1, f2, f3, f4, f5⟩ := hf it (by simp)
    exact wpAny_pyNext_enum_endD D he (to_ _ s1) fun h' eb => ⟨rfl, I.turned (t' := s.toks) (fun b o hb q => eb b o hb q) f0 f1 f3 f4 f5⟩
  self := fun A i s Q E ⟨⟨_, he⟩, _⟩ h => wpAny_pyIter_enum he h
def iEnW (K : PySem.W.Frag) (c : Nat) (ta : TA) : TI := fun σ H R => ta σ H fun vs H1 => ∃ (k : Wkd) (xs : List V), vs = [k.v] /\ k.has K H1 xs /\ R (IteG K k xs.length c) H1
theorem enum_pie {X : Cx} {pins : List (Addr × Obj)} {σ : St} {H1 : Hp} {s1 : Shared} {h' : Heap} {R : It -> Hp -> Prop} {k : Wkd} {xs : List V} {c : Nat} {t : Tok} {p tpos : Pos} {elts : List Expr} {kk : Nat} (I1 : Inv X pins σ H1 s1) (q1 : k.has X.K H1 xs) (q : R (IteG X.K k xs.length c) H1)
    (he : IsEnum h' (s1.heap.objs.size + 1) s1.heap.objs.size ((c : Nat) : Int) .none) (ho : h'.get? s1.heap.objs.size = some (k.mk t)) (hk : ∀ b o, s1.heap.get? b = some o -> h'.get? b = some o) :
    PIE X pins σ (.Tuple elts kk tpos) R (.ref (s1.heap.objs.size + 1)) { s1 with heap := h' } := by
  have two : ∀ b ∈ [s1.heap.objs.size + 1, s1.heap.objs.size], s1.heap.objs.size <= b := fun b hb => by
    rcases List.mem_cons.mp hb with z | hb
    · rw [z]; exact Nat.le_add_right _ _
    · rw [List.mem_singleton.mp hb]; exact Nat.le_refl _
  refine ⟨_, [s1.heap.objs.size + 1, s1.heap.objs.size], _, _, H1, rfl, I1.kept (t' := s1.toks) hk, turn_enumG (k := k) (n := xs.length) (c := c) (t := t) (Nat.succ_ne_self _) (fun a ha => ?_), ⟨⟨.none, by rw [Nat.zero_add]; exact he⟩, Wkd.st_mk ho, Nat.zero_le _⟩, fun b hb => I1.fpOk (two b hb) (I1.hok.fresh (two b hb)), q⟩
  have hl := k.lt I1 q1 a ha
  exact ⟨Nat.ne_of_lt (Nat.lt_succ_of_lt hl), Nat.ne_of_lt hl⟩
theorem pi_enumG {X : Cx} {e : Expr} {ta : TA} {p pos tpos : Pos} {elts : List Expr} {kk : Nat} (hg : Gl X "enumerate") (hm : X.mg "enumerate" = none) (ha : PA X [e] ta) (hs : starEach [e] X.env = [(false, eval e X.env)] := by rfl) :
    PI X (.Tuple elts kk tpos) (.Call (.Name "enumerate" p) [e] [] pos) (iEnW X.K 0 ta) := by
  refine ⟨fun pins s σ H R I h => PyProof.Rows.Call_ (ld_blt I hg hm PyProof.Rows.boot_enumerate (PyProof.Rows.callWith_type1 (thn (ha.run pos pins s σ H _ I h) fun us s1 ⟨vs, H1, I1, r1, k, xs, ev, q1, q⟩ => ?_) hs rfl))⟩
  subst ev
  obtain ⟨u, rfl, ru⟩ := vals1 r1
  obtain ⟨t, rfl⟩ := Wkd.rel ru
  obtain ⟨G, B, g⟩ := k.begins I1 q1 t
  exact call_enum1 B g fun h' he ho hk => wpAny_pyIter_enum he (enum_pie (p := p) I1 q1 q he ho hk)
@[simp] def wkD : D -> Option (List D)
  | .lst xs => some xs
  | .tup xs => some xs
  | .str z => some (z.cps.toList.map fun c => D.str ⟨#[c]⟩)
  | .byt b => some (b.toList.map fun c => D.int (c.toNat : Nat))
  | _ => none
theorem Rep.wkd {K : PySem.W.Frag} {cl : ClW} {F : Hp} {v : V} {d : D} {xs : List D} (r : Rep K cl F v d) (e : wkD d = some xs) : ∃ (k : Wkd) (us : List V), v = k.v /\ k.has K F us /\ Reps K cl F us xs := by
  cases d with
  | lst ys =>
    cases e
    obtain ⟨a, us, rfl, h1, h2⟩ := r.toLst
    exact ⟨.lst a, us, rfl, h1, h2⟩
  | tup ys =>
    cases e
    obtain ⟨a, us, rfl, h1, h2⟩ := r.toTup
    exact ⟨.tup a, us, rfl, h1, h2⟩
  | str z =>
    cases e
    obtain rfl := r.toStr
    refine ⟨.txt z, _, rfl, rfl, ?_⟩
    induction z.cps.toList with
    | nil => exact .nil
    | cons c l ih => exact .cons (.str _) ih
  | byt b =>
    cases e
    obtain rfl := r.toByt
    refine ⟨.byt b, _, rfl, rfl, ?_⟩
    induction b.toList with
    | nil => exact .nil
    | cons c l ih => exact .cons (.int _) ih
  | _ => cases e
theorem Wkd.same' {K : PySem.W.Frag} {k : Wkd} {H H' : Hp} {us : List V} (h : k.has K H us) (s : Same H H') : k.has K H' us := by
  cases k with
  | txt z => exact h
  | byt b => exact h
  | lst a => exact same_l s h
  | tup a => exact same_t s h
@[simp] def iZpW (τ τ' : DTE) : DTI := fun ρ M R X => τ ρ M (fun d M1 => τ' ρ M1 (fun e M2 => ∃ xs ys, wkD d = some xs /\ wkD e = some ys /\ R ((xs.zip ys).map fun p => D.tup [p.1, p.2]) M2) X) X
@[simp] def iEnN (c : Nat) (τ : DTE) : DTI := fun ρ M R X => τ ρ M (fun d M1 => ∃ xs, wkD d = some xs /\ R (xs.zipIdx.map fun p => D.tup [.int ((p.2 + c : Nat)), p.1]) M1) X
section
variable {cl : ClW} {X : Cx} {W : WX} {a b : Expr} {pos : Pos} {τa τb : DTE}
theorem enum_low {tg it : Expr} {c : Nat} (h : PI X tg it (iEnW X.K c (lowA X.K cl W (dCons τa dNil)))) : DI cl X W tg it (iEnN c τa) :=
  ⟨pi_imp h fun σ H R ⟨F, ρ, M, Rd, Xd, g, s, q, p, w⟩ =>
    ⟨F, ρ, M, fun ds M1 => ∃ d xs, ds = [d] /\ wkD d = some xs /\ Rd (xs.zipIdx.map fun p => D.tup [.int ((p.2 + c : Nat)), p.1]) M1, Xd, g, s, (by
      unfold iEnN at q
      unfold dCons dNil
      have same : (fun d M1 => ∃ xs, wkD d = some xs /\ Rd (xs.zipIdx.map fun p => D.tup [.int ((p.2 + c : Nat)), p.1]) M1) = (fun d M1 => ∃ d' xs, [d] = [d'] /\ wkD d' = some xs /\ Rd (xs.zipIdx.map fun p => D.tup [.int ((p.2 + c : Nat)), p.1]) M1) := by
        funext d M1
        simp
      rw [same] at q
      exact q), fun vs H' F' ds M' sm g' r ⟨d, xs, e1, e2, q'⟩ => (by
      subst e1
      obtain ⟨v, ws, rfl, r1, r2⟩ := r.inv
      obtain rfl := r2.inv0
      obtain ⟨k, us, rfl, h1, h2⟩ := r1.wkd e2
      refine ⟨k, us, rfl, Wkd.same' h1 g'.sub, p _ _ F' _ M' sm g' (fun i F2 H2 M2 sm2 g2 => ⟨fun d0 hd => ?_, fun hl => ⟨us, Wkd.same' h1 (sm2.trans g2.sub), rfl, by rw [h2.length]; simpa using hl⟩⟩) q'⟩
      rw [List.getElem?_map, List.getElem?_zipIdx] at hd
      cases e3 : xs[i]? with
      | none => rw [e3] at hd; cases hd
      | some d1 =>
        rw [e3] at hd
        cases hd
        obtain ⟨v0, h3, h4⟩ := h2.get e3
        refine ⟨⟨us, v0, Wkd.same' h1 (sm2.trans g2.sub), rfl, h3⟩, fun x H3 ⟨T, x0, ex, hT, eH, hy⟩ => ?_⟩
        subst ex eH
        obtain rfl := Option.some.inj (h3.symm.trans (hy us (Wkd.same' h1 (sm2.trans g2.sub))))
        have sm3 : Same F2 (upd F2 T (.tup [.int ((i + c : Nat)), v0])) := same_new (g2.freshF hT)
        refine ⟨_, sm3, g2.new hT, .tup (SqT1.of upd_same) (.cons ?_ (.one (h4.mono (sm2.trans sm3))))⟩
        simpa using Rep.int ((i + c : Nat) : Int)), w⟩⟩
theorem di_enumW {elts : List Expr} {kk : Nat} {tpos p : Pos} (hg : Gl X "enumerate") (hm : X.mg "enumerate" = none) (ha : DE cl X W a τa) (hs : starEach [a] X.env = [(false, eval a X.env)] := by rfl) :
    DI cl X W (.Tuple elts kk tpos) (.Call (.Name "enumerate" p) [a] [] pos) (iEnN 0 τa) := enum_low (pi_enumG hg hm (da_cons (W := W) (cl := cl) ha da_nil hs).pa hs)
end
end DL
set_option Elab.async false
set_option linter.all false
set_option maxRecDepth 100000
set_option maxHeartbeats 4000000
set_option autoImplicit false
namespace DL
open PySem L2
structure KTab (K : PySem.W.Frag) (w : World) (d : Addr) (tb : List (Str × Str)) : Prop where
  kd : ∃ es n, KDict K w d es n
  get : ∀ z : Str, match tb.lookup z with
    | some v => ∃ t, PySem.W.nsIn K d z = some (some (.str v t))
    | none => PySem.W.nsIn K d z = some none
section
variable {cl : ClW} {X : Cx} {W : WX} {x : Str} {d : Addr} {tb : List (Str × Str)} {a : Expr} {τ : DTE} {p pos : Pos}
end
end DL
set_option Elab.async false
set_option linter.all false
set_option maxRecDepth 100000
set_option maxHeartbeats 4000000
set_option autoImplicit false
namespace DL
open PySem L2
section
variable {K : PySem.W.Frag} {cl : ClW}
end
section
variable {K : PySem.W.Frag} {cl : ClW}
end
end DL
set_option Elab.async false
set_option linter.all false
set_option maxRecDepth 100000
set_option maxHeartbeats 4000000
set_option autoImplicit false
namespace DL
open PySem L2
section
variable {K : PySem.W.Frag} {cl : ClW} {X : Cx}
end
end DL
set_option Elab.async false
set_option linter.all false
set_option maxRecDepth 100000
set_option maxHeartbeats 4000000
set_option autoImplicit false
namespace DL
open PySem L2
section
variable {X : Cx} {e : Expr} {es : List Expr} {ta : TA} {p pos : Pos}
end
section
variable {cl : ClW} {X : Cx} {W : WX} {k : Nat} {x : Str} {c : Nat} {fs : List Str} {e : Expr} {es : List Expr} {α : DTA} {p pos : Pos}
end
def xoF (cs : List Nat) (f : Str) : D -> Option D
  | .xob c ns ds => if c ∈ cs then lookN f ns ds else none
  | _ => none
@[simp] def dXo (cs : List Nat) (f : Str) (τ : DTE) : DTE := fun ρ M Q X => τ ρ M (fun d M1 => ∃ v, xoF cs f d = some v /\ Q v M1) X
section
variable {P : Program} {w : World} {A : Around} {E : Value -> Shared -> Prop} {s : Shared} {K : PySem.W.Frag} {x C f : Addr} {ox : Obj} {od : Option Obj} {m : Str}
end
structure MethX (cl : ClW) (P : Program) (w : World) (K : PySem.W.Frag) (mg : Str -> Option Value) (base : Heap) (k c : Nat) (m : Str) (spd : SpD) : Prop where
  xf : XfC K (cl c)
  ex : ∃ f fd ps, PySem.W.findIn K (.ref (cl c)) m = some (some (.ref f)) /\ PySem.W.typeIn K (.ref f) = some (.type "function") /\ PySem.W.keepIn K (.ref f) = true /\ Binds K fd ps [] /\ FnG cl P w K mg base k f fd ps spd
section
variable {cl : ClW} {X : Cx} {W : WX} {k : Nat} {m : Str} {o : Expr} {τ : DTE} {apos pos : Pos}
end
end DL
set_option Elab.async false
set_option linter.all false
set_option maxRecDepth 100000
set_option maxHeartbeats 4000000
set_option autoImplicit false
namespace DLC
open PySem PySem.W Builtin PyProof.Rows SeqAt
@[reducible] def bytKind : PyProof.Rows.KeyKind where
  α := List Nat
  blt a b := decide (a < b)
  irrefl a := by simpa using List.lt_irrefl a
  trans a b c h1 h2 := by simp only [decide_eq_true_eq] at *; exact List.lt_trans h1 h2
  negTrans a b c h := by
    simp only [decide_eq_true_eq] at *
    by_cases hab : a < b
    · exact .inl hab
    · exact .inr (List.lt_of_le_of_lt (List.not_lt.mp hab) h)
  total a b h1 h2 := by simp only [decide_eq_false_iff_not] at *; exact List.le_antisymm (List.not_lt.mp h2) (List.not_lt.mp h1)
  keyOf v := match v with | .bytes x _ => some (x.toList.map UInt8.toNat) | _ => none
  dflt := []
section
variable {prog : Program} {w : World} {A : Around} {E : Value -> Shared -> Prop} {s : Shared}
end
end DLC
set_option Elab.async false
set_option linter.all false
set_option maxRecDepth 100000
set_option maxHeartbeats 4000000
set_option autoImplicit false
namespace DL
open PySem L2 PyProof.Rows
def keyB : D -> List Nat
  | .byt x => x.toList.map UInt8.toNat
  | _ => []
def leByt (a b : D) : Bool := !decide (keyB b < keyB a)
inductive SortBy : List D -> (D -> D -> Bool) -> Prop where
  | byt (bs : List (Array UInt8)) : SortBy (bs.map D.byt) leByt
  | py (xs : List D) (enc : D -> PyData) : (∀ x ∈ xs, toPyX x = some (enc x)) -> PySem.W.AllAlike (xs.map enc) -> PySem.W.Sortable (xs.map enc) -> (∀ x ∈ xs, (enc x).depth <= 32) -> SortBy xs (PySem.W.dataLe false enc)
section
variable {cl : ClW} {X : Cx} {W : WX} {e : Expr} {τ : DTE} {p pos : Pos} {k : Nat}
end
end DL
set_option Elab.async false
set_option linter.all false
set_option maxRecDepth 100000
set_option maxHeartbeats 4000000
set_option autoImplicit false
namespace DL
open PySem L2
open PySem.SeqAt
mutual
def eqY : Nat -> D -> D -> Option Bool
  | _, .byt a, .byt b => some (a == b)
  | _, .byt _, .non => some false
  | _, .non, .byt _ => some false
  | n + 1, .lst xs, .lst ys => if xs.length = ys.length then eqYs n xs ys else some false
  | n + 1, .tup xs, .tup ys => eqYs n xs ys
  | n, d, e => if plX n d && plX n e then some (eqX d e) else none
def eqYs : Nat -> List D -> List D -> Option Bool
  | _, [], [] => some true
  | n, x :: xs, y :: ys => match eqY n x y, eqYs n xs ys with
    | some a, some b => some (a && b)
    | _, _ => none
  | _, [], _ :: _ => some false
  | _, _ :: _, [] => some false
end
section
variable {X : Cx} {pins : List (Addr × Obj)} {σ : St} {H : Hp} {s : Shared} {cl : ClW}
@[simp] def bEqY : DB2 := fun d e _ M Q _ => ∃ d' e' n b, Dv M d d' /\ Dv M e e' /\ n <= 60 /\ eqY n d' e' = some b /\ Q (.bl b) M
@[simp] def bNeY : DB2 := fun d e _ M Q _ => ∃ d' e', Dv M d d' /\ Dv M e e' /\ ((∃ a b, d' = .byt a /\ e' = .byt b /\ Q (.bl (a != b)) M) \/ (∃ a, d' = .byt a /\ e' = .non /\ Q (.bl true) M) \/ (∃ a, d' = .non /\ e' = .byt a /\ Q (.bl true) M) \/
  ∃ xs ys n b, d' = .lst xs /\ e' = .lst ys /\ n <= 60 /\ eqY (n + 1) d' e' = some b /\ Q (.bl (!b)) M)
end
end DL
set_option Elab.async false
set_option linter.all false
set_option maxRecDepth 100000
set_option maxHeartbeats 4000000
set_option autoImplicit false
namespace DL
open PySem L2 PyProof.Rows
section
variable {X : Cx} {a b c : Expr} {ta : TA} {p1 p2 p3 p4 : Pos}
end
def rgD (a c : Int) (n : Nat) : List D := (List.range n).map fun i => D.int (a + (i : Nat) * c)
@[simp] def dListRg3 (α : DTA) : DTE := fun ρ M Q X => α ρ M (fun ds M1 => ∃ (i j k : Int) (n : Nat), ds = [.int i, .int j, .int k] /\ RgC i j k n /\ n <= 2 ^ 24 /\ Q (.lst (rgD i k n)) M1) X
@[simp] def iR3 (α : DTA) : DTI := fun ρ M R X => α ρ M (fun ds M1 => ∃ (i j k : Int) (n : Nat), ds = [.int i, .int j, .int k] /\ RgC i j k n /\ R (rgD i k n) M1) X
section
variable {cl : ClW} {X : Cx} {W : WX} {a b c : Expr} {α : DTA} {p1 p2 p3 p4 p pos : Pos}
end
end DL
set_option Elab.async false
set_option linter.all false
set_option maxRecDepth 100000
set_option maxHeartbeats 4000000
set_option autoImplicit false
namespace DL
open PySem L2 PyProof.Rows
section
variable {X : Cx} {a b : Expr} {ta : TA} {p1 p2 p3 p4 : Pos}
end
@[simp] def dListRg2 (α : DTA) : DTE := fun ρ M Q X => α ρ M (fun ds M1 => ∃ (i j : Int) (n : Nat), ds = [.int i, .int j] /\ RgC i j 1 n /\ n <= 2 ^ 24 /\ Q (.lst (rgD i 1 n)) M1) X
section
variable {cl : ClW} {X : Cx} {W : WX} {a b : Expr} {α : DTA} {p1 p2 p3 p4 p pos : Pos}
end
end DL
set_option Elab.async false
set_option linter.all false
set_option maxRecDepth 100000
set_option maxHeartbeats 4000000
set_option autoImplicit false
namespace DL
open PySem L2 PySem.W
end DL
set_option Elab.async false
set_option linter.all false
set_option maxRecDepth 100000
set_option maxHeartbeats 4000000
set_option autoImplicit false
namespace DL
open PySem PySem.Spec PyProof.Rows L2 LamX
abbrev lamFd (q : Str) (params : Arguments) (body : Expr) (scope : Scope) (clo : List (Str × Addr)) (dV doc pm cv ctv : Value) : FuncData := PySem.W.kdv_fn "<lambda>" q params (.expr body) scope clo dV doc pm cv ctv
inductive LamDf (params : Arguments) (body : Expr) (scope : Scope) (env : PySem.Env) : Prop
  | no : defaultsOf params env = ([], []) -> (∀ (q : Str) (cl : List (Str × Addr)) (pm cv ctv : Value), bindArgs (lamFd q params body scope cl .none .none pm cv ctv) ⟨[], []⟩ = pure []) -> LamDf params body scope env
  | one (y : Str) (i : Int) (j : Nat) (p : Pos) : defaultsOf params env = ([eval (.Constant (.int i) j p) env], []) -> scope.names.lookup y = some .local ->
      (∀ (q : Str) (cl : List (Str × Addr)) (doc pm cv ctv : Value) (T : Addr) (t : Tok), ∃ k, bindArgs (lamFd q params body scope cl (.ref T) doc pm cv ctv) ⟨[], []⟩ = seqItems? (.ref T) >>= k /\ k (some #[.int i t]) = pure [(y, .int i t)]) -> LamDf params body scope env
section
variable {X : Cx} {pins : List (Addr × Obj)} {σ : L2.St} {H : Hp} {s : Shared}
end
structure LamS2 (N : List Str) (sc scope : Scope) : Prop where
  kind : scope.kind = .function
  co : scope.isCoroutine = false
  gen : scope.isGenerator = false
  own : ∀ y ∈ scope.names, y.2 ≠ .cell /\ (y.2 = .local -> y.1 ∉ N)
  free : ∀ y ∈ scope.names, y.2 = .free -> sc.names.lookup y.1 = some .cell \/ sc.names.lookup y.1 = some .free
section
variable {X : Cx} {pins : List (Addr × Obj)} {σ : L2.St} {H HZ : Hp} {s s1 : Shared}
end
abbrev THD := Mem -> DV -> DEK -> Prop
section
variable {cl : ClW} {X : Cx} {pins : List (Addr × Obj)} {σ : L2.St} {H : Hp} {s : Shared}
end
section
variable {cl : ClW} {P : Program} {w : World} {K : PySem.W.Frag} {mg : Str -> Option Value} {base : Heap} {k : Nat} {f : Addr} {x qual a : Str} {params : Arguments} {body : List Stmt} {scope : Scope} {fd : FuncData} {N : List Str} {spT : THD -> THD} {t : D -> THD -> DTS}
end
section
variable {cl : ClW} {X : Cx} {W : WX} {k : Nat} {x a : Str} {spT : THD -> THD} {τ : DTE} {params : Arguments} {body : Expr} {scope : Scope} {cc P : Addr} {p pos lpos : Pos}
end
end DL
set_option Elab.async false
set_option linter.all false
set_option maxRecDepth 100000
set_option maxHeartbeats 4000000
set_option autoImplicit false
namespace DL
open PySem L2
section
variable {K : PySem.W.Frag} {cl : ClW} {X : Cx}
end
end DL
set_option Elab.async false
set_option linter.all false
set_option maxRecDepth 100000
set_option maxHeartbeats 4000000
set_option autoImplicit false
namespace DL
open PySem L2
abbrev NKey := Option Key
def nkD : NKey -> D
  | none => .non
  | some (.inl i) => .int i
  | some (.inr x) => .str x
def nkO : D -> Option NKey
  | .non => some none
  | .int i => some (some (.inl i))
  | .str x => some (some (.inr x))
  | _ => none
@[simp] theorem nkO_nkD (k : NKey) : nkO (nkD k) = some k := by rcases k with _ | _ | _ <;> rfl
section
variable {P : Program} {w : World} {H : Hp} {h : Heap} {a : Addr} {ep : Nat} {kvs : List (NKey × V)}
end
section
variable {cl : ClW} {X : Cx} {W : WX} {a b o i : Expr} {pos : Pos} {τa τb τo τi : DTE}
end
def KR (K : PySem.W.Frag) (cl : ClW) (F : Hp) : List (NKey × V) -> List (NKey × D) -> Prop
  | [], [] => True
  | p :: ps, q :: qs => p.1 = q.1 /\ Rep K cl F p.2 q.2 /\ KR K cl F ps qs
  | _, _ => False
section
variable {K : PySem.W.Frag} {cl : ClW} {F F' : Hp}
abbrev dNP (ep : Nat) (ps : List (NKey × D)) : D := .dN ep (ps.map (·.1)) (ps.map (·.2))
end
section
variable {cl : ClW} {X : Cx} {W : WX} {a b o i : Expr} {pos : Pos} {τa τb τo τi : DTE}
end
section
variable {cl : ClW} {X : Cx} {W : WX} {pos : Pos} {keys : List (Option Expr)} {values : List Expr}
end
end DL
set_option Elab.async false
set_option linter.all false
set_option maxRecDepth 100000
set_option maxHeartbeats 4000000
set_option autoImplicit false
namespace DL
open PySem L2
@[simp] def iKN (τ : DTE) : DTIg := fun ρ M R X => τ ρ M (fun d M1 => ∃ ep ks ds, vw M1 d = .dN ep ks ds /\ R (fun M => vw M d = .dN ep ks ds) (ks.map nkD) M1) X
section
variable {cl : ClW} {X : Cx} {W : WX} {e : Expr} {τ : DTE}
end
end DL
set_option Elab.async false
set_option linter.all false
set_option maxRecDepth 100000
set_option maxHeartbeats 2000000
set_option autoImplicit false
namespace DL
open PySem L2
def getterB (K : PySem.W.Frag) (g : Addr) (f : Str) : Bool := match K.lookup g with
  | some ⟨_, _, .func fd, _⟩ => match fd with
    | ⟨_, qual, ⟨[], [a], none, [], [], none, []⟩, .stmts [.Return (some (.Attribute (.Name s _) f' _)) _], sc, gl, [], .none, .none, _, _, _, code, _, bu⟩ =>
      (a.arg == "self") && ((s == "self") && ((f' == f) && (decide (gl = mainGlobals) && (decide (bu = builtinsNs) && (PySem.W.codeIn K code qual && (decide (sc.kind = .function) && ((!sc.isCoroutine) && ((!sc.isGenerator) && (decide (sc.names.lookup ("self" : Str) = some NameKind.local) && sc.names.all fun y => decide (y.2 ≠ NameKind.free))))))))))
    | _ => false
  | _ => false
structure PropX (K : PySem.W.Frag) (C : Addr) (nm f : Str) : Prop where
  cls : Cls K C
  no : NoAttr K C f
  ok : ∃ p g, PropOf K C nm p g /\ getterB K g f = true
section
variable {cl : ClW} {X : Cx} {W : WX} {o : Expr} {pos : Pos} {τ : DTE} {nm f : Str} {cs : List Nat} {k : Nat}
end
end DL
set_option Elab.async false
set_option linter.all false
set_option maxRecDepth 100000
set_option maxHeartbeats 2000000
set_option autoImplicit false
namespace DL
open PySem L2
section
variable {cl : ClW} {X : Cx} {W : WX} {j k c n n0 n1 : Nat} {ps ks : List Str} {ord : List Nat} {spd : SpD} {x m : Str} {p pos apos : Pos} {o e : Expr} {es : List Expr} {kws : List Keyword} {τ : DTE} {α β : DTA} {pl : Sem Bool}
end
end DL
set_option Elab.async false
set_option linter.all false
set_option maxRecDepth 100000
set_option maxHeartbeats 4000000
set_option autoImplicit false
namespace DL
open PySem PySem.Spec PyProof.Rows L2
section
variable {P : Program} {w : World}
end
section
variable {X : Cx} {pins : List (Addr × Obj)} {σ : L2.St} {H : Hp} {s : Shared} {a : Addr} {kvs : List (Key × V)}
end
section
variable {cl : ClW} {X : Cx} {W : WX} {kx vx tg iter : Expr} {ifs : List Expr} {scope : Scope} {own : List (Str × Nat)} {pos : Pos} {ι : DTI} {is : List Nat} {γ : DTG} {υ : DTT} {τk τv : DTE}
end
section
variable {X : Cx}
end
section
variable {cl : ClW} {X : Cx} {W : WX} {e : Expr} {τ : DTE} {p pos : Pos} {k : Nat}
end
end DL
set_option Elab.async false
set_option linter.all false
set_option maxRecDepth 100000
set_option maxHeartbeats 4000000
set_option autoImplicit false
namespace DL
open PySem PySem.Spec PyProof.Rows L2
section
variable {X : Cx}
end
section
variable {X : Cx} {o e : Expr} {es : List Expr} {to : TE} {t : TA} {apos cpos : Pos}
end
section
variable {K : PySem.W.Frag} {cl : ClW} {F F' : Hp}
end
section
variable {cl : ClW} {X : Cx} {W : WX} {o e : Expr} {es : List Expr} {apos cpos pos p : Pos} {τ : DTE} {α : DTA}
end
end DL
set_option Elab.async false
set_option linter.all false
set_option maxRecDepth 100000
set_option maxHeartbeats 4000000
set_option autoImplicit false
namespace DL
open PySem L2 PyProof.Rows
section
variable {P : Program} {w : World} {A : Around} {s : Shared}
end
section
variable {cl : ClW} {X : Cx} {W : WX} {e : Expr} {α : DTA} {p p1 p2 p3 q1 q2 q3 pt pos lpos kpos : Pos} {k i j k1 k2 k3 : Nat} {cc P : Addr} {x : Str} {params : Arguments} {scope : Scope}
end
end DL
set_option Elab.async false
set_option linter.all false
set_option maxRecDepth 100000
set_option maxHeartbeats 4000000
set_option autoImplicit false
namespace DL
open PySem L2
@[simp] def bInP (neg : Bool) : DB2 := fun d e _ M Q _ => ∃ (p : PyData) (xs : List D) (ps : List PyData), (e = .lst xs \/ e = .tup xs) /\ toPyX d = some p /\ toPyXs xs = some ps /\ p.plain = true /\ PyData.plainAll ps = true /\ p.depth <= 16 /\ Q (.bl (neg != ps.any fun y => PyData.eqv y p)) M
section
variable {cl : ClW} {X : Cx} {W : WX}
theorem bin_inP (sm : SmOk X.K) (hu : X.A.units + 64 < cLine) : BinG cl X W (compareOp .In) (bInP false) := fun pins s σ H F ρ M v u x y d e Q Qd Xd I rx ry g sl r1 r2 q p w => by
  obtain ⟨pd, xs, ps, he, t1, t2, p1, p2, hd, q⟩ := q
  obtain ⟨as, k1, _⟩ := reads_of I sm (r1.mono g.sub) rx t1
  have hdep : X.A.units + 1 + min (PyData.depthAll ps) pd.depth < cLine := by
    have : min (PyData.depthAll ps) pd.depth <= pd.depth := Nat.min_le_right _ _
    omega
  rw [Bool.false_bne] at q
  rcases he with rfl | rfl
  · obtain ⟨bs, k2, _⟩ := reads_of I sm (r2.mono g.sub) ry (p := .list ps) (by simp [toPyX, t2])
    exact PySem.SeqAt.in_list_data k2 k1 p2 p1 hdep ⟨.bl _, H, I, rfl, p.val g (.bl _) q⟩
  · obtain ⟨bs, k2, _⟩ := reads_of I sm (r2.mono g.sub) ry (p := .tuple ps) (by simp [toPyX, t2])
    exact PySem.SeqAt.in_tuple_data k2 k1 p2 p1 hdep ⟨.bl _, H, I, rfl, p.val g (.bl _) q⟩
theorem bin_ninP (sm : SmOk X.K) (hu : X.A.units + 64 < cLine) : BinG cl X W (compareOp .NotIn) (bInP true) := fun pins s σ H F ρ M v u x y d e Q Qd Xd I rx ry g sl r1 r2 q p w => by
  obtain ⟨pd, xs, ps, he, t1, t2, p1, p2, hd, q⟩ := q
  obtain ⟨as, k1, _⟩ := reads_of I sm (r1.mono g.sub) rx t1
  have hdep : X.A.units + 1 + min (PyData.depthAll ps) pd.depth < cLine := by
    have : min (PyData.depthAll ps) pd.depth <= pd.depth := Nat.min_le_right _ _
    omega
  rw [Bool.true_bne] at q
  rcases he with rfl | rfl
  · obtain ⟨bs, k2, _⟩ := reads_of I sm (r2.mono g.sub) ry (p := .list ps) (by simp [toPyX, t2])
    exact PySem.SeqAt.notIn_list_data k2 k1 p2 p1 hdep ⟨.bl _, H, I, rfl, p.val g (.bl _) q⟩
  · obtain ⟨bs, k2, _⟩ := reads_of I sm (r2.mono g.sub) ry (p := .tuple ps) (by simp [toPyX, t2])
    exact PySem.SeqAt.notIn_tuple_data k2 k1 p2 p1 hdep ⟨.bl _, H, I, rfl, p.val g (.bl _) q⟩
end
end DL
set_option Elab.async false
set_option linter.all false
set_option maxRecDepth 100000
set_option maxHeartbeats 4000000
set_option autoImplicit false
namespace DL
open PySem L2
abbrev TKey := List NKey
abbrev TEn := List (TKey × Addr × V)
section
variable {X : Cx} {pins : List (Addr × Obj)} {σ : St} {H : Hp} {s : Shared} {a b : Addr} {k : TKey} {ts : TEn} {ep : Nat}
end
section
variable {X : Cx}
end
def tkO : D -> Option TKey
  | .tup xs => xs.mapM nkO
  | _ => none
section
variable {K : PySem.W.Frag} {cl : ClW} {F H : Hp}
end
section
variable {cl : ClW} {X : Cx} {W : WX} {a b o i : Expr} {pos : Pos} {τa τb τo τi : DTE}
end
section
variable {K : PySem.W.Frag} {cl : ClW} {F : Hp}
end
section
variable {cl : ClW} {X : Cx} {W : WX} {a b o i : Expr} {pos : Pos} {τa τb τo τi : DTE}
end
end DL
set_option Elab.async false
set_option linter.all false
set_option maxRecDepth 100000
set_option maxHeartbeats 4000000
set_option autoImplicit false
namespace DL
open PySem L2
section
variable {X : Cx} {o e : Expr} {es : List Expr} {to : TE} {t : TA} {apos cpos : Pos} {m id : String} {r : V -> List V -> Hp -> VK -> Prop}
end
section
variable {prog : Program} {w : World} {K : Type} [DecidableEq K] {knd : KeyKind prog w K} {A : Around} {E : Value -> Shared -> Prop} {s : Shared}
end
def isDct : D -> Prop
  | .dN _ _ _ => True
  | .dT _ _ _ => True
  | _ => False
@[simp] theorem isDct_N (ep : Nat) (ks : List NKey) (ds : List D) : isDct (.dN ep ks ds) = True := rfl
@[simp] theorem isDct_T (ep : Nat) (ks : List TKey) (ds : List D) : isDct (.dT ep ks ds) = True := rfl
section
variable {cl : ClW} {X : Cx} {W : WX} {o e : Expr} {es : List Expr} {apos cpos pos p : Pos} {τ : DTE} {α : DTA}
end
end DL
set_option Elab.async false
set_option linter.all false
set_option maxRecDepth 100000
set_option maxHeartbeats 4000000
set_option autoImplicit false
namespace DL
open PySem PySem.Spec PyProof.Rows L2
abbrev DPut := Addr -> V -> V -> Hp -> (Hp -> Prop) -> Prop
section
variable {X : Cx} {kx vx tg iter : Expr} {ifs : List Expr} {sc : Scope} {pos : Pos} {g : TG} {tt : TT} {tk tv : TE} {put : DPut} {vs : List Nat} {a : Addr} {σ : L2.St}
end
section
variable {X : Cx} {kx vx tg iter : Expr} {ifs : List Expr} {sc : Scope} {own : List (Str × Nat)} {pos : Pos} {wi : TI} {g : TG} {tt : TT} {tk tv : TE} {zero : Addr -> HO -> Prop} {put : DPut}
end
end DL
set_option Elab.async false
set_option linter.all false
set_option maxRecDepth 100000
set_option maxHeartbeats 4000000
set_option autoImplicit false
namespace DL
open PySem PySem.Spec PyProof.Rows L2
section
variable {cl : ClW} {X : Cx} {W : WX} {kx vx tg iter : Expr} {ifs : List Expr} {scope : Scope} {own : List (Str × Nat)} {pos : Pos} {ι : DTI} {is : List Nat} {γ : DTG} {υ : DTT} {τk τv : DTE}
end
end DL
set_option Elab.async false
set_option linter.all false
set_option maxRecDepth 100000
set_option maxHeartbeats 4000000
set_option autoImplicit false
namespace DL
open PySem L2
@[simp] def iIN (τ : DTE) : DTI := fun ρ M R X => τ ρ M (fun d M1 => ∃ ep ks ds, d = .dN ep ks ds /\ R ((ks.zip ds).map fun p => .tup [nkD p.1, p.2]) M1) X
section
variable {cl : ClW} {X : Cx} {W : WX} {e : Expr} {τ : DTE}
end
end DL
set_option Elab.async false
set_option linter.all false
set_option maxRecDepth 100000
set_option maxHeartbeats 4000000
set_option autoImplicit false
namespace DL
open PySem L2
def tkD (k : TKey) : D := .tup (k.map nkD)
@[simp] theorem tkO_tkD (k : TKey) : tkO (tkD k) = some k := by
  unfold tkO tkD
  induction k with
  | nil => rfl
  | cons j k ih =>
    simp only at ih ⊢
    rw [List.map_cons, List.mapM_cons, ih, nkO_nkD]
    rfl
@[simp] def iKT (τ : DTE) : DTI := fun ρ M R X => τ ρ M (fun d M1 => ∃ ep ks ds, d = .dT ep ks ds /\ R (ks.map tkD) M1) X
section
variable {cl : ClW} {X : Cx} {W : WX} {e : Expr} {τ : DTE}
end
end DL
set_option Elab.async false
set_option linter.all false
set_option maxRecDepth 100000
set_option maxHeartbeats 4000000
set_option autoImplicit false
namespace DL
open PySem PySem.W PySem.Calls PyProof.Rows
section
variable {prog : Program} {w : World} {A : Around} {E : Value -> Shared -> Prop} {s : Shared}
end
end DL
set_option Elab.async false
set_option linter.all false
set_option maxRecDepth 100000
set_option maxHeartbeats 4000000
set_option autoImplicit false
namespace DL
open PySem L2 PyProof.Rows
section
variable {cl : ClW} {X : Cx} {W : WX} {e body : Expr} {α : DTA} {p pos lpos kpos : Pos} {k : Nat} {cc P : Addr} {params : Arguments} {scope : Scope} {KE : DL.Env -> List D -> (D -> PyData) -> Prop}
end
end DL
set_option Elab.async false
set_option linter.all false
set_option maxRecDepth 100000
set_option maxHeartbeats 4000000
set_option autoImplicit false
namespace DL
open PySem L2 PyProof.Rows
section
variable {P : Program} {w : World} {A : Around} {s : Shared}
end
end DL
set_option Elab.async false
set_option linter.all false
set_option maxRecDepth 100000
set_option maxHeartbeats 4000000
set_option autoImplicit false
namespace DL
open PySem L2 PyProof.Rows
structure KeyC (x y : Str) (scope : Scope) : Prop where
  kind : scope.kind = .function
  co : scope.isCoroutine = false
  gen : scope.isGenerator = false
  own : scope.names.lookup x = some .local
  nc : ∀ z ∈ scope.names, z.2 ≠ .cell
  free : scope.names.lookup y = some .free
  only : ∀ z ∈ scope.names, z.2 = .free -> z.1 = y
end DL
set_option Elab.async false
set_option linter.all false
set_option maxRecDepth 100000
set_option maxHeartbeats 4000000
set_option autoImplicit false
namespace DL
open PySem L2
end DL
set_option Elab.async false
set_option linter.all false
set_option maxRecDepth 100000
set_option maxHeartbeats 4000000
set_option autoImplicit false
namespace DL
open PySem L2
section
variable {cl : ClW} {X : Cx} {W : WX} {o : Expr} {pos : Pos} {τo : DTE} {f : Str} {cs : List Nat}
end
end DL
set_option Elab.async false
set_option linter.all false
set_option maxRecDepth 100000
set_option maxHeartbeats 4000000
set_option autoImplicit false
namespace DL
open PySem PySem.Spec PyProof.Rows L2
section
variable {X : Cx} {i : Nat} {y : Str} {py : Pos} {kx vx tg iter : Expr} {ifs : List Expr} {scope : Scope} {own : List (Str × Nat)} {pos spos : Pos} {wi : TI} {g : TG} {tt : TT} {tk tv : TE}
end
section
variable {cl : ClW} {X : Cx} {W : WX} {kx vx tg iter : Expr} {ifs : List Expr} {scope : Scope} {own : List (Str × Nat)} {pos : Pos} {ι : DTI} {is : List Nat} {γ : DTG} {υ : DTT} {τk τv : DTE}
end
end DL
set_option Elab.async false
set_option linter.all false
set_option maxRecDepth 100000
set_option maxHeartbeats 2000000
set_option autoImplicit false
namespace DL
open PySem L2
section
variable {cl : ClW} {X : Cx} {W : WX} {j k c n : Nat} {ps ks : List Str} {ord : List Nat} {spd : SpD} {m : Str} {pos apos : Pos} {o : Expr} {kws : List Keyword} {τ : DTE} {β : DTA} {pl : Sem Bool}
end
end DL
set_option Elab.async false
set_option linter.all false
set_option maxRecDepth 100000
set_option maxHeartbeats 4000000
set_option autoImplicit false
namespace DL
open PySem L2 PyProof.Rows
section
variable {cl : ClW} {X : Cx} {W : WX} {k : Nat} {tb : List (Nat × SpD)} {a b : Expr} {pos : Pos} {τa τb : DTE} {φ : DB2}
end
end DL
set_option Elab.async false
set_option linter.all false
set_option maxRecDepth 100000
set_option maxHeartbeats 4000000
set_option autoImplicit false
namespace DL
open PySem L2 PyProof.Rows
section
variable {cl : ClW} {X : Cx} {W : WX} {k : Nat} {tb : List (Nat × SpD)} {o i : Expr} {pos : Pos} {τo τi : DTE}
end
end DL
set_option Elab.async false
set_option linter.all false
set_option maxRecDepth 100000
set_option maxHeartbeats 4000000
set_option autoImplicit false
namespace DL
open PySem L2
open PySem.SeqAt
section
open AutoSeq1 (wpAny_loadPart')
variable {prog : Program} {w : World}
end
def neK : D -> D -> Bool
  | .non, .non => true
  | .non, .tup _ => true
  | .tup _, .non => true
  | .tup _, .tup _ => true
  | .lst _, .lst _ => true
  | _, _ => false
@[simp] def bNeZ : DB2 := fun d e _ M Q _ => ∃ d' e' n, Dv M d d' /\ Dv M e e' /\ n <= 60 /\ plX n d' = true /\ plX n e' = true /\ neK d' e' = true /\ Q (.bl (!eqX d' e')) M
section
variable {K : PySem.W.Frag} {cl : ClW} {F H : Hp} {M : Mem} {X : Cx} {W : WX}
end
section
variable {cl : ClW} {X : Cx} {W : WX} {j k c : Nat} {ps : List Str} {spd : SpD} {x m : Str} {p pos : Pos} {e : Expr} {es : List Expr} {τ : DTE} {α : DTA}
end
end DL
set_option Elab.async false
set_option linter.all false
set_option maxRecDepth 100000
set_option maxHeartbeats 4000000
set_option autoImplicit false
namespace DL
open PySem L2
open PySem.SeqAt
section
open AutoSeq1 (wpAny_loadPart')
open MeetsSeq MeetsSeq2 MeetsSeq3 SeqRoads2
variable {prog : Program} {w : World} {A : Around} {R : Result -> Shared -> Prop}
def ListJ (prog : Program) (w : World) (A : Around) (E : Value -> Shared -> Prop) (l b : Addr) (N : Nat) (I : Nat -> Shared -> Prop) : Prop :=
  ∀ i s, I i s -> ∃ (us vs : Array Value) (n m : Nat) (da db : Option Addr) (sa sb : Array (Option Value)), s.heap.get? l = some { cls := .type "list", dict := da, data := .seq us n, slots := sa } /\ s.heap.get? b = some { cls := .type "list", dict := db, data := .seq vs m, slots := sb } /\ us.size = N /\ vs.size = N /\
    ∀ (h1 : i < us.size) (h2 : i < vs.size), wpAny (model prog w) A.in1 (eqBool us[i] vs[i]) (fun r s' => r = true /\ I (i + 1) s') E s
theorem eqJ_turns (l b : Addr) (N : Nat) (I : Nat -> Shared -> Prop) (hl : ListJ prog w A (fun e s' => R (.error e) s') l b N I)
    (fin : ∀ s, I N s -> R (.ok (.ret (.bool true))) s) (k : Nat) :
    ∀ i : Nat, N - i = k -> i <= N -> ∀ s, I i s ->
      wpAny (model prog w) A.in1 (Builtin.«list.__eq__.loop» ⟨[.ref l, .ref b, rawInt i, rawInt 2], []⟩) (GQ.FinOf prog w A R) (fun e s' => R (.error e) s') s := by
  induction k with
  | zero =>
    intro i hk hi s h
    obtain ⟨us, vs, n, m, da, db, sa, sb, g1, g2, z1, z2, _⟩ := hl _ _ h
    have hi' : i = N := by omega
    have hR : R (.ok (.ret (.bool true))) s := fin s (hi' ▸ h)
    obtain ⟨hp, g, d, tk, os⟩ := s
    wp_walk using wpAny_loadPart' g1, wpAny_loadPart' g2
    have n1 : us[((i : Nat) : Int).toNat]? = none := by simp; omega
    have n2 : vs[((i : Nat) : Int).toNat]? = none := by simp; omega
    rw [n1, n2]
    wp_walk using wpAny_loadPart' g1, wpAny_loadPart' g2
    show R (.ok (.ret (.bool (us.size == vs.size)))) _
    rw [z1, z2]
    simpa using hR
  | succ k ih =>
    intro i hk hi s h
    obtain ⟨us, vs, n, m, da, db, sa, sb, g1, g2, z1, z2, turn⟩ := hl _ _ h
    have i1 : i < us.size := by omega
    have i2 : i < vs.size := by omega
    have ht := turn i1 i2
    obtain ⟨hp, g, d, tk, os⟩ := s
    wp_walk using wpAny_loadPart' g1, wpAny_loadPart' g2
    have e1 : us[((i : Nat) : Int).toNat]? = some us[i] := by simp [i1]
    have e2 : vs[((i : Nat) : Int).toNat]? = some vs[i] := by simp [i2]
    have hc : ((i : Int) + 1) = ((i + 1 : Nat) : Int) := by omega
    rw [e1, e2]
    refine wpAny_bind (wpAny_mono ht (fun r s2 h2 => ?_) fun _ _ x => x)
    obtain ⟨hr, h2⟩ := h2
    subst hr
    have hrec := ih (i + 1) (by omega) (by omega) s2 h2
    obtain ⟨hp2, g2', d2, tk2, os2⟩ := s2
    wp_walk
    rw [hc]
    exact ⟨plainId_quiet plain_eq_loop _, codeAny_builtin entry_eq_loop (by
      rw [Around.under_plainId plain_eq_loop _]
      exact hrec)⟩
theorem eqJ_list (l b : Addr) (N : Nat) (I : Nat -> Shared -> Prop) (hl : ListJ prog w A (fun e s' => R (.error e) s') l b N I)
    (fin : ∀ s, I N s -> R (.ok (.ret (.bool true))) s) {s : Shared} (h : I 0 s) :
    wpAny (model prog w) A.in1 (Builtin.«list.__eq__» ⟨[.ref l, .ref b], []⟩) (GQ.FinOf prog w A R) (fun e s' => R (.error e) s') s := by
  obtain ⟨us, vs, n, m, da, db, sa, sb, g1, g2, z1, z2, _⟩ := hl _ _ h
  have hrec := eqJ_turns (A := A) (R := R) l b N I hl fin _ 0 rfl (Nat.zero_le _) s h
  obtain ⟨hp, g, d, tk, os⟩ := s
  have f3 := AutoSeq1.sub_list_list
  have hne : ¬ (us.size != vs.size) = true := by simp [z1, z2]
  wp_walk using wpAny_loadPart' g1, wpAny_loadPart' g2
  exact ⟨plainId_quiet plain_eq_loop _, codeAny_builtin entry_eq_loop (by
    rw [Around.under_plainId plain_eq_loop _]
    exact hrec)⟩
end
section
variable {prog : Program} {w : World} {A : Around} {E : Value -> Shared -> Prop} {s : Shared}
theorem rc_listJ {l b : Addr} {N : Nat} {Q : Value -> Shared -> Prop} (hu : A.units < cLine) (I : Nat -> Shared -> Prop) (hl : ListJ prog w A E l b N I)
    (fin : ∀ s, I N s -> Q (.bool true) s) (h : I 0 s) : wpAny (model prog w) A (richCompare .Eq (.ref l) (.ref b)) Q E s := by
  obtain ⟨us, vs, n, m, da, db, sa, sb, g1, g2, _⟩ := hl _ _ h
  refine wpAny_richCompare_same_room (op := .Eq) ⟨_, g1, rfl⟩ ⟨_, g2, rfl⟩ F.slot_list_eq (GQ.call_here F.slot_list_eq ⟨_, g1, rfl⟩ F.entry_list_eq (F.args_list_eq_2 _ _) ?_) hu
  exact eqJ_list (R := wants (fun v s' => v ≠ .notImplemented /\ Q v s') E) l b N I hl (fun s' q => ⟨(fun x => nomatch x), fin s' q⟩) h
end
def eqRun (tb : List (Nat × SpD)) (cs : List Nat) (ρ : DL.Env) (X : DX) (q : Mem -> Prop) : List D -> List D -> Mem -> Prop
  | [], [], M => q M
  | x :: xs, y :: ys, M => eqRun tb cs ρ X q xs ys M /\ ∃ c ns ds c' ns' ds' spd, vw M x = .obj c ns ds /\ vw M y = .obj c' ns' ds' /\ c' ∈ cs /\ tb.lookup c = some spd /\
      spd [x, y] M (fun r M' => r = .bl true /\ eqRun tb cs ρ X q xs ys M') (fun c' ns es M' => X c' ns es ρ M')
  | _, _, _ => False
theorem eqRun_len {tb : List (Nat × SpD)} {cs : List Nat} {ρ : DL.Env} {X : DX} {q : Mem -> Prop} : ∀ {xs ys : List D} {M : Mem}, eqRun tb cs ρ X q xs ys M -> xs.length = ys.length
  | [], [], _, _ => rfl
  | x :: xs, y :: ys, M, h => by rw [List.length_cons, List.length_cons, eqRun_len h.1]
  | [], _ :: _, _, h => h.elim
  | _ :: _, [], _, h => h.elim
def bEqL (tb : List (Nat × SpD)) (cs : List Nat) (n : Bool) : DB2 := fun d e ρ M Q X => ∃ xs ys, d = .lst xs /\ e = .lst ys /\ eqRun tb cs ρ X (fun M' => Q (.bl !n) M') xs ys M
section
variable {cl : ClW} {X : Cx} {W : WX} {k : Nat} {tb : List (Nat × SpD)}
theorem own_lists {cs : List Nat} (cp : Cap X W (k + 1)) (nf : NfOk X.K cl cs) (htb : ∀ c spd, tb.lookup c = some spd -> c ∈ cs) (hm : ∀ c spd, tb.lookup c = some spd -> MethB cl X.prog X.w X.K X.mg X.base k c "__eq__" spd)
    {pins : List (Addr × Obj)} {σ : St} {F : Hp} {ρ : DL.Env} {Xd : DX} {q : Mem -> Prop} {a b : Addr} {vs ws : List V} {xs ys : List D} (a1 : SqL X.K F a vs) (a2 : Reps X.K cl F vs xs) (b1 : SqL X.K F b ws) (b2 : Reps X.K cl F ws ys)
    (sl : Slots X.K cl F σ ρ) (w : WOk X.K cl W F Xd) (hlen : xs.length = ys.length) :
    ListJ X.prog X.w X.A X.xe a b xs.length (fun i s' => i <= xs.length /\ ∃ H' F' M', Inv X pins σ H' s' /\ Same F F' /\ Good X.K cl F' H' M' /\ eqRun tb cs ρ Xd q (xs.drop i) (ys.drop i) M') := by
  rintro i s' ⟨hi, H', F', M', I, sm, g, q'⟩
  obtain ⟨its, t1, ⟨o, n, ho, hc, hd, hs⟩, z⟩ := I.list (same_l g.sub (same_l sm a1))
  obtain ⟨its2, t2, ⟨o2, n2, ho2, hc2, hd2, hs2⟩, z2⟩ := I.list (same_l g.sub (same_l sm b1))
  obtain ⟨c1, d1, p1, sl1⟩ := o
  obtain ⟨c2, d2, p2, sl2⟩ := o2
  simp only at hc hd hs hc2 hd2 hs2
  subst hc hd hs hc2 hd2 hs2
  have l1 := t1.length
  have l2 := t2.length
  have l3 := a2.length
  have l4 := b2.length
  refine ⟨its.toArray, its2.toArray, n, n2, _, _, _, _, ho, ho2, by rw [List.size_toArray]; omega, by rw [List.size_toArray]; omega, fun h1 h2 => ?_⟩
  rw [List.size_toArray] at h1 h2
  have i1 : i < xs.length := by omega
  have i2 : i < ys.length := by omega
  rw [List.drop_eq_getElem_cons i1, List.drop_eq_getElem_cons i2] at q'
  obtain ⟨qs, c, ns, ds, c', ns', ds', spd, e1, e1', hc', e2, q2⟩ := q'
  obtain ⟨x, hx, rx⟩ := (a2.mono sm).get (List.getElem?_eq_getElem i1)
  obtain ⟨y, hy, ry⟩ := (b2.mono sm).get (List.getElem?_eq_getElem i2)
  obtain ⟨u, hu, ru⟩ := t1.get hx
  obtain ⟨v, hv, rv⟩ := t2.get hy
  rw [List.getElem?_eq_getElem h1] at hu
  rw [List.getElem?_eq_getElem h2] at hv
  rw [List.getElem_toArray, List.getElem_toArray, Option.some.inj hu, Option.some.inj hv]
  obtain ⟨p, dx, fs, rfl, hp⟩ := obj_at g rx e1
  obtain ⟨p', dx', fs', rfl, hp'⟩ := obj_at g ry e1'
  obtain rfl : u = Value.ref p := ru
  obtain rfl : v = Value.ref p' := rv
  by_cases hpp : p = p'
  · subst hpp
    exact SeqAt.EqAt.same (A := X.A.in1) (s := s') (.ref p) X.prog X.w X.xe _ ⟨rfl, by omega, H', F', M', I, sm, g, qs⟩
  · obtain ⟨hcl, f, fd, ps, mt, hb, G⟩ := hm c spd e2
    obtain ⟨od, J⟩ := inst_at I hp
    obtain ⟨od', J'⟩ := inst_at I hp'
    obtain ⟨m, hF⟩ := I.fr
    refine GQ.eqBool_refG hpp (PySem.W.cmp_K (op := .Eq) cp.hr.in1.room.units0 hF I.ok.mod.kin J J'.type ((nf c (htb c spd e2)).2 c' hc') mt.at_ mt.fn ?_)
    refine wpAny_mono (run_gA (us := [.ref p, .ref p']) (vs := [.ref p, .ref p']) (Q := fun v H'' => v = .bl true /\ ∃ F'' M'', Same F F'' /\ Good X.K cl F'' H'' M'' /\ eqRun tb cs ρ Xd q (xs.drop (i + 1)) (ys.drop (i + 1)) M'') cp.tk cp.hr.in1 rfl G hb I (.cons rfl (.cons rfl .nil)) (low_call g (sl.mono sm) (.cons rx (.one ry)) q2 (fun v H'' F'' d M'' sm' g' r ⟨er, qq⟩ => ?_) (w.mono sm))) (fun r s'' ⟨z, H'', I'', rz, ez, F'', M'', sm', g', qq⟩ => ?_) fun _ _ h => h
    · subst er
      cases r
      exact ⟨rfl, F'', M'', sm.trans sm', g', qq⟩
    · subst ez
      cases rz
      exact ⟨true, rfl, rfl, by omega, H'', F'', M'', I'', sm', g', qq⟩
theorem own_eqL {cs : List Nat} (cp : Cap X W (k + 1)) (nf : NfOk X.K cl cs) (htb : ∀ c spd, tb.lookup c = some spd -> c ∈ cs) (hm : ∀ c spd, tb.lookup c = some spd -> MethB cl X.prog X.w X.K X.mg X.base k c "__eq__" spd) : BinG cl X W (compareOp .Eq) (bEqL tb cs false) := by
  intro pins s σ H F ρ M v u x y d e Q Qd Xd I rx ry g sl r1 r2 ⟨xs, ys, hd, he, q⟩ p w
  subst hd he
  obtain ⟨a, vs, rfl, a1, a2⟩ := r1.toLst
  obtain ⟨b, ws, rfl, b1, b2⟩ := r2.toLst
  obtain rfl : v = Value.ref a := rx
  obtain rfl : u = Value.ref b := ry
  have hlen := eqRun_len q
  refine rc_listJ (N := xs.length) cp.hr.room.units0 _ (own_lists cp nf htb hm (pins := pins) a1 a2 b1 b2 sl w hlen) (fun s' ⟨_, H', F', M', I', sm, g', q'⟩ => ?_) ⟨Nat.zero_le _, H, F, M, I, Same.refl _, g, q⟩
  rw [List.drop_length, hlen, List.drop_length] at q'
  exact ⟨.bl true, H', I', rfl, p _ _ _ _ _ sm g' (.bl true) q'⟩
end
theorem eqRun_all {tb : List (Nat × SpD)} {cs : List Nat} {ρ : DL.Env} {X : DX} {q : Mem -> Prop} {M : Mem} (hq : q M) : ∀ {xs ys : List D}, xs.length = ys.length ->
    (∀ (i : Nat) x y, xs[i]? = some x -> ys[i]? = some y -> ∃ c ns ds c' ns' ds' spd, vw M x = .obj c ns ds /\ vw M y = .obj c' ns' ds' /\ c' ∈ cs /\ tb.lookup c = some spd /\ ∀ Q : DV, Q (.bl true) M -> spd [x, y] M Q (fun c' ns es M' => X c' ns es ρ M')) -> eqRun tb cs ρ X q xs ys M
  | [], [], _, _ => hq
  | x :: xs, y :: ys, hl, h => by
    have r : eqRun tb cs ρ X q xs ys M := eqRun_all hq (by simpa using hl) fun i a b ha hb => h (i + 1) a b (by simpa using ha) (by simpa using hb)
    obtain ⟨c, ns, ds, c', ns', ds', spd, e1, e2, e3, e4, e5⟩ := h 0 x y rfl rfl
    exact ⟨r, c, ns, ds, c', ns', ds', spd, e1, e2, e3, e4, e5 _ ⟨rfl, r⟩⟩
  | [], _ :: _, hl, _ => by simp at hl
  | _ :: _, [], hl, _ => by simp at hl
end DL
set_option Elab.async false
set_option linter.all false
set_option maxRecDepth 100000
set_option maxHeartbeats 4000000
set_option autoImplicit false
namespace DL
open PySem L2
open PySem.SeqAt
theorem eqAt_byt {A : Around} {s : Shared} {b c : Array UInt8} {t u : Tok} (hu : A.units < cLine) : EqAt A s (.bytes b t) (.bytes c u) (b == c) := fun prog w E Q hq => by
  unfold eqBool
  refine wpAny_holding ?_
  refine wpAny_ite_split (fun hab => ?_) (fun _ => wpAny_bind (DLC.rc_bytes hu (wpAny_truthy_bool hq)))
  have e := eq_of_beq hab
  injection e with e1 e2
  rw [e1, beq_self_eq_true] at hq
  exact wpAny_bind (wpAny_rule (wpAny_pure hq))
def hasB (bs : List (Array UInt8)) (b : Array UInt8) : Bool := bs.any fun c => c == b
theorem hasB_iff {bs : List (Array UInt8)} {b : Array UInt8} : hasB bs b = true ↔ b ∈ bs := by
  unfold hasB
  rw [List.any_eq_true]
  constructor
  · rintro ⟨c, hc, e⟩
    rw [<- eq_of_beq e]; exact hc
  · intro h
    exact ⟨b, h, beq_self_eq_true b⟩
@[simp] def bInB (neg : Bool) : DB2 := fun d e _ M Q _ => ∃ (b : Array UInt8) (bs : List (Array UInt8)), vw M d = .byt b /\ (vw M e = .lst (bs.map D.byt) \/ vw M e = .tup (bs.map D.byt)) /\ Q (.bl (neg != hasB bs b)) M
def isB (b : Array UInt8) (y : Value) : Bool := match y with
  | .bytes c _ => c == b
  | _ => false
theorem byt_items {bs : List (Array UInt8)} {us : List Value} (r : Vals (bs.map V.byt) us) (b : Array UInt8) : (∀ u ∈ us, ∃ c t, u = .bytes c t) /\ us.any (isB b) = hasB bs b := by
  induction bs generalizing us with
  | nil =>
    cases r
    refine ⟨fun u hu => ?_, rfl⟩
    cases hu
  | cons z zs ih =>
    cases r with
    | cons r1 r2 =>
      obtain ⟨h1, h2⟩ := ih r2
      obtain ⟨t, rfl⟩ := r1
      refine ⟨fun u hu => ?_, ?_⟩
      · rcases List.mem_cons.mp hu with rfl | hu
        · exact ⟨_, _, rfl⟩
        · exact h1 u hu
      · rw [List.any_cons, h2]
        rfl
section
variable {cl : ClW} {X : Cx} {W : WX} {pins : List (Addr × Obj)} {σ : St} {H F : Hp} {M : Mem} {s : Shared}
theorem byt_seq {e : D} {y : V} {bs : List (Array UInt8)} (g : Good X.K cl F H M) (r2 : Rep X.K cl F y e) (he : vw M e = .lst (bs.map D.byt) \/ vw M e = .tup (bs.map D.byt)) : ∃ p, y = .ref p /\ (SqL X.K H p (bs.map V.byt) \/ SqT X.K H p (bs.map V.byt)) := by
  have hv := vw_ok g r2
  rcases he with he | he
  · rw [he] at hv
    obtain ⟨a, vs, rfl, h1, h2⟩ := hv.lst g.sub
    rw [Reps.byts h2] at h1
    exact ⟨a, rfl, .inl h1⟩
  · rw [he] at hv
    obtain ⟨a, vs, rfl, h1, h2⟩ := hv.tup g.sub
    rw [Reps.byts h2] at h1
    exact ⟨a, rfl, .inr h1⟩
theorem byt_val {d : D} {x : V} {v : Value} {b : Array UInt8} (g : Good X.K cl F H M) (r1 : Rep X.K cl F x d) (he : vw M d = .byt b) (rx : RelV x v) : ∃ t, v = .bytes b t := by
  have hv := vw_ok g r1
  rw [he] at hv
  obtain rfl := hv.byt
  exact rx
theorem bin_inB (hu : X.A.units + 64 < cLine) : BinG cl X W (compareOp .In) (bInB false) := fun pins s σ H F ρ M v u x y d e Q Qd Xd I rx ry g sl r1 r2 q p w => by
  obtain ⟨b, bs, hd, he, q⟩ := q
  obtain ⟨t, rfl⟩ := byt_val g r1 hd rx
  obtain ⟨a, rfl, hq⟩ := byt_seq g r2 he
  cases ry
  rw [Bool.false_bne] at q
  have hA : X.A.in1.units < cLine := by show X.A.units + 1 < cLine; omega
  rcases hq with hq | hq
  · obtain ⟨its, r, pl, hz⟩ := I.list hq
    obtain ⟨h1, h2⟩ := byt_items r b
    refine in_listAt (isB b) pl.isList (fun w hw => ?_) ⟨.bl _, H, I, rfl, ?_⟩
    · obtain ⟨c, u, rfl⟩ := h1 w (by simpa using hw)
      exact eqAt_byt hA
    · rw [List.any_toArray, h2]
      exact p.val g (.bl _) q
  · obtain ⟨its, r, pl, hz⟩ := I.tuple hq
    obtain ⟨h1, h2⟩ := byt_items r b
    refine in_tupleAt (isB b) pl (fun w hw => ?_) ⟨.bl _, H, I, rfl, ?_⟩
    · obtain ⟨c, u, rfl⟩ := h1 w (by simpa using hw)
      exact eqAt_byt hA
    · rw [List.any_toArray, h2]
      exact p.val g (.bl _) q
end
end DL
set_option Elab.async false
set_option linter.all false
set_option maxRecDepth 100000
set_option maxHeartbeats 4000000
set_option autoImplicit false
namespace DL
open PySem L2
section
open PySem.Builtin PySem.W.FB PySem.W
theorem slot_bytes_repr : Slot "bytes" "__repr__" "bytes.__repr__" :=
  .of (owner := "bytes") (n := "__repr__") (by rw [typeLookup_type, builtinLookup_eq_fast]; kernel_rfl) (by decide +kernel) (by decide +kernel) (by decide +kernel)
    (by first | exact .inl (by decide +kernel) | exact .inr (by decide +kernel)) (by rw [isSubtype_type]; kernel_rfl)
theorem entry_bytes_repr : entryFor table "bytes.__repr__" = some Builtin.«bytes.__repr__» := entryFor_of_tree (by kernel_rfl)
theorem args_bytes_repr_1 (a : Value) : argsOk "bytes.__repr__" ⟨[a], []⟩ := by
  unfold argsOk; rw [signature?_of (id := "bytes.__repr__") (n := ['_', '_', 'r', 'p', 'e', 'r', '_', '_']) (o := ['s', 'e', 't', 'y', 'b']) (by kernel_rfl) owner_bytes]; kernel_rfl
def litB (b : Array UInt8) : Str := Bytes.literal b false
theorem gives_bytes_repr (b : Array UInt8) (t : Tok) (h : 4 * b.size + 3 <= sizeLine) : Gives («bytes.__repr__» ⟨[.bytes b t], []⟩) (.str (litB b)) := by
  have h2 : Bytes.tooLong (4 * b.size + 3 + 0) = false := by
    unfold Bytes.tooLong
    exact decide_eq_false (by omega)
  refine .of_eq ?_
  show (do let x <- Bytes.literalAsked b false 0; retStr x) = _
  unfold Bytes.literalAsked
  rw [h2]
  rfl
theorem pyReprObj_bytes {prog : Program} {w : World} {A : Around} {E Q : Value -> Shared -> Prop} {s : Shared} {b : Array UInt8} {t : Tok} (h1 : 4 * b.size + 3 <= sizeLine) (h : Q (.str (litB b) s.toks) { s with toks := s.toks + 1 }) (hx : (litB b).length <= sizeLine) : wpAny (model prog w) A (pyReprObj (.bytes b t)) Q E s :=
  wpAny_pyReprObj_gives (typeIs_bytes s b t) slot_bytes_repr entry_bytes_repr (args_bytes_repr_1 _) (gives_bytes_repr b t h1) h (hx := hx)
theorem reprIs_bytes {prog : Program} {w : World} (b : Array UInt8) (t : Tok) (h1 : 4 * b.size + 3 <= sizeLine) (hx : (litB b).length <= sizeLine) : ReprIs prog w (.bytes b t) (litB b) := fun n hn _ _ _ _ h => by
  have hn' : n <= sizeLine := by omega
  rw [pyReprUnder_leaf (v := .bytes b t) hn' (fun _ e => nomatch e)]
  unfold pyRepr
  exact wpAny_bind (pyReprObj_bytes h1 (wpAny_pure (h _)) hx)
end
mutual
def shY : D -> Option Str
  | .non => some "None"
  | .bl b => some (if b then "True" else "False")
  | .int i => if i.natAbs.log2 < 1920 then some (toString i) else none
  | .str x => if (reprText x).length <= sizeLine then some (reprText x) else none
  | .byt b => if 4 * b.size + 3 <= sizeLine /\ (litB b).length <= sizeLine then some (litB b) else none
  | .lst xs => (shYs xs).bind fun ts => if (listText ts).length <= sizeLine then some (listText ts) else none
  | .tup xs => (shYs xs).bind fun ts => if (tupleText ts).length <= sizeLine then some (tupleText ts) else none
  | .dK [] [] => some (dictText [])
  | _ => none
def shYs : List D -> Option (List Str)
  | [] => some []
  | x :: xs => (shY x).bind fun t => (shYs xs).map fun ts => t :: ts
end
mutual
def depY : D -> Nat
  | .lst xs => depYs xs + 1
  | .tup xs => depYs xs + 1
  | .dK [] [] => 1
  | _ => 0
def depYs : List D -> Nat
  | [] => 0
  | x :: xs => max (depY x) (depYs xs)
end
mutual
inductive RdY (h : Heap) : Value -> D -> Prop where
  | non : RdY h .none .non
  | bl (b : Bool) : RdY h (.bool b) (.bl b)
  | int (i : Int) (t : Tok) : RdY h (.int i t) (.int i)
  | str (x : Str) (t : Tok) : RdY h (.str x t) (.str x)
  | byt (b : Array UInt8) (t : Tok) : RdY h (.bytes b t) (.byt b)
  | lst {a : Addr} {o : Obj} {its : Array Value} {n : Nat} {ds : List D} : h.get? a = some o -> o.cls = .type "list" -> o.data = .seq its n -> RdYs h its.toList ds -> RdY h (.ref a) (.lst ds)
  | tup {a : Addr} {o : Obj} {its : Array Value} {n : Nat} {ds : List D} : h.get? a = some o -> o.cls = .type "tuple" -> o.data = .seq its n -> RdYs h its.toList ds -> RdY h (.ref a) (.tup ds)
  | dic {a : Addr} {o : Obj} {es : Array DictEntry} {ep : Nat} : h.get? a = some o -> o.cls = .type "dict" -> o.data = .dict es ep -> es.toList = [] -> (a == sysModules) = false -> RdY h (.ref a) (.dK [] [])
inductive RdYs (h : Heap) : List Value -> List D -> Prop where
  | nil : RdYs h [] []
  | cons {v : Value} {d : D} {vs : List Value} {ds : List D} : RdY h v d -> RdYs h vs ds -> RdYs h (v :: vs) (d :: ds)
end
mutual
theorem RdY.det {h : Heap} : ∀ {v : Value} {d d' : D}, RdY h v d -> RdY h v d' -> d = d'
  | _, _, _, .non, r => by cases r; rfl
  | _, _, _, .bl b, r => by cases r; rfl
  | _, _, _, .int i t, r => by cases r; rfl
  | _, _, _, .str x t, r => by cases r; rfl
  | _, _, _, .byt b t, r => by cases r; rfl
  | _, _, _, .lst h1 h2 h3 h4, r => by
    cases r with
    | lst k1 k2 k3 k4 =>
      rw [h1] at k1
      cases k1
      rw [h3] at k3
      cases k3
      rw [RdYs.det h4 k4]
    | tup k1 k2 k3 k4 =>
      rw [h1] at k1
      cases k1
      rw [h2] at k2
      exact absurd k2 (by decide)
    | dic k1 k2 k3 k4 k5 =>
      rw [h1] at k1
      cases k1
      rw [h2] at k2
      exact absurd k2 (by decide)
  | _, _, _, .tup h1 h2 h3 h4, r => by
    cases r with
    | tup k1 k2 k3 k4 =>
      rw [h1] at k1
      cases k1
      rw [h3] at k3
      cases k3
      rw [RdYs.det h4 k4]
    | lst k1 k2 k3 k4 =>
      rw [h1] at k1
      cases k1
      rw [h2] at k2
      exact absurd k2 (by decide)
    | dic k1 k2 k3 k4 k5 =>
      rw [h1] at k1
      cases k1
      rw [h2] at k2
      exact absurd k2 (by decide)
  | _, _, _, .dic h1 h2 h3 h4 h5, r => by
    cases r with
    | dic k1 k2 k3 k4 k5 => rfl
    | lst k1 k2 k3 k4 =>
      rw [h1] at k1
      cases k1
      rw [h2] at k2
      exact absurd k2 (by decide)
    | tup k1 k2 k3 k4 =>
      rw [h1] at k1
      cases k1
      rw [h2] at k2
      exact absurd k2 (by decide)
theorem RdYs.det {h : Heap} : ∀ {vs : List Value} {ds ds' : List D}, RdYs h vs ds -> RdYs h vs ds' -> ds = ds'
  | _, _, _, .nil, r => by cases r; rfl
  | _, _, _, .cons h1 h2, r => by
    cases r with
    | cons k1 k2 => rw [RdY.det h1 k1, RdYs.det h2 k2]
end
def AtMostY (h₀ : Heap) (n : Nat) (bs : List Addr) : Prop := ∀ b ∈ bs, ∃ d, RdY h₀ (.ref b) d /\ depY d <= n
theorem AtMostY.mono {h₀ : Heap} {n m : Nat} {bs : List Addr} (h : AtMostY h₀ n bs) (hn : n <= m) : AtMostY h₀ m bs := fun b hb => by
  obtain ⟨d, r, hd⟩ := h b hb
  exact ⟨d, r, Nat.le_trans hd hn⟩
theorem AtMostY.off {h₀ : Heap} {n : Nat} {bs : List Addr} {a : Addr} {d : D} (h : AtMostY h₀ n bs) (r : RdY h₀ (.ref a) d) (hd : n < depY d) : a ∉ bs := fun hm => by
  obtain ⟨d', r', hd'⟩ := h a hm
  rw [r.det r'] at hd
  omega
theorem AtMostY.cons {h₀ : Heap} {n : Nat} {bs : List Addr} {a : Addr} {d : D} (h : AtMostY h₀ n bs) (r : RdY h₀ (.ref a) d) (hd : n <= depY d) : AtMostY h₀ (depY d) (a :: bs) := fun b hb => by
  rcases List.mem_cons.mp hb with rfl | hb
  · exact ⟨d, r, Nat.le_refl _⟩
  · exact h.mono hd b hb
section
variable {prog : Program} {w : World} {h₀ : Heap}
mutual
theorem reprY : ∀ {v : Value} {d : D} {t : Str}, RdY h₀ v d -> shY d = some t -> ∃ bs, AtMostY h₀ (depY d) bs /\ ReprK prog w bs h₀ (depY d) v t
  | _, _, _, .non, e => by
    simp only [shY, Option.some.injEq] at e
    subst e
    exact ⟨[], (fun _ h => nomatch h), .of_is ReprIs.none _ _ _⟩
  | _, _, _, .bl b, e => by
    simp only [shY, Option.some.injEq] at e
    subst e
    exact ⟨[], (fun _ h => nomatch h), .of_is (ReprIs.bool b) _ _ _⟩
  | _, _, _, .int i t, e => by
    simp only [shY] at e
    by_cases c : i.natAbs.log2 < 1920
    · rw [if_pos c] at e
      cases e
      exact ⟨[], (fun _ h => nomatch h), .of_is (ReprIs.int t c) _ _ _⟩
    · rw [if_neg c] at e; cases e
  | _, _, _, .str x t, e => by
    simp only [shY] at e
    by_cases c : (reprText x).length <= sizeLine
    · rw [if_pos c] at e
      cases e
      exact ⟨[], (fun _ h => nomatch h), .of_is (ReprIs.str x t c) _ _ _⟩
    · rw [if_neg c] at e; cases e
  | _, _, _, .byt b t, e => by
    simp only [shY] at e
    by_cases c : 4 * b.size + 3 <= sizeLine /\ (litB b).length <= sizeLine
    · rw [if_pos c] at e
      cases e
      exact ⟨[], (fun _ h => nomatch h), .of_is (reprIs_bytes b t c.1 c.2) _ _ _⟩
    · rw [if_neg c] at e; cases e
  | _, _, _, .lst (a := a) (its := its) (ds := ds) h1 h2 h3 h4, e => by
    simp only [shY] at e
    obtain ⟨ts, e1, e2⟩ := Option.bind_eq_some_iff.mp e
    by_cases c : (listText ts).length <= sizeLine
    · rw [if_pos c] at e2
      cases e2
      obtain ⟨bs, hb, hk⟩ := reprYs h4 e1
      have r : RdY h₀ (.ref a) (.lst ds) := .lst h1 h2 h3 h4
      have hna : a ∉ bs := hb.off r (by simp only [depY]; omega)
      refine ⟨a :: bs, hb.cons r (by simp only [depY]; omega), ?_⟩
      simp only [depY]
      obtain ⟨l⟩ := its
      cases l with
      | nil =>
        have h4' : RdYs h₀ [] ds := h4
        cases h4'
        simp only [shYs, Option.some.injEq] at e1
        subst e1
        rw [listText_nil]
        exact ReprK.listEmpty h1 h2 h3
      | cons x l => exact ReprK.list h1 h2 h3 hna (by simpa using hk.length_eq) (fun i y e => hk.item i y (by simpa using e))
    · rw [if_neg c] at e2; cases e2
  | _, _, _, .tup (a := a) (its := its) (ds := ds) h1 h2 h3 h4, e => by
    simp only [shY] at e
    obtain ⟨ts, e1, e2⟩ := Option.bind_eq_some_iff.mp e
    by_cases c : (tupleText ts).length <= sizeLine
    · rw [if_pos c] at e2
      cases e2
      obtain ⟨bs, hb, hk⟩ := reprYs h4 e1
      have r : RdY h₀ (.ref a) (.tup ds) := .tup h1 h2 h3 h4
      have hna : a ∉ bs := hb.off r (by simp only [depY]; omega)
      refine ⟨a :: bs, hb.cons r (by simp only [depY]; omega), ?_⟩
      simp only [depY]
      exact ReprK.tuple h1 h2 h3 hna hk
    · rw [if_neg c] at e2; cases e2
  | _, _, _, .dic (a := a) h1 h2 h3 h4 h5, e => by
    simp only [shY, Option.some.injEq] at e
    subst e
    have r : RdY h₀ (.ref a) (.dK [] []) := .dic h1 h2 h3 h4 h5
    refine ⟨[a], AtMostY.cons (n := 0) (fun _ h => nomatch h) r (Nat.zero_le _), ?_⟩
    simp only [depY]
    exact ReprK.dict h1 h2 h3 h5 (by simp) (by rw [h4]; exact .nil)
theorem reprYs : ∀ {vs : List Value} {ds : List D} {ts : List Str}, RdYs h₀ vs ds -> shYs ds = some ts -> ∃ bs, AtMostY h₀ (depYs ds) bs /\ ReprAllK prog w bs h₀ (depYs ds) vs ts
  | _, _, _, .nil, e => by
    simp only [shYs, Option.some.injEq] at e
    subst e
    exact ⟨[], (fun _ h => nomatch h), .nil⟩
  | _, _, _, .cons (d := d) (ds := ds) r rs, e => by
    simp only [shYs] at e
    obtain ⟨t, e1, e2⟩ := Option.bind_eq_some_iff.mp e
    obtain ⟨ts, e3, rfl⟩ := Option.map_eq_some_iff.mp e2
    obtain ⟨b1, hb1, k1⟩ := reprY r e1
    obtain ⟨b2, hb2, k2⟩ := reprYs rs e3
    refine ⟨b1 ++ b2, fun b hb => ?_, ?_⟩
    · simp only [depYs]
      rcases List.mem_append.mp hb with hb | hb
      · exact hb1.mono (Nat.le_max_left _ _) b hb
      · exact hb2.mono (Nat.le_max_right _ _) b hb
    · simp only [depYs]
      exact .cons ((k1.more fun b hb => List.mem_append_left _ hb).level_le (Nat.le_max_left _ _)) (k2.more_le (fun b hb => List.mem_append_right _ hb) (Nat.le_max_right _ _))
end
theorem repr_lstY {a : Addr} {ds : List D} {t : Str} {A : Around} {E Q : Value -> Shared -> Prop} {s : Shared} (r : RdY h₀ (.ref a) (.lst ds)) (e : shY (.lst ds) = some t) (hg : A.guards = some []) (hu : A.units + (depY (.lst ds) + 1) < cLine) (hk0 : ∀ b o, h₀.get? b = some o -> s.heap.get? b = some o)
    (hQ : ∀ h' u tk, (∀ b o, s.heap.get? b = some o -> h'.get? b = some o) -> Q (.str t u) { s with heap := h', toks := tk }) : wpAny (model prog w) A (call (.builtin "repr") [.ref a]) Q E s := by
  cases r with
  | lst h1 h2 h3 h4 =>
    rename_i o its n
    simp only [shY] at e
    obtain ⟨ts, e1, e2⟩ := Option.bind_eq_some_iff.mp e
    by_cases c : (listText ts).length <= sizeLine
    · rw [if_pos c] at e2
      cases e2
      obtain ⟨bs, hb, hk⟩ := reprYs (prog := prog) (w := w) h4 e1
      have hna : a ∉ bs := hb.off (.lst h1 h2 h3 h4) (by simp only [depY]; omega)
      simp only [depY] at hu
      refine call_repr_slot (by omega) (T := "list") ⟨o, hk0 _ _ h1, h2⟩ F.slot_list_repr.toG ?_
      obtain ⟨l⟩ := its
      cases l with
      | nil =>
        have h4' : RdYs h₀ [] ds := h4
        cases h4'
        simp only [shYs, Option.some.injEq] at e1
        subst e1
        rw [listText_nil] at hQ
        exact call_list_repr_empty ⟨o, hk0 _ _ h1, h2⟩ (hk0 _ _ h1) h3 ⟨_, _, rfl, hQ s.heap _ _ fun _ _ e => e⟩
      | cons x l =>
        exact call_list_reprK h1 h2 h3 hna (by simpa using hk.length_eq) (fun i y e => hk.item i y (by simpa using e)) hg (fun b _ => Clear.nil b) (by show A.units + 1 + _ < cLine; omega) hk0 (fun h' u tk hk => ⟨_, _, rfl, hQ h' u tk hk⟩) c
    · rw [if_neg c] at e2; cases e2
end
section
open HT
variable {X : Cx} {cl : ClW} {pins : List (Addr × Obj)} {σ : St} {H : Hp} {s : Shared}
mutual
theorem rdY_of (I : Inv X pins σ H s) : ∀ {x : V} {d : D}, Rep X.K cl H x d -> ∀ {u : Value} {t : Str}, RelV x u -> shY d = some t -> RdY s.heap u d
  | _, _, .non, u, t, r, e => by cases (show u = Value.none from r); exact .non
  | _, _, .bl b, u, t, r, e => by cases (show u = Value.bool b from r); exact .bl b
  | _, _, .int i, u, t, r, e => by obtain ⟨t, rfl⟩ := r; exact .int i t
  | _, _, .str z, u, t, r, e => by obtain ⟨t, rfl⟩ := r; exact .str z t
  | _, _, .byt z, u, t, r, e => by obtain ⟨t, rfl⟩ := r; exact .byt z t
  | _, _, .lst h1 h2, u, t, r, e => by
    cases (show u = Value.ref _ from r)
    obtain ⟨us, r1, p1, _⟩ := I.list h1
    obtain ⟨o, ho, hc, n, hd⟩ := p1.isList
    simp only [shY] at e
    obtain ⟨ts, e1, _⟩ := Option.bind_eq_some_iff.mp e
    exact .lst ho hc hd (rdYs_of I h2 r1 e1)
  | _, _, .tup h1 h2, u, t, r, e => by
    cases (show u = Value.ref _ from r)
    obtain ⟨us, r1, p1, _⟩ := I.tuple h1.sq
    obtain ⟨o, ho, hc, n, hd⟩ := p1
    simp only [shY] at e
    obtain ⟨ts, e1, _⟩ := Option.bind_eq_some_iff.mp e
    exact .tup ho hc hd (rdYs_of I h2 r1 e1)
  | _, _, .dK (a := a) (ks := ks) (ds := ds) h1 h2 h3, u, t, r, e => by
    cases (show u = Value.ref _ from r)
    obtain ⟨_, y, us, r1, dd⟩ := (show ObjOk X.prog X.w H s.heap _ (.dK _) from I.hok _ _ h1)
    cases ks with
    | cons k ks => simp [shY] at e
    | nil =>
      cases ds with
      | cons d ds => simp [shY] at e
      | nil =>
        have hu : us = [] := by
          have := KV.length r1
          simp at this
          exact List.eq_nil_of_length_eq_zero this.symm
        subst hu
        obtain ⟨o, es, ep, ho, hx, hd, _, hp, _⟩ := dd
        have he : es.toList = [] := List.eq_nil_of_length_eq_zero (by rw [hp.length]; rfl)
        exact .dic ho hx.1 hd he y
  | _, _, .ty b, u, t, r, e => by simp [shY] at e
  | _, _, .ref b, u, t, r, e => by simp [shY] at e
  | _, _, .cls b, u, t, r, e => by simp [shY] at e
  | _, _, .dT _ _ _ _, u, t, r, e => by simp [shY] at e
  | _, _, .obj _ _ _, u, t, r, e => by simp [shY] at e
  | _, _, .exc _ _ _, u, t, r, e => by simp [shY] at e
  | _, _, .xob _ _ _, u, t, r, e => by simp [shY] at e
  | _, _, .thk _ _, u, t, r, e => by simp [shY] at e
  | _, _, .dN _ _ _, u, t, r, e => by simp [shY] at e
theorem rdYs_of (I : Inv X pins σ H s) : ∀ {xs : List V} {ds : List D}, Reps X.K cl H xs ds -> ∀ {us : List Value} {ts : List Str}, Vals xs us -> shYs ds = some ts -> RdYs s.heap us ds
  | _, _, .nil, us, ts, r, e => by cases r; exact .nil
  | _, _, .cons h t, us, ts, r, e => by
    cases r with
    | cons r1 r2 =>
      simp only [shYs] at e
      obtain ⟨t1, e1, e2⟩ := Option.bind_eq_some_iff.mp e
      obtain ⟨t2, e3, _⟩ := Option.map_eq_some_iff.mp e2
      exact .cons (rdY_of I h r1 e1) (rdYs_of I t r2 e3)
end
end
section
variable {K : PySem.W.Frag} {cl : ClW} {X : Cx}
def reprY1 : List D -> Option D
  | [.lst xs] => (shY (.lst xs)).bind fun t => if depY (.lst xs) <= 100 then some (.str t) else none
  | _ => none
def rReprY (K : PySem.W.Frag) (cl : ClW) : List V -> Hp -> VK -> Prop := fun xs H Q => ∃ a ds t, xs = [.ref a] /\ Rep K cl H (.ref a) (.lst ds) /\ shY (.lst ds) = some t /\ depY (.lst ds) <= 100 /\ Q (.str t) H
theorem call_reprY {k : Nat} (c : RoomG k X.A) : CallR X (.builtin "repr") (rReprY X.K cl) := by
  intro pins s σ H xs us Q I r ⟨a, ds, t, e, hr, hs, hd, q⟩
  subst e
  obtain ⟨u, rfl, ru⟩ := vals1 r
  have un := c.room.un
  have rd := rdY_of I hr ru hs
  obtain rfl : u = Value.ref a := ru
  exact repr_lstY rd hs c.gd (by omega) (fun _ _ e => e) (fun h' t' tk kp => ⟨.str _, H, I.kept (t' := tk) kp, ⟨_, rfl⟩, q⟩)
theorem lc_reprY : LCall K cl (rReprY K cl) reprY1 := by
  intro F H M xs ds z Q Qd g r h p q
  cases ds with
  | nil => cases h
  | cons d t =>
    cases t with
    | cons => cases hv : vw M d <;> simp [reprY1, hv] at h
    | nil =>
      obtain ⟨v, ws, rfl, r1, r2⟩ := r.inv
      obtain rfl := r2.inv0
      cases hv : vw M d with
      | lst ys =>
        have hw := vw_ok g r1
        rw [hv] at hw
        obtain ⟨a, vs, rfl, h1, h2⟩ := hw.lst g.sub
        simp only [List.map_cons, List.map_nil, hv, reprY1] at h
        obtain ⟨t, e1, e2⟩ := Option.bind_eq_some_iff.mp h
        by_cases c : depY (.lst ys) <= 100
        · rw [if_pos c] at e2
          cases e2
          exact ⟨a, ys, t, rfl, .lst h1 (h2.mono g.sub), e1, c, p.val g (.str _) q⟩
        · rw [if_neg c] at e2; cases e2
      | _ => simp [reprY1, hv] at h
end
end DL
set_option Elab.async false
set_option linter.all false
set_option maxRecDepth 100000
set_option maxHeartbeats 4000000
set_option autoImplicit true
namespace LawProof
open PySem L2 DL
def top (i : Nat) : Stmt := PySem.Challenge.pw_forestrows_k20_key_rows_judged.main.body.getD i (.Pass ⟨0, 0, 0, 0⟩)
def cl (K : PySem.W.Frag) : Nat -> Addr
  | 1 => He.ga K "Thing"
  | 12 => He.ga K "Fault"
  | 17 => He.ga K "ForestError"
  | 30 => He.ga K "NoKey"
  | _ => 0
abbrev clw (K : PySem.W.Frag) (P : Program) (w : World) : ClW := ⟨cl K, P, w⟩
abbrev s_is_integer : Stmt := top 10
abbrev s_is_sequence : Stmt := top 11
abbrev s_is_name : Stmt := top 12
abbrev s_is_value : Stmt := top 13
abbrev s_key_fault : Stmt := top 15
abbrev s_cut_key : Stmt := top 16
abbrev s_bytes_of : Stmt := top 17
abbrev s_Fault___init__ : Stmt := inClass (top 20) 0
abbrev s_Fault_class_name : Stmt := inClass (top 20) 1
abbrev s_Fault_facts : Stmt := inClass (top 20) 2
abbrev s_Thing___eq__ : Stmt := inClass (top 9) 2
abbrev s_plain_word : Stmt := top 21
abbrev s_key_word : Stmt := top 22
abbrev s_shorter_keys : Stmt := top 23
abbrev s_judge_keys : Stmt := top 24
abbrev s__law_well : Stmt := top 26
abbrev s__law_draw : Stmt := top 27
abbrev s__law_one : Stmt := top 28
abbrev s__law_names : Stmt := top 29
abbrev s__law_value : Stmt := top 30
abbrev s__law_levels : Stmt := top 31
abbrev s__law_rows : Stmt := top 32
abbrev s__law_mixed : Stmt := top 33
abbrev s__law_is_whole : Stmt := top 34
abbrev s__law_is_name : Stmt := top 35
abbrev s__law_is_value : Stmt := top 36
abbrev s__law_labels : Stmt := top 37
abbrev s__law_cut : Stmt := top 38
abbrev s__law_is_key : Stmt := top 39
abbrev s__law_word : Stmt := top 40
abbrev s__law_due : Stmt := top 41
abbrev s__law_spoil : Stmt := top 42
abbrev s__law_made : Stmt := top 43
abbrev s_law : Stmt := top 44
abbrev s_NoKey___init__ : Stmt := inClass (top 3) 0
end LawProof
set_option Elab.async false
set_option linter.all false
set_option maxRecDepth 100000
set_option maxHeartbeats 4000000
set_option autoImplicit true
namespace LawProof
open PySem L2 DL
def d_is_integer : He.DefD := ⟨("is_integer", none), "is_integer", "is_integer", defArgs s_is_integer, defBody s_is_integer, defScope s_is_integer, [], []⟩
def d_is_sequence : He.DefD := ⟨("is_sequence", none), "is_sequence", "is_sequence", defArgs s_is_sequence, defBody s_is_sequence, defScope s_is_sequence, [], []⟩
def d_is_name : He.DefD := ⟨("is_name", none), "is_name", "is_name", defArgs s_is_name, defBody s_is_name, defScope s_is_name, [], []⟩
def d_is_value : He.DefD := ⟨("is_value", none), "is_value", "is_value", defArgs s_is_value, defBody s_is_value, defScope s_is_value, [], []⟩
def d_key_fault : He.DefD := ⟨("key_fault", none), "key_fault", "key_fault", defArgs s_key_fault, defBody s_key_fault, defScope s_key_fault, [], []⟩
def d_cut_key : He.DefD := ⟨("cut_key", none), "cut_key", "cut_key", defArgs s_cut_key, defBody s_cut_key, defScope s_cut_key, [], []⟩
def d_bytes_of : He.DefD := ⟨("bytes_of", none), "bytes_of", "bytes_of", defArgs s_bytes_of, defBody s_bytes_of, defScope s_bytes_of, [], []⟩
def d_plain_word : He.DefD := ⟨("plain_word", none), "plain_word", "plain_word", defArgs s_plain_word, defBody s_plain_word, defScope s_plain_word, [], []⟩
def d_key_word : He.DefD := ⟨("key_word", none), "key_word", "key_word", defArgs s_key_word, defBody s_key_word, defScope s_key_word, [], []⟩
def d_shorter_keys : He.DefD := ⟨("shorter_keys", none), "shorter_keys", "shorter_keys", defArgs s_shorter_keys, defBody s_shorter_keys, defScope s_shorter_keys, [], []⟩
def d_judge_keys : He.DefD := ⟨("judge_keys", none), "judge_keys", "judge_keys", defArgs s_judge_keys, defBody s_judge_keys, defScope s_judge_keys, [], []⟩
def d__law_well : He.DefD := ⟨("_law_well", none), "_law_well", "_law_well", defArgs s__law_well, defBody s__law_well, defScope s__law_well, [], []⟩
def d__law_draw : He.DefD := ⟨("_law_draw", none), "_law_draw", "_law_draw", defArgs s__law_draw, defBody s__law_draw, defScope s__law_draw, [], []⟩
def d__law_one : He.DefD := ⟨("_law_one", none), "_law_one", "_law_one", defArgs s__law_one, defBody s__law_one, defScope s__law_one, [], []⟩
def d__law_names : He.DefD := ⟨("_law_names", none), "_law_names", "_law_names", defArgs s__law_names, defBody s__law_names, defScope s__law_names, [], []⟩
def d__law_value : He.DefD := ⟨("_law_value", none), "_law_value", "_law_value", defArgs s__law_value, defBody s__law_value, defScope s__law_value, [], []⟩
def d__law_levels : He.DefD := ⟨("_law_levels", none), "_law_levels", "_law_levels", defArgs s__law_levels, defBody s__law_levels, defScope s__law_levels, [], []⟩
def d__law_rows : He.DefD := ⟨("_law_rows", none), "_law_rows", "_law_rows", defArgs s__law_rows, defBody s__law_rows, defScope s__law_rows, [], []⟩
def d__law_mixed : He.DefD := ⟨("_law_mixed", none), "_law_mixed", "_law_mixed", defArgs s__law_mixed, defBody s__law_mixed, defScope s__law_mixed, [], []⟩
def d__law_is_whole : He.DefD := ⟨("_law_is_whole", none), "_law_is_whole", "_law_is_whole", defArgs s__law_is_whole, defBody s__law_is_whole, defScope s__law_is_whole, [], []⟩
def d__law_is_name : He.DefD := ⟨("_law_is_name", none), "_law_is_name", "_law_is_name", defArgs s__law_is_name, defBody s__law_is_name, defScope s__law_is_name, [], []⟩
def d__law_is_value : He.DefD := ⟨("_law_is_value", none), "_law_is_value", "_law_is_value", defArgs s__law_is_value, defBody s__law_is_value, defScope s__law_is_value, [], []⟩
def d__law_labels : He.DefD := ⟨("_law_labels", none), "_law_labels", "_law_labels", defArgs s__law_labels, defBody s__law_labels, defScope s__law_labels, [], []⟩
def d__law_cut : He.DefD := ⟨("_law_cut", none), "_law_cut", "_law_cut", defArgs s__law_cut, defBody s__law_cut, defScope s__law_cut, [], []⟩
def d__law_is_key : He.DefD := ⟨("_law_is_key", none), "_law_is_key", "_law_is_key", defArgs s__law_is_key, defBody s__law_is_key, defScope s__law_is_key, [], []⟩
def d__law_word : He.DefD := ⟨("_law_word", none), "_law_word", "_law_word", defArgs s__law_word, defBody s__law_word, defScope s__law_word, [], []⟩
def d__law_due : He.DefD := ⟨("_law_due", none), "_law_due", "_law_due", defArgs s__law_due, defBody s__law_due, defScope s__law_due, [], []⟩
def d__law_spoil : He.DefD := ⟨("_law_spoil", none), "_law_spoil", "_law_spoil", defArgs s__law_spoil, defBody s__law_spoil, defScope s__law_spoil, [], []⟩
def d__law_made : He.DefD := ⟨("_law_made", none), "_law_made", "_law_made", defArgs s__law_made, defBody s__law_made, defScope s__law_made, [], []⟩
def d_law : He.DefD := ⟨("law", none), "law", "law", defArgs s_law, defBody s_law, defScope s_law, [], []⟩
def d_NoKey____init__ : He.DefD := ⟨("NoKey", some "__init__"), "__init__", "NoKey.__init__", defArgs s_NoKey___init__, defBody s_NoKey___init__, defScope s_NoKey___init__, [], []⟩
def d_Fault__facts : He.DefD := ⟨("Fault", some "facts"), "facts", "Fault.facts", defArgs s_Fault_facts, defBody s_Fault_facts, defScope s_Fault_facts, [], []⟩
def d_Fault__class_name : He.DefD := ⟨("Fault", some "class_name"), "class_name", "Fault.class_name", defArgs s_Fault_class_name, defBody s_Fault_class_name, defScope s_Fault_class_name, [], []⟩
def d_Fault____init__ : He.DefD := ⟨("Fault", some "__init__"), "__init__", "Fault.__init__", defArgs s_Fault___init__, defBody s_Fault___init__, defScope s_Fault___init__, [], []⟩
def d_Fault____eq__ : He.DefD := ⟨("Fault", some "__eq__"), "__eq__", "Thing.__eq__", defArgs s_Thing___eq__, defBody s_Thing___eq__, defScope s_Thing___eq__, [], []⟩
def fn : List He.DefD := [d_is_integer, d_is_sequence, d_is_name, d_is_value, d_key_fault, d_cut_key, d_bytes_of, d_plain_word, d_key_word, d_shorter_keys, d_judge_keys, d__law_well, d__law_draw, d__law_one, d__law_names, d__law_value, d__law_levels, d__law_rows, d__law_mixed, d__law_is_whole, d__law_is_name, d__law_is_value, d__law_labels, d__law_cut, d__law_is_key, d__law_word, d__law_due, d__law_spoil, d__law_made, d_law, d_NoKey____init__, d_Fault__facts, d_Fault__class_name, d_Fault____init__, d_Fault____eq__]
def fa : List He.Fa := [.glo "is_integer", .glo "is_sequence", .glo "is_name", .glo "is_value", .glo "key_fault", .glo "cut_key", .glo "bytes_of", .glo "plain_word", .glo "key_word", .glo "shorter_keys", .glo "judge_keys", .glo "_law_well", .glo "_law_draw", .glo "_law_one", .glo "_law_names", .glo "_law_value", .glo "_law_levels", .glo "_law_rows", .glo "_law_mixed", .glo "_law_is_whole", .glo "_law_is_name", .glo "_law_is_value", .glo "_law_labels", .glo "_law_cut", .glo "_law_is_key", .glo "_law_word", .glo "_law_due", .glo "_law_spoil", .glo "_law_made", .glo "law", .glo "Fault", .cls "Fault", .glo "Thing", .cls "Thing", .glo "NoKey", .glo "ForestError", .noat "Fault" "word", .noat "Fault" "place", .meth "Fault" "facts", .meth "Fault" "class_name", .mkr "Fault", .meth "Fault" "__eq__", .free "isinstance", .free "int", .free "bool", .free "tuple", .free "list", .free "all", .free "str", .free "len", .free "enumerate", .free "bytes", .free "range", .free "repr", .str "LETTERS" "abcdefghijklmnopqrstuvwxyz", .str "SIGNS" "abcdefghijklmnopqrstuvwxyz0123456789", .int "MOST_SIGNS" 8, .int "MOST_VALUE" 1000000000000000000000000000000, .int "MOST_ROWS" 60]
def ex (K : PySem.W.Frag) : Bool := oexB K (He.ga K "NoKey") && (xnB K (He.ga K "NoKey") (He.fAd K ("NoKey", some "__init__")) ["place"] && (smB K && (tycB K (He.ga K "Fault") && (isoB K (cl K) 1 [12] [] && (nfB K (cl K) [12] && (neB K (cl K) [12] && (isoB K (cl K) 12 [12] [] && true)))))))
theorem ex_0 {K : PySem.W.Frag} (h : ex K = true) : oexB K (He.ga K "NoKey") = true := (He.ba h).1
theorem ex_1 {K : PySem.W.Frag} (h : ex K = true) : xnB K (He.ga K "NoKey") (He.fAd K ("NoKey", some "__init__")) ["place"] = true := (He.ba (He.ba h).2).1
theorem ex_2 {K : PySem.W.Frag} (h : ex K = true) : smB K = true := (He.ba (He.ba (He.ba h).2).2).1
theorem ex_3 {K : PySem.W.Frag} (h : ex K = true) : tycB K (He.ga K "Fault") = true := (He.ba (He.ba (He.ba (He.ba h).2).2).2).1
theorem ex_4 {K : PySem.W.Frag} (h : ex K = true) : isoB K (cl K) 1 [12] [] = true := (He.ba (He.ba (He.ba (He.ba (He.ba h).2).2).2).2).1
theorem ex_5 {K : PySem.W.Frag} (h : ex K = true) : nfB K (cl K) [12] = true := (He.ba (He.ba (He.ba (He.ba (He.ba (He.ba h).2).2).2).2).2).1
theorem ex_6 {K : PySem.W.Frag} (h : ex K = true) : neB K (cl K) [12] = true := (He.ba (He.ba (He.ba (He.ba (He.ba (He.ba (He.ba h).2).2).2).2).2).2).1
theorem ex_7 {K : PySem.W.Frag} (h : ex K = true) : isoB K (cl K) 12 [12] [] = true := (He.ba (He.ba (He.ba (He.ba (He.ba (He.ba (He.ba (He.ba h).2).2).2).2).2).2).2).1
abbrev R : PySem.W.OpenRow := PySem.W.OpenLaw.row PySem.Challenge.rw_forestrows_k20_key_rows_judged
abbrev hk : PySem.W.Hook := DL.hookR 4000 fa fn ex
abbrev ob (s : PySem.W.SharedT) : He.AlD × Bool := DL.obsR 4000 fa fn ex (HandSHeadRun.getT s)
theorem ob_eq (s : PySem.W.SharedT) : ob s = hk.obs s.abs := DL.obsR_eq (HandSHeadRun.getT_eq s)
def loose : List PySem.Str := (["_wall", "__name__", "ForestError", "NoKey", "LETTERS", "SIGNS", "MOST_SIGNS", "MOST_VALUE", "Thing", "is_integer", "is_sequence", "is_name", "is_value", "key_fault", "cut_key", "bytes_of", "MOST_ROWS", "Fault", "plain_word", "key_word", "shorter_keys", "judge_keys", "_law_well", "_law_draw", "_law_one", "_law_names", "_law_value", "_law_levels", "_law_rows", "_law_mixed"] : List PySem.Str) ++ (["_law_is_whole", "_law_is_name", "_law_is_value", "_law_labels", "_law_cut", "_law_is_key", "_law_word", "_law_due", "_law_spoil", "_law_made"] : List PySem.Str)
abbrev vq : Program := PySem.W.view R.prog [44]
open PySem PySem.W PySem.Calls PyProof.Rows in
theorem run1 (w : World) (os : OsState) : (HandSHeadRun.endF (HandSHeadRun.stepQ (HandSHeadRun.denQ HandSHeadRun.tabQ) R.prog w) 20000 R.prog w os).map (fun s => (HandSHeadRun.looksF R.prog (boot_heap w.params) s.abs, HandSHeadRun.seenQ vq loose (importedModules R.prog.main.body) (fun s => PySem.W.xlAt vq [] s && PySem.W.recOk R.toRowW.records s) s.abs)) = some (true, PySem.W.openGood vq loose) := by
  kernel_rfl
theorem run2 (w : World) (os : OsState) : (HandSHeadRun.endF (HandSHeadRun.stepQ (HandSHeadRun.denQ HandSHeadRun.tabQ) R.prog w) 20000 R.prog w os).map (fun s => fa.all fun f => f.ok (He.frG (HandSHeadRun.getT s) (List.range 4000))) = some true := by
  kernel_rfl
theorem run3 (w : World) (os : OsState) : (HandSHeadRun.endF (HandSHeadRun.stepQ (HandSHeadRun.denQ HandSHeadRun.tabQ) R.prog w) 20000 R.prog w os).map (fun s => (fn.all fun d => d.ok (He.frG (HandSHeadRun.getT s) (List.range 4000)), fn.map fun d => He.fnW (He.frG (HandSHeadRun.getT s) (List.range 4000)) d.at_)) = some (true, fn.map He.DefD.val) := by
  kernel_rfl
theorem run4 (w : World) (os : OsState) : (HandSHeadRun.endF (HandSHeadRun.stepQ (HandSHeadRun.denQ HandSHeadRun.tabQ) R.prog w) 20000 R.prog w os).map (fun s => ex (He.frG (HandSHeadRun.getT s) (List.range 4000))) = some true := by
  kernel_rfl
theorem run (w : World) : HandSHeadRun.RunEq R vq hk ob 20000 loose w := DL.runR_of (run1 w) (run2 w) (run3 w) (run4 w)
end LawProof
set_option Elab.async false
set_option linter.all false
set_option maxRecDepth 100000
set_option maxHeartbeats 4000000
set_option autoImplicit false
namespace FL
open PySem L2 DL
def Lad : Int -> List Int -> Prop
  | _, [] => True
  | m, l :: r => 0 <= l /\ l <= m + 1 /\ Lad l r
def up (c : Int) (r : Row) : Row := ⟨r.nm, r.va, r.lv + c⟩
def subT (rs : List Row) (p : Nat) : List Row := (rs.drop p).take (1 + kids (lvs rs) p)
def blk (rs : List Row) : Option Nat -> List Row
  | none => rs
  | some p => (rs.drop (p + 1)).take (kids (lvs rs) p)
theorem ancs_cons {ls : List Int} {j q : Nat} {r : List Nat} (h : ancs ls j = q :: r) : r = ancs ls q := anc_step ls j _ q r h
end FL
set_option Elab.async false
set_option linter.all false
set_option maxRecDepth 100000
set_option maxHeartbeats 4000000
set_option autoImplicit false
namespace FL
open PySem L2 DL
def RV (r : Row) : Prop := NameOk r.nm /\ -(10 ^ 30) <= r.va /\ r.va <= 10 ^ 30
def treesR (rs : List Row) (o : Option Nat) : List (List Row) := (sibs (lvs rs) o).map fun c => (subT rs c).map (up (-((lvs rs).getD c 0)))
def withT (rs : List Row) : Option Nat -> List (List Row) -> List Row
  | none, ts => ts.flatten
  | some p, ts => rs.take (p + 1) ++ ts.flatten.map (up ((lvs rs).getD p 0 + 1)) ++ rs.drop (p + 1 + kids (lvs rs) p)
def cutR (rs : List Row) (p : Nat) : List Row := rs.take p ++ rs.drop (p + 1 + kids (lvs rs) p)
def liftR (rs : List Row) (p : Nat) : List Row := rs.take p ++ ((rs.drop (p + 1)).take (kids (lvs rs) p)).map (up (-1)) ++ rs.drop (p + 1 + kids (lvs rs) p)
def subR (rs : List Row) (p : Nat) : List Row := (subT rs p).map (up (-((lvs rs).getD p 0)))
structure TrOk (t : List Row) : Prop where
  lad : Lad (-1) (lvs t)
  rv : ∀ r ∈ t, RV r
section
variable {rs : List Row}
end
end FL
set_option Elab.async false
set_option linter.all false
set_option maxRecDepth 100000
set_option maxHeartbeats 4000000
set_option autoImplicit false
namespace FL
open PySem L2 DL
theorem wipeD_length (ρ : DL.Env) : ∀ vs : List Nat, (wipeD ρ vs).length = ρ.length
  | [] => rfl
  | v :: vs => by simp [wipeD_length ρ vs]
theorem updM_self {M : Mem} {a : Addr} {d : D} (h : M a = some d) : updM M a d = M := by
  funext b
  by_cases e : b = a
  · rw [e, updM_same, h]
  · rw [updM_ne e]
theorem lc_all {j : Nat} {vs1 : List Nat} {a : Addr} {ρ : DL.Env} (hj : j < ρ.length) : ∀ (ys acc : List D) (M : Mem) (R : Mem -> Prop), M a = some (.lst acc) -> acc.length + ys.length <= 16777216 -> R (updM M a (.lst (acc ++ ys))) ->
    lcG (fun _ => True) (gN j) dYes (dVar j) vs1 a ys ρ M R := by
  intro ys
  induction ys with
  | nil => intro acc M R h _ q; rw [List.append_nil, updM_self h] at q; exact ⟨trivial, q⟩
  | cons y ys ih =>
    intro acc M R h hl q
    simp only [List.length_cons] at hl
    refine ⟨trivial, ?_⟩
    simp only [gN, dYes, dVar, if_true]
    refine ⟨y, by rw [List.getElem?_set_self (by rw [wipeD_length]; exact hj)], acc, h, by rw [size_line]; omega, ih _ _ R updM_same (by simp; omega) ?_⟩
    rw [updM_updM, List.append_assoc]
    exact q
def hasN (rs : List Row) : D -> Bool
  | .str z => decide (z.cps.toList ∈ rs.map Row.nm)
  | _ => false
def nmOf : D -> List Nat
  | .str z => z.cps.toList
  | _ => []
def ixOf (rs : List Row) (d : D) : Nat := (rs.map Row.nm).idxOf (nmOf d)
end FL
set_option Elab.async false
set_option linter.all false
set_option maxRecDepth 100000
set_option maxHeartbeats 4000000
set_option autoImplicit false
namespace FL
open PySem L2 DL
inductive Tr where
  | mk (nm : List Nat) (va : Int) (ks : List Tr)
mutual
def flatT (lv : Int) : Tr -> List Row
  | .mk nm va ks => ⟨nm, va, lv⟩ :: flatTs (lv + 1) ks
def flatTs (lv : Int) : List Tr -> List Row
  | [] => []
  | t :: ts => flatT lv t ++ flatTs lv ts
end
end FL
set_option Elab.async false
set_option linter.all false
set_option maxRecDepth 100000
set_option maxHeartbeats 4000000
set_option autoImplicit false
namespace FL
open PySem L2 DL
def fpx : D -> List Addr
  | .ref b => [b]
  | _ => []
def isR : D -> Bool
  | .ref _ => true
  | _ => false
def nodeD (nm : List Nat) (va : Int) (x : D) : D := .lst [strD nm, .int va, x]
mutual
inductive TA (M : Mem) : D -> Tr -> List Addr -> Prop
  | mk {nm : List Nat} {va : Int} {x : D} {ks : List D} {ts : List Tr} {fp : List Addr} : isR x = true -> vw M x = .lst ks -> TAs M ks ts fp -> TA M (nodeD nm va x) (.mk nm va ts) (fpx x ++ fp)
inductive TAs (M : Mem) : List D -> List Tr -> List Addr -> Prop
  | nil : TAs M [] [] []
  | cons {d : D} {t : Tr} {f : List Addr} {ds : List D} {ts : List Tr} {g : List Addr} : TA M d t f -> TAs M ds ts g -> TAs M (d :: ds) (t :: ts) (f ++ g)
end
inductive Sp (M : Mem) : Addr -> List D -> List Tr -> List Addr -> Prop
  | nil {a : Addr} {ks : List D} {ts : List Tr} {fp : List Addr} : M a = some (.lst ks) -> TAs M ks ts fp -> (a :: fp).Nodup -> Sp M a [] ts (a :: fp)
  | cons {a b : Addr} {ks : List D} {ts us : List Tr} {f1 f2 : List Addr} {nm : List Nat} {va : Int} {line : List D} : M a = some (.lst (ks ++ [nodeD nm va (.ref b)])) -> TAs M ks ts f1 -> Sp M b line us f2 -> (a :: (f1 ++ f2)).Nodup ->
      Sp M a (nodeD nm va (.ref b) :: line) (ts ++ [.mk nm va us]) (a :: (f1 ++ f2))
inductive Sub (M : Mem) : List D -> D -> Prop
  | here {ds : List D} {d : D} : d ∈ ds -> Sub M ds d
  | down {ds ks : List D} {d : D} {nm : List Nat} {va : Int} {x : D} : nodeD nm va x ∈ ds -> vw M x = .lst ks -> Sub M ks d -> Sub M ds d
inductive Loc (p : List Nat) (va : Int) (us : List Tr) : List Tr -> Prop
  | here {t1 t2 : List Tr} : Loc p va us (t1 ++ .mk p va us :: t2)
  | down {t1 t2 ks : List Tr} {n : List Nat} {v : Int} : Loc p va us ks -> Loc p va us (t1 ++ .mk n v ks :: t2)
mutual
def setT (p : List Nat) (us : List Tr) : Tr -> Tr
  | .mk n v ks => .mk n v (if n = p then us else setTs p us ks)
def setTs (p : List Nat) (us : List Tr) : List Tr -> List Tr
  | [] => []
  | t :: ts => setT p us t :: setTs p us ts
end
def woTs (p : List Nat) : List Tr -> List Tr
  | [] => []
  | .mk n v ks :: ts => if n = p then woTs p ts else .mk n v (woTs p ks) :: woTs p ts
def liTs (p : List Nat) : List Tr -> List Tr
  | [] => []
  | .mk n v ks :: ts => if n = p then ks ++ liTs p ts else .mk n v (liTs p ks) :: liTs p ts
def nmTs (ts : List Tr) : List (List Nat) := (flatTs 0 ts).map Row.nm
mutual
theorem nm_lvT (lv lw : Int) : ∀ t : Tr, (flatT lv t).map Row.nm = (flatT lw t).map Row.nm
  | .mk n v ks => by simp only [flatT, List.map_cons]; rw [nm_lv (lv + 1) (lw + 1) ks]
theorem nm_lv (lv lw : Int) : ∀ ts : List Tr, (flatTs lv ts).map Row.nm = (flatTs lw ts).map Row.nm
  | [] => rfl
  | t :: ts => by simp only [flatTs, List.map_append]; rw [nm_lvT lv lw t, nm_lv lv lw ts]
end
theorem nmTs_cons (n : List Nat) (v : Int) (ks ts : List Tr) : nmTs (.mk n v ks :: ts) = n :: (nmTs ks ++ nmTs ts) := by
  simp [nmTs, flatTs, flatT, nm_lv 1 0 ks]
end FL
set_option Elab.async false
set_option linter.all false
set_option maxRecDepth 100000
set_option maxHeartbeats 4000000
set_option autoImplicit false
namespace FL
open PySem L2 DL
structure NodeAt (rs : List Row) (p : List Nat) (us ts : List Tr) (i : Nat) : Prop where
  ix : ixOf rs (strD p) = i
  lt : i < rs.length
  has : hasN rs (strD p) = true
  trees : treesR rs (some i) = us.map (flatT 0)
  set : ∀ us', withT rs (some i) (us'.map (flatT 0)) = flatTs 0 (setTs p us' ts)
  cut : cutR rs i = flatTs 0 (woTs p ts)
  lift : liftR rs i = flatTs 0 (liTs p ts)
  sub : subR rs i = flatTs 0 [.mk p ((rs.map Row.va).getD i 0) us]
  many : (sibs (lvs rs) (some i)).length = us.length
section
variable {pre B post : List Row} {r : Row}
end
def insT (ts : List Tr) (k : Nat) (t : Tr) : List Tr := ts.take k ++ [t] ++ ts.drop k
def wrapT (us : List Tr) (nm : List Nat) (va : Int) (f l : Nat) : List Tr := us.take f ++ [.mk nm va ((us.drop f).take (l - f))] ++ us.drop l
end FL
set_option Elab.async false
set_option linter.all false
set_option maxRecDepth 100000
set_option maxHeartbeats 4000000
set_option autoImplicit false
namespace FL
open PySem L2 DL
def PlaceT (rs : List Row) (ts : List Tr) (p : D) (us : List Tr) : Prop := (p = .non /\ us = ts) \/ ∃ nm va, p = strD nm /\ nm ∈ rs.map Row.nm /\ Loc nm va us ts
section
variable {rs : List Row} {ts us : List Tr} {p : D}
end
structure TrS (M : Mem) (rs : List Row) (r a c : Addr) (ks kc : List D) (ts us : List Tr) (fp fc : List Addr) (p : D) : Prop where
  ha : M a = some (.lst ks)
  T : TAs M ks ts fp
  hc : M c = some (.lst kc)
  Tc : TAs M kc us fc
  P : PlaceT rs ts p us
  hf : flatTs 0 ts = rs
  hr : r ∉ a :: fp
  hcm : c ∈ a :: fp
  hfc : ∀ y ∈ fc, y ∈ fp
end FL
set_option Elab.async false
set_option linter.all false
set_option maxRecDepth 100000
set_option maxHeartbeats 4000000
set_option autoImplicit false
namespace FL
open PySem L2 DL
section
variable {rs : List Row} {ts us vs : List Tr} {p : D} {x : List Nat} {va : Int}
end
section
variable {rs : List Row} {ts us vs : List Tr} {p : D} {x : List Nat} {va : Int}
end
end FL
set_option Elab.async false
set_option linter.all false
set_option maxRecDepth 100000
set_option maxHeartbeats 4000000
set_option autoImplicit false
namespace FL
open PySem L2 DL
def isWh : D -> Bool
  | .int _ => true
  | _ => false
def iOf : D -> Int
  | .int i => i
  | _ => 0
def plainW (k : Nat) (y : D) : Option String := match seqs y with
  | none => some "row"
  | some l => if l.length ≠ k then some "row" else if nameB (l.getD 0 .non) = true then if valB (l.getD 1 .non) = true then none else some "value" else some "name"
def itm (y : D) (i : Nat) : D := match seqs y with
  | some l => l.getD i .non
  | none => .non
def crossI (a b c d : Int) : Bool := (decide (a < c) && (decide (c < b) && decide (b < d))) || (decide (c < a) && (decide (a < d) && decide (d < b)))
structure SRow (m : Int) (y : D) : Prop where
  ex : ∃ n v a b, seqs y = some [strD n, .int v, .int a, .int b] /\ NameOk n /\ -(10 ^ 30) <= v /\ v <= 10 ^ 30 /\ 0 <= a /\ a < m /\ 0 <= b /\ b < m /\ a < b
theorem plain_none {k : Nat} {y : D} (h : plainW k y = none) : ∃ l, seqs y = some l /\ l.length = k /\ nameB (l.getD 0 .non) = true /\ valB (l.getD 1 .non) = true := by
  unfold plainW at h
  cases e : seqs y with
  | none => rw [e] at h; cases h
  | some l =>
    rw [e] at h
    simp only at h
    by_cases h1 : l.length ≠ k
    · rw [if_pos h1] at h; cases h
    · rw [if_neg h1] at h
      by_cases h2 : nameB (l.getD 0 .non) = true
      · rw [if_pos h2] at h
        by_cases h3 : valB (l.getD 1 .non) = true
        · exact ⟨l, rfl, by omega, h2, h3⟩
        · rw [if_neg h3] at h; cases h
      · rw [if_neg h2] at h; cases h
def nmS (y : D) : List Nat := nmOf (itm y 0)
def aS (y : D) : Int := iOf (itm y 2)
def bS (y : D) : Int := iOf (itm y 3)
theorem nm_strS (p : List Nat) : nmOf (strD p) = p := by simp [nmOf, strD, S]
theorem find_step {α β : Type} {f : α -> Option β} {l : List α} {k : Nat} (h : ∀ j, j < k -> ∀ x, l[j]? = some x -> f x = none) {x : α} {b : β} (hx : l[k]? = some x) (hb : f x = some b) : l.findSome? f = some b := by
  induction l generalizing k with
  | nil => simp at hx
  | cons y l ih =>
    cases k with
    | zero =>
      have : y = x := by simpa using hx
      rw [List.findSome?_cons, this, hb]
    | succ k =>
      rw [List.findSome?_cons, h 0 (by omega) y rfl]
      exact ih (k := k) (fun j hj x hx => h (j + 1) (Nat.succ_lt_succ hj) x (by simpa using hx)) (by simpa using hx)
end FL
set_option Elab.async false
set_option linter.all false
set_option maxRecDepth 100000
set_option maxHeartbeats 4000000
set_option autoImplicit false
namespace FL
open PySem L2 DL
abbrev EPt := Nat × Option Nat
structure EndsP (ps : List EPt) (line : List Nat) (n : Nat) : Prop where
  asc : ∀ (i j : Nat) (p q : EPt), i < j -> ps[i]? = some p -> ps[j]? = some q -> p.1 < q.1
  low : ∀ (i : Nat) (p : EPt), ps[i]? = some p -> p.1 < n
  cl : ∀ (i : Nat) (p : EPt) (e : Nat), ps[i]? = some p -> p.2 = some e -> p.1 < e /\ e < n
  nest : ∀ (i j : Nat) (p q : EPt) (e : Nat), i < j -> ps[i]? = some p -> ps[j]? = some q -> p.2 = some e -> e < q.1 \/ ∃ e', q.2 = some e' /\ e' < e
  opn : ∀ i, i ∈ line ↔ ∃ b, ps[i]? = some (b, none)
  lasc : line.Pairwise (· < ·)
  cnt : n + line.length = 2 * ps.length
structure EndsFin (es : List (Nat × Nat)) : Prop where
  in_ : ∀ (i : Nat) (p : Nat × Nat), es[i]? = some p -> p.1 < p.2 /\ p.2 < 2 * es.length
  two : ∀ (i j : Nat) (p q : Nat × Nat), i < j -> es[i]? = some p -> es[j]? = some q -> p.1 < q.1 /\ (p.2 < q.1 \/ q.2 < p.2)
def Apart (y z : D) : Prop := nmS y ≠ nmS z /\ (aS y ≠ aS z /\ aS y ≠ bS z /\ bS y ≠ aS z /\ bS y ≠ bS z) /\ crossI (aS y) (bS y) (aS z) (bS z) = false
structure SpOk (m : Int) (ys : List D) : Prop where
  len : ys.length <= 60
  row : ∀ y ∈ ys, SRow m y
  pw : ys.Pairwise Apart
def SH (k n : Nat) (d : D) : Prop := ∃ p, toPyX d = some p /\ p.showable = true /\ p.depth <= k /\ p.shown.length <= n
structure CelX (t : Nat) (c : D) : Prop where
  pl : Pl c
  sh : SH (t + 1) (10100 + 10 * t) c
  bd : ∀ i, c = .int i -> -(10 ^ 31) - (t : Int) <= i /\ i <= 10 ^ 31 + (t : Int)
end FL
set_option Elab.async false
set_option linter.all false
set_option maxRecDepth 100000
set_option maxHeartbeats 4000000
set_option autoImplicit false
namespace FL
open PySem L2 DL
def bA (l : List Nat) : Array UInt8 := (l.map UInt8.ofNat).toArray
def bD (l : List Nat) : D := .byt (bA l)
def N8 (l : List Nat) : Prop := ∀ n ∈ l, n < 256
theorem N8.cons {a : Nat} {l : List Nat} : N8 (a :: l) ↔ a < 256 /\ N8 l := by simp [N8]
theorem N8.nil : N8 [] := fun _ h => nomatch h
theorem N8.app {l m : List Nat} : N8 (l ++ m) ↔ N8 l /\ N8 m := by
  constructor
  · intro h; exact ⟨fun n hn => h n (List.mem_append_left _ hn), fun n hn => h n (List.mem_append_right _ hn)⟩
  · rintro ⟨h1, h2⟩ n hn
    rcases List.mem_append.mp hn with z | z
    · exact h1 n z
    · exact h2 n z
theorem N8.take {l : List Nat} (h : N8 l) (k : Nat) : N8 (l.take k) := fun n hn => h n (List.mem_of_mem_take hn)
theorem N8.drop {l : List Nat} (h : N8 l) (k : Nat) : N8 (l.drop k) := fun n hn => h n (List.mem_of_mem_drop hn)
theorem N8.one {a : Nat} (h : a < 256) : N8 [a] := N8.cons.mpr ⟨h, N8.nil⟩
@[simp] theorem bA_size (l : List Nat) : (bA l).size = l.length := by simp [bA]
theorem u8_nat {n : Nat} (h : n < 256) : (UInt8.ofNat n).toNat = n := by rw [UInt8.toNat_ofNat']; exact Nat.mod_eq_of_lt h
theorem bA_nat {l : List Nat} (h : N8 l) : (bA l).toList.map UInt8.toNat = l := by
  unfold bA
  simp only [List.map_map]
  induction l with
  | nil => rfl
  | cons a l ih =>
    obtain ⟨h1, h2⟩ := N8.cons.mp h
    rw [List.map_cons, ih h2]
    congr 1
    exact u8_nat h1
theorem bA_inj {l m : List Nat} (h : N8 l) (k : N8 m) (e : bA l = bA m) : l = m := by rw [<- bA_nat h, <- bA_nat k, e]
theorem bA_app (l m : List Nat) : bA l ++ bA m = bA (l ++ m) := by simp [bA]
theorem byteArr_bA (l : List Nat) : byteArr (l.map fun (n : Nat) => (n : Int)) = bA l := by
  unfold byteArr bA
  rw [List.map_map]
  rfl
theorem pk_toN (l : List Nat) (k : Nat) : PySem.W.KBy.picked (bA l) none (some (k : Int)) = bA (l.take k) := by
  rw [PySem.W.KBc.picked_eq]
  show (((bA l).toList.drop 0).take (clipAt (bA l).size (k : Int) - 0)).toArray = bA (l.take k)
  rw [clipAt_nat, bA_size]
  unfold bA
  simp only [List.drop_zero, Nat.sub_zero, <- List.map_take]
  congr 2
  rw [List.take_eq_take_iff]
  omega
theorem pk_midN {l : List Nat} {i j : Nat} (hi : i <= l.length) (hj : j <= l.length) : PySem.W.KBy.picked (bA l) (some (i : Int)) (some (j : Int)) = bA ((l.drop i).take (j - i)) := by
  unfold bA
  rw [L2.pk_mid (by simpa using hi) (by simpa using hj)]
  simp only [<- List.map_drop, <- List.map_take]
theorem slB_mid {l : List Nat} {i j : Nat} (hi : i <= l.length) (hj : j <= l.length) (h : l.length <= 16777216) : slB (bD l) (some (i : Int)) (some (j : Int)) = some (bD ((l.drop i).take (j - i))) := by
  show (if (bA l).size <= 16777216 then _ else _) = _
  rw [if_pos (by simpa using h), pk_midN hi hj]; rfl
theorem bA_get {l : List Nat} {i a : Nat} (h : l[i]? = some a) : (bA l)[i]? = some (UInt8.ofNat a) := by simp [bA, h]
theorem ixB_last {l : List Nat} {a : Nat} (h : l.getLast? = some a) (k : N8 l) (hl : l.length <= 16777216) : ixB (bD l) (.int (-1)) = some (.int (a : Int)) := by
  rw [List.getLast?_eq_getElem?] at h
  have hi : l.length - 1 < l.length := (List.getElem?_eq_some_iff.mp h).1
  have e : seqIndex? (-1) (bA l).size = some (l.length - 1) := by
    have h0 : (-1 : Int) < 0 := by decide
    have h1 : 0 <= (-1 : Int) + (l.length : Int) := by omega
    have h2 : (-1 : Int) + (l.length : Int) < (l.length : Int) := by omega
    simp only [seqIndex?, bA_size, if_pos h0, h1, h2, decide_true, Bool.and_self, if_true]
    congr 1
    omega
  show (if (bA l).size <= 16777216 then _ else _) = _
  rw [if_pos (by simpa using hl), e]
  simp only [Option.bind_some, bA_get h, Option.map_some]
  rw [u8_nat (k a (List.mem_of_getElem? h))]
theorem wkD_bD {l : List Nat} (h : N8 l) : wkD (bD l) = some (l.map fun (n : Nat) => D.int (n : Int)) := by
  show some ((bA l).toList.map fun c => D.int (c.toNat : Nat)) = _
  have e := bA_nat h
  rw [show ((bA l).toList.map fun c => D.int (c.toNat : Nat)) = ((bA l).toList.map UInt8.toNat).map fun (n : Nat) => D.int (n : Int) by rw [List.map_map]; rfl, e]
theorem lenF_bD {l : List Nat} (h : l.length <= 16777216) : lenF [bD l] = some (.int l.length) := by
  show (if (bA l).size <= sizeLine then _ else _) = _
  rw [if_pos (by rw [sizeLine_eq]; simpa using h), bA_size]
def Lab (l : List Nat) : Prop := ∃ p e, l = p ++ [e] /\ (∀ x ∈ p, x % 2 = 1 /\ x < 256) /\ e % 2 = 0 /\ 0 < e /\ e < 256
abbrev Op := Option (List Nat)
structure Pair (low high : Op) : Prop where
  lo : ∀ l, low = some l -> Lab l
  hi : ∀ h, high = some h -> Lab h
  lt : ∀ l h, low = some l -> high = some h -> l < h
end FL
set_option Elab.async false
set_option linter.all false
set_option maxRecDepth 100000
set_option maxHeartbeats 4000000
set_option autoImplicit false
namespace FL
open PySem L2 DL
def nmT : Tr -> List Nat
  | .mk n _ _ => n
structure NI where
  nm : List Nat
  va : Int
  ks : List (List Nat)
def inf : List Tr -> List NI
  | [] => []
  | .mk n v us :: ts => ⟨n, v, us.map nmT⟩ :: (inf us ++ inf ts)
def endsT : Nat -> List Tr -> List (Nat × Nat)
  | _, [] => []
  | k, .mk _ _ us :: ts => (k, k + 1 + 2 * (nmTs us).length) :: (endsT (k + 1) us ++ endsT (k + 2 + 2 * (nmTs us).length) ts)
theorem endsT_nil (k : Nat) : endsT k [] = [] := by rw [endsT]
theorem endsT_cons (k : Nat) (n : List Nat) (v : Int) (us ts : List Tr) : endsT k (.mk n v us :: ts) = (k, k + 1 + 2 * (nmTs us).length) :: (endsT (k + 1) us ++ endsT (k + 2 + 2 * (nmTs us).length) ts) := by rw [endsT]
def Nst (p q : Nat × Nat) : Prop := p.1 < q.1 /\ (p.2 < q.1 \/ q.2 < p.2)
theorem endsT_ok : ∀ (n : Nat) (ts : List Tr) (k : Nat), sizeOf ts <= n -> (endsT k ts).length = (nmTs ts).length /\ (∀ p ∈ endsT k ts, k <= p.1 /\ p.1 < p.2 /\ p.2 < k + 2 * (nmTs ts).length) /\ (endsT k ts).Pairwise Nst := by
  intro n
  induction n with
  | zero => intro ts k h; cases ts with
    | nil => rw [endsT_nil]; exact ⟨rfl, (fun _ h => nomatch h), .nil⟩
    | cons t ts => simp at h
  | succ m ih =>
    intro ts k h
    cases ts with
    | nil => rw [endsT_nil]; exact ⟨rfl, (fun _ h => nomatch h), .nil⟩
    | cons t ts =>
      obtain ⟨nm, v, us⟩ := t
      obtain ⟨a1, a2, a3⟩ := ih us (k + 1) (by simp at h; omega)
      obtain ⟨b1, b2, b3⟩ := ih ts (k + 2 + 2 * (nmTs us).length) (by simp at h; omega)
      rw [endsT_cons, nmTs_cons]
      refine ⟨by simp [a1, b1], fun p hp => ?_, ?_⟩
      · simp only [List.length_cons, List.length_append]
        rcases List.mem_cons.mp hp with rfl | hp
        · simp only; omega
        · rcases List.mem_append.mp hp with hp | hp
          · have := a2 p hp; omega
          · have := b2 p hp; omega
      · rw [List.pairwise_cons, List.pairwise_append]
        refine ⟨fun p hp => ?_, a3, b3, fun p hp q hq => ?_⟩
        · unfold Nst
          rcases List.mem_append.mp hp with hp | hp
          · have := a2 p hp; simp only; omega
          · have := b2 p hp; simp only; omega
        · unfold Nst
          have := a2 p hp
          have := b2 q hq
          omega
theorem endsT_len (k : Nat) (ts : List Tr) : (endsT k ts).length = (nmTs ts).length := (endsT_ok _ ts k (Nat.le_refl _)).1
def nkN (o : Option (List Nat)) : NKey := o.map fun p => .inr (S p)
structure Ent where
  k : Option (List Nat)
  a : Addr
  l : List (List Nat)
def KT (M : Mem) (kd : Addr) (es : List Ent) : Prop := (∃ ep, M kd = some (dNP ep (es.map fun e => (nkN e.k, .ref e.a)))) /\ (∀ e ∈ es, M e.a = some (.lst (e.l.map strD))) /\ (kd :: es.map Ent.a).Nodup
def VT (M : Mem) (vd : Addr) (vs : List (List Nat × Int)) : Prop := ∃ ep, M vd = some (dNP ep (vs.map fun p => (nkN (some p.1), .int p.2)))
def ents (ts : List Tr) : List (Option (List Nat) × List (List Nat)) := (none, ts.map nmT) :: (inf ts).map fun i => (some i.nm, i.ks)
section
variable {M M' : Mem} {kd vd r : Addr} {ts : List Tr} {fp : List Addr}
end
end FL
set_option Elab.async false
set_option linter.all false
set_option maxRecDepth 100000
set_option maxHeartbeats 4000000
set_option autoImplicit false
namespace FL
open PySem L2 DL
def Nm (j : Nat) (x : List Nat) : Prop := ∃ p, x = p ++ dg j /\ (∀ c ∈ p, isL c = true) /\ p ≠ [] /\ p.length <= 6
section
variable {M : Mem} {kd vd : Addr} {es e1 e2 : List Ent} {e : Ent}
end
end FL
set_option Elab.async false
set_option linter.all false
set_option maxRecDepth 100000
set_option maxHeartbeats 4000000
set_option autoImplicit false
namespace FL
open PySem L2 DL
structure LF (M M1 : Mem) (r kd vd nr : Addr) (es : List Ent) (vs : List (List Nat × Int)) (nl : List (List Nat)) : Prop where
  kt : KT M1 kd es
  vt : VT M1 vd vs
  nm : M1 nr = some (.lst (nl.map strD))
  nd : (nr :: vd :: kd :: es.map Ent.a).Nodup
  fr : ∀ a ∈ nr :: vd :: kd :: es.map Ent.a, M a = none
  rt : RTo M M1 r
section
variable {M M1 M2 : Mem} {r kd vd nr : Addr} {es e1 e2 : List Ent} {e : Ent} {vs : List (List Nat × Int)} {nl : List (List Nat)}
end
structure LT (es : List Ent) (vs : List (List Nat × Int)) (nl : List (List Nat)) (ts : List Tr) : Prop where
  kp : (es.map fun e => (e.k, e.l)).Perm (ents ts)
  vp : vs.Perm ((inf ts).map fun i => (i.nm, i.va))
  vn : vs.map (·.1) = nl
  nm : ∀ j x, nl[j]? = some x -> Nm j x
  bd : ∀ p ∈ vs, -(10 ^ 30) <= p.2 /\ p.2 <= 10 ^ 30
end FL
set_option Elab.async false
set_option linter.all false
set_option maxRecDepth 100000
set_option maxHeartbeats 4000000
set_option autoImplicit false
namespace FL
open PySem L2 DL
structure FEn where
  n : List Nat
  a : Addr
  l : List Nat
structure FE (M0 M : Mem) (fd wr : Addr) (fs : List FEn) : Prop where
  d : ∃ ep, M fd = some (dNP ep (fs.map fun f => (nkN (some f.n), .ref f.a)))
  c : ∀ f ∈ fs, M f.a = some (.lst (f.l.map fun (i : Nat) => D.int (i : Int)))
  nd : (fd :: wr :: fs.map FEn.a).Nodup
  fr : ∀ a ∈ fd :: wr :: fs.map FEn.a, M0 a = none
  kp : Keep M0 M
  ky : (fs.map FEn.n).Nodup
section
variable {M0 M : Mem} {fd wr : Addr} {fs f1 f2 : List FEn} {f : FEn}
end
end FL
set_option Elab.async false
set_option linter.all false
set_option maxRecDepth 100000
set_option maxHeartbeats 4000000
set_option autoImplicit false
namespace FL
open PySem L2 DL
end FL
set_option Elab.async false
set_option linter.all false
set_option maxRecDepth 100000
set_option maxHeartbeats 4000000
set_option autoImplicit false
namespace FL
open PySem L2 DL
end FL
set_option Elab.async false
set_option linter.all false
set_option maxRecDepth 100000
set_option maxHeartbeats 4000000
set_option autoImplicit false
namespace FL
open PySem L2 DL
end FL
set_option Elab.async false
set_option linter.all false
set_option maxRecDepth 100000
set_option maxHeartbeats 4000000
set_option autoImplicit false
namespace FL
open PySem L2 DL
inductive Clo : List FEn -> List (List Nat) -> Nat -> List FEn -> List (List Nat) -> Nat -> Prop
  | nil (fs : List FEn) (op : List (List Nat)) (k : Nat) : Clo fs op k fs op k
  | pop {f1 f2 fs' : List FEn} {n : List Nat} {a : Addr} {b k k' : Nat} {op op' : List (List Nat)} : Clo (f1 ++ ⟨n, a, [b, k]⟩ :: f2) op (k + 1) fs' op' k' -> Clo (f1 ++ ⟨n, a, [b]⟩ :: f2) (op ++ [n]) k fs' op' k'
end FL
set_option Elab.async false
set_option linter.all false
set_option maxRecDepth 100000
set_option maxHeartbeats 4000000
set_option autoImplicit false
namespace FL
open PySem L2 DL
abbrev Nam := List Nat
def peT (k : Nat) (ts : List Tr) : List (Nam × (Nat × Nat)) := (nmTs ts).zip (endsT k ts)
theorem peT_nm (k : Nat) (ts : List Tr) : (peT k ts).map (·.1) = nmTs ts := List.map_fst_zip (by rw [endsT_len]; omega)
theorem peT_pw (k : Nat) (ts : List Tr) : (peT k ts).Pairwise fun p q => Nst p.2 q.2 := by
  rw [List.pairwise_iff_getElem]
  intro i j hi hj hij
  have h3 := (endsT_ok _ ts k (Nat.le_refl _)).2.2
  have hl : (peT k ts).length = (endsT k ts).length := by unfold peT; rw [List.length_zip, endsT_len]; omega
  have := List.pairwise_iff_getElem.mp h3 i j (by omega) (by omega) hij
  have el := endsT_len k ts
  have e1 : (peT k ts)[i] = ((nmTs ts)[i]'(by omega), (endsT k ts)[i]'(by omega)) := List.getElem_zip
  have e2 : (peT k ts)[j] = ((nmTs ts)[j]'(by omega), (endsT k ts)[j]'(by omega)) := List.getElem_zip
  rw [e1, e2]
  exact this
def posT (ts : List Tr) (x : Nam) : Nat × Nat := ((peT 0 ts).lookup x).getD (0, 0)
theorem look_of {β : Type} {l : List (Nam × β)} (nd : (l.map (·.1)).Nodup) {x : Nam} {b : β} (h : (x, b) ∈ l) : l.lookup x = some b := by
  induction l with
  | nil => cases h
  | cons p l ih =>
    obtain ⟨y, c⟩ := p
    rw [List.map_cons, List.nodup_cons] at nd
    rcases List.mem_cons.mp h with e | h
    · cases e
      rw [List.lookup_cons_self]
    · have : x ≠ y := fun z => nd.1 (z ▸ List.mem_map_of_mem (f := (·.1)) h)
      rw [List.lookup_cons, show (x == y) = false by simpa using this]
      exact ih nd.2 h
theorem look_mem {β : Type} {l : List (Nam × β)} {x : Nam} {b : β} (h : l.lookup x = some b) : (x, b) ∈ l := by
  induction l with
  | nil => cases h
  | cons p l ih =>
    obtain ⟨y, c⟩ := p
    by_cases e : x = y
    · subst e
      rw [List.lookup_cons_self] at h
      cases h
      exact List.mem_cons_self
    · rw [List.lookup_cons, show (x == y) = false by simpa using e] at h
      exact List.mem_cons_of_mem _ (ih h)
section
variable {ts : List Tr} {x y z b : Nam}
theorem posT_mem (nd : (nmTs ts).Nodup) {p : Nat × Nat} (h : (x, p) ∈ peT 0 ts) : posT ts x = p := by
  unfold posT
  rw [look_of (by rw [peT_nm]; exact nd) h]
  rfl
end
def bef (ts : List Tr) (x y : Nam) : Prop := (posT ts x).2 < (posT ts y).1
def ins (ts : List Tr) (x y : Nam) : Prop := (posT ts y).1 < (posT ts x).1 /\ (posT ts x).2 < (posT ts y).2
instance (ts : List Tr) (x y : Nam) : Decidable (bef ts x y) := inferInstanceAs (Decidable (_ < _))
instance (ts : List Tr) (x y : Nam) : Decidable (ins ts x y) := inferInstanceAs (Decidable (_ /\ _))
def boxT (ts : List Tr) : Option Nam -> List Nam
  | none => nmTs ts
  | some b => (nmTs ts).filter fun x => decide (ins ts x b)
theorem boxT_sub {ts : List Tr} {b : Option Nam} {x : Nam} (h : x ∈ boxT ts b) : x ∈ nmTs ts := by
  cases b with
  | none => exact h
  | some b => exact (List.mem_filter.mp h).1
theorem boxT_in {ts : List Tr} {b x : Nam} (h : x ∈ boxT ts (some b)) : ins ts x b := by simpa using (List.mem_filter.mp h).2
theorem boxT_pw {ts : List Tr} (nd : (nmTs ts).Nodup) (b : Option Nam) : (boxT ts b).Pairwise fun x y => Nst (posT ts x) (posT ts y) := by
  have h : (nmTs ts).Pairwise fun x y => Nst (posT ts x) (posT ts y) := by
    rw [<- peT_nm 0 ts, List.pairwise_map]
    refine (peT_pw 0 ts).imp_of_mem fun {p q} hp hq hn => ?_
    rw [posT_mem nd (p := p.2) hp, posT_mem nd (p := q.2) hq]
    exact hn
  cases b with
  | none => exact h
  | some b => exact h.filter _
abbrev Shs := List (Nam × (Int × Int))
def sf (Sh : Shs) (x : Nam) : Int := ((Sh.lookup x).getD (0, 0)).1
def sl (Sh : Shs) (x : Nam) : Int := ((Sh.lookup x).getD (0, 0)).2
def inS (Sh : Shs) (x : Nam) : Bool := (Sh.lookup x).isSome
def fol (Sh : Shs) (x y : Nam) : Prop := sl Sh x <= sf Sh y
def wit (Sh : Shs) (x : Nam) : Option Nam -> Prop
  | none => True
  | some b => sf Sh b <= sf Sh x /\ sl Sh x <= sl Sh b
instance (Sh : Shs) (x y : Nam) : Decidable (fol Sh x y) := inferInstanceAs (Decidable (_ <= _))
instance (Sh : Shs) (x : Nam) : (b : Option Nam) -> Decidable (wit Sh x b)
  | none => inferInstanceAs (Decidable True)
  | some b => inferInstanceAs (Decidable (_ /\ _))
structure ShOk (ts : List Tr) (Sh : Shs) (slack : Int) : Prop where
  nd : (nmTs ts).Nodup
  keys : (Sh.map (·.1)).Nodup
  sub : ∀ p ∈ Sh, p.1 ∈ nmTs ts
  bd : ∀ p ∈ Sh, 0 <= p.2.1 /\ p.2.1 <= p.2.2 /\ p.2.2 <= slack
def insd (ts : List Tr) (Sh : Shs) (b : Option Nam) : List Nam := (boxT ts b).filter fun x => inS Sh x && decide (wit Sh x b)
theorem insd_mem {ts : List Tr} {Sh : Shs} {b : Option Nam} {x : Nam} : x ∈ insd ts Sh b ↔ x ∈ boxT ts b /\ inS Sh x = true /\ wit Sh x b := by
  unfold insd
  rw [List.mem_filter, Bool.and_eq_true, decide_eq_true_eq]
structure Chn (ts : List Tr) (Sh : Shs) (c : Option Nam -> List Nam) : Prop where
  sub : ∀ b, ∀ x ∈ c b, x ∈ insd ts Sh b
  pw : ∀ b, (c b).Pairwise fun x y => bef ts x y /\ fol Sh x y
inductive KR (c : Option Nam -> List Nam) : Option Nam -> Nam -> Prop
  | here {b : Option Nam} {x : Nam} : x ∈ c b -> KR c b x
  | deep {b : Option Nam} {d x : Nam} : d ∈ c b -> KR c (some d) x -> KR c b x
def Fit (ts : List Tr) (Sh : Shs) (x y : Nam) : Prop := (bef ts x y -> fol Sh x y) /\ (bef ts y x -> fol Sh y x) /\ (ins ts x y -> wit Sh x (some y)) /\ (ins ts y x -> wit Sh y (some x))
section
variable {ts : List Tr} {Sh : Shs} {slack : Int} {c : Option Nam -> List Nam}
end
end FL
set_option Elab.async false
set_option linter.all false
set_option maxRecDepth 100000
set_option maxHeartbeats 4000000
set_option autoImplicit false
namespace FL
open PySem L2 DL
structure SprOk (fx : Nat -> Int) (slack : Int) (at_ last : Int) (ps : List Nat) : Prop where
  up : ps.Pairwise (· < ·)
  first : ∀ p ∈ ps, at_ < (p : Int) /\ last - at_ <= fx p - (p : Int) /\ fx p - (p : Int) <= slack
  mono : ps.Pairwise fun p q => fx p - (p : Int) <= fx q - (q : Int)
end FL
set_option Elab.async false
set_option linter.all false
set_option maxRecDepth 100000
set_option maxHeartbeats 4000000
set_option autoImplicit false
namespace FL
open PySem L2 DL
structure HE where
  n : Nam
  h : Int
  a : Option Nam
def pick1 (ts : List Tr) (Sh : Shs) (y : Nam) (m : Int × Option Nam) (o : HE) : Int × Option Nam := if bef ts o.n y /\ fol Sh o.n y /\ m.1 < o.h then (o.h, some o.n) else m
def pickB (ts : List Tr) (Sh : Shs) (l : List HE) (y : Nam) : Int × Option Nam := l.foldl (pick1 ts Sh y) (0, none)
def bhL (ts : List Tr) (Sh : Shs) (w : Nam -> Int) : List Nam -> List HE -> List HE
  | [], acc => acc
  | y :: ys, acc => bhL ts Sh w ys (acc ++ [⟨y, (pickB ts Sh acc y).1 + w y, (pickB ts Sh acc y).2⟩])
def bh (ts : List Tr) (Sh : Shs) (w : Nam -> Int) (b : Option Nam) : List HE := bhL ts Sh w (insd ts Sh b) []
section
variable {ts : List Tr} {Sh : Shs} {w : Nam -> Int} {slack : Int}
theorem bhL_congr {w2 : Nam -> Int} : ∀ (ys : List Nam) (acc : List HE), (∀ y ∈ ys, w y = w2 y) -> bhL ts Sh w ys acc = bhL ts Sh w2 ys acc
  | [], acc, _ => rfl
  | y :: ys, acc, h => by rw [bhL, bhL, h y (by simp), bhL_congr ys _ fun z hz => h z (by simp [hz])]
inductive Ch (l : List HE) : Option Nam -> List Nam -> Prop
  | nil : Ch l none []
  | cons {e : HE} {cs : List Nam} : e ∈ l -> Ch l e.a cs -> Ch l (some e.n) (e.n :: cs)
def here1 (m : Option (Nam × Int)) (o : HE) : Option (Nam × Int) := match m with
  | none => some (o.n, o.h)
  | some p => if p.2 < o.h then some (o.n, o.h) else some p
def hereB (l : List HE) : Option (Nam × Int) := l.foldl here1 none
open Classical in
noncomputable def chn (ts : List Tr) (Sh : Shs) (w : Nam -> Int) (b : Option Nam) : List Nam := if h : ∃ cs, Ch (bh ts Sh w b) ((hereB (bh ts Sh w b)).map (·.1)) cs then (Classical.choose h).reverse else []
end
end FL
set_option Elab.async false
set_option linter.all false
set_option maxRecDepth 100000
set_option maxHeartbeats 4000000
set_option autoImplicit false
namespace FL
open PySem L2 DL
structure Full (ts : List Tr) (Sh : Shs) : Prop where
  nd : (nmTs ts).Nodup
  all : ∀ x ∈ nmTs ts, inS Sh x = true
  bf : ∀ x ∈ nmTs ts, ∀ y ∈ nmTs ts, bef ts x y -> fol Sh x y
  in_ : ∀ x ∈ nmTs ts, ∀ y ∈ nmTs ts, ins ts x y -> wit Sh x (some y)
def rk (ts : List Tr) (b : Option Nam) (y : Nam) : Nat := (boxT ts b).countP fun z => decide ((posT ts z).2 <= (posT ts y).2)
def cnt (ts : List Tr) (x : Nam) : Nat := 1 + (boxT ts (some x)).length
section
variable {ts : List Tr} {Sh : Shs} {w : Nam -> Int} {b : Option Nam} {x y z : Nam}
def mxh (l : List HE) : Int := ((0 :: l.map HE.h).max?).getD 0
end
end FL
set_option Elab.async false
set_option linter.all false
set_option maxRecDepth 100000
set_option maxHeartbeats 4000000
set_option autoImplicit false
namespace FL
open PySem L2 DL
end FL
set_option Elab.async false
set_option linter.all false
set_option maxRecDepth 100000
set_option maxHeartbeats 4000000
set_option autoImplicit false
namespace FL
open PySem L2 DL
end FL
set_option Elab.async false
set_option linter.all false
set_option maxRecDepth 100000
set_option maxHeartbeats 4000000
set_option autoImplicit false
namespace FL
open PySem L2 DL
def cands (ts : List Tr) (Sh : Shs) : List Nam := (nmTs ts).filter (inS Sh)
theorem look_none {β : Type} {l : List (Nam × β)} {x : Nam} : (l.lookup x).isSome = l.any fun p => decide (p.1 = x) := by
  induction l with
  | nil => rfl
  | cons p l ih =>
    obtain ⟨y, c⟩ := p
    by_cases e : x = y
    · subst e
      rw [List.lookup_cons_self]
      simp
    · rw [List.lookup_cons, show (x == y) = false by simpa using e, List.any_cons, show decide (y = x) = false by simpa using Ne.symm e]
      simpa using ih
end FL
set_option Elab.async false
set_option linter.all false
set_option maxRecDepth 100000
set_option maxHeartbeats 4000000
set_option autoImplicit false
namespace FL
open PySem L2 DL
abbrev Wrs := List (Nam × Int)
def wL (L : Wrs) (x : Nam) : Int := (L.lookup x).getD 0
end FL
set_option Elab.async false
set_option linter.all false
set_option maxRecDepth 100000
set_option maxHeartbeats 4000000
set_option autoImplicit false
namespace FL
open PySem L2 DL
structure WP (ts : List Tr) (Sh : Shs) (L : Wrs) (done : List Nam) : Prop where
  keys : L.map (·.1) = done
  rc : ∀ x ∈ done, wL L x = 1 + mxh (bh ts Sh (wL L) (some x))
section
variable {ts : List Tr} {Sh : Shs} {slack : Int} {L : Wrs} {done rest : List Nam} {y : Nam}
theorem cands_nd (S : ShOk ts Sh slack) : (cands ts Sh).Nodup := S.nd.filter _
theorem mem_cands {x : Nam} : x ∈ cands ts Sh ↔ x ∈ nmTs ts /\ inS Sh x = true := by unfold cands; rw [List.mem_filter]
theorem insd_cand {b : Option Nam} {x : Nam} (h : x ∈ insd ts Sh b) : x ∈ cands ts Sh := by
  obtain ⟨h1, h2, _⟩ := insd_mem.mp h
  exact mem_cands.mpr ⟨boxT_sub h1, h2⟩
theorem cand_in (S : ShOk ts Sh slack) (e : (cands ts Sh).reverse = done ++ y :: rest) : ∀ x ∈ insd ts Sh (some y), x ∈ done := by
  intro x hx
  have pw : (cands ts Sh).reverse.Pairwise fun a b => Nst (posT ts b) (posT ts a) := by
    rw [List.pairwise_reverse]
    exact (boxT_pw S.nd none).filter _
  have hm : x ∈ done ++ y :: rest := by
    rw [<- e, List.mem_reverse]
    exact insd_cand hx
  have hi := boxT_in (insd_mem.mp hx).1
  rw [e, List.pairwise_append] at pw
  obtain ⟨_, p2, _⟩ := pw
  rcases List.mem_append.mp hm with h | h
  · exact h
  · exfalso
    unfold ins at hi
    rcases List.mem_cons.mp h with rfl | h
    · omega
    · have := (List.pairwise_cons.mp p2).1 x h
      unfold Nst at this
      omega
theorem cand_in2 (S : ShOk ts Sh slack) (e : (cands ts Sh).reverse = done ++ rest) {z : Nam} (hz : z ∈ done) : ∀ x ∈ insd ts Sh (some z), x ∈ done := by
  obtain ⟨d1, d2, rfl⟩ := List.append_of_mem hz
  intro x hx
  have := cand_in S (done := d1) (rest := d2 ++ rest) (y := z) (by rw [e]; simp) x hx
  simp [this]
theorem wL_app {x : Nam} {p : Nam × Int} (h : x ∈ L.map (·.1)) : wL (L ++ [p]) x = wL L x := by
  unfold wL
  rw [List.lookup_append]
  cases hl : L.lookup x with
  | some v => rfl
  | none =>
    exfalso
    have h2 := look_none (l := L) (x := x)
    rw [hl] at h2
    obtain ⟨q, hq, rfl⟩ := List.mem_map.mp h
    have : L.any (fun p => decide (p.1 = q.1)) = true := List.any_eq_true.mpr ⟨q, hq, by simp⟩
    rw [this] at h2
    cases h2
theorem wL_new {x : Nam} {v : Int} (h : x ∉ L.map (·.1)) : wL (L ++ [(x, v)]) x = v := by
  unfold wL
  rw [List.lookup_append]
  cases hl : L.lookup x with
  | some w => exact absurd (List.mem_map_of_mem (f := (·.1)) (look_mem hl)) h
  | none =>
    show (List.lookup x [(x, v)]).getD 0 = v
    rw [List.lookup_cons_self]
    rfl
theorem wp_step (S : ShOk ts Sh slack) (W : WP ts Sh L done) (e : (cands ts Sh).reverse = done ++ y :: rest) : WP ts Sh (L ++ [(y, 1 + mxh (bh ts Sh (wL L) (some y)))]) (done ++ [y]) := by
  have nd : (done ++ y :: rest).Nodup := by rw [<- e]; exact (List.reverse_perm _).symm.nodup (cands_nd S)
  have hy : y ∉ L.map (·.1) := by
    rw [W.keys]
    intro h
    have := (List.nodup_append.mp nd).2.2 y h y (by simp)
    exact this rfl
  have cg : ∀ x, (∀ z ∈ insd ts Sh (some x), z ∈ done) -> bh ts Sh (wL (L ++ [(y, 1 + mxh (bh ts Sh (wL L) (some y)))])) (some x) = bh ts Sh (wL L) (some x) := fun x hx => bhL_congr _ _ fun z hz => wL_app (by rw [W.keys]; exact hx z hz)
  refine ⟨by rw [List.map_append, W.keys]; rfl, fun x hx => ?_⟩
  rcases List.mem_append.mp hx with hx | hx
  · rw [wL_app (by rw [W.keys]; exact hx), W.rc x hx, cg x (cand_in2 S e hx)]
  · rw [List.mem_singleton] at hx
    subst hx
    rw [wL_new hy, cg x (cand_in S e)]
end
end FL
set_option Elab.async false
set_option linter.all false
set_option maxRecDepth 100000
set_option maxHeartbeats 4000000
set_option autoImplicit false
namespace FL
open PySem L2 DL
structure KInv (ts : List Tr) (c : Option Nam -> List Nam) (W : List (Option Nam)) (F : List Nam) : Prop where
  nd : F.Nodup
  sub : ∀ d, some d ∈ W -> d ∈ F
  kr : ∀ x ∈ F, KR c none x
  all : ∀ x, KR c none x -> x ∈ F \/ ∃ b ∈ W, KR c b x
section
variable {ts : List Tr} {Sh : Shs} {slack : Int} {c : Option Nam -> List Nam} {W : List (Option Nam)} {F : List Nam} {b : Option Nam}
open Classical in
noncomputable def kept (ts : List Tr) (Sh : Shs) (w : Nam -> Int) : List Nam := (cands ts Sh).filter fun x => decide (KR (chn ts Sh w) none x)
end
end FL
set_option Elab.async false
set_option linter.all false
set_option maxRecDepth 100000
set_option maxHeartbeats 4000000
set_option autoImplicit false
namespace FL
open PySem L2 DL
abbrev Fxs := List (Nat × Int)
section
variable {X : Fxs} {ep : Nat}
structure FxOk (X : Fxs) (many : Nat) (most : Int) : Prop where
  nd : (X.map (·.1)).Nodup
  lt : ∀ p ∈ X, p.1 < many
  bd : ∀ p ∈ X, 0 <= p.2 - (p.1 : Int) /\ p.2 - (p.1 : Int) <= most - many
  mono : ∀ p ∈ X, ∀ q ∈ X, p.1 < q.1 -> p.2 - (p.1 : Int) <= q.2 - (q.1 : Int)
end
end FL
set_option Elab.async false
set_option linter.all false
set_option maxRecDepth 100000
set_option maxHeartbeats 4000000
set_option autoImplicit false
namespace FL
open PySem L2 DL
section
variable {ts : List Tr} {Sh : Shs} {slack m : Int} {R : List D} {ks : List Nam} {n : Nam}
end
section
variable {ts : List Tr} {N : List Int} {last m m' : Int}
end
end FL
set_option Elab.async false
set_option linter.all false
set_option maxRecDepth 100000
set_option maxHeartbeats 4000000
set_option autoImplicit false
namespace FL
open PySem L2 DL
theorem str_ok (s : String) : PyData.strOk (Str.ofString s) = true := by
  unfold PyData.strOk
  rw [Str.ofString_eq_toList]
  show (List.toArray _).all _ = true
  rw [List.all_toArray, List.all_eq_true]
  intro c hc
  obtain ⟨ch, _, rfl⟩ := List.mem_map.mp hc
  refine decide_eq_true ?_
  have h := ch.valid
  have hd : ch.toNat = ch.val.toNat := rfl
  rcases h with h | ⟨_, h⟩
  · rw [hd]
    have : ch.val.toNat < 55296 := h
    omega
  · exact h
end FL
set_option Elab.async false
set_option linter.all false
set_option maxRecDepth 100000
set_option maxHeartbeats 4000000
set_option autoImplicit false
namespace FL
open PySem L2 DL
abbrev Ek := Option Nam × List Nam
def KX (M : Mem) (kd vd : Addr) (E : List Ek) (V : List (Nam × Int)) (fp : List Addr) : Prop := ∃ es vs, KT M kd es /\ VT M vd vs /\ vd ∉ kd :: es.map Ent.a /\ fp = vd :: kd :: es.map Ent.a /\ (es.map fun e => (e.k, e.l)).Perm E /\ vs.Perm V /\ (E.map (·.1)).Nodup /\ (V.map (·.1)).Nodup
def vals (ts : List Tr) : List (Nam × Int) := (inf ts).map fun i => (i.nm, i.va)
section
variable {M M' : Mem} {kd vd : Addr} {E : List Ek} {V : List (Nam × Int)} {fp : List Addr} {k : Option Nam} {l : List Nam}
end
end FL
set_option Elab.async false
set_option linter.all false
set_option maxRecDepth 100000
set_option maxHeartbeats 4000000
set_option autoImplicit false
namespace FL
open PySem L2 DL
def repl (o : Option Nam) (vs ts : List Tr) : List Tr := match o with
  | none => vs
  | some p => setTs p vs ts
def Plc (o : Option Nam) (us ts : List Tr) : Prop := (o = none /\ us = ts) \/ ∃ p va, o = some p /\ Loc p va us ts
section
variable {o : Option Nam} {us ts : List Tr}
end
section
variable {o : Option Nam} {us ts : List Tr} {n : Nam} {v : Int} {i j : Nat}
end
mutual
def svT (x : Nam) (v : Int) : Tr -> Tr
  | .mk n w ks => .mk n (if n = x then v else w) (svTs x v ks)
def svTs (x : Nam) (v : Int) : List Tr -> List Tr
  | [] => []
  | t :: ts => svT x v t :: svTs x v ts
end
section
variable {o : Option Nam} {ts w1 w2 ks : List Tr} {x : Nam} {va : Int}
end
end FL
set_option Elab.async false
set_option linter.all false
set_option maxRecDepth 100000
set_option maxHeartbeats 4000000
set_option autoImplicit false
namespace FL
open PySem L2 DL
section
variable {M M' : Mem} {kd vd : Addr} {E : List Ek} {V : List (Nam × Int)} {fp : List Addr} {n : Nam} {v : Int}
end
structure KF (M M1 : Mem) (kd vd : Addr) (fp : List Addr) (E : List Ek) (V : List (Nam × Int)) : Prop where
  kx : ∃ fp1, KX M1 kd vd E V fp1 /\ ∀ c ∈ fp1, c ∈ fp \/ M c = none
  fr : ∀ c d, c ∉ fp -> M c = some d -> M1 c = some d
  kin : kd ∈ fp
  vin : vd ∈ fp
section
variable {M M1 M2 : Mem} {kd vd : Addr} {E : List Ek} {V : List (Nam × Int)} {fp : List Addr} {n : Nam} {v : Int} {k : Option Nam} {l : List Nam}
end
inductive Spc
  | wrap (put : Bool) (n : Nam) (v : Int) (o : Option Nam) (i j : Nat)
  | set (x : Nam) (v : Int)
  | rev (o : Option Nam)
  | lift (x : Nam)
  | cut (x : Nam)
  | move (x : Nam) (g : Option Nam) (k : Nat)
inductive DoT (ts : List Tr) : Spc -> List Tr -> Prop
  | wrap {put : Bool} {n : Nam} {v : Int} {o : Option Nam} {i j : Nat} {us : List Tr} : Plc o us ts -> i <= j -> j <= us.length -> (if put = true then i = j else i < j) -> n ∉ nmTs ts -> DoT ts (.wrap put n v o i j) (repl o (wrapT us n v i j) ts)
  | set {x : Nam} {v : Int} : x ∈ nmTs ts -> DoT ts (.set x v) (svTs x v ts)
  | rev {o : Option Nam} {us : List Tr} : Plc o us ts -> DoT ts (.rev o) (repl o us.reverse ts)
  | lift {o : Option Nam} {w1 w2 ks : List Tr} {x : Nam} {va : Int} : Plc o (w1 ++ .mk x va ks :: w2) ts -> DoT ts (.lift x) (repl o (w1 ++ ks ++ w2) ts)
  | cut {o : Option Nam} {w1 w2 ks : List Tr} {x : Nam} {va : Int} : Plc o (w1 ++ .mk x va ks :: w2) ts -> DoT ts (.cut x) (repl o (w1 ++ w2) ts)
  | move {o g : Option Nam} {w1 w2 ks us : List Tr} {x : Nam} {va : Int} {k : Nat} : Plc o (w1 ++ .mk x va ks :: w2) ts -> Plc g us (repl o (w1 ++ w2) ts) -> k <= us.length -> DoT ts (.move x g k) (repl g (insT us k (.mk x va ks)) (repl o (w1 ++ w2) ts))
end FL
set_option Elab.async false
set_option linter.all false
set_option maxRecDepth 100000
set_option maxHeartbeats 4000000
set_option autoImplicit false
namespace FL
open PySem L2 DL
end FL
set_option Elab.async false
set_option linter.all false
set_option maxRecDepth 100000
set_option maxHeartbeats 4000000
set_option autoImplicit false
namespace FL
open PySem L2 DL
section
variable {M : Mem} {kd vd : Addr} {ts : List Tr} {fp : List Addr}
end
end FL
set_option Elab.async false
set_option linter.all false
set_option maxRecDepth 100000
set_option maxHeartbeats 4000000
set_option autoImplicit false
namespace FL
open PySem L2 DL
section
variable {ts : List Tr} {Sh : Shs} {X : Fxs}
end
end FL
set_option Elab.async false
set_option linter.all false
set_option maxRecDepth 100000
set_option maxHeartbeats 4000000
set_option autoImplicit false
namespace FL
open PySem L2 DL
section
variable {ts : List Tr} {Sh : Shs} {w : Nam -> Int} {slack : Int} {b : Option Nam}
structure HInv (ts : List Tr) (Sh : Shs) (w : Nam -> Int) (l : List HE) : Prop where
  low : l.Pairwise fun o e => bef ts o.n e.n -> fol Sh o.n e.n -> o.h + w e.n <= e.h
  own : ∀ e ∈ l, w e.n <= e.h
  ex : ∀ e ∈ l, (e.a = none /\ e.h = w e.n) \/ ∃ f ∈ l, e.a = some f.n /\ e.h = f.h + w e.n
end
end FL
set_option Elab.async false
set_option linter.all false
set_option maxRecDepth 100000
set_option maxHeartbeats 4000000
set_option autoImplicit false
namespace FL
open PySem L2 DL
instance (ts : List Tr) (Sh : Shs) (x y : Nam) : Decidable (Fit ts Sh x y) := by unfold Fit; exact inferInstance
section
variable {ts : List Tr} {Sh : Shs} {slack : Int}
end
section
variable {ts : List Tr} {N : List Int} {m m' : Int} {R : List D} {w : Nam -> Int}
end
end FL
set_option Elab.async false
set_option linter.all false
set_option maxRecDepth 100000
set_option maxHeartbeats 4000000
set_option autoImplicit false
namespace FL
open PySem
theorem sorted_uniq {α : Type} {le : α -> α -> Prop} : ∀ {l m : List α}, l.Perm m -> l.Pairwise le -> m.Pairwise le -> (∀ a ∈ l, ∀ b ∈ l, le a b -> le b a -> a = b) -> l = m
  | [], m, p, _, _, _ => (List.nil_perm.mp p).symm ▸ rfl
  | a :: l, [], p, _, _, _ => absurd p.length_eq (by simp)
  | a :: l, b :: m, p, h1, h2, anti => by
    have ha : a ∈ b :: m := p.mem_iff.mp (by simp)
    have hb : b ∈ a :: l := p.mem_iff.mpr (by simp)
    have e : a = b := by
      rcases List.mem_cons.mp ha with e | ha
      · exact e
      · rcases List.mem_cons.mp hb with e | hb
        · exact e.symm
        · exact anti a (by simp) b (by simp [hb]) ((List.pairwise_cons.mp h1).1 b hb) ((List.pairwise_cons.mp h2).1 a ha)
    subst e
    rw [sorted_uniq (List.Perm.cons_inv p) (List.pairwise_cons.mp h1).2 (List.pairwise_cons.mp h2).2 fun x hx y hy => anti x (by simp [hx]) y (by simp [hy])]
end FL
set_option Elab.async false
set_option linter.all false
set_option maxRecDepth 100000
set_option maxHeartbeats 4000000
set_option autoImplicit false
namespace FL
open PySem L2 DL
def rkAt (ls : List Int) (p : Nat) : Nat := (sibs ls (ancs ls p).head?).idxOf p
def lineT (ls : List Int) (p : Nat) : List Nat := (ancs ls p).reverse ++ [p]
end FL
set_option Elab.async false
set_option linter.all false
set_option maxRecDepth 100000
set_option maxHeartbeats 4000000
set_option autoImplicit false
namespace FL
open PySem L2 DL
structure PR where
  ab : List Nat
  be : List Nat
  st : Int
  rk : Int
  va : Int
structure PR.Ok (r : PR) : Prop where
  na : NameOk r.ab
  nb : NameOk r.be
  v0 : -(10 ^ 30) <= r.va
  v1 : r.va <= 10 ^ 30
  s0 : 0 <= r.st
  self : r.st = 0 ↔ r.ab = r.be
  r0 : 0 <= r.rk
def pairP (rs : List Row) (p a k : Nat) : PR := ⟨(rs.map Row.nm).getD a [], (rs.map Row.nm).getD p [], k, (rkAt (lvs rs) a : Nat), (rs.map Row.va).getD p 0⟩
def pairsPAt (rs : List Row) (p : Nat) : List PR := (lineT (lvs rs) p).zipIdx.map fun z => pairP rs p z.1 ((lineT (lvs rs) p).length - 1 - z.2)
def pairsP (rs : List Row) : List PR := (List.range rs.length).flatMap (pairsPAt rs)
theorem lineT_eq (ls : List Int) (p : Nat) : lineT ls p = (line ls p).reverse := by
  unfold lineT line
  rw [List.reverse_cons]
theorem anc_desc (ls : List Int) : ∀ (i : Nat) (lev : Int), (anc ls i lev).Pairwise (· > ·)
  | 0, _ => by unfold anc; exact .nil
  | i + 1, lev => by
    unfold anc
    split
    · exact .cons (fun j hj => anc_lt ls i _ j hj) (anc_desc ls i _)
    · exact anc_desc ls i lev
theorem line_desc (ls : List Int) (p : Nat) : (line ls p).Pairwise (· > ·) := .cons (fun j hj => anc_lt ls p _ j hj) (anc_desc ls p _)
structure PX (rs : List Row) (X : List PR) : Prop where
  ok : RowsOk rs
  perm : X.Perm (pairsP rs)
section
variable {rs : List Row} {X : List PR}
theorem one_of {α : Type} {l : List α} (h : l.Nodup) {c : α} (hc : c ∈ l) (h1 : ∀ x ∈ l, x = c) : l = [c] := by
  match l, h with
  | [], _ => cases hc
  | [x], _ => rw [h1 x (by simp)]
  | x :: y :: l, h =>
    have := (List.nodup_cons.mp h).1
    rw [h1 x (by simp), h1 y (by simp)] at this
    exact absurd (by simp) this
end
end FL
set_option Elab.async false
set_option linter.all false
set_option maxRecDepth 100000
set_option maxHeartbeats 4000000
set_option autoImplicit false
namespace FL
open PySem L2 DL
abbrev nk (a : List Nat) : NKey := some (.inr (S a))
def optS : Option (List Nat) -> D
  | none => .non
  | some n => strD n
@[simp] theorem vw_optS {M : Mem} {o : Option (List Nat)} : vw M (optS o) = optS o := by cases o <;> rfl
theorem keep_off {M M1 : Mem} {a : Addr} (h : M a = none) (k : ∀ b, b ≠ a -> M1 b = M b) : Keep M M1 := fun b d e => by
  rw [k b (fun z => by rw [z, h] at e; cases e)]; exact e
end FL
set_option Elab.async false
set_option linter.all false
set_option maxRecDepth 100000
set_option maxHeartbeats 4000000
set_option autoImplicit false
namespace FL
open PySem L2 DL
section
variable {γ : DTG} {υ : DTT} {τk τv : DTE} {vs : List Nat} {a : Addr} {Q : DV} {ρ : DL.Env}
end
end FL
set_option Elab.async false
set_option linter.all false
set_option maxRecDepth 100000
set_option maxHeartbeats 4000000
set_option autoImplicit false
namespace FL
open PySem L2 DL
end FL
set_option Elab.async false
set_option linter.all false
set_option maxRecDepth 100000
set_option maxHeartbeats 4000000
set_option autoImplicit false
namespace FL
open PySem L2 DL
abbrev Held (M : Mem) (zs : List D) : Prop := ∀ z ∈ zs, ∀ a, z = .ref a -> (M a).isSome
structure HandT (M : Mem) (d : D) : Prop where
  ty : ∃ n, tyName (vw M d) = some n
  at_ : ∀ a, d = .ref a -> (M a).isSome
  rows : ∀ zs, seqs (vw M d) = some zs -> (∀ y ∈ zs.map (vw M), PlRow y) /\ Held M zs /\ zs.length <= 10000000
end FL
set_option Elab.async false
set_option linter.all false
set_option maxRecDepth 100000
set_option maxHeartbeats 4000000
set_option autoImplicit false
namespace FL
open PySem L2 DL PyProof.Rows PySem.W
theorem lineT_cons {ls : List Int} {p q : Nat} {r : List Nat} (h : ancs ls p = q :: r) : lineT ls p = lineT ls q ++ [p] := by
  rw [lineT_eq, lineT_eq, line_cons h, List.reverse_cons]
theorem lineT_root {ls : List Int} {p : Nat} (h : ancs ls p = []) : lineT ls p = [p] := by
  unfold lineT; rw [h]; rfl
theorem idxOf_lt {l : List Nat} (h : l.Pairwise (· < ·)) {a b : Nat} (ha : a ∈ l) (hb : b ∈ l) (hab : a < b) : l.idxOf a < l.idxOf b := by
  have h1 := (idx_at ha).1
  have h2 := (idx_at hb).1
  obtain ⟨g1, e1⟩ := List.getElem?_eq_some_iff.mp h1
  obtain ⟨g2, e2⟩ := List.getElem?_eq_some_iff.mp h2
  rcases Nat.lt_trichotomy (l.idxOf a) (l.idxOf b) with c | c | c
  · exact c
  · have : a = b := by rw [<- e1, <- e2]; congr 1
    omega
  · have := List.pairwise_iff_getElem.mp h _ _ g2 g1 c
    rw [e1, e2] at this
    omega
theorem sibs_asc (ls : List Int) (o : Option Nat) : (sibs ls o).Pairwise (· < ·) := List.Pairwise.filter _ List.pairwise_lt_range
theorem rk_lt {ls : List Int} {p q : Nat} (hq : q < ls.length) (hpq : p < q) (e : (ancs ls p).head? = (ancs ls q).head?) : rkAt ls p < rkAt ls q := by
  unfold rkAt
  rw [e]
  refine idxOf_lt (sibs_asc _ _) ?_ ?_ hpq
  · unfold sibs; simp; exact ⟨by omega, e⟩
  · unfold sibs; simp; exact hq
end FL
set_option Elab.async false
set_option linter.all false
set_option maxRecDepth 100000
set_option maxHeartbeats 4000000
set_option autoImplicit false
namespace FL
open PySem L2 DL
section
variable {γ : DTG} {υ : DTT} {τk τv : DTE} {vs : List Nat} {a : Addr} {Q : DV} {ρ : DL.Env} {M : Mem} {α : Type}
end
theorem lineT_len (ls : List Int) (p : Nat) : (lineT ls p).length = (ancs ls p).length + 1 := by unfold lineT; simp
theorem lineT_lv {ls : List Int} (L : LevOk ls) : ∀ (n q : Nat), q <= n -> q < ls.length -> ∀ (j a : Nat), (lineT ls q)[j]? = some a -> ls.getD a 0 = (j : Nat) := fun n => by
  induction n with
  | zero =>
    intro q hn hq j a h
    have : q = 0 := by omega
    subst this
    have e : ancs ls 0 = [] := by unfold ancs; unfold anc; rfl
    rw [lineT_root e] at h
    have c := ancs_count L hq
    rw [e] at c
    match j, h with
    | 0, h =>
      cases h
      simpa using c.symm
    | j + 1, h => simp at h
  | succ n ih =>
    intro q hn hq j a h
    have c := ancs_count L hq
    cases e : ancs ls q with
    | nil =>
      rw [lineT_root e] at h
      rw [e] at c
      match j, h with
      | 0, h => cases h; simpa using c.symm
      | j + 1, h => simp at h
    | cons q' r =>
      rw [lineT_cons e] at h
      have hlt := ancs_lt e
      by_cases hj : j < (lineT ls q').length
      · rw [List.getElem?_append_left hj] at h
        exact ih q' (by omega) (by omega) j a h
      · rw [List.getElem?_append_right (by omega)] at h
        have hr : r = ancs ls q' := ancs_cons e
        have hl := lineT_len ls q'
        have h0 : j - (lineT ls q').length = 0 := by
          rcases Nat.eq_zero_or_pos (j - (lineT ls q').length) with z | z
          · exact z
          · rw [List.getElem?_eq_none (by simp; omega)] at h; cases h
        rw [h0] at h
        cases h
        rw [<- c, e, hr]
        simp only [List.length_cons]
        omega
theorem lineT_pre {ls : List Int} : ∀ (n q : Nat), q <= n -> ∀ (j a : Nat), (lineT ls q)[j]? = some a -> lineT ls a = (lineT ls q).take (j + 1) := fun n => by
  induction n with
  | zero =>
    intro q hn j a h
    have : q = 0 := by omega
    subst this
    have e : ancs ls 0 = [] := by unfold ancs; unfold anc; rfl
    have e2 := lineT_root e
    rw [e2] at h
    match j, h with
    | 0, h => cases h; rw [e2]; rfl
    | j + 1, h => simp at h
  | succ n ih =>
    intro q hn j a h
    cases e : ancs ls q with
    | nil =>
      have e2 := lineT_root e
      rw [e2] at h
      match j, h with
      | 0, h => cases h; rw [e2]; rfl
      | j + 1, h => simp at h
    | cons q' r =>
      have hlt := ancs_lt e
      have ec := lineT_cons e
      rw [ec] at h
      by_cases hj : j < (lineT ls q').length
      · rw [List.getElem?_append_left hj] at h
        rw [ih q' (by omega) j a h, ec, List.take_append_of_le_length (by omega)]
      · rw [List.getElem?_append_right (by omega)] at h
        have h0 : j - (lineT ls q').length = 0 := by
          rcases Nat.eq_zero_or_pos (j - (lineT ls q').length) with z | z
          · exact z
          · rw [List.getElem?_eq_none (by simp; omega)] at h; cases h
        rw [h0] at h
        cases h
        rw [ec, List.take_of_length_le (by simp; omega)]
theorem lineT_asc (ls : List Int) (p : Nat) : (lineT ls p).Pairwise (· < ·) := by
  rw [lineT_eq, List.pairwise_reverse]
  exact (line_desc ls p).imp fun h => h
def lineP (ls : List Int) (p : Nat) : List Nat := if p = 0 then [] else lineT ls (p - 1)
theorem anc_prev {ls : List Int} (L : LevOk ls) {p : Nat} (hp : p < ls.length) : (ancs ls p).length <= (lineP ls p).length /\ (ancs ls p).reverse = (lineP ls p).take (ancs ls p).length := by
  by_cases h0 : p = 0
  · subst h0
    have e : ancs ls 0 = [] := by unfold ancs; unfold anc; rfl
    rw [e]; exact ⟨Nat.zero_le _, rfl⟩
  · unfold lineP
    rw [if_neg h0]
    have c1 := ancs_count L hp
    have c2 := ancs_count L (p := p - 1) (by omega)
    have hl := lineT_len ls (p - 1)
    have hle : (ancs ls p).length <= (lineT ls (p - 1)).length := by
      have e1 : ls.getD p 0 = ls[p] := by simp [List.getD, hp]
      obtain ⟨_, _, h3⟩ := L p ls[p] (List.getElem?_eq_getElem hp)
      obtain ⟨m, e2, h4⟩ := h3 (p - 1) (by omega)
      have e3 : ls.getD (p - 1) 0 = m := by simp [List.getD, e2]
      omega
    refine ⟨hle, ?_⟩
    have a1 : (ancs ls p).reverse.Pairwise (· < ·) := by rw [List.pairwise_reverse]; exact (anc_desc ls p _).imp fun h => h
    have a2 : ((lineT ls (p - 1)).take (ancs ls p).length).Pairwise (· < ·) := (lineT_asc ls (p - 1)).sublist (List.take_sublist _ _)
    refine sorted_uniq (le := (· < ·)) ((List.perm_ext_iff_of_nodup (a1.imp fun h e => by omega) (a2.imp fun h e => by omega)).mpr fun a => ?_) a1 a2 fun a _ b _ h1 h2 => by omega
    rw [List.mem_reverse]
    have m1 : a ∈ ancs ls p ↔ a ∈ lineT ls (p - 1) /\ ls.getD a 0 < ls.getD p 0 := by
      rw [lineT_eq, List.mem_reverse]
      unfold line
      rw [List.mem_cons]
      have i1 := anc_iff ls a p (ls.getD p 0)
      have i2 := anc_iff ls a (p - 1) (ls.getD (p - 1) 0)
      rw [show anc ls p (ls.getD p 0) = ancs ls p from rfl] at i1
      rw [show anc ls (p - 1) (ls.getD (p - 1) 0) = ancs ls (p - 1) from rfl] at i2
      rw [i1, i2]
      constructor
      · rintro ⟨h1, h2, h3⟩
        refine ⟨?_, h2⟩
        by_cases c : a = p - 1
        · exact .inl c
        · exact .inr ⟨by omega, h3 (p - 1) (by omega) (by omega), fun k k1 k2 => h3 k k1 (by omega)⟩
      · rintro ⟨h1, h2⟩
        rcases h1 with rfl | ⟨h1, h3, h4⟩
        · exact ⟨by omega, h2, fun k k1 k2 => by omega⟩
        · refine ⟨by omega, h2, fun k k1 k2 => ?_⟩
          by_cases c : k = p - 1
          · subst c; exact h3
          · exact h4 k k1 (by omega)
    rw [m1, List.mem_take_iff_getElem]
    constructor
    · rintro ⟨h1, h2⟩
      obtain ⟨j, hj, e⟩ := List.getElem_of_mem h1
      have hlv := lineT_lv L (p - 1) (p - 1) (Nat.le_refl _) (by omega) j a (by rw [List.getElem?_eq_getElem hj, e])
      exact ⟨j, by omega, e⟩
    · rintro ⟨j, hj, e⟩
      have hlv := lineT_lv L (p - 1) (p - 1) (Nat.le_refl _) (by omega) j a (by rw [List.getElem?_eq_getElem (by omega), e])
      exact ⟨by rw [<- e]; exact List.getElem_mem _, by omega⟩
theorem lineT_step {ls : List Int} (L : LevOk ls) {p : Nat} (hp : p < ls.length) : lineT ls p = (lineP ls p).take (ancs ls p).length ++ [p] := by
  rw [<- (anc_prev L hp).2]; rfl
theorem rk_count {ls : List Int} {p : Nat} (hp : p < ls.length) : rkAt ls p = ((List.range p).filter fun j => decide ((ancs ls j).head? = (ancs ls p).head?)).length := by
  unfold rkAt sibs
  have e : List.range ls.length = List.range p ++ (p :: List.range' (p + 1) (ls.length - p - 1)) := by
    rw [List.range_eq_range', List.range_eq_range', <- List.range'_succ, show ls.length - p - 1 + 1 = ls.length - p by omega]
    have := List.range'_append_1 (s := 0) (m := p) (n := ls.length - p)
    rw [Nat.zero_add, show p + (ls.length - p) = ls.length by omega] at this
    exact this.symm
  rw [e, List.filter_append, List.filter_cons_of_pos (by simp)]
  rw [List.idxOf_append, if_neg]
  · simp
  · intro h
    have := (List.mem_filter.mp h).1
    simp at this
theorem ancs_par {ls : List Int} {j p : Nat} (e : (ancs ls j).head? = (ancs ls p).head?) : ancs ls j = ancs ls p := by
  cases e1 : ancs ls j with
  | nil =>
    cases e2 : ancs ls p with
    | nil => rfl
    | cons b s => rw [e1, e2] at e; cases e
  | cons a r =>
    cases e2 : ancs ls p with
    | nil => rw [e1, e2] at e; cases e
    | cons b s =>
      rw [e1, e2] at e
      cases e
      rw [ancs_cons e1, ancs_cons e2]
def cntAt (ls : List Int) (p j : Nat) : Nat := match (lineP ls p)[j]? with
  | some s => rkAt ls s + 1
  | none => 0
theorem rk_cnt {ls : List Int} (L : LevOk ls) {p : Nat} (hp : p < ls.length) : rkAt ls p = cntAt ls p (ancs ls p).length := by
  obtain ⟨hle, hrev⟩ := anc_prev L hp
  unfold cntAt
  cases hs : (lineP ls p)[(ancs ls p).length]? with
  | some s =>
    simp only
    have h0 : p ≠ 0 := fun z => by subst z; unfold lineP at hs; simp at hs
    unfold lineP at hs hrev
    rw [if_neg h0] at hs hrev
    have hlv := lineT_lv L (p - 1) (p - 1) (Nat.le_refl _) (by omega) _ s hs
    have hpre := lineT_pre (p - 1) (p - 1) (Nat.le_refl _) _ s hs
    have hsm : s ∈ line ls (p - 1) := by have := List.mem_of_getElem? hs; rw [lineT_eq] at this; simpa using this
    have hsp : s <= p - 1 := line_le ls _ s hsm
    have ea : ancs ls s = ancs ls p := by
      have e1 : lineT ls s = (ancs ls p).reverse ++ [s] := by
        rw [hpre, hrev]
        obtain ⟨hj, ej⟩ := List.getElem?_eq_some_iff.mp hs
        rw [<- ej]
        exact (take_snoc hj).symm
      have e2 : lineT ls s = (ancs ls s).reverse ++ [s] := rfl
      rw [e2] at e1
      have := List.append_cancel_right e1
      exact List.reverse_inj.mp this
    rw [rk_count hp, rk_count (p := s) (by omega), ea]
    have er : List.range p = List.range s ++ (s :: List.range' (s + 1) (p - s - 1)) := by
      rw [List.range_eq_range', List.range_eq_range', <- List.range'_succ, show p - s - 1 + 1 = p - s by omega]
      have := List.range'_append_1 (s := 0) (m := s) (n := p - s)
      rw [Nat.zero_add, show s + (p - s) = p by omega] at this
      exact this.symm
    rw [er, List.filter_append, List.filter_cons_of_pos (by rw [ea]; simp)]
    have hn : (List.range' (s + 1) (p - s - 1)).filter (fun j => decide ((ancs ls j).head? = (ancs ls p).head?)) = [] := by
      rw [List.filter_eq_nil_iff]
      intro k hk hc
      have hk2 := List.mem_range'_1.mp hk
      have hc := of_decide_eq_true hc
      have hpar := ancs_par hc
      have c1 := ancs_count L (p := k) (by omega)
      rw [hpar] at c1
      have hgt : ls.getD s 0 < ls.getD k 0 := by
        unfold line at hsm
        rcases List.mem_cons.mp hsm with rfl | hm
        · omega
        · obtain ⟨_, h2, h3⟩ := (anc_iff ls s (p - 1) _).mp hm
          by_cases ck : k = p - 1
          · subst ck; exact h2
          · exact h3 k (by omega) (by omega)
      omega
    rw [hn]
    simp
  | none =>
    simp only
    have hlen : (ancs ls p).length = (lineP ls p).length := by
      have := List.getElem?_eq_none_iff.mp hs
      omega
    rw [rk_count hp]
    by_cases h0 : p = 0
    · subst h0; rfl
    · unfold lineP at hlen hrev
      rw [if_neg h0] at hlen hrev
      rw [hlen, List.take_length] at hrev
      have ep : ancs ls p = (p - 1) :: ancs ls (p - 1) := by
        have := congrArg List.reverse hrev
        rw [List.reverse_reverse] at this
        rw [this, lineT_eq, List.reverse_reverse]
        rfl
      rw [List.length_eq_zero_iff, List.filter_eq_nil_iff]
      intro k hk hc
      have hk := List.mem_range.mp hk
      have hc := of_decide_eq_true hc
      rw [ep] at hc
      cases e : ancs ls k with
      | nil => rw [e] at hc; cases hc
      | cons a r =>
        rw [e] at hc
        cases hc
        have := ancs_lt e
        omega
theorem lineP_succ (ls : List Int) (p : Nat) : lineP ls (p + 1) = lineT ls p := rfl
theorem cnt_next {ls : List Int} (L : LevOk ls) {p : Nat} (hp : p < ls.length) (j : Nat) : cntAt ls (p + 1) j = if j < (ancs ls p).length then cntAt ls p j else if j = (ancs ls p).length then cntAt ls p j + 1 else 0 := by
  have hs := lineT_step L hp
  obtain ⟨hle, _⟩ := anc_prev L hp
  have hl : ((lineP ls p).take (ancs ls p).length).length = (ancs ls p).length := by rw [List.length_take]; omega
  by_cases c : j < (ancs ls p).length
  · rw [if_pos c]
    unfold cntAt
    rw [lineP_succ, hs, List.getElem?_append_left (by omega), List.getElem?_take_of_lt c]
  · rw [if_neg c]
    by_cases d : j = (ancs ls p).length
    · rw [if_pos d, d, <- rk_cnt L hp]
      unfold cntAt
      rw [lineP_succ, hs, List.getElem?_append_right (by omega), hl, Nat.sub_self]
      rfl
    · rw [if_neg d]
      unfold cntAt
      rw [lineP_succ, hs, List.getElem?_eq_none (by simp; omega)]
def cnts (ls : List Int) (p : Nat) : List D := (List.range 61).map fun j => D.int ((cntAt ls p j : Nat) : Int)
theorem cnts_0 (ls : List Int) : cnts ls 0 = List.replicate 61 (.int 0) := by
  unfold cnts
  rw [List.eq_replicate_iff]
  refine ⟨by simp, fun x hx => ?_⟩
  obtain ⟨j, _, rfl⟩ := List.mem_map.mp hx
  have : cntAt ls 0 j = 0 := rfl
  rw [this]; rfl
theorem cnts_cut {ls : List Int} (L : LevOk ls) {p : Nat} (hp : p < ls.length) (h60 : ls.length <= 60) :
    ((cnts ls p).take ((ancs ls p).length + 1) ++ List.replicate (60 - (ancs ls p).length) (D.int 0))[(ancs ls p).length]? = some (.int ((rkAt ls p : Nat) : Int)) /\
    ((cnts ls p).take ((ancs ls p).length + 1) ++ List.replicate (60 - (ancs ls p).length) (D.int 0)).length = 61 /\
    ((cnts ls p).take ((ancs ls p).length + 1) ++ List.replicate (60 - (ancs ls p).length) (D.int 0)).set (ancs ls p).length (.int ((rkAt ls p : Nat) + 1 : Int)) = cnts ls (p + 1) := by
  have hal := ancs_len ls p
  have hc : (cnts ls p).length = 61 := by simp [cnts]
  have ht : ((cnts ls p).take ((ancs ls p).length + 1)).length = (ancs ls p).length + 1 := by rw [List.length_take]; omega
  have get : ∀ q j, j < 61 -> (cnts ls q)[j]? = some (.int ((cntAt ls q j : Nat) : Int)) := fun q j hj => by unfold cnts; rw [List.getElem?_map, List.getElem?_range hj]; rfl
  refine ⟨?_, by simp only [List.length_append, ht, List.length_replicate]; omega, ?_⟩
  · rw [List.getElem?_append_left (by omega), List.getElem?_take_of_lt (by omega), get p _ (by omega), <- rk_cnt L hp]
  · refine List.ext_getElem? fun j => ?_
    by_cases hj : j < 61
    · rw [get (p + 1) j hj, cnt_next L hp]
      by_cases c : j < (ancs ls p).length
      · rw [if_pos c, List.getElem?_set_ne (by omega), List.getElem?_append_left (by omega), List.getElem?_take_of_lt (by omega), get p j hj]
      · rw [if_neg c]
        by_cases d : j = (ancs ls p).length
        · rw [if_pos d, d, List.getElem?_set_self (by simp only [List.length_append, ht, List.length_replicate]; omega), <- rk_cnt L hp]
          rfl
        · rw [if_neg d, List.getElem?_set_ne (by omega), List.getElem?_append_right (by omega), List.getElem?_replicate, if_pos (by omega)]
          rfl
    · rw [List.getElem?_eq_none (by simp only [List.length_set, List.length_append, ht, List.length_replicate]; omega), List.getElem?_eq_none (by simp [cnts]; omega)]
end FL
set_option Elab.async false
set_option linter.all false
set_option maxRecDepth 100000
set_option maxHeartbeats 4000000
set_option autoImplicit false
namespace FL
open PySem L2 DL
def byN : D -> List Nat
  | .byt b => b.toList.map UInt8.toNat
  | _ => []
def isByt : D -> Bool
  | .byt _ => true
  | _ => false
def keyN (l : List Nat) : Bool := !l.isEmpty && (!decide (0 ∈ l) && decide (l.getLast?.getD 1 % 2 = 0))
def keyOkB (d : D) : Bool := isByt d && keyN (byN d)
theorem byN_bD {l : List Nat} (h : N8 l) : byN (bD l) = l := bA_nat h
theorem byN_8 (d : D) : N8 (byN d) := fun n hn => by
  cases d with
  | byt b =>
    obtain ⟨c, _, rfl⟩ := List.mem_map.mp hn
    exact c.toNat_lt
  | _ => cases hn
theorem byt_bD (b : Array UInt8) : D.byt b = bD (byN (.byt b)) := by
  show D.byt b = .byt (bA (b.toList.map UInt8.toNat))
  congr 1
  unfold bA
  rw [List.map_map]
  have : (UInt8.ofNat ∘ UInt8.toNat) = id := funext fun c => by simp
  rw [this, List.map_id]
theorem keyOkB_bD {d : D} (h : keyOkB d = true) : ∃ l, d = bD l /\ N8 l /\ keyN l = true := by
  unfold keyOkB at h
  rw [Bool.and_eq_true] at h
  cases d with
  | byt b => exact ⟨byN (.byt b), byt_bD b, byN_8 _, h.2⟩
  | _ => exact absurd h.1 (by simp [isByt])
def keyW (ys : List D) (y : D) : Option String := match plainW 3 y with
  | some w => some w
  | none => if keyOkB (itm y 2) = true then if (ys.any fun z => decide (nmS z = nmS y)) = true then some "twice" else if hasB (ys.map fun z => bA (byN (itm z 2))) (bA (byN (itm y 2))) = true then some "shared" else none else some "key"
def keyWAt (ys : List D) (p : Nat) : Option String := keyW (ys.take p) (ys.getD p .non)
def KRow (y : D) : Prop := plainW 3 y = none /\ keyOkB (itm y 2) = true
theorem keyW_none {ys : List D} {y : D} (h : keyW ys y = none) : KRow y := by
  unfold keyW at h
  cases e : plainW 3 y with
  | some w => rw [e] at h; cases h
  | none =>
    rw [e] at h
    refine ⟨e, ?_⟩
    by_cases c : keyOkB (itm y 2) = true
    · exact c
    · simp only at h
      rw [if_neg c] at h; cases h
end FL
set_option Elab.async false
set_option linter.all false
set_option maxRecDepth 100000
set_option maxHeartbeats 4000000
set_option autoImplicit false
namespace FL
open PySem L2 DL
def lastE (m : List Nat) : List Nat := match ((List.range m.length).filter fun i => decide (m.getD i 0 % 2 = 0)).getLast? with
  | some i => m.take (i + 1)
  | none => []
theorem evI_snoc (m : List Nat) (x : Nat) : ((List.range (m ++ [x]).length).filter fun i => decide ((m ++ [x]).getD i 0 % 2 = 0)) = ((List.range m.length).filter fun i => decide (m.getD i 0 % 2 = 0)) ++ (if x % 2 = 0 then [m.length] else []) := by
  rw [List.length_append, List.length_singleton, List.range_succ, List.filter_append]
  congr 1
  · refine List.filter_congr fun i hi => ?_
    have : i < m.length := List.mem_range.mp hi
    rw [show (m ++ [x]).getD i 0 = m.getD i 0 by simp [List.getD, List.getElem?_append_left this]]
  · have e : (m ++ [x]).getD m.length 0 = x := by simp [List.getD]
    by_cases h : x % 2 = 0
    · rw [if_pos h, List.filter_cons, if_pos (by rw [e]; simpa using h)]; rfl
    · rw [if_neg h, List.filter_cons, if_neg (by rw [e]; simpa using h)]; rfl
theorem lastE_even (m : List Nat) {x : Nat} (h : x % 2 = 0) : lastE (m ++ [x]) = m ++ [x] := by
  unfold lastE
  rw [evI_snoc, if_pos h, List.getLast?_append]
  show List.take (m.length + 1) (m ++ [x]) = m ++ [x]
  exact List.take_of_length_le (by simp)
theorem lastE_odd (m : List Nat) {x : Nat} (h : x % 2 = 1) : lastE (m ++ [x]) = lastE m := by
  unfold lastE
  rw [evI_snoc, if_neg (by omega), List.append_nil]
  cases hg : ((List.range m.length).filter fun i => decide (m.getD i 0 % 2 = 0)).getLast? with
  | none => rfl
  | some i =>
    have hi : i < m.length := List.mem_range.mp ((List.mem_filter.mp (List.mem_of_getLast? hg)).1)
    exact List.take_append_of_le_length (by omega)
theorem lastE_nil : lastE [] = [] := rfl
theorem lastE_odds (m : List Nat) : ∀ (o : List Nat), (∀ x ∈ o, x % 2 = 1) -> lastE (m ++ o) = lastE m := fun o => by
  have go : ∀ (n : Nat) (o : List Nat), o.length = n -> (∀ x ∈ o, x % 2 = 1) -> lastE (m ++ o) = lastE m := fun n => by
    induction n with
    | zero => intro o hn _; rw [List.length_eq_zero_iff.mp hn, List.append_nil]
    | succ n ih =>
      intro o hn ho
      rcases List.eq_nil_or_concat o with rfl | ⟨o', x, rfl⟩
      · cases hn
      · rw [List.concat_eq_append] at *
        rw [<- List.append_assoc, lastE_odd _ (ho x (by simp)), ih o' (by simpa using hn) fun y hy => ho y (List.mem_append_left _ hy)]
  exact go _ o rfl
structure LabOk (r : Nat) (l : List Nat) : Prop where
  ex : ∃ o e, l = o ++ [e] /\ (∀ x ∈ o, x % 2 = 1) /\ e % 2 = 0 /\ e ≠ 0
  n8 : N8 l
  len : l.length <= 4
  rk : (l.headD 0 - 1) / 2 = r
def keyAt (ls : List Int) (L : List (List Nat)) (p : Nat) : List Nat := (lineT ls p).flatMap fun a => L.getD a []
theorem lineT_le {ls : List Int} {p a : Nat} (h : a ∈ lineT ls p) : a <= p := by
  unfold lineT at h
  rcases List.mem_append.mp h with h | h
  · have := ancs_bound (List.mem_reverse.mp h) (Nat.le_refl _)
    omega
  · have := List.mem_singleton.mp h; omega
theorem keyAt_more {ls : List Int} {L L2 : List (List Nat)} {p : Nat} (h : p < L.length) : keyAt ls (L ++ L2) p = keyAt ls L p := by
  unfold keyAt
  have go : ∀ l : List Nat, (∀ a ∈ l, a < L.length) -> (l.flatMap fun a => (L ++ L2).getD a []) = l.flatMap fun a => L.getD a [] := fun l => by
    induction l with
    | nil => intro _; rfl
    | cons a l ih =>
      intro ha
      rw [List.flatMap_cons, List.flatMap_cons, ih fun b hb => ha b (List.mem_cons_of_mem _ hb)]
      congr 1
      have := ha a (by simp)
      simp [List.getD, List.getElem?_append_left this]
  exact go _ fun a ha => by have := lineT_le ha; omega
theorem keyAt_root {ls : List Int} {L : List (List Nat)} {p : Nat} (h : ancs ls p = []) : keyAt ls L p = L.getD p [] := by
  unfold keyAt
  rw [lineT_root h]
  simp
theorem keyAt_cons {ls : List Int} {L : List (List Nat)} {p q : Nat} {r : List Nat} (h : ancs ls p = q :: r) : keyAt ls L p = keyAt ls L q ++ L.getD p [] := by
  unfold keyAt
  rw [lineT_cons h, List.flatMap_append]
  simp
structure LabsOk (ls : List Int) (L : List (List Nat)) : Prop where
  len : L.length = ls.length
  ok : ∀ a, a < ls.length -> LabOk (rkAt ls a) (L.getD a [])
section
variable {ls : List Int} {L : List (List Nat)}
theorem lineT_lt {ls : List Int} {p a : Nat} (hp : p < ls.length) (h : a ∈ lineT ls p) : a < ls.length := by have := lineT_le h; omega
theorem key_last (h : LabsOk ls L) {p : Nat} (hp : p < ls.length) : ∃ m e, keyAt ls L p = m ++ [e] /\ e % 2 = 0 /\ e ≠ 0 /\ lastE m = (match ancs ls p with | [] => [] | q :: _ => keyAt ls L q) := by
  have go : ∀ (n p : Nat), p <= n -> p < ls.length -> ∃ m e, keyAt ls L p = m ++ [e] /\ e % 2 = 0 /\ e ≠ 0 /\ lastE m = (match ancs ls p with | [] => [] | q :: _ => keyAt ls L q) := fun n => by
    induction n with
    | zero =>
      intro p h0 hp
      have : p = 0 := by omega
      subst this
      have e0 : ancs ls 0 = [] := by unfold ancs; unfold anc; rfl
      obtain ⟨o, e, h1, h2, h3, h4⟩ := (h.ok 0 hp).ex
      refine ⟨o, e, by rw [keyAt_root e0, h1], h3, h4, ?_⟩
      rw [e0]
      have := lastE_odds [] o h2
      rwa [List.nil_append, lastE_nil] at this
    | succ n ih =>
      intro p h0 hp
      obtain ⟨o, e, h1, h2, h3, h4⟩ := (h.ok p hp).ex
      cases ha : ancs ls p with
      | nil =>
        refine ⟨o, e, by rw [keyAt_root ha, h1], h3, h4, ?_⟩
        have := lastE_odds [] o h2
        rwa [List.nil_append, lastE_nil] at this
      | cons q r =>
        have hq := ancs_lt ha
        obtain ⟨m, e', k1, k2, _, _⟩ := ih q (by omega) (by omega)
        refine ⟨keyAt ls L q ++ o, e, by rw [keyAt_cons ha, h1, List.append_assoc], h3, h4, ?_⟩
        rw [lastE_odds _ o h2]
        simp only
        rw [k1, lastE_even _ k2]
  exact go p p (Nat.le_refl _) hp
theorem key_n8 (h : LabsOk ls L) {p : Nat} (hp : p < ls.length) : N8 (keyAt ls L p) := fun x hx => by
  unfold keyAt at hx
  obtain ⟨a, ha, hx⟩ := List.mem_flatMap.mp hx
  exact (h.ok a (lineT_lt hp ha)).n8 x hx
theorem key_nz (h : LabsOk ls L) {p : Nat} (hp : p < ls.length) : 0 ∉ keyAt ls L p := fun hx => by
  unfold keyAt at hx
  obtain ⟨a, ha, hx⟩ := List.mem_flatMap.mp hx
  obtain ⟨o, e, h1, h2, h3, h4⟩ := (h.ok a (lineT_lt hp ha)).ex
  rw [h1] at hx
  rcases List.mem_append.mp hx with z | z
  · have := h2 0 z; omega
  · exact h4 (List.mem_singleton.mp z).symm
theorem key_size (h : LabsOk ls L) {p : Nat} (hp : p < ls.length) : (keyAt ls L p).length <= 4 * (p + 1) := by
  have h1 : (keyAt ls L p).length <= 4 * (lineT ls p).length := by
    unfold keyAt
    have go : ∀ l : List Nat, (∀ a ∈ l, a < ls.length) -> (l.flatMap fun a => L.getD a []).length <= 4 * l.length := fun l => by
      induction l with
      | nil => intro _; simp
      | cons a l ih =>
        intro ha
        have h1 := ih fun b hb => ha b (List.mem_cons_of_mem _ hb)
        have h2 := (h.ok a (ha a (by simp))).len
        rw [List.flatMap_cons, List.length_append, List.length_cons]
        omega
    exact go _ fun a ha => lineT_lt hp ha
  have h2 := lineT_len ls p
  have h3 := ancs_len ls p
  omega
theorem key_keyN (h : LabsOk ls L) {p : Nat} (hp : p < ls.length) : keyN (keyAt ls L p) = true := by
  have h0 := key_nz h hp
  obtain ⟨m, e, h1, h2, _, _⟩ := key_last h hp
  unfold keyN
  rw [decide_eq_false h0, h1]
  simp [h2]
theorem key_inj (h : LabsOk ls L) : ∀ (n p q : Nat), p <= n -> p < ls.length -> q < ls.length -> keyAt ls L p = keyAt ls L q -> p = q := fun n => by
  have fin : ∀ {p q : Nat}, p < ls.length -> q < ls.length -> (ancs ls p).head? = (ancs ls q).head? -> L.getD p [] = L.getD q [] -> p = q := fun {p q} hp hq hh hl => by
    have r1 := (h.ok p hp).rk
    have r2 := (h.ok q hq).rk
    rw [hl, r2] at r1
    rcases Nat.lt_trichotomy p q with z | z | z
    · have := rk_lt hq z hh; omega
    · exact z
    · have := rk_lt hp z hh.symm; omega
  have par : ∀ {p q : Nat}, p < ls.length -> q < ls.length -> keyAt ls L p = keyAt ls L q -> (match ancs ls p with | [] => [] | q :: _ => keyAt ls L q) = (match ancs ls q with | [] => [] | q :: _ => keyAt ls L q) := fun {p q} hp hq e => by
    obtain ⟨m, x, h1, _, _, h2⟩ := key_last h hp
    obtain ⟨m', x', k1, _, _, k2⟩ := key_last h hq
    rw [h1, k1] at e
    obtain ⟨rfl, _⟩ := List.append_inj' e rfl
    rw [<- h2, <- k2]
  have nonE : ∀ {p : Nat}, p < ls.length -> keyAt ls L p ≠ [] := fun {p} hp => by
    obtain ⟨m, e, h1, _⟩ := key_last h hp
    rw [h1]; simp
  induction n with
  | zero =>
    intro p q h0 hp hq e
    have : p = 0 := by omega
    subst this
    have e0 : ancs ls 0 = [] := by unfold ancs; unfold anc; rfl
    have hpar := par hp hq e
    cases hb : ancs ls q with
    | nil =>
      rw [keyAt_root e0, keyAt_root hb] at e
      exact fin hp hq (by rw [e0, hb]) e
    | cons q' r' =>
      rw [e0, hb] at hpar
      have := ancs_lt hb
      exact absurd hpar.symm (nonE (by omega))
  | succ n ih =>
    intro p q h0 hp hq e
    have hpar := par hp hq e
    cases ha : ancs ls p with
    | nil =>
      cases hb : ancs ls q with
      | nil =>
        rw [keyAt_root ha, keyAt_root hb] at e
        exact fin hp hq (by rw [ha, hb]) e
      | cons q' r' =>
        rw [ha, hb] at hpar
        have := ancs_lt hb
        exact absurd hpar.symm (nonE (by omega))
    | cons p' r =>
      have hp' := ancs_lt ha
      cases hb : ancs ls q with
      | nil =>
        rw [ha, hb] at hpar
        exact absurd hpar (nonE (by omega))
      | cons q' r' =>
        have hq' := ancs_lt hb
        rw [ha, hb] at hpar
        have e1 := ih p' q' (by omega) (by omega) (by omega) hpar
        subst e1
        rw [keyAt_cons ha, keyAt_cons hb] at e
        exact fin hp hq (by rw [ha, hb]; rfl) (List.append_cancel_left e)
end
def SHY (k n : Nat) (d : D) : Prop := depY d <= k /\ ∃ t, shY d = some t /\ t.length <= n
theorem SHY.mono {k n k' n' : Nat} {d : D} (h : SHY k n d) (hk : k <= k') (hn : n <= n') : SHY k' n' d := by
  obtain ⟨h1, t, h2, h3⟩ := h
  exact ⟨by omega, t, h2, by omega⟩
theorem shy_all {k n : Nat} : ∀ (ds : List D), (∀ d ∈ ds, SHY k n d) -> depYs ds <= k /\ ∃ ts, shYs ds = some ts /\ ts.length = ds.length /\ (ts.map (·.length)).sum <= ds.length * n
  | [], _ => ⟨Nat.zero_le _, [], by simp [shYs], rfl, by simp⟩
  | d :: ds, h => by
    obtain ⟨h1, t, h2, h3⟩ := h d (by simp)
    obtain ⟨k1, ts, k2, k3, k4⟩ := shy_all ds fun e he => h e (by simp [he])
    refine ⟨by simp only [depYs]; omega, t :: ts, by simp [shYs, h2, k2], by simp [k3], ?_⟩
    simp only [List.map_cons, List.sum_cons, List.length_cons]
    rw [Nat.add_mul]
    omega
theorem shy_lst {k n : Nat} {ds : List D} (h : ∀ d ∈ ds, SHY k n d) (hb : ds.length * n + 2 * ds.length + 3 <= 16777216) : SHY (k + 1) (ds.length * n + 2 * ds.length + 3) (.lst ds) := by
  obtain ⟨h1, ts, h2, h3, h4⟩ := shy_all ds h
  have := listText_len_le ts
  refine ⟨by simp only [depY]; omega, listText ts, ?_, by omega⟩
  simp only [shY, h2, Option.bind_some]
  rw [if_pos (by rw [sizeLine_eq]; omega)]
theorem shy_tup {k n : Nat} {ds : List D} (h : ∀ d ∈ ds, SHY k n d) (hb : ds.length * n + 2 * ds.length + 3 <= 16777216) : SHY (k + 1) (ds.length * n + 2 * ds.length + 3) (.tup ds) := by
  obtain ⟨h1, ts, h2, h3, h4⟩ := shy_all ds h
  have := tupleText_len_le ts
  refine ⟨by simp only [depY]; omega, tupleText ts, ?_, by omega⟩
  simp only [shY, h2, Option.bind_some]
  rw [if_pos (by rw [sizeLine_eq]; omega)]
theorem shy_non : SHY 0 10 .non := ⟨by simp [depY], _, by simp only [shY]; rfl, by decide +kernel⟩
theorem shy_bl (b : Bool) : SHY 0 10 (.bl b) := ⟨by simp [depY], _, by simp only [shY]; rfl, by cases b <;> decide +kernel⟩
theorem shy_dict : SHY 1 10 (.dK [] []) := ⟨by simp [depY], _, by simp only [shY]; rfl, by decide +kernel⟩
theorem shy_int {i : Int} (h0 : -(10 ^ 40) < i) (h1 : i < 10 ^ 40) : SHY 0 50 (.int i) := by
  have p40 : (10 : Int) ^ 40 = 10000000000000000000000000000000000000000 := by decide
  rw [p40] at h0 h1
  have hn : i.natAbs < 10 ^ 40 := by
    have p40 : (10 : Nat) ^ 40 = 10000000000000000000000000000000000000000 := by decide
    rw [p40]
    omega
  have h2 : i.natAbs < 2 ^ 1920 := Nat.lt_of_lt_of_le hn (by decide +kernel)
  refine ⟨by simp [depY], toString i, ?_, ?_⟩
  · simp only [shY]
    rw [if_pos (PySem.Flt.log2_lt_of (by decide) h2)]
  · have e := int_text_length_le10 (a := i) (k := 40) (by decide) hn
    show (Str.ofString (toString i)).length <= 50
    rw [ofString_length]
    omega
theorem shy_str {z : Str} (h : z.length <= 1000) (h2 : ∀ c ∈ z.cps.toList, c < 1114112) : SHY 0 10002 (.str z) := by
  have := StrLaws.reprText_len z fun c hc => Nat.lt_of_lt_of_le (h2 c hc) (by decide)
  refine ⟨by simp [depY], reprText z, ?_, by omega⟩
  simp only [shY]
  rw [if_pos (by rw [sizeLine_eq]; omega)]
theorem litB_len (b : Array UInt8) : (litB b).length <= 4 * b.size + 3 := by
  have go : ∀ (f : UInt8 -> Array Nat) (l : List UInt8) (acc : Array Nat), (∀ c, (f c).size <= 4) -> (l.foldl (fun acc c => acc ++ f c) acc).size <= acc.size + 4 * l.length := fun f l => by
    induction l with
    | nil => intro acc _; simp
    | cons c l ih =>
      intro acc hf
      have h1 := ih (acc ++ f c) hf
      have h2 := hf c
      rw [Array.size_append] at h1
      rw [List.foldl_cons, List.length_cons]
      omega
  unfold litB Builtin.Bytes.literal
  simp only [Str.length, Array.size_push]
  rw [<- Array.foldl_toList]
  refine Nat.le_trans (Nat.add_le_add_right (go _ _ _ fun c => ?_) 1) (by rw [Array.length_toList]; show 2 + 4 * b.size + 1 <= _; omega)
  have ite4 : ∀ (p : Prop) [Decidable p] (x y : Array Nat), x.size <= 4 -> y.size <= 4 -> (if p then x else y).size <= 4 := fun p _ x y hx hy => by
    split
    · exact hx
    · exact hy
  exact ite4 _ _ _ (by simp) (ite4 _ _ _ (by simp) (ite4 _ _ _ (by simp) (ite4 _ _ _ (by simp) (ite4 _ _ _ (by simp) (by simp)))))
theorem shy_byt (b : Array UInt8) (h : b.size <= 1000) : SHY 0 4003 (.byt b) := by
  have := litB_len b
  refine ⟨by simp [depY], litB b, ?_, by omega⟩
  simp only [shY]
  rw [if_pos ⟨by rw [sizeLine_eq]; omega, by rw [sizeLine_eq]; omega⟩]
theorem shy_repr {k n : Nat} {ds : List D} (h : SHY k n (.lst ds)) (hk : k <= 100) : ∃ z, reprY1 [.lst ds] = some (.str z) := by
  obtain ⟨h1, t, h2, _⟩ := h
  refine ⟨t, ?_⟩
  show (shY (.lst ds)).bind _ = _
  rw [h2]
  show (if _ then _ else _) = _
  rw [if_pos (by omega)]
structure CelY (t : Nat) (c : D) : Prop where
  pl : Pl c
  sh : SHY (t + 1) (10100 + 10 * t) c
theorem CelY.mono {t u : Nat} {c : D} (h : CelY t c) (l : t <= u) : CelY u c := ⟨h.pl, h.sh.mono (by omega) (by omega)⟩
theorem cy_flat {t : Nat} {c : D} (hp : Pl c) (hs : SHY 1 10100 c) : CelY t c := ⟨hp, hs.mono (by omega) (by omega)⟩
theorem cy_int {t : Nat} {i : Int} (h0 : -(10 ^ 40) < i) (h1 : i < 10 ^ 40) : CelY t (.int i) := cy_flat (pl_of rfl (by simp)) ((shy_int h0 h1).mono (by omega) (by omega))
theorem cy_non {t : Nat} : CelY t .non := cy_flat (pl_of rfl (by simp)) (shy_non.mono (by omega) (by omega))
theorem cy_bl {t : Nat} (b : Bool) : CelY t (.bl b) := cy_flat (pl_of rfl (by simp)) ((shy_bl b).mono (by omega) (by omega))
theorem cy_dict {t : Nat} : CelY t (.dK [] []) := cy_flat (pl_of rfl (by simp)) (shy_dict.mono (by omega) (by omega))
theorem cy_lit {t : Nat} (z : String) (h1 : (Str.ofString z).length <= 1000) (h2 : (Str.ofString z).cps.toList.all (fun c => decide (c < 1114112)) = true) : CelY t (.str z) :=
  cy_flat (pl_lit z h1 h2) ((shy_str h1 fun c hc => by simpa using List.all_eq_true.mp h2 c hc).mono (by omega) (by omega))
theorem cy_nm {t : Nat} {x : List Nat} (h : NameOk x) : CelY t (strD x) := by
  have hp := pl_nm h
  have := hp.st _ rfl
  exact cy_flat hp ((shy_str this.1 this.2).mono (by omega) (by omega))
theorem cy_wrapT {t : Nat} {c : D} (h : CelY t c) (ht : t <= 1000) : CelY (t + 1) (.tup [c]) :=
  ⟨pl_of rfl (by simp), (shy_tup (k := t + 1) (n := 10100 + 10 * t) (by simpa using h.sh) (by simp; omega)).mono (by omega) (by simp; omega)⟩
def natsOf (xs : List D) : List Nat := xs.map fun d => (iOf d).toNat
theorem natsOf_ints (l : List Nat) : natsOf (l.map intD) = l := by
  unfold natsOf
  rw [List.map_map]
  have : ((fun d => (iOf d).toNat) ∘ intD) = id := by funext i; simp [intD, iOf]
  rw [this, List.map_id]
def bkD : D -> D
  | .lst xs => bD (natsOf xs)
  | d => d
def tlD (b : Bool) (xs : List D) : D := if b = true then .lst xs else .tup xs
def madeR (b : Bool) : D -> D
  | .tup [n, v, k] => tlD b [n, v, bkD k]
  | d => d
theorem tl_seqs (b : Bool) (xs : List D) : seqs (tlD b xs) = some xs := by cases b <;> rfl
inductive RowL (t : Nat) : D -> Prop where
  | key {n v : D} {l : List Nat} : CelY t n -> CelY t v -> N8 l -> l.length <= 300 + t -> RowL t (.tup [n, v, .lst (l.map intD)])
  | tup {n v k : D} : CelY t n -> CelY t v -> CelY t k -> (∀ xs, k ≠ .lst xs) -> isByt k = false -> RowL t (.tup [n, v, k])
  | odd {y : D} : PlRow y -> plainW 3 y = some "row" -> (∀ l, y ≠ .tup l) -> byN (itm y 2) = [] -> SHY (t + 3) 80000 y -> RowL t y
theorem RowL.mono {t u : Nat} {y : D} (h : RowL t y) (l : t <= u) : RowL u y := by
  cases h with
  | key h1 h2 h3 h4 => exact .key (h1.mono l) (h2.mono l) h3 (by omega)
  | tup h1 h2 h3 h4 h5 => exact .tup (h1.mono l) (h2.mono l) (h3.mono l) h4 h5
  | odd h1 h2 h3 h4 h5 => exact .odd h1 h2 h3 h4 (h5.mono (by omega) (by omega))
theorem pl_byt (b : Array UInt8) : Pl (.byt b) := pl_of rfl (by simp)
theorem bk_key (l : List Nat) : bkD (.lst (l.map intD)) = bD l := by show bD (natsOf _) = _; rw [natsOf_ints]
theorem bk_odd {k : D} (h : ∀ xs, k ≠ .lst xs) : bkD k = k := by
  cases k <;> first | rfl | exact absurd rfl (h _)
theorem RowL.pl {t : Nat} {y : D} (h : RowL t y) : Pl y := by
  cases h with
  | key h1 h2 h3 h4 => exact pl_of rfl (by simp)
  | tup h1 h2 h3 h4 h5 => exact pl_of rfl (by simp)
  | odd h1 h2 h3 h4 h5 => exact h1.pl
theorem made_odd {b : Bool} {y : D} (h : ∀ l, y ≠ .tup l) : madeR b y = y := by
  cases y <;> first | rfl | exact absurd rfl (h _)
theorem RowL.made {t : Nat} {y : D} (b : Bool) (h : RowL t y) : PlRow (madeR b y) := by
  have two : ∀ (xs : List D), (∀ c ∈ xs, Pl c) -> PlRow (tlD b xs) := fun xs hx => by
    cases b
    · exact ⟨pl_of rfl (by simp [tlD]), fun l e c hc => by cases e; exact hx c hc⟩
    · exact ⟨pl_of rfl (by simp [tlD]), fun l e c hc => by cases e; exact hx c hc⟩
  cases h with
  | key h1 h2 h3 h4 =>
    refine two _ fun c hc => ?_
    rw [bk_key] at hc
    simp at hc
    rcases hc with rfl | rfl | rfl
    · exact h1.pl
    · exact h2.pl
    · exact pl_byt _
  | tup h1 h2 h3 h4 h5 =>
    refine two _ fun c hc => ?_
    rw [bk_odd h4] at hc
    simp at hc
    rcases hc with rfl | rfl | rfl
    · exact h1.pl
    · exact h2.pl
    · exact h3.pl
  | odd h1 h2 h3 h4 h5 => rw [made_odd h3]; exact h1
theorem RowL.byl {t : Nat} {y : D} (b : Bool) (ht : t <= 100) (h : RowL t y) : (byN (itm (madeR b y) 2)).length <= 100000 := by
  have i2 : ∀ n v k : D, itm (tlD b [n, v, k]) 2 = k := fun n v k => by unfold itm; rw [tl_seqs]; rfl
  cases h with
  | key h1 h2 h3 h4 =>
    show (byN (itm (tlD b _) 2)).length <= _
    rw [i2, bk_key, byN_bD h3]
    omega
  | tup h1 h2 h3 h4 h5 =>
    show (byN (itm (tlD b _) 2)).length <= _
    rw [i2, bk_odd h4]
    rename_i k
    cases k <;> first | (simp [byN]; done) | cases h5
  | odd h1 h2 h3 h4 h5 => rw [made_odd h3, h4]; simp
theorem made_sq {t : Nat} {y : D} (h : RowL t y) : seqs (madeR true y) = seqs (madeR false y) := by
  cases h with
  | key h1 h2 h3 h4 => rfl
  | tup h1 h2 h3 h4 h5 => rfl
  | odd h1 h2 h3 h4 h5 => rw [made_odd h3, made_odd h3]
theorem RowL.shy {t : Nat} {y : D} (b : Bool) (ht : t <= 50) (h : RowL t y) : SHY (t + 3) 80000 (madeR b y) := by
  have two : ∀ (n v k : D), SHY (t + 1) 20000 n -> SHY (t + 1) 20000 v -> SHY (t + 1) 20000 k -> SHY (t + 3) 80000 (tlD b [n, v, k]) := fun n v k h1 h2 h3 => by
    have all : ∀ c ∈ [n, v, k], SHY (t + 1) 20000 c := fun c hc => by
      simp at hc
      rcases hc with rfl | rfl | rfl
      · exact h1
      · exact h2
      · exact h3
    cases b
    · exact (shy_tup all (by simp)).mono (by omega) (by simp)
    · exact (shy_lst all (by simp)).mono (by omega) (by simp)
  cases h with
  | key h1 h2 h3 h4 =>
    show SHY _ _ (tlD b _)
    rw [bk_key]
    exact two _ _ _ (h1.sh.mono (by omega) (by omega)) (h2.sh.mono (by omega) (by omega)) ((shy_byt _ (by simp; omega)).mono (by omega) (by omega))
  | tup h1 h2 h3 h4 h5 =>
    show SHY _ _ (tlD b _)
    rw [bk_odd h4]
    exact two _ _ _ (h1.sh.mono (by omega) (by omega)) (h2.sh.mono (by omega) (by omega)) (h3.sh.mono (by omega) (by omega))
  | odd h1 h2 h3 h4 h5 => rw [made_odd h3]; exact h5
theorem rowsL_repr {t : Nat} {ys : List D} (b : Bool) (h : ∀ y ∈ ys, RowL t y) (ht : t <= 50) (hl : ys.length <= 60) : ∃ z, reprY1 [.lst (ys.map (madeR b))] = some (.str z) := by
  have h1 : ∀ y ∈ ys.map (madeR b), SHY (t + 3) 80000 y := fun y hy => by
    obtain ⟨x, hx, rfl⟩ := List.mem_map.mp hy
    exact (h x hx).shy b ht
  have h2 : (ys.map (madeR b)).length <= 60 := by rw [List.length_map]; exact hl
  generalize ys.map (madeR b) = zs at h1 h2
  have h3 : zs.length * 80000 + 2 * zs.length + 3 <= 16777216 := by omega
  exact shy_repr (shy_lst h1 h3) (by omega)
end FL
set_option Elab.async false
set_option linter.all false
set_option maxRecDepth 100000
set_option maxHeartbeats 4000000
set_option autoImplicit true
namespace LawProof
open PySem L2 DL FL
theorem mem_letters {c : Nat} (h : isL c = true) : c ∈ ("abcdefghijklmnopqrstuvwxyz" : Str).cps.toList := by
  have h1 : c ∈ List.range' 97 26 := by simp [isL] at h; simp [List.mem_range'_1]; omega
  have h2 : ∀ c ∈ List.range' 97 26, c ∈ ("abcdefghijklmnopqrstuvwxyz" : Str).cps.toList := by decide +kernel
  exact h2 c h1
theorem mem_signs {c : Nat} (h : isS c = true) : c ∈ ("abcdefghijklmnopqrstuvwxyz0123456789" : Str).cps.toList := by
  have h1 : c ∈ List.range' 97 26 ++ List.range' 48 10 := by simp [isS, isL] at h; simp [List.mem_range'_1]; omega
  have h2 : ∀ c ∈ List.range' 97 26 ++ List.range' 48 10, c ∈ ("abcdefghijklmnopqrstuvwxyz0123456789" : Str).cps.toList := by decide +kernel
  exact h2 c h1
theorem letters_iff (c : Nat) : decide (c ∈ ("abcdefghijklmnopqrstuvwxyz" : Str).cps.toList) = isL c := by
  have h : ∀ c ∈ ("abcdefghijklmnopqrstuvwxyz" : Str).cps.toList, isL c = true := by decide +kernel
  rw [Bool.eq_iff_iff, decide_eq_true_eq]
  exact ⟨h c, mem_letters⟩
theorem signs_iff (c : Nat) : decide (c ∈ ("abcdefghijklmnopqrstuvwxyz0123456789" : Str).cps.toList) = isS c := by
  have h : ∀ c ∈ ("abcdefghijklmnopqrstuvwxyz0123456789" : Str).cps.toList, isS c = true := by decide +kernel
  rw [Bool.eq_iff_iff, decide_eq_true_eq]
  exact ⟨h c, mem_signs⟩
theorem digits_iff (c : Nat) (h : isS c = true) : (!decide (c ∈ ("0123456789" : Str).cps.toList)) = isL c := by
  have h1 : c ∈ List.range' 97 26 ++ List.range' 48 10 := by simp [isS, isL] at h; simp [List.mem_range'_1]; omega
  have h2 : ∀ c ∈ List.range' 97 26 ++ List.range' 48 10, (!decide (c ∈ ("0123456789" : Str).cps.toList)) = isL c := by decide +kernel
  exact h2 c h1
def sgB : D -> Bool
  | .str z => isS (z.cps.toList.headD 0)
  | _ => false
theorem bls_of (l : List Bool) : blsOf (l.map D.bl) = some l := blsOf_map l
theorem enN_at {l : List Nat} {f : Nat -> D} {c : Nat} {done rest : List D} {x : D} (h : ((l.map f).zipIdx.map fun p => D.tup [.int ((p.2 + c : Nat)), p.1]) = done ++ x :: rest) : ∃ a, l[done.length]? = some a /\ x = .tup [.int ((done.length + c : Nat)), f a] := by
  have e := congrArg (fun t => t[done.length]?) h
  simp only [List.getElem?_map, List.getElem?_zipIdx, List.getElem?_append_right (Nat.le_refl _), Nat.sub_self, List.getElem?_cons_zero] at e
  cases h1 : l[done.length]? with
  | none => rw [h1] at e; simp at e
  | some a => rw [h1] at e; simp at e; exact ⟨a, rfl, by rw [<- e]; simp⟩
theorem enN_len {l : List Nat} {f : Nat -> D} {c : Nat} : ((l.map f).zipIdx.map fun p => D.tup [.int ((p.2 + c : Nat)), p.1]).length = l.length := by simp
theorem idxOf_first : ∀ (l : List Nat) (j : Nat), l[j]? = some 0 -> (∀ i, i < j -> l[i]? ≠ some 0) -> l.idxOf 0 = j
  | [], _, h, _ => by simp at h
  | a :: l, 0, h, _ => by simp at h; subst h; simp
  | a :: l, j + 1, h, k => by
    have h0 : a ≠ 0 := fun z => k 0 (by omega) (by simp [z])
    rw [List.idxOf_cons, show (a == 0) = false by simpa using h0]
    simp only [Bool.false_eq_true, if_false, cond_false]
    rw [idxOf_first l j (by simpa using h) fun i hi => by have := k (i + 1) (by omega); simpa using this]
def kfD (l : List Nat) : D := match l.getLast? with
  | none => .int (-1)
  | some e => if 0 ∈ l then .int (l.idxOf 0 : Nat) else if e % 2 = 1 then .int (l.length : Nat) else .non
def cutK : List Nat -> List Nat -> List (List Nat)
  | _, [] => []
  | acc, a :: r => if a % 2 = 0 then (acc ++ [a]) :: cutK [] r else cutK (acc ++ [a]) r
theorem isiB (M : Mem) (d : D) {n : String} (h : tyName (vw M d) = some n) : isiF ([d, .ty "bytes"].map (vw M)) = some (.bl (n == "bytes")) := by
  have hn := tyName_mem h
  simp [isiF, h]
  simp [tyNames] at hn
  rcases hn with rfl | rfl | rfl | rfl | rfl | rfl | rfl | rfl <;> simp [tyNames, isTy]
def sp_is_integer : SpD := fun ds M Q _ => ∃ d n, ds = [d] /\ tyName (vw M d) = some n /\ Q (.bl (n == "int")) M
abbrev N_is_integer : List Str := ["thing"]
def t_is_integer : DTS := (dRet (dAndV (dCB isiF (dCons (dVar 0) (dCons (dC (.ty "int")) dNil))) (dNotV (dCB isiF (dCons (dVar 0) (dCons (dC (.ty "bool")) dNil))))))
theorem pure_is_integer : ∀ ds M Q E, sp_is_integer ds M Q E -> ds.length = 1 /\ t_is_integer (dEnds Q E) (startD N_is_integer ds) M := by
  rintro ds M Q E ⟨d, n, rfl, h, q⟩
  refine ⟨rfl, ?_⟩
  have hn := tyName_mem h
  simp [t_is_integer, isiF, h]
  simp [tyNames] at hn
  rcases hn with rfl | rfl | rfl | rfl | rfl | rfl | rfl | rfl <;> simpa [tyNames, isTy] using q
def sp_is_sequence : SpD := fun ds M Q _ => ∃ d n, ds = [d] /\ tyName (vw M d) = some n /\ Q (.bl (n == "list" || n == "tuple")) M
abbrev N_is_sequence : List Str := ["thing"]
def t_is_sequence : DTS := (dRet (dCB isiF (dCons (dVar 0) (dCons (dTup (dCons (dC (.ty "list")) (dCons (dC (.ty "tuple")) dNil))) dNil))))
theorem pure_is_sequence : ∀ ds M Q E, sp_is_sequence ds M Q E -> ds.length = 1 /\ t_is_sequence (dEnds Q E) (startD N_is_sequence ds) M := by
  rintro ds M Q E ⟨d, n, rfl, h, q⟩
  refine ⟨rfl, ?_⟩
  have hn := tyName_mem h
  simp [t_is_sequence, isiF, h]
  simp [tyNames] at hn
  rcases hn with rfl | rfl | rfl | rfl | rfl | rfl | rfl | rfl <;> simpa [tyNames, isTy] using q
def sp_is_name : SpD := fun ds M Q _ => ∃ d, ds = [d] /\ Pl d /\ Q (.bl (nameB d)) M
abbrev N_is_name : List Str := ["thing", "sign"]
def t_is_name : DTS := (dSeq (dIf (dOr (dNot (dTest (dCB isiF (dCons (dVar 0) (dCons (dC (.ty "str")) dNil))))) (dNot (dTest (dChain leD leD (dC (.int 1)) (dCB lenF (dCons (dVar 0) dNil)) (dC (.int 8)))))) (dRet (dC (.bl false))) dNext)
    (dRet (dAndV (dOp inD (dOp ixA (dVar 0) (dC (.int 0))) (dC (.str "abcdefghijklmnopqrstuvwxyz"))) (dCB allF (dCons (dLc (iS (dVar 0)) (gN 1) dYes (dOp inD (dVar 1) (dC (.str "abcdefghijklmnopqrstuvwxyz0123456789"))) [1]) dNil)))))
theorem pure_is_name : ∀ ds M Q E, sp_is_name ds M Q E -> ds.length = 1 /\ t_is_name (dEnds Q E) (startD N_is_name ds) M := by
  rintro ds M Q E ⟨d, rfl, h, q⟩
  refine ⟨rfl, ?_⟩
  have hv := h.vw M
  obtain ⟨n, hn⟩ := h.ty
  by_cases hs : n = "str"
  · subst hs
    obtain ⟨z, rfl⟩ : ∃ z, d = .str z := by cases d <;> simp [tyName] at hn ⊢
    have hl := (h.st z rfl).1
    obtain ⟨cs, rfl⟩ : ∃ cs, z = S cs := ⟨_, S_of z⟩
    cases cs with
    | nil =>
      simp [t_is_name, isiF, tyName, tyNames, isTy, lenF, S, Str.length]
      exact q
    | cons c r =>
      have h1 : r.length + 1 <= 16777216 := by simp [S, Str.length] at hl; omega
      have h2 : (0 : Int) <= r.length := by omega
      by_cases h7 : r.length <= 7
      · have h3 : (r.length : Int) + 1 <= 8 := by omega
        simp [t_is_name, isiF, tyName, tyNames, isTy, lenF, S, Str.length, dLc, ixD, h1, h2, h3, inStr_1]
        have e : nameB (.str ⟨(c :: r).toArray⟩) = (isL c && r.all isS) := by simp [nameB, nameC, h7]
        have e' : nameB (.str (S (c :: r))) = (isL c && r.all isS) := by simp [S, e]
        rw [e'] at q
        by_cases hc : isL c = true
        · have hc2 := mem_letters hc
          refine .inr ⟨by omega, .bl true, .inr ⟨by simpa using hc2, rfl⟩, .inr ⟨rfl, fun a ha => ?_⟩⟩
          refine lcD_fn (fun x => some (.bl (sgB x))) _ (by simp; omega) ha ?_ ?_
          · intro x hx M1 T _ hT
            obtain ⟨e, he, rfl⟩ : ∃ e, (e = c \/ e ∈ r) /\ x = .str ⟨#[e]⟩ := by simpa [eq_comm] using hx
            simp only [gN, dYes, if_true, dOp, dVar, dC, wipeD, List.set]
            exact ⟨_, rfl, .bl (isS e), by rw [vw_str, vw_str, inD_def, inB_str, inStr_1, signs_iff]; rfl, hT⟩
          · have e3 : (((c :: r).map fun e => D.str ⟨#[e]⟩).filterMap fun x => some (D.bl (sgB x))) = (((c :: r).map isS).map D.bl) := by
              rw [List.filterMap_eq_map', List.map_map, List.map_map]
              rfl
            have e4 := bls_of ((c :: r).map isS)
            simp only [List.map_cons] at e3 e4
            simp only [List.map_cons, e3, e4, vw_lst, allF_lst]
            refine ⟨_, rfl, ?_⟩
            rw [hc] at q
            simpa [isL_S hc, List.all_map] using q
        · refine .inr ⟨by omega, .bl false, .inl ⟨?_, rfl⟩, .inl ⟨rfl, ?_⟩⟩
          · have := letters_iff c
            simp [hc] at this
            simpa using this
          · simpa [hc] using q
      · have h3 : ¬ (r.length : Int) + 1 <= 8 := by omega
        simp [t_is_name, isiF, tyName, tyNames, isTy, lenF, S, Str.length, h1, h2, h3]
        have e : nameB (.str (S (c :: r))) = false := by simp [nameB, nameC, S]; intro h; omega
        rw [e] at q
        exact .inr ⟨by omega, q⟩
  · have e : nameB d = false := by cases d <;> first | rfl | (simp [tyName] at hn; exact absurd hn.symm hs)
    have hm := tyName_mem hn
    rw [e] at q
    have e2 : isTy n "str" = false := by
      simp [tyNames] at hm
      rcases hm with rfl | rfl | rfl | rfl | rfl | rfl | rfl | rfl <;> first | rfl | exact absurd rfl hs
    simp [t_is_name, isiF, hv, hn, tyNames, e2]
    exact q
def sp_is_value : SpD := fun ds M Q _ => ∃ d, ds = [d] /\ Pl d /\ Q (.bl (valB d)) M
abbrev N_is_value : List Str := ["thing"]
def t_is_value : DTS := (dRet (dAndV (dCall sp_is_integer [] (dCons (dVar 0) dNil)) (dChain leD leD (dUn negD (dC (.int 1000000000000000000000000000000))) (dVar 0) (dC (.int 1000000000000000000000000000000)))))
theorem pure_is_value : ∀ ds M Q E, sp_is_value ds M Q E -> ds.length = 1 /\ t_is_value (dEnds Q E) (startD N_is_value ds) M := by
  rintro ds M Q E ⟨d, rfl, h, q⟩
  refine ⟨rfl, ?_⟩
  have hv := h.vw M
  obtain ⟨n, hn⟩ := h.ty
  by_cases hs : n = "int"
  · subst hs
    obtain ⟨i, rfl⟩ : ∃ i, d = .int i := by cases d <;> simp [tyName] at hn ⊢
    simp [t_is_value, sp_is_integer, tyName]
    simp only [valB] at q
    have p30 : (10 : Int) ^ 30 = 1000000000000000000000000000000 := by decide
    rw [p30] at q
    by_cases h1 : -1000000000000000000000000000000 <= i
    · simp [h1] at q ⊢; exact .inr q
    · simp [h1] at q ⊢; exact ⟨by omega, q⟩
  · have e : valB d = false := by cases d <;> first | rfl | (simp [tyName] at hn; exact absurd hn.symm hs)
    rw [e] at q
    have e2 : (n == "int") = false := by simpa using hs
    simp [t_is_value, sp_is_integer, hv, hn, hs]
    exact q
end LawProof
set_option Elab.async false
set_option linter.all false
set_option maxRecDepth 100000
set_option maxHeartbeats 4000000
set_option autoImplicit true
namespace LawProof
open PySem L2 DL FL
def sp_key_fault : SpD := fun ds M Q _ => ∃ d, ds = [d] /\ ((∃ l, d = bD l /\ N8 l /\ l.length <= 1000000 /\ Q (kfD l) M) \/ (∃ n, tyName (vw M d) = some n /\ n ≠ "bytes" /\ Q (.int (-1)) M))
abbrev N_key_fault : List Str := ["key", "place", "number"]
def l_key_fault_1 : DTS := (dIf (dTest (dOp eqD (dVar 2) (dC (.int 0)))) (dRet (dVar 1)) dNext)
def l_key_fault_2 : DTS := (dSeq (dFor (iEnN 0 (dVar 0)) (gT 2 (gsCons (gN 1) (gsCons (gN 2) gsNil))) l_key_fault_1)
    (dRet (dIfE (dTest (dOp eqD (dOp modD (dCB intF (dCons (dOp ixB (dVar 0) (dUn negD (dC (.int 1)))) dNil)) (dC (.int 2))) (dC (.int 1)))) (dCB lenF (dCons (dVar 0) dNil)) (dC .non))))
def t_key_fault : DTS := (dSeq (dIf (dOr (dNot (dTest (dCB isiF (dCons (dVar 0) (dCons (dC (.ty "bytes")) dNil))))) (dTest (dOp eqD (dCB lenF (dCons (dVar 0) dNil)) (dC (.int 0))))) (dRet (dUn negD (dC (.int 1)))) dNext)
    l_key_fault_2)
theorem kf_loop {l : List Nat} {M : Mem} {Q : DV} {E : DEK} {o1 o2 : Option D} (h8 : N8 l) (hl : l.length <= 1000000) (hne : l ≠ []) (q : Q (kfD l) M) : l_key_fault_2 (dEnds Q E) [some (bD l), o1, o2] M := by
  obtain ⟨e, he⟩ : ∃ e, l.getLast? = some e := by
    cases h : l.getLast? with
    | none => exact absurd (List.getLast?_eq_none_iff.mp h) hne
    | some e => exact ⟨e, rfl⟩
  unfold kfD at q
  rw [he] at q
  simp only at q
  refine ⟨_, rfl, _, wkD_bD h8, ?_⟩
  refine forD_run _ (fun done ρ M1 => M1 = M /\ (∃ o1 o2, ρ = [some (bD l), o1, o2]) /\ ∀ j, j < done.length -> l[j]? ≠ some 0) ?_ ?_ ⟨rfl, ⟨o1, o2, rfl⟩, fun j hj => absurd hj (by simp)⟩
  · rintro done x rest ρ M1 Nx hx ⟨rfl, ⟨o1, o2, rfl⟩, hz⟩ nx
    obtain ⟨a, ha, rfl⟩ := enN_at hx
    refine ⟨_, .inl rfl, rfl, _, _, rfl, _, _, rfl, rfl, ?_⟩
    refine ⟨_, rfl, .bl ((a : Int) == 0), rfl, _, rfl, ?_⟩
    by_cases h0 : a = 0
    · subst h0
      have hm : 0 ∈ l := List.mem_of_getElem? ha
      rw [if_pos hm] at q
      have hi : l.idxOf 0 = done.length := idxOf_first l _ ha (fun i hi => hz i hi)
      rw [hi] at q
      exact ⟨_, rfl, q⟩
    · have : ((a : Int) == 0) = false := by rw [beq_eq_false_iff_ne]; omega
      rw [this]
      refine nx _ _ ⟨rfl, ⟨_, _, rfl⟩, fun j hj => ?_⟩
      simp at hj
      rcases Nat.lt_or_ge j done.length with z | z
      · exact hz j z
      · have : j = done.length := by omega
        subst this
        rw [ha]
        intro z
        exact h0 (Option.some.inj z)
  · rintro ρ M1 ⟨rfl, ⟨o1, o2, rfl⟩, hz⟩
    have hn : 0 ∉ l := fun hm => by
      obtain ⟨j, hj, e⟩ := List.mem_iff_getElem.mp hm
      exact hz j (by rw [enN_len]; exact hj) (by rw [List.getElem?_eq_getElem hj, e])
    rw [if_neg hn] at q
    refine ⟨_, rfl, _, rfl, _, ixB_last he h8 (by omega), _, rfl, _, modD_int (by decide), .bl (((e : Int) % 2) == 1), rfl, _, rfl, ?_⟩
    by_cases ho : e % 2 = 1
    · rw [if_pos ho] at q
      have : (((e : Int) % 2) == 1) = true := by rw [beq_iff_eq]; omega
      rw [this]
      exact ⟨_, rfl, _, lenF_bD (by omega), q⟩
    · rw [if_neg ho] at q
      have : (((e : Int) % 2) == 1) = false := by rw [beq_eq_false_iff_ne]; omega
      rw [this]
      exact q
theorem pure_key_fault : ∀ ds M Q E, sp_key_fault ds M Q E -> ds.length = 1 /\ t_key_fault (dEnds Q E) (startD N_key_fault ds) M := by
  rintro ds M Q E ⟨d, rfl, ⟨l, rfl, h8, hl, q⟩ | ⟨n, hn, hb, q⟩⟩
  · refine ⟨rfl, ?_⟩
    refine ⟨_, rfl, _, isiB M (bD l) (n := "bytes") rfl, _, rfl, ?_⟩
    simp only [beq_self_eq_true, Bool.not_true, Bool.false_eq_true, if_false]
    refine ⟨_, rfl, _, lenF_bD (by omega), .bl ((l.length : Int) == 0), rfl, _, rfl, ?_⟩
    by_cases h0 : l = []
    · subst h0
      exact ⟨_, rfl, q⟩
    · have : ((l.length : Int) == 0) = false := by
        rw [beq_eq_false_iff_ne]
        have := List.length_pos_iff.mpr h0
        omega
      rw [this]
      exact kf_loop h8 hl h0 q
  · refine ⟨rfl, ?_⟩
    refine ⟨_, rfl, _, isiB M d hn, _, rfl, ?_⟩
    have : (n == "bytes") = false := by simpa using hb
    rw [this]
    exact ⟨_, rfl, q⟩
def sp_cut_key : SpD := fun ds M Q _ => ∃ l, ds = [bD l] /\ N8 l /\ l.length <= 1000000 /\ Q (.lst ((cutK [] l).map bD)) M
abbrev N_cut_key : List Str := ["key", "found", "begin", "place", "number"]
def l_cut_key_1 : DTS := (dSeq (dDrop (dBM "list" φApp (dVar 1) (dCons (dSl slB (dVar 0) (dPart (dVar 2)) (dPart (dOp addD (dVar 3) (dC (.int 1))))) dNil)))
    (dAsg (dOp addD (dVar 3) (dC (.int 1))) (gN 2)))
def l_cut_key_2 : DTS := (dIf (dTest (dOp eqD (dOp modD (dCB intF (dCons (dVar 4) dNil)) (dC (.int 2))) (dC (.int 0)))) l_cut_key_1 dNext)
def l_cut_key_3 : DTS := (dSeq (dFor (iEnN 0 (dVar 0)) (gT 2 (gsCons (gN 3) (gsCons (gN 4) gsNil))) l_cut_key_2)
    (dRet (dFrz (dVar 1))))
def t_cut_key : DTS := (dSeq (dPar 1 2 (dCons (dLstM dNil) (dCons (dC (.int 0)) dNil)))
    l_cut_key_3)
theorem cutK_len : ∀ (l acc : List Nat), (cutK acc l).length <= l.length
  | [], _ => by simp [cutK]
  | a :: l, acc => by
    rw [cutK]
    split
    · have := cutK_len l []; simp; omega
    · have := cutK_len l (acc ++ [a]); simp; omega
theorem ck_loop {l : List Nat} {M : Mem} {r : Addr} {Q : DV} {E : DEK} {o3 o4 : Option D} (h8 : N8 l) (hl : l.length <= 1000000) (hr : M r = none) (q : Q (.lst ((cutK [] l).map bD)) M) : l_cut_key_3 (dEnds Q E) [some (bD l), some (.ref r), some (.int 0), o3, o4] (updM M r (.lst [])) := by
  refine ⟨_, rfl, _, wkD_bD h8, ?_⟩
  refine forD_run _ (fun done ρ M1 => ∃ (F : List (List Nat)) (b : Nat) (o3 o4 : Option D), ρ = [some (bD l), some (.ref r), some (.int (b : Nat)), o3, o4] /\ M1 = updM M r (.lst (F.map bD)) /\ b <= done.length /\ done.length <= l.length /\ F.length <= done.length /\
    F ++ cutK ((l.drop b).take (done.length - b)) (l.drop done.length) = cutK [] l) ?_ ?_ ⟨[], 0, o3, o4, rfl, rfl, Nat.le_refl _, Nat.zero_le _, Nat.zero_le _, by simp⟩
  · rintro done x rest ρ M1 Nx hx ⟨F, b, o3, o4, rfl, rfl, hb, hd, hF, he⟩ nx
    obtain ⟨a, ha, rfl⟩ := enN_at hx
    have hi : done.length < l.length := (List.getElem?_eq_some_iff.mp ha).1
    have e1 : l.drop done.length = a :: l.drop (done.length + 1) := by
      rw [List.drop_eq_getElem_cons hi, (List.getElem?_eq_some_iff.mp ha).2]
    have e2 : (l.drop b).take (done.length - b) ++ [a] = (l.drop b).take (done.length + 1 - b) := by
      rw [show done.length + 1 - b = (done.length - b) + 1 by omega, List.take_add_one, List.getElem?_drop, show b + (done.length - b) = done.length by omega, ha]
      rfl
    rw [e1, cutK, e2] at he
    refine ⟨_, .inl rfl, rfl, _, _, rfl, _, _, rfl, rfl, ?_⟩
    refine ⟨_, rfl, _, rfl, _, modD_int (by decide), .bl (((a : Int) % 2) == 0), rfl, _, rfl, ?_⟩
    by_cases h0 : a % 2 = 0
    · rw [if_pos h0] at he
      have : (((a : Int) % 2) == 0) = true := by rw [beq_iff_eq]; omega
      rw [this]
      have es : slB (bD l) (some ((b : Nat) : Int)) (some (((done.length + 1 : Nat)) : Int)) = some (bD ((l.drop b).take (done.length + 1 - b))) := slB_mid (by omega) (by omega) (by omega)
      refine ⟨_, rfl, by rw [vw_upd]; rfl, _, rfl, _, rfl, _, rfl, _, rfl, .int (((done.length + 0 : Nat) : Int) + 1), rfl, _, rfl, _, (by rw [show (((done.length + 0 : Nat) : Int) + 1) = ((done.length + 1 : Nat) : Int) by omega]; exact es), ?_⟩
      refine ⟨r, F.map bD, _, rfl, rfl, updM_same, by simp; omega, ?_⟩
      refine ⟨_, rfl, .int (((done.length + 0 : Nat) : Int) + 1), rfl, ?_⟩
      refine nx _ _ ⟨F ++ [(l.drop b).take (done.length + 1 - b)], done.length + 1, some (.int ((done.length + 0 : Nat) : Int)), some (.int (a : Int)), rfl, ?_, ?_, ?_, ?_, ?_⟩
      · rw [updM_updM]; simp
      · simp
      · simp; omega
      · simp; omega
      · simp only [List.length_append, List.length_singleton, Nat.sub_self, List.take_zero]
        rw [List.append_assoc, List.singleton_append]
        exact he
    · rw [if_neg h0] at he
      have : (((a : Int) % 2) == 0) = false := by rw [beq_eq_false_iff_ne]; omega
      rw [this]
      refine nx _ _ ⟨F, b, _, _, rfl, rfl, by simp; omega, by simp; omega, by simp; omega, ?_⟩
      simpa using he
  · rintro ρ M1 ⟨F, b, o3, o4, rfl, rfl, hb, hd, hF, he⟩
    rw [enN_len, List.drop_length] at he
    have hF2 : F = cutK [] l := by rw [<- he]; simp [cutK]
    subst hF2
    refine ⟨_, rfl, ?_⟩
    show frz (.ref r) _ _
    simp only [frz, updM_same]
    rw [delM_updM hr]
    exact q
theorem pure_cut_key : ∀ ds M Q E, sp_cut_key ds M Q E -> ds.length = 1 /\ t_cut_key (dEnds Q E) (startD N_cut_key ds) M := by
  rintro ds M Q E ⟨l, rfl, h8, hl, q⟩
  exact ⟨rfl, by simp, fun r hr => ⟨_, _, rfl, ck_loop h8 hl hr q⟩⟩
def nD (n : Nat) : D := .int (n : Int)
def okB : D -> Bool
  | .int i => decide (0 <= i) && decide (i <= 255)
  | _ => false
def Ty (d : D) : Prop := ∃ n, tyName d = some n
theorem Ty.vw {d : D} (h : Ty d) (M : Mem) : vw M d = d := by obtain ⟨n, h⟩ := h; cases d <;> first | rfl | cases h
theorem ty_nD (n : Nat) : Ty (nD n) := ⟨_, rfl⟩
theorem okB_nD {n : Nat} (h : n < 256) : okB (nD n) = true := by simp [okB, nD]; omega
def sp_bytes_of : SpD := fun ds M Q E => ∃ d, ds = [d] /\
  ((∃ l, seqs d = some (l.map nD) /\ N8 l /\ l.length <= 1000000 /\ Q (bD l) M) \/
   (∃ (xs : List D) (j : Nat) (y : D), seqs d = some xs /\ xs.length <= 1000000 /\ (∀ x ∈ xs, Ty x) /\ xs[j]? = some y /\ okB y = false /\ (∀ i x, i < j -> xs[i]? = some x -> okB x = true) /\ E 30 ["place"] [.int (j : Nat)] M) \/
   (∃ n, tyName (vw M d) = some n /\ n ≠ "list" /\ n ≠ "tuple" /\ E 30 ["place"] [.int (-1)] M))
abbrev N_bytes_of : List Str := ["numbers", "place", "number"]
def l_bytes_of_1 : DTS := (dIf (dOr (dNot (dTest (dCall sp_is_integer [] (dCons (dVar 2) dNil)))) (dNot (dTest (dChain leD leD (dC (.int 0)) (dVar 2) (dC (.int 255)))))) (dRaise 30 ["place"] (dCons (dVar 1) dNil)) dNext)
def l_bytes_of_2 : DTS := (dSeq (dFor (iEnT (dVar 0)) (gT 2 (gsCons (gN 1) (gsCons (gN 2) gsNil))) l_bytes_of_1)
    (dRet (dCB bytesF (dCons (dVar 0) dNil))))
def t_bytes_of : DTS := (dSeq (dIf (dNot (dTest (dCall sp_is_sequence [] (dCons (dVar 0) dNil)))) (dRaise 30 ["place"] (dCons (dUn negD (dC (.int 1))) dNil)) dNext)
    l_bytes_of_2)
theorem bo_en {xs : List D} {done rest : List D} {x : D} (h : (xs.zipIdx.map fun p => D.tup [.int (p.2 : Nat), p.1]) = done ++ x :: rest) : ∃ a, xs[done.length]? = some a /\ x = .tup [.int (done.length : Nat), a] := by
  have e := congrArg (fun t => t[done.length]?) h
  simp only [List.getElem?_map, List.getElem?_zipIdx, List.getElem?_append_right (Nat.le_refl _), Nat.sub_self, List.getElem?_cons_zero] at e
  cases h1 : xs[done.length]? with
  | none => rw [h1] at e; simp at e
  | some a => rw [h1] at e; simp at e; exact ⟨a, rfl, by rw [<- e]⟩
theorem bo_item {x : D} {ρ : DL.Env} {M : Mem} {E : DEnds} (h : Ty x) (h2 : ρ[2]? = some (some x)) (q1 : okB x = true -> E.nx ρ M) (q2 : okB x = false -> ∃ p, ρ[1]? = some (some p) /\ E.ex 30 ["place"] [p] ρ M) : l_bytes_of_1 E ρ M := by
  obtain ⟨n, hn⟩ := h
  refine ⟨_, h2, x, n, rfl, by rw [Ty.vw ⟨n, hn⟩]; exact hn, _, rfl, ?_⟩
  by_cases hi : n = "int"
  · subst hi
    obtain ⟨i, rfl⟩ : ∃ i, x = .int i := by cases x <;> simp [tyName] at hn ⊢
    refine ⟨_, h2, decide (0 <= i), rfl, ?_⟩
    by_cases h0 : 0 <= i
    · rw [decide_eq_true h0]
      refine ⟨.bl (decide (i <= 255)), rfl, _, rfl, ?_⟩
      by_cases h1 : i <= 255
      · rw [decide_eq_true h1]
        exact q1 (by simp [okB, h0, h1])
      · rw [decide_eq_false h1]
        obtain ⟨p, e, k⟩ := q2 (by simp [okB, h0, h1])
        exact ⟨_, e, rfl, k⟩
    · rw [decide_eq_false h0]
      obtain ⟨p, e, k⟩ := q2 (by simp [okB, h0])
      exact ⟨_, rfl, _, e, rfl, k⟩
  · have : (n == "int") = false := by simpa using hi
    rw [this]
    obtain ⟨p, e, k⟩ := q2 (by cases x <;> first | rfl | (simp [tyName] at hn; exact absurd hn.symm hi))
    exact ⟨_, e, rfl, k⟩
theorem natsOk : ∀ (l : List Nat), N8 l -> intsOf (l.map nD) = some (l.map fun (n : Nat) => (n : Int))
  | [], _ => rfl
  | a :: l, h => by
    rw [List.map_cons, show nD a = .int (a : Int) from rfl, intsOf_cons, natsOk l (N8.cons.mp h).2]; rfl
theorem bytesF_nD {d : D} {l : List Nat} (hd : seqs d = some (l.map nD)) (h : N8 l) : bytesF [d] = some (bD l) := by
  have e := natsOk l h
  have k : is8 (l.map fun (n : Nat) => (n : Int)) = true := is8_iff.mpr fun n hn => by
    obtain ⟨m, hm, rfl⟩ := List.mem_map.mp hn
    have := h m hm
    omega
  cases d with
  | lst xs => cases hd; show (intsOf _).bind _ = _; rw [e]; simp only [Option.bind_some]; rw [if_pos k, byteArr_bA]; rfl
  | tup xs => cases hd; show (intsOf _).bind _ = _; rw [e]; simp only [Option.bind_some]; rw [if_pos k, byteArr_bA]; rfl
  | _ => cases hd
theorem seqs_vw {d : D} {xs : List D} (h : seqs d = some xs) (M : Mem) : vw M d = d := by cases d <;> first | rfl | cases h
theorem seqs_isq {d : D} {xs : List D} (h : seqs d = some xs) : ∃ n, tyName d = some n /\ (n == "list" || n == "tuple") = true := by
  cases d with
  | lst => exact ⟨_, rfl, rfl⟩
  | tup => exact ⟨_, rfl, rfl⟩
  | _ => cases h
theorem pure_bytes_of : ∀ ds M Q E, sp_bytes_of ds M Q E -> ds.length = 1 /\ t_bytes_of (dEnds Q E) (startD N_bytes_of ds) M := by
  rintro ds M Q E ⟨d, rfl, ⟨l, hd, h8, hl, q⟩ | ⟨xs, j, y, hd, hl, ht, hj, hy, hb, q⟩ | ⟨n, hn, n1, n2, q⟩⟩
  · refine ⟨rfl, ?_⟩
    obtain ⟨n, hn, hs⟩ := seqs_isq hd
    refine ⟨_, rfl, d, n, rfl, by rw [seqs_vw hd]; exact hn, _, rfl, ?_⟩
    rw [hs]
    refine ⟨_, rfl, _, seqs_en hd, ?_⟩
    refine forD_run _ (fun done ρ M1 => M1 = M /\ ∃ o1 o2, ρ = [some d, o1, o2]) ?_ ?_ ⟨rfl, _, _, rfl⟩
    · rintro done x rest ρ M1 Nx hx ⟨rfl, o1, o2, rfl⟩ nx
      obtain ⟨a, ha, rfl⟩ := bo_en hx
      obtain ⟨m, hm, rfl⟩ := List.mem_map.mp (List.mem_of_getElem? ha)
      refine ⟨_, .inl rfl, rfl, _, _, rfl, _, _, rfl, rfl, ?_⟩
      refine bo_item (ty_nD m) rfl (fun _ => nx _ _ ⟨rfl, _, _, rfl⟩) fun h => ?_
      rw [okB_nD (h8 m hm)] at h
      cases h
    · rintro ρ M1 ⟨rfl, o1, o2, rfl⟩
      exact ⟨_, rfl, _, by rw [List.map_cons, List.map_nil, seqs_vw hd]; exact bytesF_nD hd h8, q⟩
  · refine ⟨rfl, ?_⟩
    obtain ⟨n, hn, hs⟩ := seqs_isq hd
    refine ⟨_, rfl, d, n, rfl, by rw [seqs_vw hd]; exact hn, _, rfl, ?_⟩
    rw [hs]
    refine ⟨_, rfl, _, seqs_en hd, ?_⟩
    have hjl : j < xs.length := (List.getElem?_eq_some_iff.mp hj).1
    refine forD_run _ (fun done ρ M1 => M1 = M /\ done.length <= j /\ ∃ o1 o2, ρ = [some d, o1, o2]) ?_ ?_ ⟨rfl, Nat.zero_le _, _, _, rfl⟩
    · rintro done x rest ρ M1 Nx hx ⟨rfl, hdj, o1, o2, rfl⟩ nx
      obtain ⟨a, ha, rfl⟩ := bo_en hx
      refine ⟨_, .inl rfl, rfl, _, _, rfl, _, _, rfl, rfl, ?_⟩
      refine bo_item (ht a (List.mem_of_getElem? ha)) rfl (fun ho => nx _ _ ⟨rfl, ?_, _, _, rfl⟩) fun h => ⟨_, rfl, ?_⟩
      · rcases Nat.lt_or_ge done.length j with z | z
        · simp; omega
        · have : done.length = j := by omega
          rw [this, hj] at ha
          cases ha
          rw [hy] at ho
          cases ho
      · rcases Nat.lt_or_ge done.length j with z | z
        · rw [hb _ _ z ha] at h
          cases h
        · have : done.length = j := by omega
          rw [this]
          exact q
    · rintro ρ M1 ⟨rfl, hdj, _⟩
      simp at hdj
      omega
  · refine ⟨rfl, ?_⟩
    refine ⟨_, rfl, d, n, rfl, hn, _, rfl, ?_⟩
    have : (n == "list" || n == "tuple") = false := by simp [n1, n2]
    rw [this]
    exact ⟨_, rfl, rfl, q⟩
def FaultD (p w : D) : D := .obj 12 ["place", "word"] [p, w]
def sp_Fault___init__ : SpD := fun ds M Q _ => ∃ (x : Addr) (f0 f1 : D), ds = [.ref x, f0, f1] /\ M x = some (.obj 12 [] []) /\ Q .non (updM M x (FaultD f0 f1))
abbrev N_Fault___init__ : List Str := ["self", "place", "word"]
def t_Fault___init__ : DTS := (dSeq (dFldSet [12] "place" (dVar 0) (dVar 1))
    (dFldSet [12] "word" (dVar 0) (dVar 2)))
theorem pure_Fault___init__ : ∀ ds M Q E, sp_Fault___init__ ds M Q E -> ds.length = 3 /\ t_Fault___init__ (dEnds Q E) (startD N_Fault___init__ ds) M := by
  rintro ds M Q E ⟨x, f0, f1, rfl, hx, q⟩
  refine ⟨rfl, ?_⟩
  simp [t_Fault___init__, dFldSet, hx, setN, setV, updM_updM]
  exact q
def sp_Fault_class_name : SpD := fun ds M Q _ => ∃ f0 f1, ds = [FaultD f0 f1] /\ Q (.str "fault") M
abbrev N_Fault_class_name : List Str := ["self"]
def t_Fault_class_name : DTS := (dRet (dC (.str "fault")))
theorem pure_Fault_class_name : ∀ ds M Q E, sp_Fault_class_name ds M Q E -> ds.length = 1 /\ t_Fault_class_name (dEnds Q E) (startD N_Fault_class_name ds) M := by
  rintro ds M Q E ⟨f0, f1, rfl, q⟩
  exact ⟨rfl, q⟩
def sp_Fault_facts : SpD := fun ds M Q _ => ∃ f0 f1, ds = [FaultD f0 f1] /\ Q (.tup [f0, f1]) M
abbrev N_Fault_facts : List Str := ["self"]
def t_Fault_facts : DTS := (dRet (dTup (dCons (dUn (fldD [12] "place") (dVar 0)) (dCons (dUn (fldD [12] "word") (dVar 0)) dNil))))
theorem pure_Fault_facts : ∀ ds M Q E, sp_Fault_facts ds M Q E -> ds.length = 1 /\ t_Fault_facts (dEnds Q E) (startD N_Fault_facts ds) M := by
  rintro ds M Q E ⟨f0, f1, rfl, q⟩
  exact ⟨rfl, _, rfl, _, rfl, _, rfl, _, rfl, by simp, q⟩
def sp_Thing___eq__ : SpD := fun ds M Q _ => ∃ (p : Int) (w : String) (e : D) (b : Bool), ds = [FaultD (.int p) (.str w), e] /\ PyData.strOk w = true /\ ((e = FaultD (.int p) (.str w) /\ b = true) \/ ((∃ n, tyName e = some n) /\ b = false)) /\ Q (.bl b) M
abbrev N_Thing___eq__ : List Str := ["self", "other"]
def t_Thing___eq__ : DTS := (dSeq (dIf (dOr (dNot (dTest (dCB (isoF 1 [12] []) (dCons (dVar 1) (dCons (dC (.cls 1)) dNil))))) (dTest (dOp neD (dMeth [(12, sp_Fault_class_name)] "class_name" (dVar 0) dNil) (dMeth [(12, sp_Fault_class_name)] "class_name" (dVar 1) dNil)))) (dRet (dC (.bl false))) dNext)
    (dRet (dOp eqD (dMeth [(12, sp_Fault_facts)] "facts" (dVar 0) dNil) (dMeth [(12, sp_Fault_facts)] "facts" (dVar 1) dNil))))
theorem pure_Thing___eq__ : ∀ ds M Q E, sp_Thing___eq__ ds M Q E -> ds.length = 2 /\ t_Thing___eq__ (dEnds Q E) (startD N_Thing___eq__ ds) M := by
  rintro ds M Q E ⟨p, w, e, b, rfl, hw, hh, q⟩
  refine ⟨rfl, ?_⟩
  rcases hh with ⟨rfl, rfl⟩ | ⟨⟨n, hn⟩, rfl⟩
  · refine ⟨_, rfl, .bl true, ?_, true, rfl, ?_⟩
    · show isoF 1 [12] [] [FaultD (.int p) (.str w), .cls 1] = _
      unfold FaultD
      rw [isoF_obj, if_pos (by decide)]
    refine ⟨_, rfl, 12, _, _, sp_Fault_class_name, rfl, rfl, by simp, _, _, rfl, ?_⟩
    refine ⟨_, rfl, 12, _, _, sp_Fault_class_name, rfl, rfl, by simp, _, _, rfl, ?_⟩
    refine ⟨.bl false, rfl, false, rfl, ?_⟩
    refine ⟨_, rfl, 12, _, _, sp_Fault_facts, rfl, rfl, by simp, _, _, rfl, ?_⟩
    refine ⟨_, rfl, 12, _, _, sp_Fault_facts, rfl, rfl, by simp, _, _, rfl, ?_⟩
    refine ⟨.bl true, ?_, q⟩
    have pl : plDs 0 [.int p, .str w] = true := by simp only [plDs, plD, Bool.true_and, Bool.and_true]; exact hw
    show eqD (.tup [.int p, .str w]) (.tup [.int p, .str w]) = _
    rw [eqD_tup' pl pl, eqTs_refl _ _ pl]
  · have hv : vw M e = e := by cases e <;> first | rfl | cases hn
    refine ⟨_, rfl, .bl false, ?_, false, rfl, q⟩
    simp only [List.map_cons, List.map_nil, hv, vw_cls]
    exact isoF_ty hn
end LawProof
set_option Elab.async false
set_option linter.all false
set_option maxRecDepth 100000
set_option maxHeartbeats 4000000
set_option autoImplicit true
namespace LawProof
open PySem L2 DL FL
def sp_plain_word : SpD := fun ds M Q _ => ∃ (y : D) (k : Nat), ds = [y, .int (k : Int)] /\ PlRow y /\ 2 <= k /\ Q (wordD (plainW k y)) M
abbrev N_plain_word : List Str := ["row", "many"]
def t_plain_word : DTS := (dSeq (dIf (dOr (dNot (dTest (dCall sp_is_sequence [] (dCons (dVar 0) dNil)))) (dTest (dOp neD (dCB lenF (dCons (dVar 0) dNil)) (dVar 1)))) (dRet (dC (.str "row"))) dNext)
    (dSeq (dIf (dNot (dTest (dCall sp_is_name [] (dCons (dOp ixA (dVar 0) (dC (.int 0))) dNil)))) (dRet (dC (.str "name"))) dNext)
    (dRet (dIfE (dTest (dCall sp_is_value [] (dCons (dOp ixA (dVar 0) (dC (.int 1))) dNil))) (dC .non) (dC (.str "value"))))))
theorem pure_plain_word : ∀ ds M Q E, sp_plain_word ds M Q E -> ds.length = 2 /\ t_plain_word (dEnds Q E) (startD N_plain_word ds) M := by
  rintro ds M Q E ⟨y, k, rfl, h, hk, q⟩
  refine ⟨rfl, ?_⟩
  obtain ⟨n, hn⟩ := h.pl.ty
  have hv := h.pl.vw M
  cases hs : seqs y with
  | none =>
    have e : plainW k y = some "row" := by unfold plainW; rw [hs]
    rw [e] at q
    refine ⟨_, rfl, y, n, rfl, by rw [hv]; exact hn, _, rfl, ?_⟩
    rw [seqs_no hs hn]
    exact q
  | some l =>
    obtain ⟨n', hn', hb⟩ := seqs_ty hs
    have e0 : plainW k y = if l.length ≠ k then some "row" else if nameB (l.getD 0 .non) = true then if valB (l.getD 1 .non) = true then none else some "value" else some "name" := by unfold plainW; rw [hs]
    rw [e0] at q
    refine ⟨_, rfl, y, n', rfl, by rw [hv]; exact hn', _, rfl, ?_⟩
    rw [hb]
    refine ⟨_, rfl, .int (l.length : Nat), by show lenF [vw M y] = _; rw [hv]; exact seqs_len hs, _, rfl, .bl (!((l.length : Int) == (k : Int))), rfl, _, rfl, ?_⟩
    by_cases hl : l.length = k
    · have e1 : ((l.length : Int) == (k : Int)) = true := by rw [beq_iff_eq]; omega
      rw [e1]
      rw [if_neg (by simpa using hl)] at q
      have i0 : ixA (vw M y) (vw M (.int 0)) = some (l.getD 0 .non) := by
        rw [hv]
        show ixA y (.int 0) = _
        rw [seqs_ix hs]
        exact atI_get' (k := 0) (by simp [List.getD]; rw [List.getElem?_eq_getElem (by omega)]; simp)
      have i1 : ixA (vw M y) (vw M (.int 1)) = some (l.getD 1 .non) := by
        rw [hv]
        show ixA y (.int 1) = _
        rw [seqs_ix hs]
        exact atI_get' (k := 1) (by simp [List.getD]; rw [List.getElem?_eq_getElem (by omega)]; simp)
      have p0 : Pl (l.getD 0 .non) := h.it l hs _ (by simp [List.getD]; rw [List.getElem?_eq_getElem (by omega)]; simp)
      have p1 : Pl (l.getD 1 .non) := h.it l hs _ (by simp [List.getD]; rw [List.getElem?_eq_getElem (by omega)]; simp)
      refine ⟨_, rfl, _, i0, _, rfl, p0, _, rfl, ?_⟩
      cases hn0 : nameB (l.getD 0 .non) with
      | false => rw [hn0] at q; exact q
      | true =>
        rw [hn0] at q
        refine ⟨_, rfl, _, i1, _, rfl, p1, _, rfl, ?_⟩
        cases hv1 : valB (l.getD 1 .non) with
        | false => rw [hv1] at q; exact q
        | true => rw [hv1] at q; exact q
    · have e1 : ((l.length : Int) == (k : Int)) = false := by rw [beq_eq_false_iff_ne]; omega
      rw [e1]
      rw [if_pos (by simpa using hl)] at q
      exact q
def sp_key_word : SpD := fun ds M Q _ => ∃ (x : D) (ys : List D) (p : Nat), ds = [x, .int (p : Int)] /\ seqs (vw M x) = some ys /\ p < ys.length /\ ys.length <= 1000 /\ (∀ y ∈ ys, PlRow y) /\ (∀ y ∈ ys, (byN (itm y 2)).length <= 100000) /\ (∀ j, j < p -> KRow (ys.getD j .non)) /\ (∀ a, x = .ref a -> (M a).isSome) /\ ∀ M', Keep M M' -> Q (wordD (keyWAt ys p)) M'
abbrev N_key_word : List Str := ["rows", "place", "word", "name", "value", "key", "row"]
def l_key_word_1 : DTS := (dSeq (dIf (dTest (dOp inD (dVar 3) (dLc (iS (dSl slD (dVar 0) dNoPart (dPart (dVar 1)))) (gN 6) dYes (dOp ixA (dVar 6) (dC (.int 0))) [6]))) (dRet (dC (.str "twice"))) dNext)
    (dRet (dIfE (dTest (dBin (bInB false) (dVar 5) (dLc (iS (dSl slD (dVar 0) dNoPart (dPart (dVar 1)))) (gN 6) dYes (dOp ixA (dVar 6) (dC (.int 2))) [6]))) (dC (.str "shared")) (dC .non))))
def l_key_word_2 : DTS := (dSeq (dIf (dTest (dOp notNonD (dCall sp_key_fault [] (dCons (dVar 5) dNil)) (dC .non))) (dRet (dC (.str "key"))) dNext)
    l_key_word_1)
def l_key_word_3 : DTS := (dSeq (dAsg (dOp ixA (dVar 0) (dVar 1)) (gT 3 (gsCons (gN 3) (gsCons (gN 4) (gsCons (gN 5) gsNil)))))
    l_key_word_2)
def l_key_word_4 : DTS := (dSeq (dIf (dTest (dOp notNonD (dVar 2) (dC .non))) (dRet (dVar 2)) dNext)
    l_key_word_3)
def t_key_word : DTS := (dSeq (dAsg (dCall sp_plain_word [] (dCons (dOp ixA (dVar 0) (dVar 1)) (dCons (dC (.int 3)) dNil))) (gN 2))
    l_key_word_4)
theorem krow_parts {y : D} (h : KRow y) : ∃ n v l, seqs y = some [strD n, .int v, bD l] /\ N8 l /\ keyN l = true /\ nmS y = n /\ itm y 2 = bD l := by
  obtain ⟨h1, h2⟩ := h
  obtain ⟨l, e1, e2, e3, e4⟩ := plain_none h1
  match l, e2 with
  | [n, v, k], _ =>
    have i2 : itm y 2 = k := by unfold itm; rw [e1]; rfl
    have i0 : itm y 0 = n := by unfold itm; rw [e1]; rfl
    rw [i2] at h2
    obtain ⟨l, rfl, h8, hk⟩ := keyOkB_bD h2
    cases n with
    | str z =>
      cases v with
      | int v =>
        have ez : D.str z = strD z.cps.toList := by show D.str z = D.str (S z.cps.toList); rw [<- S_of]
        refine ⟨z.cps.toList, v, l, by rw [e1, ez], h8, hk, ?_, i2⟩
        unfold nmS
        rw [i0]
        rfl
      | _ => cases e4
    | _ => cases e3
section
variable {Q : DV} {E : DEK} {M M1 : Mem} {x : D} {ys : List D} {p : Nat}
theorem cut_rows {X : DX} {T : List D -> Mem -> Prop} {ρ : DL.Env} (h0 : ρ[0]? = some (some x)) (h1 : ρ[1]? = some (some (.int (p : Int)))) (hx : seqs (vw M1 x) = some ys) (q : T ((ys.take p).map fun z => z) M1) : iS (dSl slD (dVar 0) dNoPart (dPart (dVar 1))) ρ M1 T X := by
  obtain ⟨e, e1, e2, _⟩ := seqs_sl hx none (some (p : Int))
  refine ⟨_, h0, _, h1, _, rfl, e, e1, _, seqs_it e2, ?_⟩
  rw [cutD_to]
  simpa using q
theorem in_names' (x : List Nat) (ns : List (List Nat)) (M : Mem) : inD (vw M (strD x)) (vw M (.lst (ns.map strD))) = some (.bl (decide (x ∈ ns))) := by
  have h1 : (ns.map strD).all flatD = true := by simp [strD, flatD]
  have h2 := mem_made (x := x) ns
  show inD (strD x) (.lst (ns.map strD)) = _
  rw [inD_def, inB_lst, h1]
  show (some ((ns.map strD).any fun y => eqFD y (.str (S x)))).map _ = _
  rw [h2]
  rfl
abbrev kwE (x : D) (p : Nat) (o2 o3 o4 o5 : Option D) : DL.Env := [some x, some (.int (p : Int)), o2, o3, o4, o5, none]
theorem take_K (hS : ∀ j, j < p -> KRow (ys.getD j .non)) : ∀ z ∈ ys.take p, KRow z := fun z hz => by
  obtain ⟨j, hj, rfl⟩ := List.getElem_of_mem hz
  have hj2 : j < p /\ j < ys.length := by simp at hj; omega
  have := hS j hj2.1
  simpa [List.getD, hj2.2] using this
def shW (zs : List D) (l : List Nat) : Option String := if hasB (zs.map fun z => bA (byN (itm z 2))) (bA l) = true then some "shared" else none
theorem kw_1 {n : List Nat} {l : List Nat} {o2 o4 : Option D} (hx : seqs (vw M1 x) = some ys) (hr : ∀ c, x = .ref c -> (M1 c).isSome) (hl : ys.length <= 1000) (hpr : ∀ y ∈ ys, PlRow y) (hS : ∀ z ∈ ys.take p, KRow z)
    (q : ∀ M', Keep M1 M' -> Q (wordD (if ((ys.take p).any fun z => decide (nmS z = n)) = true then some "twice" else shW (ys.take p) l)) M') :
    l_key_word_1 (dEnds Q E) (kwE x p o2 (some (strD n)) o4 (some (bD l))) M1 := by
  have hvw : ∀ z ∈ ys.take p, ∀ M, vw M z = z := fun z hz M => (hpr z (List.mem_of_mem_take hz)).pl.vw M
  refine ⟨_, rfl, cut_rows rfl rfl hx fun c hc => ?_⟩
  refine lcD_ix (fun z => z) (fun z => some (strD (nmS z))) (ys.take p) (by simp; omega) hc (fun z hz M2 T k2 hT => ?_) fun M2 k2 => ?_
  · obtain ⟨n', v', l', e1, _, _, e2, _⟩ := krow_parts (hS z hz)
    refine ⟨_, rfl, strD (nmS z), ?_, hT M2 (Keep.refl M2)⟩
    rw [hvw z hz]
    show ixA z (.int 0) = _
    rw [seqs_ix e1, e2]
    rfl
  · have e : (ys.take p).filterMap (fun z => some (strD (nmS z))) = ((ys.take p).map nmS).map strD := by rw [List.filterMap_eq_map', List.map_map]; rfl
    rw [e]
    refine ⟨_, in_names' n _ M2, _, rfl, ?_⟩
    have e2 : decide (n ∈ (ys.take p).map nmS) = ((ys.take p).any fun z => decide (nmS z = n)) := by
      rw [Bool.eq_iff_iff]
      simp only [decide_eq_true_eq, List.mem_map, List.any_eq_true]
    rw [e2]
    have hx2 : seqs (vw M2 x) = some ys := by rw [k2.vw hr]; exact hx
    cases hh : ((ys.take p).any fun z => decide (nmS z = n)) with
    | true => have := q M2 k2; rw [hh] at this; exact this
    | false =>
      rw [hh] at q
      refine ⟨_, rfl, cut_rows rfl rfl hx2 fun c hc => ?_⟩
      refine lcD_ix (fun z => z) (fun z => some (.byt (bA (byN (itm z 2))))) (ys.take p) (by simp; omega) hc (fun z hz M3 T k3 hT => ?_) fun M3 k3 => ?_
      · obtain ⟨n', v', l', e1, e8, _, _, e3⟩ := krow_parts (hS z hz)
        refine ⟨_, rfl, .byt (bA (byN (itm z 2))), ?_, hT M3 (Keep.refl M3)⟩
        rw [hvw z hz]
        show ixA z (.int 2) = _
        rw [seqs_ix e1, e3, byN_bD e8]
        rfl
      · have e3 : (ys.take p).filterMap (fun z => some (D.byt (bA (byN (itm z 2))))) = ((ys.take p).map fun z => bA (byN (itm z 2))).map D.byt := by rw [List.filterMap_eq_map', List.map_map]; rfl
        rw [e3]
        refine ⟨bA l, _, rfl, .inl rfl, _, rfl, ?_⟩
        have q2 := q M3 (k2.trans k3)
        unfold shW at q2
        rw [Bool.false_bne]
        cases h3 : hasB ((ys.take p).map fun z => bA (byN (itm z 2))) (bA l) with
        | true => rw [h3] at q2; exact q2
        | false => rw [h3] at q2; exact q2
end
theorem kf_none {l : List Nat} (h : keyN l = true) : kfD l = .non := by
  unfold keyN at h
  simp only [Bool.and_eq_true, Bool.not_eq_true', decide_eq_false_iff_not, decide_eq_true_eq] at h
  obtain ⟨h1, h2, h3⟩ := h
  unfold kfD
  cases e : l.getLast? with
  | none =>
    rw [List.getLast?_eq_none_iff.mp e] at h1
    cases h1
  | some a =>
    rw [e] at h3
    simp only [Option.getD_some] at h3
    simp only
    rw [if_neg h2, if_neg (by omega)]
theorem kf_some {l : List Nat} {M : Mem} (h : keyN l = false) : notNonD (vw M (kfD l)) (vw M .non) = some (.bl true) := by
  unfold kfD
  cases e : l.getLast? with
  | none => rfl
  | some a =>
    simp only
    by_cases h2 : 0 ∈ l
    · rw [if_pos h2]; rfl
    · rw [if_neg h2]
      by_cases h3 : a % 2 = 1
      · rw [if_pos h3]; rfl
      · exfalso
        have hne : l.isEmpty = false := by cases l with
          | nil => cases e
          | cons => rfl
        unfold keyN at h
        rw [hne, decide_eq_false h2, e] at h
        simp at h
        omega
theorem pure_key_word : ∀ ds M Q E, sp_key_word ds M Q E -> ds.length = 2 /\ t_key_word (dEnds Q E) (startD N_key_word ds) M := by
  rintro ds M Q E ⟨x, ys, p, rfl, hx, hp, hl, hpl, hby, hS, hr, q⟩
  refine ⟨rfl, ?_⟩
  have hy : ys[p]? = some (ys.getD p .non) := by simp [List.getD, hp]
  have hyp : PlRow (ys.getD p .non) := hpl _ (List.mem_of_getElem? hy)
  have hbp := hby _ (List.mem_of_getElem? hy)
  have e0 : ixA (vw M x) (vw M (.int (p : Int))) = some (ys.getD p .non) := by
    show ixA (vw M x) (.int (p : Int)) = _
    rw [seqs_ix hx]
    exact atI_get' hy
  refine ⟨_, rfl, _, rfl, _, e0, ys.getD p .non, 3, rfl, hyp, by omega, ?_⟩
  unfold keyWAt keyW at q
  cases hw : plainW 3 (ys.getD p .non) with
  | some w =>
    have := q M (Keep.refl M)
    rw [hw] at this
    exact ⟨_, rfl, .bl true, rfl, true, rfl, _, rfl, this⟩
  | none =>
    rw [hw] at q
    simp only at q
    refine ⟨_, rfl, .bl false, rfl, false, rfl, ?_⟩
    obtain ⟨l, e1, e2, e3, e4⟩ := plain_none hw
    match l, e2 with
    | [n, v, k], _ =>
      have i0 : itm (ys.getD p .non) 0 = n := by unfold itm; rw [e1]; rfl
      have i2 : itm (ys.getD p .non) 2 = k := by unfold itm; rw [e1]; rfl
      have en : nmS (ys.getD p .non) = nmOf n := by unfold nmS; rw [i0]
      rw [i2, en] at q
      rw [i2] at hbp
      have hvy := hyp.pl.vw M
      have pk := hyp.it _ e1 k (by simp)
      cases n with
      | str z =>
        have ez : D.str z = strD z.cps.toList := by show D.str z = D.str (S z.cps.toList); rw [<- S_of]
        refine ⟨_, rfl, _, rfl, _, e0, [.str z, v, k], ?_, rfl, _, _, rfl, _, _, rfl, _, _, rfl, rfl, ?_⟩
        · rw [hvy]
          rcases seqs_or e1 with e | e
          · exact .inr e
          · exact .inl e
        · cases hk : keyOkB k with
          | true =>
            obtain ⟨l, rfl, h8, hkn⟩ := keyOkB_bD hk
            rw [if_pos hk, byN_bD h8] at q
            rw [byN_bD h8] at hbp
            refine ⟨_, rfl, bD l, rfl, .inl ⟨l, rfl, h8, by omega, ?_⟩⟩
            rw [kf_none hkn]
            refine ⟨.bl false, rfl, false, rfl, ?_⟩
            rw [ez]
            exact kw_1 hx hr hl hpl (take_K hS) q
          | false =>
            rw [if_neg (by rw [hk]; exact Bool.false_ne_true)] at q
            have q2 := q M (Keep.refl M)
            refine ⟨_, rfl, k, rfl, ?_⟩
            obtain ⟨nk, hnk⟩ := pk.ty
            by_cases hb : isByt k = true
            · obtain ⟨l, rfl, h8⟩ : ∃ l, k = bD l /\ N8 l := by
                cases k with
                | byt b => exact ⟨byN (.byt b), byt_bD b, byN_8 _⟩
                | _ => cases hb
              have hkn : keyN l = false := by
                unfold keyOkB at hk
                rw [hb, Bool.true_and, byN_bD h8] at hk
                exact hk
              rw [byN_bD h8] at hbp
              exact .inl ⟨l, rfl, h8, by omega, .bl true, kf_some hkn, true, rfl, q2⟩
            · refine .inr ⟨nk, by rw [pk.vw]; exact hnk, fun z => hb ?_, .bl true, rfl, true, rfl, q2⟩
              rw [z] at hnk
              cases k <;> first | rfl | exact absurd hnk (by simp [tyName])
      | _ => cases e3
def shortK (l : List Nat) : List (List Nat) := (List.range ((cutK [] l).length - 1)).map fun i => ((cutK [] l).take (1 + i)).flatten
def sp_shorter_keys : SpD := fun ds M Q _ => ∃ l, ds = [bD l] /\ N8 l /\ l.length <= 100000 /\ ∀ M', Keep M M' -> Q (.lst ((shortK l).map bD)) M'
abbrev N_shorter_keys : List Str := ["key", "labels", "many"]
def t_shorter_keys : DTS := (dSeq (dAsg (dCall sp_cut_key [] (dCons (dVar 0) dNil)) (gN 1))
    (dRet (dLc (iR2 (dC (.int 1)) (dCB lenF (dCons (dVar 1) dNil))) (gN 2) dYes (dBjoin (dC (.byt #[])) (dSl slD (dVar 1) dNoPart (dPart (dVar 2)))) [2])))
theorem bA_app (a b : List Nat) : bA a ++ bA b = bA (a ++ b) := by
  unfold bA
  rw [List.map_append, List.append_toArray]
theorem joined_go : ∀ (Ls : List (List Nat)) (k : Nat) (acc : List Nat), (((Ls.map bA).zipIdx k).foldl (fun out (p, i) => (if i > 0 then out ++ (#[] : Array UInt8) else out) ++ p) (bA acc)) = bA (acc ++ Ls.flatten)
  | [], _, acc => by simp
  | l :: Ls, k, acc => by
    rw [List.map_cons, List.zipIdx_cons, List.foldl_cons]
    have e : (if k > 0 then bA acc ++ (#[] : Array UInt8) else bA acc) ++ bA l = bA (acc ++ l) := by
      rw [<- bA_app]
      split <;> simp
    show List.foldl _ ((if k > 0 then bA acc ++ (#[] : Array UInt8) else bA acc) ++ bA l) _ = _
    rw [e, joined_go Ls (k + 1) (acc ++ l), List.flatten_cons, List.append_assoc]
theorem joined_flat (Ls : List (List Nat)) : Builtin.Bytes.joined #[] (Ls.map bA) = bA Ls.flatten := by
  have := joined_go Ls 0 []
  rw [List.nil_append] at this
  exact this
theorem cutK_flat : ∀ (l acc : List Nat), ((cutK acc l).flatten).length <= acc.length + l.length
  | [], acc => by simp [cutK]
  | a :: r, acc => by
    unfold cutK
    split
    · have := cutK_flat r []
      simp at this ⊢
      omega
    · have := cutK_flat r (acc ++ [a])
      simp at this ⊢
      omega
theorem flat_take (L : List (List Nat)) (k : Nat) : ((L.take k).flatten).length <= L.flatten.length := by
  conv => rhs; rw [<- List.take_append_drop k L, List.flatten_append, List.length_append]
  omega
theorem size_sum : ∀ (Ls : List (List Nat)) (c : Nat), ((Ls.map bA).foldl (fun n (b : Array UInt8) => n + b.size) c) = c + Ls.flatten.length
  | [], c => by simp
  | l :: Ls, c => by rw [List.map_cons, List.foldl_cons, size_sum Ls, bA_size, List.flatten_cons, List.length_append]; omega
theorem pure_shorter_keys : ∀ ds M Q E, sp_shorter_keys ds M Q E -> ds.length = 1 /\ t_shorter_keys (dEnds Q E) (startD N_shorter_keys ds) M := by
  rintro ds M Q E ⟨l, rfl, h8, hl, q⟩
  refine ⟨rfl, ?_⟩
  refine ⟨_, rfl, l, rfl, h8, by omega, ?_⟩
  have hcl := cutK_len l []
  have hcf := cutK_flat l []
  simp only [List.length_nil] at hcf
  refine ⟨_, rfl, .int ((cutK [] l).length : Nat), by show lenF [.lst _] = _; simp, 1, ((cutK [] l).length : Nat), rfl, rfl, by omega, fun a ha => ?_⟩
  have er : ((((cutK [] l).length : Nat) : Int) - 1).toNat = (cutK [] l).length - 1 := by omega
  rw [er]
  unfold shortK at q
  rw [List.map_map] at q
  refine lcD_ix (fun i : Nat => D.int (1 + (i : Int))) (fun i => some (bD (((cutK [] l).take (1 + i)).flatten))) _ (by simp; omega) ha (fun i hi M2 T k2 hT => ?_) fun M2 k2 => ?_
  · have hft := flat_take (cutK [] l) (1 + i)
    refine ⟨#[], rfl, _, rfl, _, rfl, ((1 + i : Nat) : Int), ?_, .lst (((cutK [] l).take (1 + i)).map bD), ?_, ((cutK [] l).take (1 + i)).map bA, ?_, ?_, ?_, ?_⟩
    · congr 1
    · show some (D.lst (DL.cutD _ none (some ((1 + i : Nat) : Int)))) = _
      rw [cutD_to, List.map_take]
    · rw [List.map_map]; rfl
    · unfold Builtin.Bytes.tooLong
      refine decide_eq_false ?_
      rw [List.foldl_toArray, size_sum, size_line, show (#[] : Array UInt8).size = 0 from rfl, Nat.zero_mul, Nat.zero_add]
      omega
    · rw [joined_flat, bA_size, size_line]; omega
    · rw [joined_flat]
      exact hT M2 (Keep.refl _)
  · rw [List.filterMap_eq_map']
    exact q M2 k2
def faultD : Option (Int × String) -> D
  | some (p, w) => FaultD (.int p) (.str w)
  | none => .non
def kys (ys : List D) : List (Array UInt8) := ys.map fun z => bA (byN (itm z 2))
def keyF (ys : List D) : Option (Nat × String) := (List.range ys.length).findSome? fun p => (keyWAt ys p).map fun w => (p, w)
def parB (ks : List (Array UInt8)) (l : List Nat) : Bool := match (shortK l).getLast? with
  | some m => !hasB ks (bA m)
  | none => false
def parF (ys : List D) : Option Nat := (List.range ys.length).find? fun p => parB (kys ys) (byN (itm (ys.getD p .non) 2))
def keyJ (d : D) : Option (Int × String) := match seqs d with
  | none => some (-1, "rows")
  | some ys => if 60 < ys.length then some (-1, "rows") else match keyF ys with
    | some q => some ((q.1 : Int), q.2)
    | none => (parF ys).map fun p => ((p : Int), "parent")
def sp_judge_keys : SpD := fun ds M Q _ => ∃ (x : D), ds = [x] /\ (∃ n, tyName (vw M x) = some n) /\ (∀ a, x = .ref a -> (M a).isSome) /\ (∀ ys, seqs (vw M x) = some ys -> (∀ y ∈ ys, PlRow y) /\ (∀ y ∈ ys, (byN (itm y 2)).length <= 100000) /\ ys.length <= 10000000) /\
  ∀ M', Keep M M' -> Q (faultD (keyJ (vw M x))) M'
abbrev N_judge_keys : List Str := ["rows", "place", "word", "known", "key", "row", "one"]
def l_judge_keys_1 : DTS := (dIf (dNot (dTest (dCB allF (dCons (dLc (iS (dSl slD (dCall sp_shorter_keys [] (dCons (dVar 4) dNil)) (dPart (dUn negD (dC (.int 1)))) dNoPart)) (gN 6) dYes (dBin (bInB false) (dVar 6) (dVar 3)) [6]) dNil)))) (dRet (dMake 12 sp_Fault___init__ (dCons (dVar 1) (dCons (dC (.str "parent")) dNil)))) dNext)
def l_judge_keys_2 : DTS := (dSeq (dFor (iEnT (dVar 3)) (gT 2 (gsCons (gN 1) (gsCons (gN 4) gsNil))) l_judge_keys_1)
    (dRet (dC .non)))
def l_judge_keys_3 : DTS := (dSeq (dAsg (dLcG (iSG (dVar 0)) (gN 5) dYes (dOp ixA (dVar 5) (dC (.int 2))) [5]) (gN 3))
    l_judge_keys_2)
def l_judge_keys_4 : DTS := (dSeq (dAsg (dCall sp_key_word [] (dCons (dVar 0) (dCons (dVar 1) dNil))) (gN 2))
    (dIf (dTest (dOp notNonD (dVar 2) (dC .non))) (dRet (dMake 12 sp_Fault___init__ (dCons (dVar 1) (dCons (dVar 2) dNil)))) dNext))
def l_judge_keys_5 : DTS := (dSeq (dFor (iR1 (dCB lenF (dCons (dVar 0) dNil))) (gN 1) l_judge_keys_4)
    l_judge_keys_3)
def t_judge_keys : DTS := (dSeq (dIf (dOr (dNot (dTest (dCall sp_is_sequence [] (dCons (dVar 0) dNil)))) (dTest (dOp gtD (dCB lenF (dCons (dVar 0) dNil)) (dC (.int 60))))) (dRet (dMake 12 sp_Fault___init__ (dCons (dUn negD (dC (.int 1))) (dCons (dC (.str "rows")) dNil)))) dNext)
    l_judge_keys_5)
theorem keyF_some {ys : List D} {p : Nat} {w : String} (hp : p < ys.length) (hn : ∀ j, j < p -> keyWAt ys j = none) (hw : keyWAt ys p = some w) : keyF ys = some (p, w) := by
  unfold keyF
  refine find_step (k := p) (x := p) (fun j hj x hx => ?_) (by rw [List.getElem?_range hp]) (by rw [hw]; rfl)
  have hj2 : j < ys.length := by omega
  rw [List.getElem?_range hj2] at hx
  cases hx
  rw [hn j hj]; rfl
theorem keyF_none {ys : List D} (hn : ∀ j, j < ys.length -> keyWAt ys j = none) : keyF ys = none := by
  unfold keyF
  refine List.findSome?_eq_none_iff.mpr fun j hj => ?_
  rw [hn j (List.mem_range.mp hj)]; rfl
theorem parF_some {ys : List D} {p : Nat} (hp : p < ys.length) (hn : ∀ j, j < p -> parB (kys ys) (byN (itm (ys.getD j .non) 2)) = false) (hw : parB (kys ys) (byN (itm (ys.getD p .non) 2)) = true) : parF ys = some p := by
  unfold parF
  rw [List.find?_range_eq_some]
  exact ⟨hw, List.mem_range.mpr hp, fun j hj => by rw [hn j hj]; rfl⟩
theorem parF_none {ys : List D} (hn : ∀ j, j < ys.length -> parB (kys ys) (byN (itm (ys.getD j .non) 2)) = false) : parF ys = none := by
  unfold parF
  refine List.find?_eq_none.mpr fun j hj => ?_
  rw [hn j (List.mem_range.mp hj)]; exact Bool.false_ne_true
theorem mk_fl {M : Mem} {Q : DV} {c : Nat} {o : D} (q : Q o M) : ∀ x, M x = none -> ((fun d M2 => d = D.non /\ frz (.ref x) M2 Q) .non (updM (updM M x (.obj c [] [])) x o)) := fun x hx => ⟨rfl, by simp only [frz, updM_updM, updM_same, delM_updM hx]; exact q⟩
theorem enum_at {l : List D} {done rest : List D} {y : D} (e : (l.zipIdx.map fun p => D.tup [.int (p.2 : Nat), p.1]) = done ++ y :: rest) : ∃ h : done.length < l.length, y = .tup [.int (done.length : Nat), l[done.length]] := by
  have hy : (l.zipIdx.map fun p => D.tup [.int (p.2 : Nat), p.1])[done.length]? = some y := by rw [e]; simp
  have hd : done.length < l.length := by have := congrArg List.length e; simp at this; omega
  rw [List.getElem?_map, List.getElem?_zipIdx, List.getElem?_eq_getElem hd] at hy
  exact ⟨hd, by simpa using hy.symm⟩
theorem cutD_one {xs : List D} : DL.cutD xs (some (-1)) none = xs.getLast?.toList := by
  unfold DL.cutD HT.sIx
  simp only [show ((-1 : Int) < 0) = True by simp, if_true]
  rw [List.take_of_length_le (by simp)]
  cases e : xs.getLast? with
  | none =>
    rw [List.getLast?_eq_none_iff.mp e]
    simp
  | some z =>
    obtain ⟨ys, rfl⟩ := List.getLast?_eq_some_iff.mp e
    have : ((-1 : Int) + (((ys ++ [z]).length : Nat) : Int)).toNat = ys.length := by simp; omega
    rw [this, List.drop_left']
    · rfl
    · rfl
theorem pure_judge_keys : ∀ ds M Q E, sp_judge_keys ds M Q E -> ds.length = 1 /\ t_judge_keys (dEnds Q E) (startD N_judge_keys ds) M := by
  rintro ds M Q E ⟨x, rfl, ⟨nx, hnx⟩, hr, hys, qq⟩
  refine ⟨rfl, ?_⟩
  have faulty : ∀ (ρ : DL.Env) (M1 : Mem), Keep M M1 -> keyJ (vw M x) = some (-1, "rows") -> dRet (dMake 12 sp_Fault___init__ (dCons (dUn negD (dC (.int 1))) (dCons (dC (.str "rows")) dNil))) { dEnds Q E with nx := l_judge_keys_5 (dEnds Q E) } ρ M1 := fun ρ M1 k1 e =>
    ⟨_, rfl, fun z hz => ⟨z, _, _, rfl, updM_same, mk_fl (by have := qq M1 k1; rw [e] at this; exact this) z hz⟩⟩
  refine ⟨_, rfl, x, nx, rfl, hnx, _, rfl, ?_⟩
  cases hs : seqs (vw M x) with
  | none =>
    rw [seqs_no hs hnx]
    exact faulty _ M (Keep.refl M) (by unfold keyJ; rw [hs])
  | some ys =>
    obtain ⟨n', hn', hb'⟩ := seqs_ty hs
    obtain rfl : nx = n' := Option.some.inj (hnx.symm.trans hn')
    rw [hb']
    obtain ⟨hpl, hby, hlen⟩ := hys ys hs
    refine ⟨_, rfl, .int (ys.length : Nat), seqs_len hs, .bl (decide (60 < (ys.length : Int))), rfl, _, rfl, ?_⟩
    by_cases h6 : 60 < ys.length
    · rw [decide_eq_true (by omega)]
      exact faulty _ M (Keep.refl M) (by unfold keyJ; rw [hs]; simp [h6])
    · rw [decide_eq_false (by omega)]
      have ej : keyJ (vw M x) = match keyF ys with
        | some q => some ((q.1 : Int), q.2)
        | none => (parF ys).map fun p => ((p : Int), "parent") := by unfold keyJ; rw [hs]; simp [h6]
      rw [ej] at qq
      refine ⟨_, rfl, .int (ys.length : Nat), seqs_len hs, _, rfl, by omega, by omega, ?_⟩
      refine forD_run _ (fun done ρ M1 => ∃ o1 o2 o3 o4 o5 o6, ρ = [some x, o1, o2, o3, o4, o5, o6] /\ Keep M M1 /\ ∀ j, j < done.length -> keyWAt ys j = none) ?_ ?_ ⟨_, _, _, _, _, _, rfl, Keep.refl M, fun j hj => by simp at hj⟩
      · rintro done y rest ρ M1 Nx e ⟨o1, o2, o3, o4, o5, o6, rfl, k1, hn⟩ nx
        obtain ⟨hlt, rfl⟩ := range_at e
        have hlt2 : done.length < ys.length := by simpa using hlt
        refine ⟨_, rfl, _, rfl, x, ys, done.length, rfl, by rw [k1.vw hr]; exact hs, hlt2, by omega, hpl, hby, fun j hj => keyW_none (hn j hj), fun a ea => ?_, fun M2 k2 => ?_⟩
        · have := hr a ea
          cases z : M a with
          | none => rw [z] at this; cases this
          | some d => rw [k1 a d z]; rfl
        · cases hw : keyWAt ys done.length with
          | none =>
            refine ⟨_, rfl, .bl false, rfl, false, rfl, nx _ _ ⟨_, _, _, _, _, _, rfl, k1.trans k2, fun j hj => ?_⟩⟩
            simp at hj
            by_cases hj2 : j < done.length
            · exact hn j hj2
            · rw [show j = done.length by omega]; exact hw
          | some w =>
            refine ⟨_, rfl, .bl true, rfl, true, rfl, _, rfl, _, rfl, fun z hz => ⟨z, _, _, rfl, updM_same, mk_fl ?_ z hz⟩⟩
            have := qq M2 (k1.trans k2)
            rw [keyF_some hlt2 hn hw] at this
            exact this
      · rintro ρ M1 ⟨o1, o2, o3, o4, o5, o6, rfl, k1, hn⟩
        have hn : ∀ j, j < ys.length -> keyWAt ys j = none := fun j hj => hn j (by simpa using hj)
        rw [keyF_none hn] at qq
        simp only at qq
        have hx1 : seqs (vw M1 x) = some ys := by rw [k1.vw hr]; exact hs
        have hK : ∀ z ∈ ys, KRow z := fun z hz => by
          obtain ⟨j, hj, rfl⟩ := List.getElem_of_mem hz
          have := keyW_none (hn j hj)
          simpa [List.getD, hj] using this
        refine ⟨_, rfl, ys, seqs_it hx1, fun c hc => ?_⟩
        refine lcG_fn (fun z => some (.byt (bA (byN (itm z 2))))) ys (by omega) hc (fun M3 h3 => by rw [(k1.trans (keep_off hc h3)).vw hr]; exact seqs_it hs) (fun z hz M3 T _ hT => ?_) ?_
        · obtain ⟨n', v', l', e1, e8, _, _, e3⟩ := krow_parts (hK z hz)
          refine ⟨_, rfl, .byt (bA (byN (itm z 2))), ?_, hT⟩
          rw [(hpl z hz).pl.vw M3]
          show ixA z (.int 2) = _
          rw [seqs_ix e1, e3, byN_bD e8]
          rfl
        have e3 : ys.filterMap (fun z => some (D.byt (bA (byN (itm z 2))))) = (kys ys).map D.byt := by rw [List.filterMap_eq_map', kys, List.map_map]; rfl
        rw [e3]
        have hkl : (kys ys).length = ys.length := by simp [kys]
        refine ⟨_, rfl, _, rfl, ?_⟩
        refine forD_run _ (fun done ρ M4 => ∃ o1 o2 o4 o5 o6, ρ = [some x, o1, o2, some (.lst ((kys ys).map D.byt)), o4, o5, o6] /\ Keep M M4 /\ ∀ j, j < done.length -> parB (kys ys) (byN (itm (ys.getD j .non) 2)) = false) ?_ ?_ ⟨_, _, _, _, _, rfl, k1, fun j hj => by simp at hj⟩
        · rintro done y rest ρ M4 Nx e ⟨o1, o2, o4, o5, o6, rfl, k4, hnp⟩ nx
          obtain ⟨hj, rfl⟩ := enum_at e
          simp only [List.length_map] at hj
          rw [hkl] at hj
          have hyj : ys[done.length] = ys.getD done.length .non := by simp [List.getD, hj]
          have hkj : ((kys ys).map D.byt)[done.length]'(by simp [kys]; exact hj) = bD (byN (itm (ys.getD done.length .non) 2)) := by
            rw [List.getElem_map]
            unfold kys
            rw [List.getElem_map, hyj]
            rfl
          rw [hkj]
          have hbj := hby _ (List.getElem_mem hj)
          rw [hyj] at hbj
          generalize hlj : byN (itm (ys.getD done.length .non) 2) = l at hbj
          have h8 : N8 l := by rw [<- hlj]; exact byN_8 _
          refine ⟨_, .inl rfl, rfl, _, _, rfl, _, _, rfl, rfl, ?_⟩
          refine ⟨_, rfl, l, rfl, h8, hbj, fun M5 k5 => ⟨.int (-1), rfl, -1, rfl, .lst ((shortK l).getLast?.toList.map bD), ?_, _, rfl, fun c hc => ?_⟩⟩
          · show some (D.lst (DL.cutD _ (some (-1)) none)) = _
            rw [cutD_one, List.getLast?_map]
            cases (shortK l).getLast? <;> rfl
          refine lcD_ix bD (fun m => some (.bl (hasB (kys ys) (bA m)))) _ (by cases (shortK l).getLast? <;> simp) hc (fun m hm M6 T k6 hT => ?_) fun M6 k6 => ?_
          · exact ⟨_, rfl, _, rfl, bA m, kys ys, rfl, .inl rfl, by rw [Bool.false_bne]; exact hT M6 (Keep.refl M6)⟩
          · have hpar : allF [.lst ((shortK l).getLast?.toList.filterMap fun m => some (D.bl (hasB (kys ys) (bA m))))] = some (.bl (!parB (kys ys) l)) := by
              unfold parB
              cases (shortK l).getLast? with
              | none => rfl
              | some m => simp [allF, blsOf]
            refine ⟨_, hpar, _, rfl, ?_⟩
            cases hp : parB (kys ys) l with
            | false =>
              refine nx _ _ ⟨_, _, _, _, _, rfl, (k4.trans k5).trans k6, fun j hj => ?_⟩
              simp at hj
              by_cases hj2 : j < done.length
              · exact hnp j hj2
              · rw [show j = done.length by omega, hlj]; exact hp
            | true =>
              refine ⟨_, rfl, fun z hz => ⟨z, _, _, rfl, updM_same, mk_fl ?_ z hz⟩⟩
              have := qq M6 ((k4.trans k5).trans k6)
              rw [parF_some hj hnp (by rw [hlj]; exact hp)] at this
              exact this
        · rintro ρ M4 ⟨o1, o2, o4, o5, o6, rfl, k4, hnp⟩
          have := qq M4 k4
          rw [parF_none fun j hj => hnp j (by simp [kys]; exact hj)] at this
          exact this
end LawProof
set_option Elab.async false
set_option linter.all false
set_option maxRecDepth 100000
set_option maxHeartbeats 4000000
set_option autoImplicit true
namespace LawProof
open PySem L2 DL FL
def sp__law_well : SpD := fun ds M Q _ => ∃ i : Int, ds = [.int i] /\ ∀ r M', M r = none -> Well M' r 0 -> (∀ b, b ≠ r -> M' b = M b) -> Q (.ref r) M'
abbrev N__law_well : List Str := ["_law_cell"]
def t__law_well : DTS := (dRet (dLstM (dCons (dOp mulD (dVar 0) (dCB intF (dCons (dOp geD (dVar 0) (dOp powD (dC (.int 10)) (dC (.int 18)))) dNil))) (dCons (dOp modD (dCB intF (dCons (dVar 0) dNil)) (dC (.int 2147483629))) (dCons (dC (.int 0)) dNil)))))
theorem pure__law_well : ∀ ds M Q E, sp__law_well ds M Q E -> ds.length = 1 /\ t__law_well (dEnds Q E) (startD N__law_well ds) M := by
  rintro ds M Q E ⟨i, rfl, q⟩
  refine ⟨rfl, ?_⟩
  have hm : (-18446744073709551616 < (if (1000000000000000000 : Int) <= i then (1 : Int) else 0) /\ (if (1000000000000000000 : Int) <= i then (1 : Int) else 0) < 18446744073709551616) := by split <;> omega
  simp (disch := first | (simp; done) | omega) [t__law_well, dLstM]
  refine fun r hr => q r _ hr ⟨_, _, _, updM_same, ?_, ?_, ?_, ?_⟩ (fun b hb => updM_ne hb) <;> omega
def sp__law_draw : SpD := fun ds M Q _ => ∃ (r : Addr) (m : Int) (n : Nat), ds = [.ref r, .int m] /\ Well M r n /\ n <= 100000000000000 /\ 0 < m /\ m <= 10 ^ 30 /\ ∀ k M', 0 <= k -> k < m -> WTo M M' r (n + 1) -> Q (.int k) M'
abbrev N__law_draw : List Str := ["_law_well_here", "_law_many", "_law_digit", "_law_mixed_here"]
def t__law_draw : DTS := (dSeq (dIf (dTest (dOp gtD (dOp ixA (dVar 0) (dC (.int 0))) (dC (.int 0)))) (dSeq (dAsg (dOp modD (dCB intF (dCons (dOp ixA (dVar 0) (dC (.int 0))) dNil)) (dVar 1)) (gN 2))
    (dSeq (dAsg (dOp fdivD (dOp ixA (dVar 0) (dC (.int 0))) (dVar 1)) (gSubL (dVar 0) (dC (.int 0))))
    (dRet (dVar 2)))) dNext)
    (dSeq (dAsg (dOp addD (dOp ixA (dVar 0) (dC (.int 2))) (dC (.int 1))) (gSubL (dVar 0) (dC (.int 2))))
    (dSeq (dAsg (dOp modD (dCB intF (dCons (dOp powD (dOp addD (dOp addD (dOp ixA (dVar 0) (dC (.int 1))) (dOp mulD (dC (.int 50021)) (dOp ixA (dVar 0) (dC (.int 2))))) (dC (.int 17))) (dC (.int 3))) dNil)) (dC (.int 2147483647))) (gN 3))
    (dSeq (dAsg (dOp modD (dCB intF (dCons (dOp mulD (dOp addD (dVar 3) (dOp ixA (dVar 0) (dC (.int 2)))) (dOp addD (dOp fdivD (dVar 3) (dC (.int 1021))) (dC (.int 69621)))) dNil)) (dC (.int 2147483587))) (gN 3))
    (dRet (dOp modD (dCB intF (dCons (dOp fdivD (dOp modD (dCB intF (dCons (dOp mulD (dVar 3) (dOp addD (dOp fdivD (dVar 3) (dC (.int 2017))) (dC (.int 48271)))) dNil)) (dC (.int 2147483563))) (dC (.int 3))) dNil)) (dVar 1)))))))
theorem pure__law_draw : ∀ ds M Q E, sp__law_draw ds M Q E -> ds.length = 2 /\ t__law_draw (dEnds Q E) (startD N__law_draw ds) M := by
  rintro ds M Q E ⟨r, m, n, rfl, ⟨a, b, c, hM, hb, hb2, hc, hcn⟩, hn, hm, hm2, q⟩
  refine ⟨rfl, ?_⟩
  by_cases ha : 0 < a
  · simp (disch := first | (simp; done) | omega) [t__law_draw, vw_ref hM, ha, hM, ixN]
    exact q _ _ (Int.emod_nonneg _ (by omega)) (Int.emod_lt_of_pos _ hm) (.put hb hb2 hc (by omega))
  · simp (disch := first | (simp; done) | omega) [t__law_draw, vw_ref hM, ha, hM, ixN]
    exact ⟨by omega, q _ _ (Int.emod_nonneg _ (by omega)) (Int.emod_lt_of_pos _ hm) (.put hb hb2 (by omega) (by omega))⟩
def sp__law_one : SpD := fun ds M Q _ => ∃ (r : Addr) (d : D) (xs : List D) (n : Nat), ds = [.ref r, d] /\ Well M r n /\ n <= 100000000000000 /\ d ≠ .ref r /\ (∀ a, d = .ref a -> (M a).isSome) /\
  ((vw M d = .lst xs /\ xs.length <= 16777216) \/ ∃ cs : List Nat, vw M d = .str (S cs) /\ cs.length <= 16777216 /\ xs = cs.map fun c => D.str ⟨#[c]⟩) /\ xs ≠ [] /\ ∀ x M', x ∈ xs -> WTo M M' r (n + 1) -> Q x M'
abbrev N__law_one : List Str := ["_law_well_here", "_law_some"]
def t__law_one : DTS := (dRet (dOp ixA (dVar 1) (dCall sp__law_draw [] (dCons (dVar 0) (dCons (dCB lenF (dCons (dVar 1) dNil)) dNil)))))
theorem vw_wto {M M' : Mem} {r : Addr} {n : Nat} {d : D} (k : WTo M M' r n) (h : d ≠ .ref r) (h2 : ∀ a, d = .ref a -> (M a).isSome) : vw M' d = vw M d := by
  cases d with
  | ref a =>
    have h3 := h2 a rfl
    cases e : M a with
    | none => rw [e] at h3; cases h3
    | some c => rw [vw_ref e, vw_ref (k.keep a c (fun z => h (by rw [z])) e)]
  | _ => rfl
theorem pure__law_one : ∀ ds M Q E, sp__law_one ds M Q E -> ds.length = 2 /\ t__law_one (dEnds Q E) (startD N__law_one ds) M := by
  rintro ds M Q E ⟨r, d, xs, n, rfl, hw, hn, hd, hs, hx, hne, q⟩
  refine ⟨rfl, ?_⟩
  have hpos : 0 < xs.length := List.length_pos_iff.mpr hne
  rcases hx with ⟨hv, hl⟩ | ⟨cs, hv, hl, rfl⟩
  · simp [t__law_one, hv, sp__law_draw]
    refine ⟨n, hw, hn, hpos, by omega, fun k M' hk0 hk1 hto => ?_⟩
    obtain ⟨j, rfl⟩ := Int.eq_ofNat_of_zero_le hk0
    have hj : j < xs.length := by omega
    rw [vw_wto hto hd hs, hv]
    simp [atI_at, hj, hk0]
    exact q _ _ (List.getElem_mem hj) hto
  · have hp : 0 < cs.length := by simpa using hpos
    simp [t__law_one, hv, sp__law_draw, lenF, S, Str.length, hl]
    refine ⟨n, hw, hn, hp, by omega, fun k M' hk0 hk1 hto => ?_⟩
    obtain ⟨j, rfl⟩ := Int.eq_ofNat_of_zero_le hk0
    have hj : j < cs.length := by omega
    rw [vw_wto hto hd hs, hv]
    simp [ixD, atI_at, hj, hk0, S, Str.length, hl]
    exact q _ _ (List.mem_map.mpr ⟨cs[j], List.getElem_mem hj, rfl⟩) hto
def Fresh (x : List Nat) : Prop := NameOk x /\ ∀ r, x = 113 :: r -> ∃ e ∈ r, isL e = true
def Made (k : Nat) (x : List Nat) : Prop := Fresh x \/ ∃ j, j < k /\ x = 113 :: dg j
theorem made_ok {k : Nat} {x : List Nat} (hk : k <= 60) (h : Made k x) : NameOk x := by
  rcases h with h | ⟨j, hj, rfl⟩
  · exact h.1
  · have hd : (∀ e ∈ dg j, 48 <= e /\ e <= 57) /\ (dg j).length <= 2 := dg_ok ⟨j, by omega⟩
    refine ⟨113, dg j, rfl, by omega, by decide, fun e he => ?_⟩
    have := hd.1 e he
    simp [isS]; omega
theorem made_mono {k m : Nat} {x : List Nat} (l : k <= m) (h : Made k x) : Made m x := by
  rcases h with h | ⟨j, hj, rfl⟩
  · exact .inl h
  · exact .inr ⟨j, by omega, rfl⟩
theorem made_new {k : Nat} {x : List Nat} (hk : k < 60) (h : Made k x) : x ≠ 113 :: dg k := by
  rintro rfl
  have hd : (∀ e ∈ dg k, 48 <= e /\ e <= 57) /\ (dg k).length <= 2 := dg_ok ⟨k, hk⟩
  rcases h with h | ⟨j, hj, e⟩
  · obtain ⟨e, he, hl⟩ := h.2 _ rfl
    have := hd.1 e he
    simp [isL] at hl
    omega
  · have := dg_inj ⟨k, hk⟩ ⟨j, by omega⟩ (by simpa using e)
    have := congrArg Fin.val this
    simp at this
    omega
theorem dg_q99 : ∀ j : Fin 60, dg j.val ≠ [57, 57] := by decide +kernel
theorem made_q99 {k : Nat} {x : List Nat} (hk : k <= 60) (h : Made k x) : x ≠ [113, 57, 57] := by
  rintro rfl
  rcases h with h | ⟨j, hj, e⟩
  · obtain ⟨e, he, hl⟩ := h.2 _ rfl
    simp at he
    subst he
    simp [isL] at hl
  · exact dg_q99 ⟨j, by omega⟩ (by simpa using e.symm)
def sp__law_names : SpD := fun ds M Q _ => ∃ (r : Addr) (m n : Nat), ds = [.ref r, .int (m : Int)] /\ Well M r n /\ n <= 10000000000000 /\ m <= 60 /\
  ∀ (ns : List (List Nat)) (M' : Mem), ns.length = m -> (∀ x ∈ ns, NameOk x /\ x ≠ [113, 57, 57]) -> ns.Nodup -> WTo M M' r (n + 20 * m) -> Q (.lst (ns.map strD)) M'
abbrev N__law_names : List Str := ["_law_well_here", "_law_many", "_law_letters", "_law_found", "_law_k", "_law_name", "_law_turn", "_law_elder", "_law_at"]
def l__law_names_1 : DTS := (dAsg (dOp addD (dVar 5) (dCall sp__law_one [] (dCons (dVar 0) (dCons (dOp addD (dVar 2) (dC (.str "q0123456789"))) dNil)))) (gN 5))
def l__law_names_2 : DTS := (dSeq (dAsg (dCall sp__law_one [] (dCons (dVar 0) (dCons (dVar 2) dNil))) (gN 5))
    (dSeq (dFor (iR1 (dCall sp__law_draw [] (dCons (dVar 0) (dCons (dC (.int 8)) dNil)))) (gN 6) l__law_names_1)
    (dSeq (dIf (dAnd (dTest (dOp neD (dVar 3) (dLst dNil))) (dTest (dOp eqD (dCall sp__law_draw [] (dCons (dVar 0) (dCons (dC (.int 3)) dNil))) (dC (.int 0))))) (dSeq (dAsg (dCall sp__law_one [] (dCons (dVar 0) (dCons (dVar 3) dNil))) (gN 7))
    (dSeq (dAsg (dCall sp__law_draw [] (dCons (dVar 0) (dCons (dCB lenF (dCons (dVar 7) dNil)) dNil))) (gN 8))
    (dAsg (dOp addD (dOp addD (dSl slD (dVar 7) dNoPart (dPart (dVar 8))) (dCall sp__law_one [] (dCons (dVar 0) (dCons (dVar 2) dNil)))) (dSl slD (dVar 7) (dPart (dOp addD (dVar 8) (dC (.int 1)))) dNoPart)) (gN 5)))) dNext)
    (dDrop (dBM "list" φApp (dVar 3) (dCons (dIfE (dTest (dOp inD (dVar 5) (dVar 3))) (dOp addD (dC (.str "q")) (dCB strF (dCons (dVar 4) dNil))) (dVar 5)) dNil))))))
def t__law_names : DTS := (dSeq (dPar 2 3 (dCons (dC (.str "abcdefghijklmnoprstuvwxyz")) (dCons (dLstM dNil) dNil)))
    (dSeq (dFor (iR1 (dVar 1)) (gN 4) l__law_names_2)
    (dRet (dFrz (dVar 3)))))
theorem letters_no_q : ∀ c ∈ ("abcdefghijklmnoprstuvwxyz" : Str).cps.toList, isL c = true /\ c ≠ 113 := by decide +kernel
theorem letters_more : ∀ c ∈ ("abcdefghijklmnoprstuvwxyz" ++ "q0123456789" : Str).cps.toList, isS c = true := by decide +kernel
theorem letters_S : ("abcdefghijklmnoprstuvwxyz" : Str) = S ("abcdefghijklmnoprstuvwxyz" : Str).cps.toList := S_of _
theorem more_S : ("abcdefghijklmnoprstuvwxyz" ++ "q0123456789" : Str) = S ("abcdefghijklmnoprstuvwxyz" ++ "q0123456789" : Str).cps.toList := S_of _
theorem one_letter {M : Mem} {r : Addr} {n : Nat} {Q : DV} {E : DEK} (hw : Well M r n) (hn : n <= 100000000000000) (q : ∀ c M', isL c = true -> c ≠ 113 -> WTo M M' r (n + 1) -> Q (strD [c]) M') : sp__law_one [.ref r, .str "abcdefghijklmnoprstuvwxyz"] M Q E := by
  refine ⟨r, _, _, n, rfl, hw, hn, by simp, by simp, .inr ⟨("abcdefghijklmnoprstuvwxyz" : Str).cps.toList, ?_, by decide +kernel, rfl⟩, by decide +kernel, fun x M' hx hto => ?_⟩
  · rw [vw_str]; exact congrArg D.str letters_S
  · obtain ⟨c, hc, rfl⟩ := List.mem_map.mp hx
    have := letters_no_q c hc
    exact q c M' this.1 this.2 hto
theorem one_sign {M : Mem} {r : Addr} {n : Nat} {Q : DV} {E : DEK} (hw : Well M r n) (hn : n <= 100000000000000) (q : ∀ c M', isS c = true -> WTo M M' r (n + 1) -> Q (strD [c]) M') : sp__law_one [.ref r, .str ("abcdefghijklmnoprstuvwxyz" ++ "q0123456789")] M Q E := by
  refine ⟨r, _, _, n, rfl, hw, hn, by simp, by simp, .inr ⟨("abcdefghijklmnoprstuvwxyz" ++ "q0123456789" : Str).cps.toList, ?_, by decide +kernel, rfl⟩, by decide +kernel, fun x M' hx hto => ?_⟩
  · rw [vw_str]; exact congrArg D.str more_S
  · obtain ⟨c, hc, rfl⟩ := List.mem_map.mp hx
    exact q c M' (letters_more c hc) hto
theorem mutated {el : List Nat} {k c : Nat} (h : NameOk el) (hk : k < el.length) (hc : isL c = true) (hq : c ≠ 113) : Fresh (el.take k ++ [c] ++ el.drop (k + 1)) := by
  obtain ⟨d, r, rfl, hr, hd, hs⟩ := h
  cases k with
  | zero =>
    refine ⟨⟨c, r, by simp, hr, hc, hs⟩, fun r' e => ?_⟩
    simp at e
    exact absurd e.1 hq
  | succ k =>
    have hk2 : k < r.length := by simpa using hk
    refine ⟨⟨d, r.take k ++ [c] ++ r.drop (k + 1), by simp, by simp; omega, hd, fun e he => ?_⟩, fun r' e => ?_⟩
    · simp at he
      rcases he with he | rfl | he
      · exact hs e (List.mem_of_mem_take he)
      · exact isL_S hc
      · exact hs e (List.mem_of_mem_drop he)
    · simp at e
      exact ⟨c, by rw [<- e.2]; simp, hc⟩
theorem names_inner {E : DEnds} {r a : Addr} {n : Nat} {o1 o4 o7 o8 : Option D} {M : Mem} {c : Nat} (hc : isL c = true) (hw : Well M r n) (hn : n + 100 <= 100000000000000) (k : Nat) (hk : k <= 7)
    (hE : ∀ cs o6 M', cs.length <= 7 -> (∀ e ∈ cs, isS e = true) -> WTo M M' r (n + 7) -> E.nx [some (.ref r), o1, some (.str "abcdefghijklmnoprstuvwxyz"), some (.ref a), o4, some (strD (c :: cs)), o6, o7, o8] M') (o6 : Option D) :
    forD (gN 6) l__law_names_1 ((List.range k).map fun (i : Nat) => D.int (i : Int)) E [some (.ref r), o1, some (.str "abcdefghijklmnoprstuvwxyz"), some (.ref a), o4, some (strD [c]), o6, o7, o8] M := by
  refine forD_run _ (fun done ρ M1 => ∃ cs o6, ρ = [some (.ref r), o1, some (.str "abcdefghijklmnoprstuvwxyz"), some (.ref a), o4, some (strD (c :: cs)), o6, o7, o8] /\ cs.length = done.length /\ (∀ e ∈ cs, isS e = true) /\ WTo M M1 r (n + done.length)) ?_ ?_ ⟨[], o6, rfl, rfl, by simp, .refl hw⟩
  · rintro done x rest ρ M1 Nx e ⟨cs, o6, rfl, hl, hs, hto⟩ nx
    obtain ⟨hd, rfl⟩ := range_at e
    have hx : addD (.str "abcdefghijklmnoprstuvwxyz") (.str "q0123456789") = some (.str ("abcdefghijklmnoprstuvwxyz" ++ "q0123456789")) := by rw [addD_str (by decide +kernel)]
    simp [l__law_names_1, hx]
    refine one_sign hto.ok (by omega) fun c2 M2 hc2 h2 => ?_
    rw [vw_strD, strD_add _ _ (by simp; omega)]
    refine ⟨_, rfl, nx _ _ ⟨cs ++ [c2], _, rfl, by simp [hl], fun e he => ?_, ?_⟩⟩
    · rcases List.mem_append.mp he with he | he
      · exact hs e he
      · rw [List.mem_singleton.mp he]; exact hc2
    · exact (hto.trans h2).mono (by simp; omega)
  · rintro ρ M1 ⟨cs, o6, rfl, hl, hs, hto⟩
    exact hE cs o6 M1 (by simp at hl; omega) hs (hto.mono (by simp; omega))
theorem names_app {E : DEnds} {r a : Addr} {m n k : Nat} {o6 o7 o8 : Option D} {M M5 : Mem} {ns : List (List Nat)} {x : List Nat} {done : List D} (ha : M a = none) (har : a ≠ r) (hm : m <= 60) (hk : done.length < m) (hlen : ns.length = done.length) (hmade : ∀ x ∈ ns, Made done.length x) (hnd : ns.Nodup) (hx : Fresh x)
    (hM : M5 a = some (.lst (ns.map strD))) (hto : WTo M M5 r (n + 20 * done.length + 20)) {y : D}
    (nx : ∀ ρ' M', (∃ (ns : List (List Nat)) (o4 o5 o6 o7 o8 : Option D), ρ' = [some (.ref r), some (.int m), some (.str "abcdefghijklmnoprstuvwxyz"), some (.ref a), o4, o5, o6, o7, o8] /\ M' a = some (.lst (ns.map strD)) /\ ns.length = (done ++ [y]).length /\ (∀ x ∈ ns, Made (done ++ [y]).length x) /\ ns.Nodup /\ WTo M M' r (n + 20 * (done ++ [y]).length)) -> E.nx ρ' M') :
    dDrop (dBM "list" φApp (dVar 3) (dCons (dIfE (dTest (dOp inD (dVar 5) (dVar 3))) (dOp addD (dC (.str "q")) (dCB strF (dCons (dVar 4) dNil))) (dVar 5)) dNil)) E
      [some (.ref r), some (.int m), some (.str "abcdefghijklmnoprstuvwxyz"), some (.ref a), some (.int (done.length : Nat)), some (strD x), o6, o7, o8] M5 := by
  have hfl : (ns.map strD).all flatD = true := by simp [strD]
  have hin : inB (strD x) (.lst (ns.map strD)) = some (decide (x ∈ ns)) := by
    rw [inB_lst, hfl]
    simp only [strD, flatD, Bool.and_self, if_true]
    exact congrArg some (mem_made ns)
  have hvx : vw M5 (strD x) = strD x := rfl
  have hlog : (done.length : Int).natAbs.log2 < 1920 := by
    have : (done.length : Int).natAbs < 60 := by omega
    have h2 : ∀ j : Fin 60, j.val.log2 < 1920 := by decide +kernel
    exact h2 ⟨_, this⟩
  have hstr : strF [.int (done.length : Nat)] = some (strD (dg done.length)) := by
    show (if _ then some (D.str _) else none) = _
    rw [if_pos hlog]
    exact congrArg (fun z => some (D.str z)) (S_of _)
  simp only [dDrop, dBM, dCons, dIfE, dTest, dOp, dVar, dC, dCB, dNil]
  refine ⟨.ref a, rfl, by rw [vw_ref hM]; rfl, strD x, rfl, .ref a, rfl, _, by rw [vw_ref hM, hvx]; exact congrArg (Option.map D.bl) hin, decide (x ∈ ns), rfl, ?_⟩
  by_cases hmem : x ∈ ns
  · rw [decide_eq_true hmem, if_pos rfl]
    refine ⟨_, rfl, strD (dg done.length), hstr, strD (113 :: dg done.length), ?_, a, ns.map strD, _, rfl, rfl, hM, by simp; omega, nx _ _ ⟨ns ++ [113 :: dg done.length], _, _, _, _, _, rfl, ?_, by simp [hlen], ?_, ?_, ?_⟩⟩
    · show addD (D.str "q") (strD (dg done.length)) = _
      have e : (D.str "q") = strD [113] := congrArg D.str (S_of "q")
      have hd : (dg done.length).length <= 2 := (dg_ok ⟨done.length, by omega⟩).2
      rw [e, strD_add _ _ (by simp; omega)]
      rfl
    · rw [updM_same]; simp
    · intro z hz
      rcases List.mem_append.mp hz with hz | hz
      · exact made_mono (by simp) (hmade z hz)
      · rw [List.mem_singleton.mp hz]; exact .inr ⟨done.length, by simp, rfl⟩
    · refine List.nodup_append.mpr ⟨hnd, by simp, fun z hz w hw => ?_⟩
      rw [List.mem_singleton.mp hw]
      exact made_new (by omega) (hmade z hz)
    · exact (hto.upd ha har).mono (by simp; omega)
  · rw [decide_eq_false hmem, if_neg Bool.false_ne_true]
    refine ⟨strD x, rfl, a, ns.map strD, _, rfl, rfl, hM, by simp; omega, nx _ _ ⟨ns ++ [x], _, _, _, _, _, rfl, ?_, by simp [hlen], ?_, ?_, ?_⟩⟩
    · rw [updM_same]; simp
    · intro z hz
      rcases List.mem_append.mp hz with hz | hz
      · exact made_mono (by simp) (hmade z hz)
      · rw [List.mem_singleton.mp hz]; exact .inl hx
    · refine List.nodup_append.mpr ⟨hnd, by simp, fun z hz w hw => ?_⟩
      rw [List.mem_singleton.mp hw]
      rintro rfl
      exact hmem hz
    · exact (hto.upd ha har).mono (by simp; omega)
theorem pure__law_names : ∀ ds M Q E, sp__law_names ds M Q E -> ds.length = 2 /\ t__law_names (dEnds Q E) (startD N__law_names ds) M := by
  rintro ds M Q E ⟨r, m, n, rfl, hw, hn, hm, q⟩
  refine ⟨rfl, ?_⟩
  simp [t__law_names, dLstM, dFor]
  refine fun a ha => ⟨by omega, ?_⟩
  have har : a ≠ r := fun z => hw.ne ha z.symm
  refine forD_run _ (fun done ρ M1 => ∃ (ns : List (List Nat)) (o4 o5 o6 o7 o8 : Option D), ρ = [some (.ref r), some (.int m), some (.str "abcdefghijklmnoprstuvwxyz"), some (.ref a), o4, o5, o6, o7, o8] /\ M1 a = some (.lst (ns.map strD)) /\ ns.length = done.length /\ (∀ x ∈ ns, Made done.length x) /\ ns.Nodup /\ WTo M M1 r (n + 20 * done.length)) ?_ ?_ ?_
  · rintro done x rest ρ M1 Nx e ⟨ns, o4, o5, o6, o7, o8, rfl, hMa, hlen, hmade, hnd, hto⟩ nx
    obtain ⟨hk, rfl⟩ := range_at e
    simp [l__law_names_2, dFor]
    refine one_letter hto.ok (by omega) fun c M2 hc hcq h2 => ?_
    refine ⟨r, 8, _, rfl, h2.ok, by omega, by decide, by decide, fun k M3 hk0 hk1 h3 => ?_⟩
    obtain ⟨k, rfl⟩ := Int.eq_ofNat_of_zero_le hk0
    simp
    refine ⟨by omega, names_inner hc h3.ok (by omega) k (by omega) (fun cs o6 M4 hcs hss h4 => ?_) o6⟩
    have h5 : WTo M M4 r (n + 20 * done.length + 10) := (((hto.trans h2).trans h3).trans h4).mono (by omega)
    have hM4 : M4 a = some (.lst (ns.map strD)) := h4.keep1 (h3.keep1 (h2.keep1 hMa har) har) har
    have hok : ∀ x ∈ ns, NameOk x := fun x hx => made_ok (by omega) (hmade x hx)
    have heq : eqP (.lst (ns.map strD)) (.lst []) = some ns.isEmpty := by
      rw [eqP_pl (n := 1) (m := 1) (by simp only [plD]; exact plDs_map fun x hx => (hok x hx).ok 0) (by simp [plD])]
      cases ns <;> simp [eqT, eqTs]
    have hfr : Fresh (c :: cs) := ⟨⟨c, cs, rfl, hcs, hc, hss⟩, fun r' e => by cases e; exact absurd rfl hcq⟩
    have app := fun (x : List Nat) (o6 o7 o8 : Option D) (M5 : Mem) => @names_app ⟨Nx, Q, fun _ _ => False, Nx, fun c ns ds _ M => E c ns ds M⟩ r a m n 0 o6 o7 o8 M M5 ns x done ha har hm hk hlen hmade hnd
    simp [vw_ref hM4, heq]
    by_cases hns : ns = []
    · exact .inl ⟨hns, app (c :: cs) _ _ _ M4 hfr hM4 (h5.mono (by omega)) nx⟩
    · refine .inr ⟨hns, r, 3, _, rfl, h5.ok, by omega, by decide, by decide, fun k2 M5 _ _ h6 => ?_⟩
      have hM5 := h6.keep1 hM4 har
      refine ⟨_, rfl, ?_⟩
      by_cases hk2 : k2 = 0
      · subst hk2
        refine .inr ⟨rfl, r, .ref a, ns.map strD, _, rfl, h6.ok, by omega, by simp [har], by simp [hM5], .inl ⟨vw_ref hM5, by simp; omega⟩, by simpa using hns, fun x M6 hx h7 => ?_⟩
        obtain ⟨el, hel, rfl⟩ := List.mem_map.mp hx
        have hne := hok el hel
        have hM6 := h7.keep1 hM5 har
        have hl8 := hne.len
        refine ⟨.int el.length, lenF_strD (by omega), r, el.length, _, rfl, h7.ok, by omega, by omega, by omega, fun at_ M7 hat0 hat1 h8 => ?_⟩
        obtain ⟨at_, rfl⟩ := Int.eq_ofNat_of_zero_le hat0
        have hM7 := h8.keep1 hM6 har
        refine ⟨_, rfl, strD (el.take at_), slD_take (by omega), ?_⟩
        refine one_letter h8.ok (by omega) fun c2 M8 hc2 hc2q h9 => ?_
        have hM8 := h9.keep1 hM7 har
        refine ⟨strD (el.take at_ ++ [c2]), strD_add _ _ (by simp; omega), _, rfl, _, rfl, strD (el.drop (at_ + 1)), slD_drop (by omega), strD (el.take at_ ++ [c2] ++ el.drop (at_ + 1)), strD_add _ _ (by simp; omega), ?_⟩
        refine app _ _ _ _ M8 (mutated hne (by omega) hc2 hc2q) hM8 ((((h5.trans h6).trans (h7.trans h8)).trans h9).mono (by omega)) nx
      · refine .inl ⟨?_, app (c :: cs) _ _ _ M5 hfr hM5 ((h5.trans h6).mono (by omega)) nx⟩
        show D.bl (k2 == 0) = _
        rw [beq_false_of_ne hk2]
  · rintro ρ M1 ⟨ns, o4, o5, o6, o7, o8, rfl, hMa, hlen, hmade, hnd, hto⟩
    simp at hlen hmade
    simp [hMa]
    exact q ns _ hlen (fun x hx => ⟨made_ok (by omega) (hmade x hx), made_q99 (by omega) (hmade x hx)⟩) hnd ((hto.mono (by simp)).del ha har)
  · exact ⟨[], none, none, none, none, none, rfl, updM_same, rfl, by simp, by simp, (WTo.refl hw).upd ha har⟩
def sp__law_value : SpD := fun ds M Q _ => ∃ (r : Addr) (n : Nat), ds = [.ref r] /\ Well M r n /\ n <= 10000000000000 /\ ∀ (v : Int) (M' : Mem), -(10 ^ 30) <= v -> v <= 10 ^ 30 -> WTo M M' r (n + 4) -> Q (.int v) M'
abbrev N__law_value : List Str := ["_law_well_here", "_law_great"]
def t__law_value : DTS := (dSeq (dIf (dTest (dOp eqD (dCall sp__law_draw [] (dCons (dVar 0) (dCons (dC (.int 2)) dNil))) (dC (.int 0)))) (dRet (dOp subD (dCall sp__law_draw [] (dCons (dVar 0) (dCons (dC (.int 19)) dNil))) (dC (.int 9)))) dNext)
    (dSeq (dAsg (dOp addD (dOp mulD (dCall sp__law_draw [] (dCons (dVar 0) (dCons (dOp powD (dC (.int 10)) (dC (.int 15))) dNil))) (dOp powD (dC (.int 10)) (dC (.int 15)))) (dCall sp__law_draw [] (dCons (dVar 0) (dCons (dOp powD (dC (.int 10)) (dC (.int 15))) dNil)))) (gN 1))
    (dRet (dCall sp__law_one [] (dCons (dVar 0) (dCons (dLst (dCons (dVar 1) (dCons (dOp subD (dC (.int 0)) (dVar 1)) (dCons (dOp powD (dC (.int 10)) (dC (.int 30))) (dCons (dOp subD (dC (.int 0)) (dOp powD (dC (.int 10)) (dC (.int 30)))) dNil))))) dNil))))))
theorem pure__law_value : ∀ ds M Q E, sp__law_value ds M Q E -> ds.length = 1 /\ t__law_value (dEnds Q E) (startD N__law_value ds) M := by
  rintro ds M Q E ⟨r, n, rfl, hw, hn, q⟩
  refine ⟨rfl, ?_⟩
  have hp15 : (10 : Int) ^ 15 = 1000000000000000 := by decide
  have hp30 : (10 : Int) ^ 30 = 1000000000000000000000000000000 := by decide
  simp (disch := first | (simp; done) | omega) [t__law_value]
  refine ⟨r, 2, n, rfl, hw, by omega, by decide, by decide, fun k M1 _ _ h1 => ⟨_, rfl, ?_⟩⟩
  by_cases hk : k = 0
  · refine .inr ⟨by subst hk; rfl, r, 19, _, rfl, h1.ok, by omega, by decide, by decide, fun k2 M2 a1 a2 h2 => ⟨_, rfl, ?_⟩⟩
    exact q _ M2 (by omega) (by omega) ((h1.trans h2).mono (by omega))
  · refine .inl ⟨by show D.bl (k == 0) = _; rw [beq_false_of_ne hk], ?_⟩
    refine ⟨r, _, _, rfl, h1.ok, by omega, by decide, by decide, fun k2 M2 a1 a2 h2 => ?_⟩
    refine ⟨.int (k2 * 1000000000000000), ?_, ?_⟩
    · show mulD (.int k2) (.int 1000000000000000) = _
      rw [mulD_int (.inr (by decide))]
    refine ⟨r, _, _, rfl, h2.ok, by omega, by decide, by decide, fun k3 M3 b1 b2 h3 => ⟨.int (k2 * 1000000000000000 + k3), rfl, ?_⟩⟩
    refine ⟨_, rfl, ?_⟩
    refine ⟨r, _, _, _, rfl, h3.ok, by omega, by simp, by simp, .inl ⟨rfl, by simp⟩, by simp, fun x M4 hx h4 => ?_⟩
    have g0 : 0 <= k2 * 1000000000000000 + k3 := by omega
    have g1 : k2 * 1000000000000000 + k3 <= 1000000000000000000000000000000 := by omega
    have hto : WTo M M4 r (n + 4) := (((h1.trans h2).trans h3).trans h4).mono (by omega)
    simp at hx
    rcases hx with rfl | rfl | rfl | rfl
    · exact q _ M4 (by omega) (by omega) hto
    · exact q _ M4 (by omega) (by omega) hto
    · exact q _ M4 (by omega) (by omega) hto
    · exact q _ M4 (by omega) (by omega) hto
def sp__law_levels : SpD := fun ds M Q _ => ∃ (r : Addr) (m n : Nat), ds = [.ref r, .int (m : Int)] /\ Well M r n /\ n <= 10000000000000 /\ m <= 60 /\
  ∀ (ls : List Int) (M' : Mem), ls.length = m -> LevOk ls -> WTo M M' r (n + 4 * m + 1) -> Q (.lst (ls.map D.int)) M'
abbrev N__law_levels : List Str := ["_law_well_here", "_law_many", "_law_found", "_law_style", "_law_k", "_law_most", "_law_level"]
def l__law_levels_1 : DTS := (dSeq (dAsg (dIfE (dTest (dOp neD (dVar 2) (dLst dNil))) (dOp addD (dOp ixA (dVar 2) (dUn negD (dC (.int 1)))) (dC (.int 1))) (dC (.int 0))) (gN 5))
    (dSeq (dAsg (dVar 5) (gN 6))
    (dSeq (dIf (dOr (dTest (dOp eqD (dVar 3) (dC (.int 0)))) (dAnd (dTest (dOp eqD (dVar 3) (dC (.int 1)))) (dTest (dOp eqD (dCall sp__law_draw [] (dCons (dVar 0) (dCons (dC (.int 4)) dNil))) (dC (.int 0)))))) (dAsg (dCall sp__law_draw [] (dCons (dVar 0) (dCons (dOp addD (dVar 5) (dC (.int 1))) dNil))) (gN 6)) dNext)
    (dSeq (dIf (dTest (dOp eqD (dVar 3) (dC (.int 2)))) (dAsg (dCall sp__law_draw [] (dCons (dVar 0) (dCons (dOp addD (dC (.int 1)) (dOp ixA (dLst (dCons (dVar 5) (dCons (dC (.int 2)) dNil))) (dCB intF (dCons (dOp gtD (dVar 5) (dC (.int 2))) dNil)))) dNil))) (gN 6)) dNext)
    (dDrop (dBM "list" φApp (dVar 2) (dCons (dVar 6) dNil)))))))
def t__law_levels : DTS := (dSeq (dPar 2 3 (dCons (dLstM dNil) (dCons (dCall sp__law_draw [] (dCons (dVar 0) (dCons (dC (.int 4)) dNil))) dNil)))
    (dSeq (dFor (iR1 (dVar 1)) (gN 4) l__law_levels_1)
    (dRet (dFrz (dVar 2)))))
theorem levels_rest {E : DEnds} {r a : Addr} {m n : Nat} {o4 o6 : Option D} {M M2 : Mem} {ls : List Int} {done : List D} {sty mo : Int} {y : D} (ha : M a = none) (har : a ≠ r) (hn : n <= 10000000000000) (hm : m <= 60) (hk : done.length < m) (hlen : ls.length = done.length) (hlev : LevOk ls)
    (hM : M2 a = some (.lst (ls.map D.int))) (hto : WTo M M2 r (n + 4 * done.length + 1)) (h0 : 0 <= mo) (hmx : mo <= 100) (h1 : ls = [] -> mo = 0) (h2 : ∀ l, ls.getLast? = some l -> mo <= l + 1)
    (nx : ∀ ρ' M', (∃ (ls : List Int) (o4 o5 o6 : Option D), ρ' = [some (.ref r), some (.int m), some (.ref a), some (.int sty), o4, o5, o6] /\ M' a = some (.lst (ls.map D.int)) /\ ls.length = (done ++ [y]).length /\ LevOk ls /\ (∀ l ∈ ls, l <= (done ++ [y]).length) /\ WTo M M' r (n + 4 * (done ++ [y]).length + 1)) -> E.nx ρ' M')
    (hbd : ∀ l ∈ ls, l <= done.length) (hmd : mo <= done.length + 1) (s0 : 0 <= sty) (s1 : sty < 4) :
    (dSeq (dAsg (dVar 5) (gN 6))
    (dSeq (dIf (dOr (dTest (dOp eqD (dVar 3) (dC (.int 0)))) (dAnd (dTest (dOp eqD (dVar 3) (dC (.int 1)))) (dTest (dOp eqD (dCall sp__law_draw [] (dCons (dVar 0) (dCons (dC (.int 4)) dNil))) (dC (.int 0)))))) (dAsg (dCall sp__law_draw [] (dCons (dVar 0) (dCons (dOp addD (dVar 5) (dC (.int 1))) dNil))) (gN 6)) dNext)
    (dSeq (dIf (dTest (dOp eqD (dVar 3) (dC (.int 2)))) (dAsg (dCall sp__law_draw [] (dCons (dVar 0) (dCons (dOp addD (dC (.int 1)) (dOp ixA (dLst (dCons (dVar 5) (dCons (dC (.int 2)) dNil))) (dCB intF (dCons (dOp gtD (dVar 5) (dC (.int 2))) dNil)))) dNil))) (gN 6)) dNext)
    (dDrop (dBM "list" φApp (dVar 2) (dCons (dVar 6) dNil)))))) E [some (.ref r), some (.int m), some (.ref a), some (.int sty), o4, some (.int mo), o6] M2 := by
  have fin : ∀ (lv : Int) (M5 : Mem), 0 <= lv -> lv <= mo -> M5 a = some (.lst (ls.map D.int)) -> WTo M M5 r (n + 4 * done.length + 4) ->
      (dDrop (dBM "list" φApp (dVar 2) (dCons (dVar 6) dNil))) E [some (.ref r), some (.int m), some (.ref a), some (.int sty), o4, some (.int mo), some (.int lv)] M5 := by
    intro lv M5 l0 l1 hM5 h5
    simp only [dDrop, dBM, dCons, dVar, dNil]
    refine ⟨.ref a, rfl, by rw [vw_ref hM5]; rfl, .int lv, rfl, a, ls.map D.int, _, rfl, rfl, hM5, by simp; omega, nx _ _ ⟨ls ++ [lv], _, _, _, rfl, by rw [updM_same]; simp, by simp [hlen], hlev.snoc l0 (fun e => by have := h1 e; omega) (fun l e => by have := h2 l e; omega), ?_, (h5.upd ha har).mono (by simp; omega)⟩⟩
    intro l hl
    rcases List.mem_append.mp hl with hl | hl
    · have := hbd l hl; simp; omega
    · rw [List.mem_singleton.mp hl]; simp; omega
  have hs4 : sty = 0 \/ sty = 1 \/ sty = 2 \/ sty = 3 := by omega
  rcases hs4 with rfl | rfl | rfl | rfl
  · simp
    refine ⟨r, _, _, rfl, hto.ok, by omega, by omega, by omega, fun lv M3 a0 a1 h3 => ?_⟩
    simp
    exact fin lv M3 a0 (by omega) (h3.keep1 hM har) ((hto.trans h3).mono (by omega))
  · simp
    refine ⟨r, 4, _, rfl, hto.ok, by omega, by decide, by decide, fun k M3 _ _ h3 => ⟨_, rfl, ?_⟩⟩
    by_cases hk0 : k = 0
    · refine .inr ⟨by subst hk0; rfl, r, _, _, rfl, h3.ok, by omega, by omega, by omega, fun lv M4 a0 a1 h4 => ?_⟩
      exact fin lv M4 a0 (by omega) (h4.keep1 (h3.keep1 hM har) har) (((hto.trans h3).trans h4).mono (by omega))
    · refine .inl ⟨by show D.bl (k == 0) = _; rw [beq_false_of_ne hk0], ?_⟩
      exact fin mo M3 h0 (by omega) (h3.keep1 hM har) ((hto.trans h3).mono (by omega))
  · simp
    by_cases h2' : 2 < mo
    · simp [h2']
      refine ⟨r, _, _, rfl, hto.ok, by omega, by omega, by omega, fun lv M3 a0 a1 h3 => ?_⟩
      exact fin lv M3 a0 (by omega) (h3.keep1 hM har) ((hto.trans h3).mono (by omega))
    · simp [h2']
      refine ⟨r, _, _, rfl, hto.ok, by omega, by omega, by omega, fun lv M3 a0 a1 h3 => ?_⟩
      exact fin lv M3 a0 (by omega) (h3.keep1 hM har) ((hto.trans h3).mono (by omega))
  · simp
    exact fin mo M2 h0 (by omega) hM (hto.mono (by omega))
theorem pure__law_levels : ∀ ds M Q E, sp__law_levels ds M Q E -> ds.length = 2 /\ t__law_levels (dEnds Q E) (startD N__law_levels ds) M := by
  rintro ds M Q E ⟨r, m, n, rfl, hw, hn, hm, q⟩
  refine ⟨rfl, ?_⟩
  simp [t__law_levels, dLstM, dFor]
  intro a ha
  have har : a ≠ r := fun z => hw.ne ha z.symm
  have hw0 : WTo M (updM M a (.lst [])) r n := (WTo.refl hw).upd ha har
  refine ⟨r, 4, n, rfl, hw0.ok, by omega, by decide, by decide, fun sty M1 s0 s1 h1 => ⟨by omega, ?_⟩⟩
  refine forD_run _ (fun done ρ M2 => ∃ (ls : List Int) (o4 o5 o6 : Option D), ρ = [some (.ref r), some (.int m), some (.ref a), some (.int sty), o4, o5, o6] /\ M2 a = some (.lst (ls.map D.int)) /\ ls.length = done.length /\ LevOk ls /\ (∀ l ∈ ls, l <= done.length) /\ WTo M M2 r (n + 4 * done.length + 1)) ?_ ?_ ?_
  · rintro done x rest ρ M2 Nx e ⟨ls, o4, o5, o6, rfl, hM, hlen, hlev, hbd, hto⟩ nx
    obtain ⟨hk, rfl⟩ := range_at e
    have heq : eqP (.lst (ls.map D.int)) (.lst []) = some ls.isEmpty := by
      rw [eqP_pl (n := 1) (m := 1) (by simp only [plD]; exact plDs_map fun x hx => by simp [plD]) (by simp [plD])]
      cases ls <;> simp [eqT, eqTs]
    have hne : neD (vw M2 (.ref a)) (vw M2 (.lst [])) = some (.bl (!ls.isEmpty)) := by
      rw [vw_ref hM, vw_lst]
      show (eqP _ _).map _ = _
      rw [heq]; rfl
    rcases List.eq_nil_or_concat ls with rfl | ⟨l0, l, rfl⟩
    · refine ⟨.ref a, rfl, Nat.zero_le _, _, hne, false, rfl, ?_⟩
      exact levels_rest (sty := sty) (mo := 0) ha har hn hm hk hlen hlev hM hto (by omega) (by omega) (fun _ => rfl) (by simp) nx hbd (by omega) s0 s1
    · have hl := hbd l (by simp)
      refine ⟨.ref a, rfl, Nat.zero_le _, _, hne, true, by simp, ?_⟩
      refine ⟨.ref a, rfl, .int (-1), rfl, .int l, by rw [vw_ref hM]; simpa using atI_lastF (l0.map D.int) (D.int l), .int (l + 1), rfl, ?_⟩
      have hl0 : 0 <= l := (hlev l0.length l (by simp)).1
      exact levels_rest (sty := sty) (mo := l + 1) ha har hn hm hk hlen hlev hM hto (by omega) (by omega) (by simp) (by simp) nx hbd (by omega) s0 s1
  · rintro ρ M2 ⟨ls, o4, o5, o6, rfl, hM, hlen, hlev, hbd, hto⟩
    simp at hlen
    simp [hM]
    exact q ls _ hlen hlev ((hto.mono (by simp)).del ha har)
  · exact ⟨[], none, none, none, rfl, h1.keep1 updM_same har, rfl, by intro i l h; simp at h, by simp, (hw0.trans h1).mono (by simp)⟩
def sp__law_rows : SpD := fun ds M Q _ => ∃ (r : Addr) (m n : Nat), ds = [.ref r, .int (m : Int)] /\ Well M r n /\ n <= 1000000000000 /\ m <= 60 /\
  ∀ (rs : List Row) (M' : Mem), RowsOk rs -> (∀ x ∈ rs, x.nm ≠ [113, 57, 57]) -> WTo M M' r (n + 3000) -> Q (.lst (rs.map Row.d)) M'
abbrev N__law_rows : List Str := ["_law_well_here", "_law_most", "_law_many", "_law_names_here", "_law_levels_here", "_law_k"]
def t__law_rows : DTS := (dSeq (dAsg (dCall sp__law_draw [] (dCons (dVar 0) (dCons (dOp addD (dVar 1) (dC (.int 1))) dNil))) (gN 2))
    (dSeq (dAsg (dTup (dCons (dCall sp__law_names [] (dCons (dVar 0) (dCons (dVar 2) dNil))) (dCons (dCall sp__law_levels [] (dCons (dVar 0) (dCons (dVar 2) dNil))) dNil))) (gT 2 (gsCons (gN 3) (gsCons (gN 4) gsNil))))
    (dRet (dLc (iR1 (dVar 2)) (gN 5) dYes (dTup (dCons (dOp ixA (dVar 3) (dVar 5)) (dCons (dCall sp__law_value [] (dCons (dVar 0) dNil)) (dCons (dOp ixA (dVar 4) (dVar 5)) dNil)))) [5]))))
theorem pure__law_rows : ∀ ds M Q E, sp__law_rows ds M Q E -> ds.length = 2 /\ t__law_rows (dEnds Q E) (startD N__law_rows ds) M := by
  rintro ds M Q E ⟨r, m, n, rfl, hw, hn, hm, q⟩
  refine ⟨rfl, ?_⟩
  simp [t__law_rows, dLc]
  refine ⟨r, _, n, rfl, hw, by omega, by omega, by omega, fun k M1 hk0 hk1 h1 => ?_⟩
  obtain ⟨k, rfl⟩ := Int.eq_ofNat_of_zero_le hk0
  refine ⟨r, k, _, rfl, h1.ok, by omega, by omega, fun ns M2 hnl hno hnd h2 => ?_⟩
  refine ⟨r, k, _, rfl, h2.ok, by omega, by omega, fun ls M3 hll hlev h3 => ?_⟩
  simp
  have h03 : WTo M M3 r (n + 1 + 20 * k + 4 * k + 1) := (h1.trans h2).trans h3
  refine ⟨by omega, fun a ha => ?_⟩
  have har : a ≠ r := fun z => h3.ok.ne ha z.symm
  refine lcD_run _ (fun done acc M4 => ∃ rs : List Row, acc = rs.map Row.d /\ rs.length = done.length /\ rs.map Row.nm = ns.take done.length /\ rs.map Row.lv = ls.take done.length /\ (∀ x ∈ rs, -(10 ^ 30) <= x.va /\ x.va <= 10 ^ 30) /\ WTo M3 M4 r (n + 1 + 20 * k + 4 * k + 1 + 4 * done.length)) ?_ ?_ ?_
  · rintro done x rest acc M4 Nx e ha4 ⟨rs, rfl, hrl, hrn, hrv, hva, hto⟩ nx
    obtain ⟨hd, rfl⟩ := range_at e
    have hn1 : done.length < ns.length := by omega
    have hl1 : done.length < ls.length := by omega
    simp
    refine ⟨_, atI_get' (x := strD ns[done.length]) (by simp [hn1]), ?_⟩
    refine ⟨r, _, rfl, hto.ok, by omega, fun v M5 v0 v1 h5 => ?_⟩
    refine ⟨_, atI_get' (x := D.int ls[done.length]) (by simp [hl1]), ?_⟩
    refine ⟨rs.map Row.d, h5.keep1 ha4 har, by simp; omega, nx _ _ updM_same ⟨rs ++ [⟨ns[done.length], v, ls[done.length]⟩], by simp [Row.d, strD], by simp [hrl], ?_, ?_, ?_, ?_⟩⟩
    · rw [List.map_append, hrn, List.length_append]
      exact take_snoc hn1
    · rw [List.map_append, hrv, List.length_append]
      exact take_snoc hl1
    · intro x hx
      rcases List.mem_append.mp hx with hx | hx
      · exact hva x hx
      · rw [List.mem_singleton.mp hx]; exact ⟨v0, v1⟩
    · exact ((hto.trans h5).upd ha har).mono (by simp; omega)
  · rintro acc M4 ha4 ⟨rs, rfl, hrl, hrn, hrv, hva, hto⟩
    simp at hrl hrn hrv
    rw [List.take_of_length_le (by omega)] at hrn
    rw [List.take_of_length_le (by omega)] at hrv
    refine q rs _ ⟨by omega, fun x hx => (hno _ ?_).1, hva, by rw [hrn]; exact hnd, by rw [hrv]; exact hlev⟩ (fun x hx => (hno _ (by rw [<- hrn]; exact List.mem_map_of_mem hx)).2) ((h03.trans (hto.del ha har)).mono (by simp; omega))
    rw [<- hrn]; exact List.mem_map_of_mem hx
  · exact ⟨[], rfl, rfl, by simp, by simp, by simp, ((WTo.refl h3.ok).upd ha har).mono (by simp)⟩
end LawProof
set_option Elab.async false
set_option linter.all false
set_option maxRecDepth 100000
set_option maxHeartbeats 4000000
set_option autoImplicit true
namespace LawProof
open PySem L2 DL FL
def sp__law_mixed : SpD := fun ds M Q _ => ∃ (r : Addr) (xs : List D) (n : Nat), ds = [.ref r, .lst xs] /\ Well M r n /\ n <= 1000000000000 /\ xs.length <= 1000 /\
  ∀ s zs M', M' s = some (.lst zs) -> List.Perm zs xs -> M s = none -> WTo M M' r (n + xs.length) -> Q (.ref s) M'
abbrev N__law_mixed : List Str := ["_law_well_here", "_law_some", "_law_left", "_law_found", "_law_turn"]
def l__law_mixed_1 : DTS := (dDrop (dBM "list" φApp (dVar 3) (dCons (dBM "list" φPopAt (dVar 2) (dCons (dCall sp__law_draw [] (dCons (dVar 0) (dCons (dCB lenF (dCons (dVar 2) dNil)) dNil))) dNil)) dNil)))
def l__law_mixed_2 : DTS := (dSeq (dFor (iR1 (dCB lenF (dCons (dVar 1) dNil))) (gN 4) l__law_mixed_1)
    (dRet (dVar 3)))
def t__law_mixed : DTS := (dSeq (dPar 2 3 (dCons (dLstOfM (dCons (dVar 1) dNil)) (dCons (dLstM dNil) dNil)))
    l__law_mixed_2)
theorem sqix {k n : Nat} (h : k < n) : seqIndex? (k : Int) n = some k := by
  have h2 : ¬ (k : Int) < 0 := by omega
  simp [seqIndex?, h2, h]
theorem pop_perm {xs : List D} {k : Nat} {d : D} (h : xs[k]? = some d) : List.Perm (d :: xs.eraseIdx k) xs := by
  induction xs generalizing k with
  | nil => simp at h
  | cons x xs ih =>
    cases k with
    | zero =>
      have : x = d := by simpa using h
      subst this
      exact List.Perm.refl _
    | succ k =>
      have h2 : xs[k]? = some d := by simpa using h
      rw [List.eraseIdx_cons_succ]
      exact (List.Perm.swap x d _).trans ((ih h2).cons x)
theorem pure__law_mixed : ∀ ds M Q E, sp__law_mixed ds M Q E -> ds.length = 2 /\ t__law_mixed (dEnds Q E) (startD N__law_mixed ds) M := by
  rintro ds M Q E ⟨r, xs, n, rfl, hw, hn, hl, q⟩
  refine ⟨rfl, ?_⟩
  refine ⟨_, rfl, xs, rfl, fun a ha => ⟨by simp, fun b hb => ⟨_, _, rfl, ?_⟩⟩⟩
  have hba : b ≠ a := fun z => by rw [z, updM_same] at hb; cases hb
  have hb0 : M b = none := by rw [updM_ne hba] at hb; exact hb
  have har : a ≠ r := fun z => hw.ne ha z.symm
  have hbr : b ≠ r := fun z => hw.ne hb0 z.symm
  refine ⟨_, rfl, .int (xs.length : Nat), rfl, _, rfl, by omega, by omega, ?_⟩
  refine forD_run _ (fun done ρ M1 => ∃ (ls fs : List D) (o4 : Option D), ρ = [some (.ref r), some (.lst xs), some (.ref a), some (.ref b), o4] /\ M1 a = some (.lst ls) /\ M1 b = some (.lst fs) /\ List.Perm (fs ++ ls) xs /\ fs.length = done.length /\ WTo M M1 r (n + done.length)) ?_ ?_ ?_
  · rintro done x rest ρ M1 Nx e ⟨ls, fs, o4, rfl, h1, h2, hp, hf, hto⟩ nx
    obtain ⟨hd, rfl⟩ := range_at e
    have hpl := hp.length_eq
    simp only [List.length_append] at hpl
    have hd2 : done.length < xs.length := by simpa using hd
    have hll : 0 < ls.length := by omega
    refine ⟨_, rfl, by rw [vw_ref h2]; rfl, _, rfl, by rw [vw_ref h1]; rfl, _, rfl, _, rfl, .int (ls.length : Nat), by show lenF [vw M1 (.ref a)] = _; rw [vw_ref h1]; rfl, r, _, _, rfl, hto.ok, by omega, by omega, by omega, fun k M2 k0 k1 h3 => ?_⟩
    obtain ⟨k, rfl⟩ := Int.eq_ofNat_of_zero_le k0
    have hk : k < ls.length := by omega
    have h1' := h3.keep1 h1 har
    have h2' := h3.keep1 h2 hbr
    refine ⟨a, ls, _, k, ls[k], rfl, rfl, h1', by omega, by omega, sqix hk, List.getElem?_eq_getElem hk, b, fs, ls[k], rfl, rfl, by rw [updM_ne hba]; exact h2', by rw [size_line]; omega, nx _ _ ⟨ls.eraseIdx k, fs ++ [ls[k]], _, rfl, by rw [updM_ne (Ne.symm hba), updM_same], updM_same, ?_, by simp [hf], ?_⟩⟩
    · refine List.Perm.trans ?_ hp
      rw [List.append_assoc]
      exact List.Perm.append_left fs (pop_perm (List.getElem?_eq_getElem hk))
    · exact (((hto.trans h3).upd ha har).upd hb0 hbr).mono (by simp; omega)
  · rintro ρ M1 ⟨ls, fs, o4, rfl, h1, h2, hp, hf, hto⟩
    have : ls = [] := by
      have := hp.length_eq
      simp at this hf
      exact List.length_eq_zero_iff.mp (by omega)
    subst this
    rw [List.append_nil] at hp
    exact ⟨_, rfl, q b fs M1 h2 hp hb0 (hto.mono (by simp))⟩
  · exact ⟨xs, [], none, rfl, by rw [updM_ne (Ne.symm hba), updM_same], updM_same, List.Perm.refl _, rfl, (((WTo.refl hw).upd ha har).upd hb0 hbr).mono (by simp)⟩
end LawProof
set_option Elab.async false
set_option linter.all false
set_option maxRecDepth 100000
set_option maxHeartbeats 4000000
set_option autoImplicit true
namespace LawProof
open PySem L2 DL FL
def sp__law_is_whole : SpD := fun ds M Q _ => ∃ d n, ds = [d] /\ tyName (vw M d) = some n /\ Q (.bl (n == "int")) M
abbrev N__law_is_whole : List Str := ["_law_thing"]
def t__law_is_whole : DTS := (dRet (dAndV (dCB isiF (dCons (dVar 0) (dCons (dC (.ty "int")) dNil))) (dNotV (dCB isiF (dCons (dVar 0) (dCons (dC (.ty "bool")) dNil))))))
theorem pure__law_is_whole : ∀ ds M Q E, sp__law_is_whole ds M Q E -> ds.length = 1 /\ t__law_is_whole (dEnds Q E) (startD N__law_is_whole ds) M := by
  rintro ds M Q E ⟨d, n, rfl, h, q⟩
  refine ⟨rfl, ?_⟩
  have hn := tyName_mem h
  simp [t__law_is_whole, isiF, h]
  simp [tyNames] at hn
  rcases hn with rfl | rfl | rfl | rfl | rfl | rfl | rfl | rfl <;> simpa [tyNames, isTy] using q
def sp__law_is_name : SpD := fun ds M Q _ => ∃ d, ds = [d] /\ Pl d /\ Q (.bl (nameB d)) M
abbrev N__law_is_name : List Str := ["_law_thing", "_law_signs", "_law_sign"]
def t__law_is_name : DTS := (dSeq (dIf (dOr (dNot (dTest (dCB isiF (dCons (dVar 0) (dCons (dC (.ty "str")) dNil))))) (dNot (dTest (dChain leD leD (dC (.int 1)) (dCB lenF (dCons (dVar 0) dNil)) (dC (.int 8)))))) (dRet (dC (.bl false))) dNext)
    (dSeq (dAsg (dLc (iS (dVar 0)) (gN 2) (dTest (dOp ninD (dVar 2) (dC (.str "abcdefghijklmnopqrstuvwxyz0123456789")))) (dVar 2) [2]) (gN 1))
    (dRet (dAndV (dOp eqD (dVar 1) (dLst dNil)) (dOp ninD (dOp ixA (dVar 0) (dC (.int 0))) (dC (.str "0123456789")))))))
def badS (x : D) : Option D := if sgB x = true then none else some x
theorem badS_1 (e : Nat) : badS (.str ⟨#[e]⟩) = if isS e = true then none else some (.str ⟨#[e]⟩) := rfl
theorem badS_nil (cs : List Nat) (h : ∀ c ∈ cs, c < 1114112) : eqD (.lst ((cs.map fun e => D.str ⟨#[e]⟩).filterMap badS)) (.lst []) = some (.bl (cs.all isS)) := by
  have pl : plDs 0 ((cs.map fun e => D.str ⟨#[e]⟩).filterMap badS) = true := plDs_all.mpr fun d hd => by
    obtain ⟨y, hy, e⟩ := List.mem_filterMap.mp hd
    obtain ⟨c, hc, rfl⟩ := List.mem_map.mp hy
    rw [badS_1] at e
    split at e
    · cases e
    · cases e
      have := h c hc
      simp [plD, PyData.strOk, this]
  rw [eqD_lst' (m := 0) pl (by simp), eqTs_nilr]
  congr 2
  rw [Bool.eq_iff_iff]
  simp only [List.isEmpty_iff, List.filterMap_eq_nil_iff, List.mem_map, forall_exists_index, and_imp, forall_apply_eq_imp_iff₂, badS_1, List.all_eq_true]
  constructor
  · intro hh c hc
    have := hh c hc
    by_cases z : isS c = true
    · exact z
    · rw [if_neg z] at this; cases this
  · intro hh c hc
    rw [if_pos (hh c hc)]
theorem pure__law_is_name : ∀ ds M Q E, sp__law_is_name ds M Q E -> ds.length = 1 /\ t__law_is_name (dEnds Q E) (startD N__law_is_name ds) M := by
  rintro ds M Q E ⟨d, rfl, h, q⟩
  refine ⟨rfl, ?_⟩
  have hv := h.vw M
  obtain ⟨n, hn⟩ := h.ty
  by_cases hs : n = "str"
  · subst hs
    obtain ⟨z, rfl⟩ : ∃ z, d = .str z := by cases d <;> simp [tyName] at hn ⊢
    obtain ⟨hl, hc⟩ := h.st z rfl
    obtain ⟨cs, rfl⟩ : ∃ cs, z = S cs := ⟨_, S_of z⟩
    cases cs with
    | nil =>
      simp [t__law_is_name, isiF, tyName, tyNames, isTy, lenF, S, Str.length]
      exact q
    | cons c r =>
      have h1 : r.length + 1 <= 16777216 := by simp [S, Str.length] at hl; omega
      have h2 : (0 : Int) <= r.length := by omega
      by_cases h7 : r.length <= 7
      · have h3 : (r.length : Int) + 1 <= 8 := by omega
        have hlen : lenF [vw M (.str (S (c :: r)))] = some (.int ((r.length : Int) + 1)) := by simp [lenF, S, Str.length, h1]
        simp only [t__law_is_name, dSeq, dIf, dOr, dNot, dTest, dCB, dCons, dVar, dC, dNil, dChain, startD, List.map, List.cons_append, List.nil_append]
        refine ⟨_, rfl, .bl true, by simp [isiF, tyName, tyNames, isTy], true, rfl, ?_⟩
        simp only [Bool.not_true, Bool.false_eq_true, if_false]
        refine ⟨_, rfl, _, hlen, true, by simp; omega, ?_⟩
        simp only [if_true]
        refine ⟨.bl true, by simp; omega, true, rfl, ?_⟩
        simp only [Bool.not_true, Bool.false_eq_true, if_false, dNext, dAsg, dLc, iS, dVar, gN]
        refine ⟨_, rfl, (c :: r).map fun e => .str ⟨#[e]⟩, by simp [S], fun a ha => ?_⟩
        refine lcD_fn badS _ (by simp; omega) ha ?_ ?_
        · intro x hx M1 T _ hT
          obtain ⟨e, he, rfl⟩ := List.mem_map.mp hx
          rw [badS_1] at hT
          simp only [dTest, dOp, dVar, dC, wipeD, List.set]
          refine ⟨_, rfl, .bl (!isS e), by rw [vw_str, vw_str, ninD_def, inB_str, inStr_1, signs_iff]; rfl, _, rfl, ?_⟩
          by_cases z : isS e = true
          · rw [if_pos z] at hT
            rw [z, if_neg (by simp)]
            exact hT
          · rw [if_neg z] at hT
            rw [show isS e = false by simpa using z, if_pos (by simp)]
            exact ⟨_, rfl, hT⟩
        · simp only [dRet, dAndV, dOp, dVar, dLst, dNil, List.set, dC]
          refine ⟨_, rfl, by simp, _, badS_nil (c :: r) (by simpa [S] using hc), _, rfl, ?_⟩
          have e' : nameB (.str (S (c :: r))) = (isL c && r.all isS) := by simp [nameB, nameC, S, h7]
          rw [e'] at q
          by_cases hall : (c :: r).all isS = true
          · rw [hall, if_pos rfl]
            have hcs : isS c = true := by simp at hall; exact hall.1
            have hrs : r.all isS = true := by simp at hall; simpa using hall.2
            refine ⟨_, rfl, .str ⟨#[c]⟩, by simp [S, ixD, Str.length, h1], .bl (isL c), ?_, ?_⟩
            · rw [vw_str, vw_str, ninD_def, inB_str, inStr_1]
              exact congrArg (fun b => some (D.bl b)) (digits_iff c hcs)
            · rw [hrs, Bool.and_true] at q
              exact q
          · rw [show (c :: r).all isS = false by simpa using hall, if_neg Bool.false_ne_true]
            have : (isL c && r.all isS) = false := by
              rw [Bool.eq_false_iff]
              intro z
              rw [Bool.and_eq_true] at z
              exact hall (by rw [List.all_cons, isL_S z.1, z.2]; rfl)
            rw [this] at q
            exact q
      · have h3 : ¬ (r.length : Int) + 1 <= 8 := by omega
        simp [t__law_is_name, isiF, tyName, tyNames, isTy, lenF, S, Str.length, h1, h2, h3]
        have e : nameB (.str (S (c :: r))) = false := by simp [nameB, nameC, S]; intro h; omega
        rw [e] at q
        exact .inr ⟨by omega, q⟩
  · have e : nameB d = false := by cases d <;> first | rfl | (simp [tyName] at hn; exact absurd hn.symm hs)
    have hm := tyName_mem hn
    rw [e] at q
    have e2 : isTy n "str" = false := by
      simp [tyNames] at hm
      rcases hm with rfl | rfl | rfl | rfl | rfl | rfl | rfl | rfl <;> first | rfl | exact absurd rfl hs
    simp [t__law_is_name, isiF, hv, hn, tyNames, e2]
    exact q
def sp__law_is_value : SpD := fun ds M Q _ => ∃ d, ds = [d] /\ Pl d /\ Q (.bl (valB d)) M
abbrev N__law_is_value : List Str := ["_law_thing"]
def t__law_is_value : DTS := (dRet (dAndV (dCall sp__law_is_whole [] (dCons (dVar 0) dNil)) (dChain leD leD (dOp subD (dC (.int 0)) (dOp powD (dC (.int 10)) (dC (.int 30)))) (dVar 0) (dOp powD (dC (.int 10)) (dC (.int 30))))))
theorem ty_int {d : D} {n : String} (h : tyName d = some n) : (n == "int") = isWh d := by
  cases d <;> first | (cases h; rfl) | cases h
theorem pure__law_is_value : ∀ ds M Q E, sp__law_is_value ds M Q E -> ds.length = 1 /\ t__law_is_value (dEnds Q E) (startD N__law_is_value ds) M := by
  rintro ds M Q E ⟨d, rfl, h, q⟩
  refine ⟨rfl, ?_⟩
  obtain ⟨n, hn⟩ := h.ty
  have hb := ty_int hn
  have p30 : powD (.int 10) (.int 30) = some (.int 1000000000000000000000000000000) := by simp
  have p30' : (10 : Int) ^ 30 = 1000000000000000000000000000000 := by decide
  refine ⟨_, rfl, d, n, rfl, by rw [h.vw]; exact hn, _, rfl, ?_⟩
  rw [hb]
  cases d with
  | int i =>
    simp only [valB] at q
    rw [p30'] at q
    refine ⟨_, p30, _, rfl, _, rfl, decide (0 - 1000000000000000000000000000000 <= i), rfl, ?_⟩
    by_cases h0 : 0 - 1000000000000000000000000000000 <= i
    · rw [decide_eq_true h0]
      rw [decide_eq_true (show -1000000000000000000000000000000 <= i by omega), Bool.true_and] at q
      exact ⟨_, p30, _, rfl, q⟩
    · rw [decide_eq_false h0]
      rw [decide_eq_false (show ¬ -1000000000000000000000000000000 <= i by omega), Bool.false_and] at q
      exact q
  | _ => exact q
end LawProof
set_option Elab.async false
set_option linter.all false
set_option maxRecDepth 100000
set_option maxHeartbeats 4000000
set_option autoImplicit true
namespace LawProof
open PySem L2 DL FL
def keyL (l : List Nat) : D := .lst (l.map intD)
def sp__law_labels : SpD := fun ds M Q _ => ∃ (r : Addr) (rs : List Row) (n : Nat), ds = [.ref r, .lst (rs.map Row.d)] /\ RowsOk rs /\ Well M r n /\ n <= 1000000000000 /\
  ∀ (L : List (List Nat)) M', LabsOk (lvs rs) L -> WTo M M' r (n + 1000) -> Q (.lst ((List.range rs.length).map fun p => keyL (keyAt (lvs rs) L p))) M'
abbrev N__law_labels : List Str := ["_law_well_here", "_law_rows_so", "_law_found", "_law_line", "_law_counts", "_law_name", "_law_value_here", "_law_level", "_law_rank", "_law_label"]
def l__law_labels_1 : DTS := (dSeq (dDrop (dBM "list" φApp (dVar 2) (dCons (dOp addD (dIfE (dTest (dOp neD (dVar 3) (dLst dNil))) (dOp ixA (dVar 3) (dUn negD (dC (.int 1)))) (dLst dNil)) (dVar 9)) dNil)))
    (dAsg (dOp addD (dVar 3) (dLst (dCons (dOp ixA (dVar 2) (dUn negD (dC (.int 1)))) dNil))) (gN 3)))
def l__law_labels_2 : DTS := (dSeq (dAsg (dSl slD (dVar 3) dNoPart (dPart (dVar 7))) (gN 3))
    l__law_labels_1)
def l__law_labels_3 : DTS := (dSeq (dIf (dTest (dOp eqD (dCall sp__law_draw [] (dCons (dVar 0) (dCons (dC (.int 8)) dNil))) (dC (.int 0)))) (dAsg (dLst (dCons (dOp addD (dOp mulD (dC (.int 2)) (dVar 8)) (dC (.int 1))) (dCons (dOp addD (dOp mulD (dC (.int 2)) (dCall sp__law_draw [] (dCons (dVar 0) (dCons (dC (.int 128)) dNil)))) (dC (.int 1))) (dCons (dC (.int 255)) (dCons (dOp addD (dOp mulD (dC (.int 2)) (dCall sp__law_draw [] (dCons (dVar 0) (dCons (dC (.int 127)) dNil)))) (dC (.int 2))) dNil))))) (gN 9)) dNext)
    l__law_labels_2)
def l__law_labels_4 : DTS := (dSeq (dIf (dTest (dOp eqD (dCall sp__law_draw [] (dCons (dVar 0) (dCons (dC (.int 3)) dNil))) (dC (.int 0)))) (dAsg (dLst (dCons (dOp addD (dOp mulD (dC (.int 2)) (dVar 8)) (dC (.int 1))) (dCons (dOp addD (dOp mulD (dC (.int 2)) (dCall sp__law_draw [] (dCons (dVar 0) (dCons (dC (.int 127)) dNil)))) (dC (.int 2))) dNil))) (gN 9)) dNext)
    l__law_labels_3)
def l__law_labels_5 : DTS := (dSeq (dAsg (dLst (dCons (dOp addD (dOp mulD (dC (.int 2)) (dVar 8)) (dC (.int 2))) dNil)) (gN 9))
    l__law_labels_4)
def l__law_labels_6 : DTS := (dSeq (dAsg (dOp addD (dVar 8) (dC (.int 1))) (gSubL (dVar 4) (dVar 7)))
    l__law_labels_5)
def l__law_labels_7 : DTS := (dSeq (dAsg (dOp ixA (dVar 4) (dVar 7)) (gN 8))
    l__law_labels_6)
def l__law_labels_8 : DTS := (dSeq (dAsg (dBin bAddM (dSl slD (dVar 4) dNoPart (dPart (dOp addD (dVar 7) (dC (.int 1))))) (dBin bRepD (dLstM (dCons (dC (.int 0)) dNil)) (dOp subD (dC (.int 60)) (dVar 7)))) (gN 4))
    l__law_labels_7)
def l__law_labels_9 : DTS := (dSeq (dFor (iS (dVar 1)) (gT 3 (gsCons (gN 5) (gsCons (gN 6) (gsCons (gN 7) gsNil)))) l__law_labels_8)
    (dRet (dFrz (dVar 2))))
def t__law_labels : DTS := (dSeq (dPar3 2 3 4 (dCons (dLstM dNil) (dCons (dLst dNil) (dCons (dBin bRepD (dLstM (dCons (dC (.int 0)) dNil)) (dC (.int 61))) dNil))))
    l__law_labels_9)
theorem rep0 (k : Nat) : (List.replicate k [D.int 0]).flatten = List.replicate k (.int 0) := by
  induction k with
  | zero => rfl
  | succ k ih => rw [List.replicate_succ, List.flatten_cons, ih, List.replicate_succ]; rfl
theorem pl_keyL (l : List Nat) : plD 1 (keyL l) = true := by
  have : plDs 0 (l.map intD) = true := plDs_all.mpr fun d hd => by
    obtain ⟨i, _, rfl⟩ := List.mem_map.mp hd
    simp [intD, DL.plD]
  unfold keyL
  simpa only [DL.plD] using this
section
variable {Q : DV} {E : DEnds} {r f : Addr} {rs : List Row} {M : Mem} {cD nm va : D} {l rk : Nat} {Ls F : List (List Nat)} {lab : List Nat}
abbrev lbE (r f : Addr) (rs : List Row) (Ls : List (List Nat)) (cD nm va : D) (l rk : Nat) (lab : D) : DL.Env := [some (.ref r), some (.lst (rs.map Row.d)), some (.ref f), some (.lst (Ls.map keyL)), some cD, some nm, some va, some (.int (l : Int)), some (.int (rk : Int)), some lab]
theorem lb_2 (hf : M f = some (.lst (F.map keyL))) (hF : F.length <= 100) (hl : Ls.length <= 100) (hk : ∀ k ∈ Ls, k.length <= 1000) (hlab : lab.length <= 10)
    (nx : E.nx (lbE r f rs (Ls.take l ++ [(Ls.take l).getLast?.getD [] ++ lab]) cD nm va l rk (keyL lab)) (updM M f (.lst ((F ++ [(Ls.take l).getLast?.getD [] ++ lab]).map keyL)))) :
    l__law_labels_2 E (lbE r f rs Ls cD nm va l rk (keyL lab)) M := by
  refine ⟨_, rfl, _, rfl, _, rfl, .lst ((Ls.take l).map keyL), ?_, ?_⟩
  · show some (D.lst (DL.cutD _ none (some (l : Int)))) = _
    rw [cutD_to, List.map_take]
  have hl2 : (Ls.take l).length <= 100 := by rw [List.length_take]; omega
  have hk2 : ∀ k ∈ Ls.take l, k.length <= 1000 := fun k hk' => hk k (List.mem_of_mem_take hk')
  generalize Ls.take l = Lt at *
  have hpl : plDs 1 (Lt.map keyL) = true := plDs_all.mpr fun d hd => by
    obtain ⟨k, _, rfl⟩ := List.mem_map.mp hd
    exact pl_keyL k
  have hlast : (Lt.getLast?.getD []).length <= 1000 := by
    cases e : Lt.getLast? with
    | none => simp
    | some k => exact hk2 k (List.mem_of_getLast? e)
  generalize hK : Lt.getLast?.getD [] ++ lab = K at nx
  have hfin : (dAsg (dOp addD (dVar 3) (dLst (dCons (dOp ixA (dVar 2) (dUn negD (dC (.int 1)))) dNil))) (gN 3)) E (lbE r f rs Lt cD nm va l rk (keyL lab)) (updM M f (.lst (F.map keyL ++ [keyL K]))) := by
    refine ⟨_, rfl, _, rfl, .int (-1), rfl, keyL K, ?_, by simp, .lst ((Lt ++ [K]).map keyL), ?_, ?_⟩
    · rw [vw_ref updM_same]
      show atI (_ ++ [keyL K]) (-1) = _
      exact atI_lastF _ _
    · show addD (.lst (Lt.map keyL)) (.lst [keyL K]) = _
      rw [addD_lst (by simp; omega), List.map_append]
      rfl
    · rw [List.map_append] at nx
      exact nx
  refine ⟨_, rfl, by rw [vw_ref hf]; rfl, _, rfl, by simp, .bl (!Lt.isEmpty), ?_, _, rfl, ?_⟩
  · show neD (.lst (Lt.map keyL)) (.lst []) = _
    rw [neD_lst' (m := 0) hpl (by simp), eqTs_nilr]
    simp
  have hsz : (F.map keyL).length < sizeLine := by rw [size_line]; simp; omega
  cases e : Lt.getLast? with
  | none =>
    rw [e] at hK
    rw [List.getLast?_eq_none_iff.mp e] at hfin ⊢
    refine ⟨by simp, _, rfl, .lst (([] ++ lab).map intD), ?_, f, _, keyL K, rfl, ?_, hf, hsz, hfin⟩
    · exact addD_lst (by simp; omega)
    · rw [<- hK]; rfl
  | some k =>
    rw [e] at hK
    have hk3 : k.length <= 1000 := hk2 k (List.mem_of_getLast? e)
    obtain ⟨Lp, rfl⟩ := List.getLast?_eq_some_iff.mp e
    have hne : (!(Lp ++ [k]).isEmpty) = true := by cases Lp <;> rfl
    rw [hne]
    refine ⟨_, rfl, .int (-1), rfl, keyL k, ?_, _, rfl, .lst ((k ++ lab).map intD), ?_, f, _, keyL K, rfl, ?_, hf, hsz, hfin⟩
    · show atI ((Lp ++ [k]).map keyL) (-1) = _
      rw [List.map_append]
      exact atI_lastF _ _
    · show addD (.lst (k.map intD)) (.lst (lab.map intD)) = _
      rw [addD_lst (by simp; omega), List.map_append]
    · rw [<- hK]; rfl
abbrev lb0 (r f : Addr) (rs : List Row) (Ls : List (List Nat)) (cD nm va : D) (l rk : Nat) (o9 : Option D) : DL.Env := [some (.ref r), some (.lst (rs.map Row.d)), some (.ref f), some (.lst (Ls.map keyL)), some cD, some nm, some va, some (.int (l : Int)), some (.int (rk : Int)), o9]
theorem lab_1 {rk : Nat} (h : rk <= 100) : LabOk rk [2 * rk + 2] := ⟨⟨[], 2 * rk + 2, rfl, by simp, by omega, by omega⟩, N8.one (by omega), by simp, by simp; omega⟩
theorem lab_2 {rk a : Nat} (h : rk <= 100) (ha : a < 127) : LabOk rk [2 * rk + 1, 2 * a + 2] := ⟨⟨[2 * rk + 1], 2 * a + 2, rfl, by simp, by omega, by omega⟩, N8.cons.mpr ⟨by omega, N8.one (by omega)⟩, by simp, by simp⟩
theorem lab_4 {rk a b : Nat} (h : rk <= 100) (ha : a < 128) (hb : b < 127) : LabOk rk [2 * rk + 1, 2 * a + 1, 255, 2 * b + 2] :=
  ⟨⟨[2 * rk + 1, 2 * a + 1, 255], 2 * b + 2, rfl, by simp, by omega, by omega⟩, N8.cons.mpr ⟨by omega, N8.cons.mpr ⟨by omega, N8.cons.mpr ⟨by omega, N8.one (by omega)⟩⟩⟩, by simp, by simp⟩
theorem lb_5 {n : Nat} {o9 : Option D} (hw : Well M r n) (hn : n <= 10000000000000) (hfr : f ≠ r) (hrk : rk <= 100) (hf : M f = some (.lst (F.map keyL))) (hF : F.length <= 100) (hl : Ls.length <= 100) (hk : ∀ k ∈ Ls, k.length <= 1000)
    (nx : ∀ lab M1, LabOk rk lab -> WTo M M1 r (n + 5) -> E.nx (lbE r f rs (Ls.take l ++ [(Ls.take l).getLast?.getD [] ++ lab]) cD nm va l rk (keyL lab)) (updM M1 f (.lst ((F ++ [(Ls.take l).getLast?.getD [] ++ lab]).map keyL)))) :
    l__law_labels_5 E (lb0 r f rs Ls cD nm va l rk o9) M := by
  have p30 : (10 : Int) ^ 30 = 1000000000000000000000000000000 := by decide
  have m2 : ∀ (M : Mem) (k : Int), mulD (vw M (.int 2)) (vw M (.int k)) = some (.int (2 * k)) := fun M k => mulD_int (.inl (by decide))
  have k1 : ∀ a : Nat, keyL [2 * rk + 1, 2 * a + 2] = .lst [.int (2 * (rk : Int) + 1), .int (2 * (a : Int) + 2)] := fun a => by simp [keyL, intD]
  have k4 : ∀ a b : Nat, keyL [2 * rk + 1, 2 * a + 1, 255, 2 * b + 2] = .lst [.int (2 * (rk : Int) + 1), .int (2 * (a : Int) + 1), .int 255, .int (2 * (b : Int) + 2)] := fun a b => by simp [keyL, intD]
  have third : ∀ (lab : List Nat) (M1 : Mem), LabOk rk lab -> WTo M M1 r (n + 2) -> l__law_labels_3 E (lbE r f rs Ls cD nm va l rk (keyL lab)) M1 := fun lab M1 hlab h1 => by
    have hf1 := h1.keep1 hf hfr
    refine ⟨_, rfl, r, 8, _, rfl, h1.ok, by omega, by decide, by decide, fun k M2 k0 kl h2 => ⟨.bl (k == 0), rfl, _, rfl, ?_⟩⟩
    have h12 := h1.trans h2
    by_cases c : k = 0
    · subst c
      rw [beq_self_eq_true]
      refine ⟨_, rfl, _, m2 M2 _, .int (2 * (rk : Int) + 1), rfl, _, rfl, r, 128, _, rfl, h12.ok, by omega, by decide, by decide, fun a M3 a0 a1 h3 => ?_⟩
      obtain ⟨a, rfl⟩ := Int.eq_ofNat_of_zero_le a0
      have h13 := h12.trans h3
      refine ⟨_, m2 M3 _, .int (2 * (a : Int) + 1), rfl, _, rfl, r, 127, _, rfl, h13.ok, by omega, by decide, by decide, fun b M4 b0 b1 h4 => ?_⟩
      obtain ⟨b, rfl⟩ := Int.eq_ofNat_of_zero_le b0
      have h14 := h13.trans h4
      refine ⟨_, m2 M4 _, .int (2 * (b : Int) + 2), rfl, by simp, ?_⟩
      rw [<- k4]
      exact lb_2 (h14.keep1 hf hfr) hF hl hk (by simp) (nx _ _ (lab_4 hrk (by omega) (by omega)) (h14.mono (by omega)))
    · rw [beq_false_of_ne c]
      exact lb_2 (h12.keep1 hf hfr) hF hl hk (by have := hlab.len; omega) (nx _ _ hlab (h12.mono (by omega)))
  refine ⟨_, rfl, _, m2 M _, .int (2 * (rk : Int) + 2), rfl, by simp, ?_⟩
  have e1 : D.lst [.int (2 * (rk : Int) + 2)] = keyL [2 * rk + 2] := by simp [keyL, intD]
  rw [e1]
  refine ⟨_, rfl, r, 3, n, rfl, hw, by omega, by decide, by decide, fun k M1 k0 kl h1 => ⟨.bl (k == 0), rfl, _, rfl, ?_⟩⟩
  by_cases c : k = 0
  · subst c
    rw [beq_self_eq_true]
    refine ⟨_, rfl, _, m2 M1 _, .int (2 * (rk : Int) + 1), rfl, _, rfl, r, 127, _, rfl, h1.ok, by omega, by decide, by decide, fun a M2 a0 a1 h2 => ?_⟩
    obtain ⟨a, rfl⟩ := Int.eq_ofNat_of_zero_le a0
    refine ⟨_, m2 M2 _, .int (2 * (a : Int) + 2), rfl, by simp, ?_⟩
    rw [<- k1]
    exact third _ M2 (lab_2 hrk (by omega)) (h1.trans h2)
  · rw [beq_false_of_ne c]
    exact third _ M1 (lab_1 hrk) (h1.mono (by omega))
end
theorem labs_app {ls : List Int} {L : List (List Nat)} {lab : List Nat} (h : ∀ a, a < L.length -> LabOk (rkAt ls a) (L.getD a [])) (hl : LabOk (rkAt ls L.length) lab) : ∀ a, a < (L ++ [lab]).length -> LabOk (rkAt ls a) ((L ++ [lab]).getD a []) := fun a ha => by
  by_cases z : a < L.length
  · rw [show (L ++ [lab]).getD a [] = L.getD a [] by simp [List.getD, List.getElem?_append_left z]]
    exact h a z
  · have : a = L.length := by simp at ha; omega
    subst this
    rw [show (L ++ [lab]).getD L.length [] = lab by simp [List.getD]]
    exact hl
theorem keyAt_size {ls : List Int} {L : List (List Nat)} (h : ∀ a, a < L.length -> LabOk (rkAt ls a) (L.getD a [])) {p : Nat} (hp : p < L.length) : (keyAt ls L p).length <= 4 * (p + 1) := by
  have h1 : (keyAt ls L p).length <= 4 * (lineT ls p).length := by
    unfold keyAt
    have go : ∀ l : List Nat, (∀ a ∈ l, a < L.length) -> (l.flatMap fun a => L.getD a []).length <= 4 * l.length := fun l => by
      induction l with
      | nil => intro _; simp
      | cons a l ih =>
        intro ha
        have h1 := ih fun b hb => ha b (List.mem_cons_of_mem _ hb)
        have h2 := (h a (ha a (by simp))).len
        rw [List.flatMap_cons, List.length_append, List.length_cons]
        omega
    exact go _ fun a ha => by have := lineT_le ha; omega
  have h2 := lineT_len ls p
  have h3 := ancs_len ls p
  omega
theorem pure__law_labels : ∀ ds M Q E, sp__law_labels ds M Q E -> ds.length = 2 /\ t__law_labels (dEnds Q E) (startD N__law_labels ds) M := by
  rintro ds M Q E ⟨r, rs, n, rfl, h, hw, hn, q⟩
  refine ⟨rfl, ?_⟩
  have hl := h.len
  have hll : (lvs rs).length = rs.length := by simp [lvs]
  have L : LevOk (lvs rs) := h.lev
  refine ⟨by simp, fun f hf => ⟨by simp, by simp, fun c hc => ⟨c, [.int 0], 61, rfl, updM_same, rfl, by decide, by decide, by rw [size_line]; decide, ?_⟩⟩⟩
  have hfr : f ≠ r := fun z => hw.ne hf z.symm
  rw [delM_updM hc]
  refine ⟨_, _, _, rfl, ?_⟩
  refine ⟨_, rfl, _, rfl, ?_⟩
  refine forD_run _ (fun done ρ M1 => ∃ (La : List (List Nat)) (cD : D) (o5 o6 o7 o8 o9 : Option D), ρ = [some (.ref r), some (.lst (rs.map Row.d)), some (.ref f), some (.lst (((lineP (lvs rs) done.length).map (keyAt (lvs rs) La)).map keyL)), some cD, o5, o6, o7, o8, o9] /\ vw M1 cD = .lst (cnts (lvs rs) done.length) /\ La.length = done.length /\ (∀ a, a < La.length -> LabOk (rkAt (lvs rs) a) (La.getD a [])) /\ M1 f = some (.lst (((List.range done.length).map (keyAt (lvs rs) La)).map keyL)) /\ WTo M M1 r (n + 10 * done.length)) ?_ ?_ ⟨[], _, _, _, _, _, _, rfl, ?_, rfl, by simp, updM_same, (WTo.refl hw).upd hf hfr⟩
  · rintro done y rest ρ M1 Nx e ⟨La, cD, o5, o6, o7, o8, o9, rfl, hcD, hLa, hok, f1, hto⟩ nx
    have hd : done.length < rs.length := by have := congrArg List.length e; simp at this; omega
    have hy : (rs.map Row.d)[done.length]? = some y := by rw [e]; simp
    rw [List.getElem?_map, List.getElem?_eq_getElem hd] at hy
    cases hy
    rw [List.length_append, List.length_singleton] at nx
    generalize hpd : done.length = p at hd f1 hcD nx hto hLa
    have hlv : rs[p].lv = ((ancs (lvs rs) p).length : Nat) := by
      rw [ancs_count L (by omega), lvs_of (List.getElem?_eq_getElem hd)]
    have hal := ancs_len (lvs rs) p
    have hlt := lineT_len (lvs rs) p
    obtain ⟨c1, c2, c3⟩ := cnts_cut L (p := p) (by omega) (by omega)
    obtain ⟨hle, _⟩ := anc_prev L (p := p) (by omega)
    have hstep := lineT_step L (p := p) (by omega)
    refine ⟨_, .inl rfl, rfl, _, _, rfl, _, _, rfl, _, _, rfl, rfl, ?_⟩
    rw [hlv]
    have hancs : (match ancs (lvs rs) p with | [] => [] | q :: _ => keyAt (lvs rs) La q) = (((lineP (lvs rs) p).take (ancs (lvs rs) p).length).map (keyAt (lvs rs) La)).getLast?.getD [] := by
      obtain ⟨_, hp2⟩ := anc_prev L (p := p) (by omega)
      rw [<- hp2, List.getLast?_map, List.getLast?_reverse]
      cases ancs (lvs rs) p <;> rfl
    generalize hle' : (ancs (lvs rs) p).length = l at c1 c2 c3 hle hstep hal hlt hancs
    refine ⟨_, rfl, _, rfl, .int ((l : Int) + 1), rfl, _, rfl, .lst ((cnts (lvs rs) p).take (l + 1)), ?_, by simp, fun b hb => ⟨_, rfl, .int (60 - (l : Int)), rfl, b, [.int 0], 60 - (l : Int), rfl, updM_same, rfl, by omega, by omega, by rw [size_line]; simp; omega, ?_⟩⟩
    · rw [hcD]
      show some (D.lst (DL.cutD _ none (some ((l : Int) + 1)))) = _
      rw [show ((l : Int) + 1) = ((l + 1 : Nat) : Int) by omega, cutD_to]
    rw [delM_updM hb]
    refine ⟨(cnts (lvs rs) p).take (l + 1), List.replicate (60 - l) (.int 0), rfl, ?_, by rw [size_line, <- List.length_append, c2]; decide, fun cc hcc => ?_⟩
    · rw [show (60 - (l : Int)).toNat = 60 - l by omega, rep0]; rfl
    have hccf : cc ≠ f := fun z => by rw [z, f1] at hcc; cases hcc
    have hccr : cc ≠ r := fun z => hto.ok.ne hcc z.symm
    have vcc : ∀ d, vw (updM M1 cc d) (.ref cc) = d := fun d => vw_ref updM_same
    have hccM : M cc = none := by
      cases e : M cc with
      | none => rfl
      | some d => rw [hto.keep1 e hccr] at hcc; cases hcc
    have h1 : ∀ d, WTo M (updM M1 cc d) r (n + 10 * p) := fun d => hto.upd hccM hccr
    refine ⟨_, rfl, _, rfl, .int ((rkAt (lvs rs) p : Nat) : Int), ?_, ?_⟩
    · rw [vcc]
      show atI _ _ = _
      exact atI_get' c1
    refine ⟨_, rfl, .int ((rkAt (lvs rs) p : Nat) + 1 : Int), rfl, _, rfl, _, rfl, cc, _, (l : Int), l, rfl, updM_same, rfl, ?_, ?_⟩
    · rw [c2]
      exact ixN_nat (by omega)
    rw [updM_updM, c3]
    have f2 : updM M1 cc (.lst (cnts (lvs rs) (p + 1))) f = some (.lst (((List.range p).map (keyAt (lvs rs) La)).map keyL)) := by rw [updM_ne (Ne.symm hccf)]; exact f1
    have hrk : rkAt (lvs rs) p <= p := by
      rw [rk_count (by omega)]
      exact Nat.le_trans (List.length_filter_le _ _) (by simp)
    have hPl : (lineP (lvs rs) p).length <= 61 := by
      unfold lineP
      split
      · simp
      · have := lineT_len (lvs rs) (p - 1)
        have := ancs_len (lvs rs) (p - 1)
        omega
    have hPk : ∀ a ∈ lineP (lvs rs) p, a < p := fun a ha => by
      unfold lineP at ha
      split at ha
      · cases ha
      · have := lineT_le ha; omega
    refine lb_5 (h1 _).ok (by omega) hfr (by omega) f2 (by simp; omega) (by simp; omega) (fun k hk => ?_) fun lab M2 hlab h2 => ?_
    · obtain ⟨a, ha, rfl⟩ := List.mem_map.mp hk
      have := hPk a ha
      have := keyAt_size hok (p := a) (by omega)
      omega
    have hcc2 := h2.keep1 (show updM M1 cc (.lst (cnts (lvs rs) (p + 1))) cc = _ from updM_same) hccr
    have hK : (((lineP (lvs rs) p).map (keyAt (lvs rs) La)).take l).getLast?.getD [] ++ lab = keyAt (lvs rs) (La ++ [lab]) p := by
      rw [<- List.map_take, <- hancs]
      have hg : (La ++ [lab]).getD p [] = lab := by rw [<- hLa]; simp [List.getD]
      cases ha : ancs (lvs rs) p with
      | nil => rw [keyAt_root ha, hg]; rfl
      | cons q r' =>
        have := ancs_lt ha
        rw [keyAt_cons ha, hg, keyAt_more (by omega)]
    rw [hK]
    have hmore : ∀ (l : List Nat), (∀ a ∈ l, a < p) -> l.map (keyAt (lvs rs) La) = l.map (keyAt (lvs rs) (La ++ [lab])) := fun l hl => List.map_congr_left fun a ha => (keyAt_more (by have := hl a ha; omega)).symm
    refine nx _ _ ⟨La ++ [lab], .ref cc, some (D.str (S rs[p].nm)), some (D.int rs[p].va), some (.int (l : Int)), some (.int ((rkAt (lvs rs) p : Nat) : Int)), some (keyL lab), ?_, ?_, by simp [hLa], labs_app hok (by rw [hLa]; exact hlab), ?_, ?_⟩
    · have e1 : List.take l (List.map (keyAt (lvs rs) La) (lineP (lvs rs) p)) ++ [keyAt (lvs rs) (La ++ [lab]) p] = (lineP (lvs rs) (p + 1)).map (keyAt (lvs rs) (La ++ [lab])) := by
        rw [lineP_succ, hstep, <- List.map_take, hmore _ fun a ha => hPk a (List.mem_of_mem_take ha), List.map_append]
        rfl
      rw [e1]
    · rw [vw_ref (by rw [updM_ne hccf]; exact hcc2)]
    · rw [updM_same, hmore _ fun a ha => List.mem_range.mp ha, List.range_succ, List.map_append (l₁ := List.range p)]
      rfl
    · have h3 := (h1 (.lst (cnts (lvs rs) (p + 1)))).trans h2
      exact (h3.upd (a := f) hf hfr).mono (by omega)
  · rintro ρ M1 ⟨La, cD, o5, o6, o7, o8, o9, rfl, hcD, hLa, hok, f1, hto⟩
    simp only [List.length_map] at hLa f1 hto
    refine ⟨_, rfl, ?_⟩
    simp only [frz, f1]
    rw [List.map_map]
    exact q La _ ⟨by omega, fun a ha => hok a (by omega)⟩ ((hto.del hf hfr).mono (by omega))
  · show D.lst _ = _
    rw [show ([] : List D).length = 0 from rfl, cnts_0, show (61 : Int).toNat = 61 from rfl, rep0]
end LawProof
set_option Elab.async false
set_option linter.all false
set_option maxRecDepth 100000
set_option maxHeartbeats 4000000
set_option autoImplicit true
namespace LawProof
open PySem L2 DL FL
def endsL (l : List Nat) : List Nat := (List.range (l.length - 1)).filter fun i => decide (l.getD i 0 % 2 = 0)
def cutL (l : List Nat) : List Nat := match (endsL l).getLast? with
  | some e => l.take (e + 1)
  | none => []
def sp__law_cut : SpD := fun ds M Q _ => ∃ l : List Nat, ds = [.lst (l.map intD)] /\ l.length <= 1000 /\ ∀ M', Keep M M' -> Q (.lst ((cutL l).map intD)) M'
abbrev N__law_cut : List Str := ["_law_numbers", "_law_ends", "_law_at"]
def t__law_cut : DTS := (dSeq (dAsg (dLc (iR1 (dOp subD (dCB lenF (dCons (dVar 0) dNil)) (dC (.int 1)))) (gN 2) (dTest (dOp eqD (dOp modD (dCB intF (dCons (dOp ixA (dVar 0) (dVar 2)) dNil)) (dC (.int 2))) (dC (.int 0)))) (dVar 2) [2]) (gN 1))
    (dRet (dIfE (dTest (dOp neD (dVar 1) (dLst dNil))) (dSl slD (dVar 0) dNoPart (dPart (dOp addD (dOp ixA (dVar 1) (dUn negD (dC (.int 1)))) (dC (.int 1))))) (dLst dNil))))
theorem pl_ints (l : List Nat) : plDs 0 (l.map intD) = true := plDs_all.mpr fun d hd => by
  obtain ⟨i, _, rfl⟩ := List.mem_map.mp hd
  simp [intD, DL.plD]
theorem endsL_fm (l : List Nat) : ∀ r : List Nat, r.filterMap (fun i => if decide (l.getD i 0 % 2 = 0) = true then some (intD i) else none) = (r.filter fun i => decide (l.getD i 0 % 2 = 0)).map intD
  | [] => rfl
  | i :: r => by
    have ih := endsL_fm l r
    rw [List.filterMap_cons, List.filter_cons]
    cases decide (l.getD i 0 % 2 = 0) with
    | true => show intD i :: _ = intD i :: _; rw [ih]
    | false => exact ih
theorem pure__law_cut : ∀ ds M Q E, sp__law_cut ds M Q E -> ds.length = 1 /\ t__law_cut (dEnds Q E) (startD N__law_cut ds) M := by
  rintro ds M Q E ⟨l, rfl, hl, q⟩
  refine ⟨rfl, ?_⟩
  refine ⟨_, rfl, .int (l.length : Nat), by show lenF [.lst _] = _; simp, .int ((l.length : Int) - 1), rfl, (l.length : Int) - 1, rfl, by omega, by omega, fun a ha => ?_⟩
  have er : ((l.length : Int) - 1).toNat = l.length - 1 := by omega
  rw [er]
  refine lcD_ix intD (fun i => if decide (l.getD i 0 % 2 = 0) = true then some (intD i) else none) _ (by simp; omega) ha (fun i hi M2 T k2 hT => ?_) fun M2 k2 => ?_
  · have hi : i < l.length := by have := List.mem_range.mp hi; omega
    have hg : l[i]? = some (l.getD i 0) := by simp [List.getD, hi]
    refine ⟨_, rfl, _, rfl, intD (l.getD i 0), ?_, .int (l.getD i 0 : Nat), rfl, .int ((l.getD i 0 % 2 : Nat) : Int), ?_, .bl (decide (l.getD i 0 % 2 = 0)), ?_, _, rfl, ?_⟩
    · show atI (l.map intD) (i : Int) = _
      exact atI_get' (by rw [List.getElem?_map, hg]; rfl)
    · show some (D.int _) = _
      congr 2
    · show some (D.bl (_ == _)) = _
      congr 2
      rw [Bool.eq_iff_iff]
      simp
      omega
    · have := hT M2 (Keep.refl M2)
      cases hd : decide (l.getD i 0 % 2 = 0) with
      | true => rw [hd] at this; exact ⟨_, rfl, this⟩
      | false => rw [hd] at this; exact this
  · rw [endsL_fm]
    have q2 := q M2 k2
    have ee : (List.range (l.length - 1)).filter (fun i => decide (l.getD i 0 % 2 = 0)) = endsL l := rfl
    rw [ee]
    unfold cutL at q2
    refine ⟨_, rfl, by simp, .bl (!(endsL l).isEmpty), ?_, _, rfl, ?_⟩
    · show neD (.lst ((endsL l).map intD)) (.lst []) = _
      rw [neD_lst' (m := 0) (pl_ints _) (by simp), eqTs_nilr]
      simp
    cases hg : (endsL l).getLast? with
    | none =>
      rw [hg] at q2
      rw [List.getLast?_eq_none_iff.mp hg]
      exact ⟨by simp, q2⟩
    | some e =>
      rw [hg] at q2
      obtain ⟨r2, hr2⟩ := List.getLast?_eq_some_iff.mp hg
      rw [hr2]
      have hne : (!(r2 ++ [e]).isEmpty) = true := by cases r2 <;> rfl
      rw [hne]
      refine ⟨_, rfl, _, rfl, .int (-1), rfl, .int (e : Int), ?_, .int ((e : Int) + 1), rfl, (e : Int) + 1, rfl, .lst ((l.take (e + 1)).map intD), ?_, q2⟩
      · show atI ((r2 ++ [e]).map intD) (-1) = _
        rw [List.map_append]
        exact atI_lastF _ _
      · show some (D.lst (DL.cutD _ none (some ((e : Int) + 1)))) = _
        rw [show ((e : Int) + 1) = ((e + 1 : Nat) : Int) by omega, cutD_to, List.map_take]
def sp__law_is_key : SpD := fun ds M Q _ => ∃ d, ds = [d] /\ ((∃ l : List Nat, d = .lst (l.map intD) /\ Q (.bl (keyN l)) M) \/ (∃ n, tyName (vw M d) = some n /\ n ≠ "list" /\ Q (.bl false) M))
abbrev N__law_is_key : List Str := ["_law_thing"]
def t__law_is_key : DTS := (dSeq (dIf (dOr (dNot (dTest (dCB isiF (dCons (dVar 0) (dCons (dC (.ty "list")) dNil))))) (dOr (dTest (dOp eqD (dVar 0) (dLst dNil))) (dTest (dOp inD (dC (.int 0)) (dVar 0))))) (dRet (dC (.bl false))) dNext)
    (dRet (dOp eqD (dOp modD (dCB intF (dCons (dOp ixA (dVar 0) (dUn negD (dC (.int 1)))) dNil)) (dC (.int 2))) (dC (.int 0)))))
theorem isi_lst {M : Mem} {d : D} {n : String} (h : tyName (vw M d) = some n) : isiF ([d, .ty "list"].map (vw M)) = some (.bl (n == "list")) := by
  have hn := tyName_mem h
  simp [isiF, h]
  simp [tyNames] at hn
  rcases hn with rfl | rfl | rfl | rfl | rfl | rfl | rfl | rfl <;> simp [tyNames, isTy]
theorem pure__law_is_key : ∀ ds M Q E, sp__law_is_key ds M Q E -> ds.length = 1 /\ t__law_is_key (dEnds Q E) (startD N__law_is_key ds) M := by
  rintro ds M Q E ⟨d, rfl, ⟨l, rfl, q⟩ | ⟨n, hn, hne, q⟩⟩
  · refine ⟨rfl, ?_⟩
    refine ⟨_, rfl, .bl true, rfl, true, rfl, ?_⟩
    refine ⟨_, rfl, by simp, .bl l.isEmpty, ?_, _, rfl, ?_⟩
    · show eqD (.lst (l.map intD)) (.lst []) = _
      rw [eqD_lst' (m := 0) (pl_ints l) (by simp), eqTs_nilr]
      simp
    cases he : l.isEmpty with
    | true =>
      have e : keyN l = false := by unfold keyN; rw [he]; rfl
      rw [e] at q
      exact q
    | false =>
      refine ⟨_, rfl, _, in_ints 0 l, _, rfl, ?_⟩
      cases h0 : decide (0 ∈ l) with
      | true =>
        have e : keyN l = false := by unfold keyN; rw [h0]; simp
        rw [e] at q
        exact q
      | false =>
        cases hg : l.getLast? with
        | none =>
          rw [List.getLast?_eq_none_iff.mp hg] at he
          cases he
        | some a =>
          obtain ⟨l2, rfl⟩ := List.getLast?_eq_some_iff.mp hg
          have e : keyN (l2 ++ [a]) = decide (a % 2 = 0) := by unfold keyN; rw [he, h0, hg]; rfl
          rw [e] at q
          refine ⟨_, rfl, .int (-1), rfl, .int (a : Int), ?_, .int (a : Int), rfl, .int ((a % 2 : Nat) : Int), ?_, .bl (decide (a % 2 = 0)), ?_, q⟩
          · show atI ((l2 ++ [a]).map intD) (-1) = _
            rw [List.map_append]
            exact atI_lastF _ _
          · show some (D.int _) = _
            congr 2
          · show some (D.bl (_ == _)) = _
            congr 2
            rw [Bool.eq_iff_iff]
            simp
            omega
  · refine ⟨rfl, ?_⟩
    refine ⟨_, rfl, _, isi_lst hn, false, ?_, q⟩
    have : (n == "list") = false := by simpa using hne
    rw [this]
end LawProof
set_option Elab.async false
set_option linter.all false
set_option maxRecDepth 100000
set_option maxHeartbeats 4000000
set_option autoImplicit true
namespace LawProof
open PySem L2 DL FL
def sp__law_word : SpD := fun ds M Q _ => ∃ (s : Addr) (ys : List D) (p t : Nat), ds = [.ref s, .int (p : Int)] /\ M s = some (.lst ys) /\ p < ys.length /\ ys.length <= 60 /\ t <= 50 /\ (∀ y ∈ ys, RowL t y) /\ (∀ j, j < p -> KRow (madeR false (ys.getD j .non))) /\
  ∀ M', Keep M M' -> Q (wordD (keyWAt (ys.map (madeR false)) p)) M'
abbrev N__law_word : List Str := ["_law_rows_so", "_law_place", "_law_row", "_law_other"]
def l__law_word_1 : DTS := (dSeq (dIf (dTest (dOp inD (dOp ixA (dVar 2) (dC (.int 0))) (dLc (iS (dSl slD (dVar 0) dNoPart (dPart (dVar 1)))) (gN 3) dYes (dOp ixA (dVar 3) (dC (.int 0))) [3]))) (dRet (dC (.str "twice"))) dNext)
    (dRet (dIfE (dTest (dBin (bInP false) (dOp ixA (dVar 2) (dC (.int 2))) (dLc (iS (dSl slD (dVar 0) dNoPart (dPart (dVar 1)))) (gN 3) dYes (dOp ixA (dVar 3) (dC (.int 2))) [3]))) (dC (.str "shared")) (dC .non))))
def l__law_word_2 : DTS := (dSeq (dIf (dNot (dTest (dCall sp__law_is_key [] (dCons (dOp ixA (dVar 2) (dC (.int 2))) dNil)))) (dRet (dC (.str "key"))) dNext)
    l__law_word_1)
def l__law_word_3 : DTS := (dSeq (dIf (dNot (dTest (dCall sp__law_is_value [] (dCons (dOp ixA (dVar 2) (dC (.int 1))) dNil)))) (dRet (dC (.str "value"))) dNext)
    l__law_word_2)
def l__law_word_4 : DTS := (dSeq (dIf (dNot (dTest (dCall sp__law_is_name [] (dCons (dOp ixA (dVar 2) (dC (.int 0))) dNil)))) (dRet (dC (.str "name"))) dNext)
    l__law_word_3)
def l__law_word_5 : DTS := (dSeq (dIf (dOr (dNot (dTest (dCB isiF (dCons (dVar 2) (dCons (dC (.ty "tuple")) dNil))))) (dTest (dOp neD (dCB lenF (dCons (dVar 2) dNil)) (dC (.int 3))))) (dRet (dC (.str "row"))) dNext)
    l__law_word_4)
def t__law_word : DTS := (dSeq (dAsg (dOp ixA (dVar 0) (dVar 1)) (gN 2))
    l__law_word_5)
theorem cutL_snoc (m : List Nat) (x : Nat) : cutL (m ++ [x]) = lastE m := by
  unfold cutL endsL lastE
  have e : (List.range ((m ++ [x]).length - 1)).filter (fun i => decide ((m ++ [x]).getD i 0 % 2 = 0)) = (List.range m.length).filter fun i => decide (m.getD i 0 % 2 = 0) := by
    rw [List.length_append, List.length_singleton, Nat.add_sub_cancel]
    refine List.filter_congr fun i hi => ?_
    have : i < m.length := List.mem_range.mp hi
    rw [show (m ++ [x]).getD i 0 = m.getD i 0 by simp [List.getD, List.getElem?_append_left this]]
  rw [e]
  cases hg : ((List.range m.length).filter fun i => decide (m.getD i 0 % 2 = 0)).getLast? with
  | none => rfl
  | some i =>
    have hi : i < m.length := List.mem_range.mp (List.mem_filter.mp (List.mem_of_getLast? hg)).1
    exact List.take_append_of_le_length (by omega)
def remK : List Nat -> List Nat -> List Nat
  | acc, [] => acc
  | acc, a :: r => if a % 2 = 0 then remK [] r else remK (acc ++ [a]) r
theorem cutK_snoc : ∀ (m acc : List Nat) (x : Nat), cutK acc (m ++ [x]) = cutK acc m ++ (if x % 2 = 0 then [remK acc m ++ [x]] else [])
  | [], acc, x => by simp only [List.nil_append, cutK, remK]
  | a :: m, acc, x => by
    simp only [List.cons_append, cutK, remK]
    by_cases h : a % 2 = 0
    · rw [if_pos h, if_pos h, if_pos h, cutK_snoc m [] x, List.cons_append]
    · rw [if_neg h, if_neg h, if_neg h, cutK_snoc m _ x]
theorem cutK_rem : ∀ (m acc : List Nat), (cutK acc m).flatten ++ remK acc m = acc ++ m
  | [], acc => by simp [cutK, remK]
  | a :: m, acc => by
    simp only [cutK, remK]
    by_cases h : a % 2 = 0
    · rw [if_pos h, if_pos h, List.flatten_cons, List.append_assoc, cutK_rem m []]; simp
    · rw [if_neg h, if_neg h, cutK_rem m]; simp
theorem cutK_ne : ∀ (m acc : List Nat), ∀ z ∈ cutK acc m, z ≠ []
  | [], acc, z, hz => by simp [cutK] at hz
  | a :: m, acc, z, hz => by
    simp only [cutK] at hz
    split at hz
    · rcases List.mem_cons.mp hz with rfl | hz
      · simp
      · exact cutK_ne m [] z hz
    · exact cutK_ne m _ z hz
theorem cutK_last (m : List Nat) : (cutK [] m).flatten = lastE m := by
  have go : ∀ (n : Nat) (m : List Nat), m.length = n -> (cutK [] m).flatten = lastE m := fun n => by
    induction n with
    | zero => intro m hm; rw [List.length_eq_zero_iff.mp hm]; rfl
    | succ n ih =>
      intro m hm
      rcases List.eq_nil_or_concat m with rfl | ⟨m', x, rfl⟩
      · cases hm
      · rw [List.concat_eq_append] at *
        rw [cutK_snoc]
        by_cases h : x % 2 = 0
        · rw [if_pos h, lastE_even _ h, List.flatten_append]
          have := cutK_rem m' []
          simp only [List.flatten_cons, List.flatten_nil, List.append_nil]
          rw [<- List.append_assoc, this]
          rfl
        · rw [if_neg h, List.append_nil, lastE_odd _ (by omega)]
          exact ih m' (by simpa using hm)
  exact go _ m rfl
theorem shortK_last (m : List Nat) {x : Nat} (h : x % 2 = 0) : (shortK (m ++ [x])).getLast? = if lastE m = [] then none else some (lastE m) := by
  unfold shortK
  rw [cutK_snoc, if_pos h, List.length_append, List.length_singleton, Nat.add_sub_cancel, List.getLast?_map, List.getLast?_range]
  rw [<- cutK_last]
  cases hL : cutK [] m with
  | nil => rfl
  | cons z L =>
    have hz : z ≠ [] := cutK_ne m [] z (by rw [hL]; simp)
    have hne : (z :: L).flatten ≠ [] := by
      rw [List.flatten_cons]
      intro e
      exact hz (List.append_eq_nil_iff.mp e).1
    rw [if_neg hne, if_neg (by simp)]
    show some ((List.take (1 + ((z :: L).length - 1)) (z :: L ++ [remK [] m ++ [x]])).flatten) = some _
    rw [show 1 + ((z :: L).length - 1) = (z :: L).length by simp; omega, List.take_left' rfl]
theorem parB_eq {l : List Nat} (ks : List (Array UInt8)) (h : keyN l = true) : parB ks l = (decide (cutL l ≠ []) && !hasB ks (bA (cutL l))) := by
  unfold keyN at h
  rcases List.eq_nil_or_concat l with rfl | ⟨m, x, rfl⟩
  · cases h
  · rw [List.concat_eq_append] at *
    have hx : x % 2 = 0 := by
      simp at h
      exact h.2.2
    unfold parB
    rw [shortK_last m hx, cutL_snoc]
    by_cases e : lastE m = []
    · rw [if_pos e, e]; rfl
    · rw [if_neg e]; simp [e]
theorem isi_tup {d : D} {n : String} (h : tyName d = some n) : isiF [d, .ty "tuple"] = some (.bl (n == "tuple")) := by
  have hm := tyName_mem h
  simp [isiF, h, tyNames]
  simp [tyNames] at hm
  rcases hm with rfl | rfl | rfl | rfl | rfl | rfl | rfl | rfl <;> simp [isTy]
theorem krowL {t : Nat} {z : D} (h : RowL t z) (k : KRow (madeR false z)) : ∃ n v l, z = .tup [strD n, .int v, keyL l] /\ N8 l /\ l.length <= 300 + t /\ keyN l = true /\ nmS (madeR false z) = n /\ byN (itm (madeR false z) 2) = l := by
  obtain ⟨n, v, l, e1, e8, ek, en, e2⟩ := krow_parts k
  cases h with
  | key h1 h2 h3 h4 =>
    rename_i n' v' l'
    have e3 : seqs (madeR false (.tup [n', v', .lst (l'.map intD)])) = some [n', v', bD l'] := by show seqs (.tup [n', v', bkD _]) = _; rw [bk_key]; rfl
    rw [e3] at e1
    simp only [Option.some.injEq, List.cons.injEq, and_true] at e1
    obtain ⟨rfl, rfl, e4⟩ := e1
    have e5 : l' = l := by
      have := congrArg byN e4
      rwa [byN_bD h3, byN_bD e8] at this
    subst e5
    exact ⟨n, v, l', rfl, h3, h4, ek, en, by rw [e2, byN_bD h3]⟩
  | tup h1 h2 h3 h4 h5 =>
    rename_i n' v' k'
    have e3 : seqs (madeR false (.tup [n', v', k'])) = some [n', v', k'] := by show seqs (.tup [n', v', bkD _]) = _; rw [bk_odd h4]; rfl
    rw [e3] at e1
    simp only [Option.some.injEq, List.cons.injEq, and_true] at e1
    rw [e1.2.2] at h5
    cases h5
  | odd h1 h2 h3 h4 h5 =>
    have := k.1
    rw [made_odd h3, h2] at this
    cases this
def pyI (i : Nat) : PyData := .int (i : Int)
def pyL (l : List Nat) : PyData := .list (l.map pyI)
theorem toPyXs_ints (l : List Nat) : toPyXs (l.map intD) = some (l.map pyI) := by
  induction l with
  | nil => rfl
  | cons a l ih => simp only [List.map_cons, toPyXs, intD, toPyX, ih]; rfl
theorem toPyX_keyL (l : List Nat) : toPyX (keyL l) = some (pyL l) := by
  unfold keyL pyL
  simp only [toPyX, toPyXs_ints]; rfl
theorem toPyXs_keyL (Ls : List (List Nat)) : toPyXs (Ls.map keyL) = some (Ls.map pyL) := by
  induction Ls with
  | nil => rfl
  | cons a l ih => simp only [List.map_cons, toPyXs, toPyX_keyL, ih]; rfl
theorem eqv_ints : ∀ a b : List Nat, PyData.eqvAll (a.map pyI) (b.map pyI) = decide (a = b)
  | [], [] => by simp [PyData.eqvAll]
  | [], b :: _ => by simp [PyData.eqvAll]
  | a :: _, [] => by simp [PyData.eqvAll]
  | a :: as, b :: bs => by
    simp only [List.map_cons, PyData.eqvAll, eqv_ints as bs, pyI, PyData.eqv]
    rw [Bool.eq_iff_iff]
    simp
    omega
theorem eqv_pyL (a b : List Nat) : PyData.eqv (pyL a) (pyL b) = decide (a = b) := by
  unfold pyL
  simp only [PyData.eqv]
  exact eqv_ints a b
theorem pyL_plain (l : List Nat) : (pyL l).plain = true := by
  unfold pyL
  simp only [PyData.plain]
  induction l with
  | nil => rfl
  | cons a l ih => simp only [List.map_cons, PyData.plainAll, pyI, PyData.plain, ih]; rfl
theorem pyLs_plain (Ls : List (List Nat)) : PyData.plainAll (Ls.map pyL) = true := by
  induction Ls with
  | nil => rfl
  | cons a l ih => simp only [List.map_cons, PyData.plainAll, pyL_plain, ih]; rfl
theorem pyL_depth (l : List Nat) : (pyL l).depth <= 1 := by
  unfold pyL
  simp only [PyData.depth]
  have : PyData.depthAll (l.map pyI) = 0 := by
    induction l with
    | nil => rfl
    | cons a l ih => simp only [List.map_cons, PyData.depthAll, pyI, PyData.depth, ih]; rfl
  omega
theorem any_pyL (Ls : List (List Nat)) (l : List Nat) : ((Ls.map pyL).any fun y => PyData.eqv y (pyL l)) = decide (l ∈ Ls) := by
  rw [List.any_map, Bool.eq_iff_iff]
  simp only [List.any_eq_true, Function.comp_apply, eqv_pyL, decide_eq_true_eq]
  exact ⟨fun ⟨x, hx, e⟩ => e ▸ hx, fun h => ⟨l, h, rfl⟩⟩
theorem has_keys {Ls : List (List Nat)} {l : List Nat} (h : ∀ k ∈ Ls, N8 k) (hl : N8 l) : hasB (Ls.map bA) (bA l) = decide (l ∈ Ls) := by
  rw [Bool.eq_iff_iff, hasB_iff, decide_eq_true_eq, List.mem_map]
  exact ⟨fun ⟨k, hk, e⟩ => bA_inj (h k hk) hl e ▸ hk, fun z => ⟨l, z, rfl⟩⟩
section
variable {Q : DV} {E : DEK} {M : Mem} {s : Addr} {ys : List D} {p t : Nat}
abbrev wdE (s : Addr) (p : Nat) (y : D) (o3 : Option D) : DL.Env := [some (.ref s), some (.int (p : Int)), some y, o3]
theorem take_L (hR : ∀ y ∈ ys, RowL t y) (hK : ∀ j, j < p -> KRow (madeR false (ys.getD j .non))) : ∀ z ∈ ys.take p, RowL t z /\ KRow (madeR false z) := fun z hz => by
  obtain ⟨j, hj, rfl⟩ := List.getElem_of_mem hz
  have hj2 : j < p /\ j < ys.length := by simp at hj; omega
  have := hK j hj2.1
  refine ⟨hR _ (List.mem_of_mem_take hz), ?_⟩
  simpa [List.getD, hj2.2] using this
theorem wd_1 {n : List Nat} {v : D} {l : List Nat} {o3 : Option D} (h8 : N8 l) (hs : M s = some (.lst ys)) (hl : ys.length <= 60) (hT : ∀ z ∈ ys.take p, RowL t z /\ KRow (madeR false z))
    (q : ∀ M', Keep M M' -> Q (wordD (if ((ys.take p).any fun z => decide (nmS (madeR false z) = n)) = true then some "twice" else if hasB ((ys.take p).map fun z => bA (byN (itm (madeR false z) 2))) (bA l) = true then some "shared" else none)) M') :
    l__law_word_1 (dEnds Q E) (wdE s p (.tup [strD n, v, keyL l]) o3) M := by
  have hlt : (ys.take p).length <= 60 := by simp; omega
  refine ⟨_, rfl, strD n, rfl, cut_rows rfl rfl (by rw [vw_ref hs]; rfl) fun c hc => ?_⟩
  refine lcD_ix (fun z => z) (fun z => some (strD (nmS (madeR false z)))) (ys.take p) (by omega) hc (fun z hz M2 T k2 hT2 => ?_) fun M2 k2 => ?_
  · obtain ⟨n', v', l', rfl, _, _, _, e2, _⟩ := krowL (hT z hz).1 (hT z hz).2
    refine ⟨_, rfl, strD n', rfl, ?_⟩
    have := hT2 M2 (Keep.refl M2)
    rw [e2] at this
    exact this
  · have e : (ys.take p).filterMap (fun z => some (strD (nmS (madeR false z)))) = ((ys.take p).map fun z => nmS (madeR false z)).map strD := by rw [List.filterMap_eq_map', List.map_map]; rfl
    rw [e]
    refine ⟨_, in_names' n _ M2, _, rfl, ?_⟩
    have e2 : decide (n ∈ (ys.take p).map fun z => nmS (madeR false z)) = ((ys.take p).any fun z => decide (nmS (madeR false z) = n)) := by
      rw [Bool.eq_iff_iff]
      simp only [decide_eq_true_eq, List.mem_map, List.any_eq_true]
    rw [e2]
    have hs2 := k2 _ _ hs
    cases hh : ((ys.take p).any fun z => decide (nmS (madeR false z) = n)) with
    | true => have := q M2 k2; rw [hh] at this; exact this
    | false =>
      rw [hh] at q
      refine ⟨_, rfl, keyL l, rfl, cut_rows rfl rfl (by rw [vw_ref hs2]; rfl) fun c hc => ?_⟩
      refine lcD_ix (fun z => z) (fun z => some (keyL (byN (itm (madeR false z) 2)))) (ys.take p) (by omega) hc (fun z hz M3 T k3 hT2 => ?_) fun M3 k3 => ?_
      · obtain ⟨n', v', l', rfl, _, _, _, _, e3⟩ := krowL (hT z hz).1 (hT z hz).2
        refine ⟨_, rfl, keyL l', rfl, ?_⟩
        have := hT2 M3 (Keep.refl M3)
        rw [e3] at this
        exact this
      · have e3 : (ys.take p).filterMap (fun z => some (keyL (byN (itm (madeR false z) 2)))) = ((ys.take p).map fun z => byN (itm (madeR false z) 2)).map keyL := by rw [List.filterMap_eq_map', List.map_map]; rfl
        rw [e3]
        refine ⟨pyL l, _, _, .inl rfl, toPyX_keyL l, toPyXs_keyL _, pyL_plain l, pyLs_plain _, by have := pyL_depth l; omega, _, rfl, ?_⟩
        rw [Bool.false_bne, any_pyL]
        have q2 := q M3 (k2.trans k3)
        have e4 : ((ys.take p).map fun z => bA (byN (itm (madeR false z) 2))) = ((ys.take p).map fun z => byN (itm (madeR false z) 2)).map bA := by rw [List.map_map]; rfl
        rw [e4, has_keys (fun k hk => by
          obtain ⟨z, _, rfl⟩ := List.mem_map.mp hk
          exact byN_8 _) h8] at q2
        cases hd : decide (l ∈ (ys.take p).map fun z => byN (itm (madeR false z) 2)) with
        | true => rw [hd] at q2; exact q2
        | false => rw [hd] at q2; exact q2
end
theorem pure__law_word : ∀ ds M Q E, sp__law_word ds M Q E -> ds.length = 2 /\ t__law_word (dEnds Q E) (startD N__law_word ds) M := by
  rintro ds M Q E ⟨s, ys, p, t, rfl, hs, hp, hl, ht, hR, hK, q⟩
  refine ⟨rfl, ?_⟩
  have hy : ys[p]? = some (ys.getD p .non) := by simp [List.getD, hp]
  have hRy := hR _ (List.mem_of_getElem? hy)
  have e0 : ixA (vw M (.ref s)) (vw M (.int (p : Int))) = some (ys.getD p .non) := by
    rw [vw_ref hs]
    exact atI_get' hy
  have em : (ys.map (madeR false)).getD p .non = madeR false (ys.getD p .non) := by simp [List.getD, hp]
  unfold keyWAt at q
  rw [em, <- List.map_take] at q
  have hT := take_L hR hK
  generalize ys.getD p .non = y at *
  obtain ⟨nt, hnt⟩ := hRy.pl.ty
  have hv := hRy.pl.vw M
  refine ⟨_, rfl, _, rfl, _, e0, _, rfl, _, isi_tup (d := vw M y) (by rw [hv]; exact hnt), _, rfl, ?_⟩
  have hq : ∀ w, plainW 3 (madeR false y) = some w -> Q (.str w) M := fun w hw => by
    have := q M (Keep.refl M)
    unfold keyW at this
    rw [hw] at this
    exact this
  have three : ∀ (n v k : D), y = .tup [n, v, k] -> Pl n -> Pl v -> (nameB n = true -> valB v = true -> l__law_word_2 (dEnds Q E) (wdE s p y none) M) ->
      l__law_word_4 (dEnds Q E) (wdE s p y none) M := fun n v k e hn hv1 h2 => by
    subst e
    have hw : plainW 3 (madeR false (.tup [n, v, k])) = if nameB n = true then if valB v = true then none else some "value" else some "name" := by rfl
    refine ⟨_, rfl, n, rfl, n, rfl, hn, _, rfl, ?_⟩
    cases hnb : nameB n with
    | false => exact hq "name" (by rw [hw, hnb]; rfl)
    | true =>
      refine ⟨_, rfl, v, rfl, v, rfl, hv1, _, rfl, ?_⟩
      cases hvb : valB v with
      | false => exact hq "value" (by rw [hw, hnb, hvb]; rfl)
      | true => exact h2 hnb hvb
  cases hRy with
  | odd h1 h2 h3 h4 h5 =>
    have : (nt == "tuple") = false := by
      rw [beq_eq_false_iff_ne]
      rintro rfl
      cases y <;> first | exact absurd rfl (h3 _) | exact absurd hnt (by simp [tyName])
    rw [this]
    exact hq "row" (by rw [made_odd h3]; exact h2)
  | key h1 h2 h3 h4 =>
    rename_i n v l
    cases hnt
    refine ⟨_, rfl, .int 3, rfl, .bl false, rfl, false, rfl, ?_⟩
    refine three n v _ rfl h1.pl h2.pl fun hn hv1 => ?_
    have hw : plainW 3 (madeR false (.tup [n, v, .lst (l.map intD)])) = none := by
      show (if nameB n = true then if valB v = true then none else some "value" else some "name") = none
      rw [hn, hv1]; rfl
    have ei : itm (madeR false (.tup [n, v, .lst (l.map intD)])) 2 = bD l := by show bkD (.lst (l.map intD)) = _; rw [bk_key]
    have en : nmS (madeR false (.tup [n, v, .lst (l.map intD)])) = nmOf n := rfl
    have ek : keyOkB (bD l) = keyN l := by unfold keyOkB; rw [byN_bD h3]; rfl
    unfold keyW at q
    rw [hw] at q
    simp only [ei, en, ek, byN_bD h3] at q
    refine ⟨_, rfl, keyL l, rfl, keyL l, rfl, .inl ⟨l, rfl, _, rfl, ?_⟩⟩
    cases hk : keyN l with
    | false => have := q M (Keep.refl M); rw [hk] at this; exact this
    | true =>
      cases n with
      | str z =>
        have ez : D.str z = strD z.cps.toList := by show D.str z = D.str (S z.cps.toList); rw [<- S_of]
        rw [ez] at q ⊢
        refine wd_1 h3 hs hl hT fun M2 k2 => ?_
        have := q M2 k2
        rw [hk, if_pos rfl, List.any_map, List.map_map] at this
        have e5 : nmOf (strD z.cps.toList) = z.cps.toList := nm_strS _
        rw [e5] at this
        exact this
      | _ => cases hn
  | tup h1 h2 h3 h4 h5 =>
    rename_i n v k
    cases hnt
    refine ⟨_, rfl, .int 3, rfl, .bl false, rfl, false, rfl, ?_⟩
    refine three n v _ rfl h1.pl h2.pl fun hn hv1 => ?_
    have hw : plainW 3 (madeR false (.tup [n, v, k])) = none := by
      show (if nameB n = true then if valB v = true then none else some "value" else some "name") = none
      rw [hn, hv1]; rfl
    have ei : itm (madeR false (.tup [n, v, k])) 2 = k := by show bkD k = _; rw [bk_odd h4]
    obtain ⟨nk, hnk⟩ := h3.pl.ty
    refine ⟨_, rfl, k, rfl, k, rfl, .inr ⟨nk, by rw [h3.pl.vw]; exact hnk, ?_, _, rfl, ?_⟩⟩
    · rintro rfl
      cases k <;> first | exact absurd rfl (h4 _) | exact absurd hnk (by simp [tyName])
    · have := q M (Keep.refl M)
      unfold keyW at this
      rw [hw] at this
      simp only [ei] at this
      have e6 : keyOkB k = false := by unfold keyOkB; rw [h5]; rfl
      rw [e6] at this
      exact this
end LawProof
set_option Elab.async false
set_option linter.all false
set_option maxRecDepth 100000
set_option maxHeartbeats 4000000
set_option autoImplicit true
namespace LawProof
open PySem L2 DL FL
def sp__law_due : SpD := fun ds M Q _ => ∃ (s : Addr) (ys : List D) (t : Nat), ds = [.ref s] /\ M s = some (.lst ys) /\ ys.length <= 60 /\ t <= 50 /\ (∀ y ∈ ys, RowL t y) /\
  ∀ M', Keep M M' -> Q (dueD (keyJ (.lst (ys.map (madeR false))))) M'
abbrev N__law_due : List Str := ["_law_rows_so", "_law_place", "_law_word_here", "_law_known", "_law_row"]
def l__law_due_1 : DTS := (dIf (dTest (dBin (bInP true) (dCall sp__law_cut [] (dCons (dOp ixA (dVar 4) (dC (.int 2))) dNil)) (dVar 3))) (dRet (dTup (dCons (dVar 1) (dCons (dC (.str "parent")) dNil)))) dNext)
def l__law_due_2 : DTS := (dSeq (dForG (iEnG (dVar 0)) (gT 2 (gsCons (gN 1) (gsCons (gN 4) gsNil))) l__law_due_1)
    (dRet (dC .non)))
def l__law_due_3 : DTS := (dSeq (dAsg (dOp addD (dLcG (iSG (dVar 0)) (gN 4) dYes (dOp ixA (dVar 4) (dC (.int 2))) [4]) (dLst (dCons (dLst dNil) dNil))) (gN 3))
    l__law_due_2)
def l__law_due_4 : DTS := (dSeq (dAsg (dCall sp__law_word [] (dCons (dVar 0) (dCons (dVar 1) dNil))) (gN 2))
    (dIf (dTest (dOp notNonD (dVar 2) (dC .non))) (dRet (dTup (dCons (dVar 1) (dCons (dVar 2) dNil)))) dNext))
def l__law_due_5 : DTS := (dSeq (dFor (iR1 (dCB lenF (dCons (dVar 0) dNil))) (gN 1) l__law_due_4)
    l__law_due_3)
def t__law_due : DTS := (dSeq (dIf (dTest (dOp gtD (dCB lenF (dCons (dVar 0) dNil)) (dC (.int 60)))) (dRet (dTup (dCons (dUn negD (dC (.int 1))) (dCons (dC (.str "rows")) dNil)))) dNext)
    l__law_due_5)
theorem cutL_sub (l : List Nat) : ∀ x ∈ cutL l, x ∈ l := fun x hx => by
  unfold cutL at hx
  split at hx
  · exact List.mem_of_mem_take hx
  · cases hx
def lkey (y : D) : List Nat := byN (itm (madeR false y) 2)
theorem parB_in {l : List Nat} (Ls : List (List Nat)) (h8 : ∀ k ∈ Ls, N8 k) (hl : N8 l) (h : keyN l = true) : parB (Ls.map bA) l = !decide (cutL l ∈ Ls ++ [[]]) := by
  have h8c : N8 (cutL l) := fun x hx => hl x (cutL_sub l x hx)
  rw [parB_eq _ h, has_keys h8 h8c, Bool.eq_iff_iff]
  simp only [Bool.and_eq_true, decide_eq_true_eq, Bool.not_eq_true', decide_eq_false_iff_not, List.mem_append, List.mem_singleton, not_or]
  exact ⟨fun ⟨a, b⟩ => ⟨b, a⟩, fun ⟨a, b⟩ => ⟨b, a⟩⟩
theorem pure__law_due : ∀ ds M Q E, sp__law_due ds M Q E -> ds.length = 1 /\ t__law_due (dEnds Q E) (startD N__law_due ds) M := by
  rintro ds M Q E ⟨s, ys, t, rfl, hs, hl, ht, hR, q⟩
  refine ⟨rfl, ?_⟩
  have hlen : ∀ M', M' s = some (.lst ys) -> lenF [vw M' (.ref s)] = some (.int (ys.length : Nat)) := fun M' h => by rw [vw_ref h]; rfl
  refine ⟨_, rfl, _, hlen M hs, .bl (decide (60 < (ys.length : Int))), rfl, _, rfl, ?_⟩
  rw [decide_eq_false (by omega)]
  have ej : keyJ (.lst (ys.map (madeR false))) = match keyF (ys.map (madeR false)) with
    | some q => some ((q.1 : Int), q.2)
    | none => (parF (ys.map (madeR false))).map fun p => ((p : Int), "parent") := by
      unfold keyJ
      show (if 60 < (ys.map (madeR false)).length then _ else _) = _
      rw [if_neg (by rw [List.length_map]; omega)]
      try rfl
  rw [ej] at q
  have hgd : ∀ j, j < ys.length -> (ys.map (madeR false)).getD j .non = madeR false (ys.getD j .non) := fun j hj => by simp [List.getD, hj]
  refine ⟨_, rfl, _, hlen M hs, _, rfl, by omega, by omega, ?_⟩
  refine forD_run _ (fun done ρ M1 => (∃ o1 o2 o3 o4, ρ = [some (.ref s), o1, o2, o3, o4]) /\ Keep M M1 /\ ∀ j, j < done.length -> keyWAt (ys.map (madeR false)) j = none) ?_ ?_ ⟨⟨_, _, _, _, rfl⟩, Keep.refl M, fun j hj => by simp at hj⟩
  · rintro done y rest ρ M1 Nx e ⟨⟨o1, o2, o3, o4, rfl⟩, k1, hn⟩ nx
    obtain ⟨hlt, rfl⟩ := range_at e
    have hlt2 : done.length < ys.length := by simpa using hlt
    refine ⟨_, rfl, _, rfl, s, ys, done.length, t, rfl, k1 _ _ hs, hlt2, hl, ht, hR, fun j hj => ?_, fun M2 k2 => ?_⟩
    · have := keyW_none (hn j hj)
      rwa [hgd j (by omega)] at this
    · cases hw : keyWAt (ys.map (madeR false)) done.length with
      | none =>
        refine ⟨_, rfl, .bl false, rfl, false, rfl, nx _ _ ⟨⟨_, _, _, _, rfl⟩, k1.trans k2, fun j hj => ?_⟩⟩
        simp at hj
        by_cases hj2 : j < done.length
        · exact hn j hj2
        · rw [show j = done.length by omega]; exact hw
      | some w =>
        refine ⟨_, rfl, .bl true, rfl, true, rfl, _, rfl, _, rfl, by simp, ?_⟩
        have := q M2 (k1.trans k2)
        rw [keyF_some (by simpa using hlt2) hn hw] at this
        exact this
  · rintro ρ M1 ⟨⟨o1, o2, o3, o4, rfl⟩, k1, hn⟩
    have hn : ∀ j, j < ys.length -> keyWAt (ys.map (madeR false)) j = none := fun j hj => hn j (by simpa using hj)
    rw [keyF_none fun j hj => hn j (by simpa using hj)] at q
    simp only at q
    have hK : ∀ y ∈ ys, KRow (madeR false y) := fun y hy => by
      obtain ⟨j, hj, rfl⟩ := List.getElem_of_mem hy
      have := keyW_none (hn j hj)
      rw [hgd j hj] at this
      simpa [List.getD, hj] using this
    have hs1 := k1 _ _ hs
    refine ⟨_, rfl, ys, by rw [vw_ref hs1]; rfl, fun c hc => ?_⟩
    have hcs : s ≠ c := fun z => by rw [<- z, hs1] at hc; cases hc
    refine lcG_fn (fun z => some (keyL (lkey z))) ys (by omega) hc (fun M3 h3 => by rw [vw_ref (show M3 s = some (.lst ys) by rw [h3 s hcs]; exact hs1)]; rfl) (fun z hz M3 T _ hT => ?_) ?_
    · obtain ⟨n', v', l', rfl, _, _, _, _, e3⟩ := krowL (hR z hz) (hK z hz)
      refine ⟨_, rfl, keyL l', rfl, ?_⟩
      have := hT
      unfold lkey at this
      rw [e3] at this
      exact this
    have e3 : ys.filterMap (fun z => some (keyL (lkey z))) = (ys.map lkey).map keyL := by rw [List.filterMap_eq_map', List.map_map]; rfl
    rw [e3]
    have e4 : addD (vw M1 (.lst ((ys.map lkey).map keyL))) (vw M1 (.lst [.lst []])) = some (.lst ((ys.map lkey ++ [[]]).map keyL)) := by
      show addD (.lst _) (.lst _) = _
      rw [addD_lst (by simp; omega), List.map_append]
      rfl
    refine ⟨by simp, by simp, _, e4, ?_⟩
    refine ⟨_, rfl, ys, by rw [vw_ref hs1]; rfl, ?_⟩
    refine forG_run _ (fun done ρ M2 => (∃ o1 o2 o4, ρ = [some (.ref s), o1, o2, some (.lst ((ys.map lkey ++ [[]]).map keyL)), o4]) /\ Keep M M2 /\ ∀ j, j < done.length -> parB (kys (ys.map (madeR false))) (byN (itm ((ys.map (madeR false)).getD j .non) 2)) = false) ?_ ?_ ⟨⟨_, _, _, rfl⟩, k1, fun j hj => by simp at hj⟩
    · rintro done y rest ρ M2 Nx e ⟨⟨o1, o2, o4, rfl⟩, k2, hnp⟩ nx
      obtain ⟨hj, rfl⟩ := enum_at e
      refine ⟨by rw [vw_ref (k2 _ _ hs)]; rfl, ?_⟩
      have hyj : ys[done.length] = ys.getD done.length .non := by simp [List.getD, hj]
      have hym := List.getElem_mem hj
      obtain ⟨n', v', l', ey, e8, el, ek, _, e3⟩ := krowL (hR _ hym) (hK _ hym)
      rw [ey]
      refine ⟨_, .inl rfl, rfl, _, _, rfl, _, _, rfl, rfl, ?_⟩
      refine ⟨_, rfl, keyL l', rfl, l', rfl, by omega, fun M3 k3 => ⟨_, rfl, pyL (cutL l'), _, _, .inl rfl, toPyX_keyL _, toPyXs_keyL _, pyL_plain _, pyLs_plain _, by have := pyL_depth (cutL l'); omega, _, rfl, ?_⟩⟩
      have hkk : kys (ys.map (madeR false)) = (ys.map lkey).map bA := by unfold kys; rw [List.map_map, List.map_map]; rfl
      have hpar := parB_in (ys.map lkey) (fun k hk => by
        obtain ⟨z, _, rfl⟩ := List.mem_map.mp hk
        exact byN_8 _) e8 ek
      rw [<- hkk] at hpar
      have hlj : byN (itm ((ys.map (madeR false)).getD done.length .non) 2) = l' := by rw [hgd _ hj, <- hyj, e3]
      rw [Bool.true_bne, any_pyL, <- hpar]
      cases hp : parB (kys (ys.map (madeR false))) l' with
      | false =>
        refine nx _ _ ⟨⟨_, _, _, rfl⟩, k2.trans k3, fun j hj2 => ?_⟩
        simp at hj2
        by_cases hj3 : j < done.length
        · exact hnp j hj3
        · rw [show j = done.length by omega, hlj]; exact hp
      | true =>
        refine ⟨_, rfl, by simp, ?_⟩
        have := q M3 (k2.trans k3)
        rw [parF_some (by simpa using hj) hnp (by rw [hlj]; exact hp)] at this
        exact this
    · rintro ρ M2 ⟨⟨o1, o2, o4, rfl⟩, k2, hnp⟩
      refine ⟨by rw [vw_ref (k2 _ _ hs)]; rfl, ?_⟩
      have := q M2 k2
      rw [parF_none fun j hj => hnp j (by simpa using hj)] at this
      exact this
end LawProof
set_option Elab.async false
set_option linter.all false
set_option maxRecDepth 100000
set_option maxHeartbeats 4000000
set_option autoImplicit true
namespace LawProof
open PySem L2 DL FL
def sp__law_spoil : SpD := fun ds M Q _ => ∃ (r s : Addr) (ys : List D) (n t : Nat), ds = [.ref r, .ref s] /\ s ≠ r /\ Well M r n /\ n <= 1000000000000 /\ M s = some (.lst ys) /\ ys ≠ [] /\ ys.length <= 60 /\ (∀ y ∈ ys, RowL t y) /\ t <= 40 /\
  ∀ ys' M', ys'.length = ys.length -> (∀ y ∈ ys', RowL (t + 1) y) -> M' s = some (.lst ys') -> Well M' r (n + 20) -> Q .non M'
abbrev N__law_spoil : List Str := ["_law_well_here", "_law_rows_so", "_law_at", "_law_by", "_law_name", "_law_value_here", "_law_key", "_law_way", "_law_number", "_law_place"]
def l__law_spoil_1 : DTS := (dSeq (dAsg (dCall sp__law_draw [] (dCons (dVar 0) (dCons (dCB lenF (dCons (dVar 6) dNil)) dNil))) (gN 9))
    (dAsg (dTup (dCons (dVar 4) (dCons (dVar 5) (dCons (dOp addD (dOp addD (dSl slD (dVar 6) dNoPart (dPart (dVar 9))) (dLst (dCons (dVar 8) dNil))) (dSl slD (dVar 6) (dPart (dOp addD (dVar 9) (dC (.int 1)))) dNoPart)) dNil)))) (gSubL (dVar 1) (dVar 2))))
def l__law_spoil_2 : DTS := (dSeq (dIf (dTest (dOp eqD (dVar 7) (dC (.int 6)))) (dAsg (dTup (dCons (dVar 4) (dCons (dVar 5) (dCons (dCall sp__law_one [] (dCons (dVar 0) (dCons (dLst (dCons (dSl slD (dVar 6) dNoPart (dPart (dUn negD (dC (.int 1))))) (dCons (dSl slD (dVar 6) (dPart (dC (.int 1))) dNoPart) (dCons (dOp addD (dVar 6) (dLst (dCons (dVar 8) dNil))) (dCons (dOp addD (dVar 6) (dLst (dCons (dC (.int 2)) dNil))) (dCons (dOp addD (dVar 6) (dLst (dCons (dC (.int 3)) dNil))) dNil)))))) dNil))) dNil)))) (gSubL (dVar 1) (dVar 2))) dNext)
    (dIf (dAnd (dTest (dOp eqD (dVar 7) (dC (.int 7)))) (dTest (dOp neD (dVar 6) (dLst dNil)))) l__law_spoil_1 dNext))
def l__law_spoil_3 : DTS := (dSeq (dIf (dTest (dOp eqD (dVar 7) (dC (.int 5)))) (dAsg (dTup (dCons (dVar 4) (dCons (dVar 5) (dCons (dOp ixA (dOp ixA (dVar 1) (dVar 3)) (dC (.int 2))) dNil)))) (gSubL (dVar 1) (dVar 2))) dNext)
    l__law_spoil_2)
def l__law_spoil_4 : DTS := (dSeq (dIf (dTest (dOp eqD (dVar 7) (dC (.int 4)))) (dAsg (dTup (dCons (dOp ixA (dOp ixA (dVar 1) (dVar 3)) (dC (.int 0))) (dCons (dVar 5) (dCons (dVar 6) dNil)))) (gSubL (dVar 1) (dVar 2))) dNext)
    l__law_spoil_3)
def l__law_spoil_5 : DTS := (dSeq (dIf (dTest (dOp eqD (dVar 7) (dC (.int 3)))) (dAsg (dTup (dCons (dVar 4) (dCons (dVar 5) (dCons (dCall sp__law_one [] (dCons (dVar 0) (dCons (dLst (dCons (dC .non) (dCons (dC (.str "ab")) (dCons (dC (.int 5)) (dCons (dTup (dCons (dC (.int 2)) dNil)) (dCons (dC (.dK [] [])) (dCons (dLst dNil) (dCons (dC (.bl true)) dNil)))))))) dNil))) dNil)))) (gSubL (dVar 1) (dVar 2))) dNext)
    l__law_spoil_4)
def l__law_spoil_6 : DTS := (dSeq (dIf (dTest (dOp eqD (dVar 7) (dC (.int 2)))) (dAsg (dTup (dCons (dVar 4) (dCons (dCall sp__law_one [] (dCons (dVar 0) (dCons (dLst (dCons (dC .non) (dCons (dC (.bl true)) (dCons (dC (.str "1")) (dCons (dTup (dCons (dC (.int 1)) dNil)) (dCons (dC (.dK [] [])) (dCons (dOp addD (dOp powD (dC (.int 10)) (dC (.int 30))) (dC (.int 1))) (dCons (dOp subD (dOp subD (dC (.int 0)) (dOp powD (dC (.int 10)) (dC (.int 30)))) (dC (.int 1))) dNil)))))))) dNil))) (dCons (dVar 6) dNil)))) (gSubL (dVar 1) (dVar 2))) dNext)
    l__law_spoil_5)
def l__law_spoil_7 : DTS := (dSeq (dIf (dTest (dOp eqD (dVar 7) (dC (.int 1)))) (dAsg (dTup (dCons (dCall sp__law_one [] (dCons (dVar 0) (dCons (dLst (dCons (dC (.str "")) (dCons (dC (.str "A")) (dCons (dC (.str "1a")) (dCons (dC (.str "abcdefghi")) (dCons (dTup (dCons (dVar 4) dNil)) (dCons (dC .non) (dCons (dC (.int 5)) (dCons (dC (.bl true)) (dCons (dC (.str "a b")) dNil)))))))))) dNil))) (dCons (dVar 5) (dCons (dVar 6) dNil)))) (gSubL (dVar 1) (dVar 2))) dNext)
    l__law_spoil_6)
def l__law_spoil_8 : DTS := (dSeq (dIf (dTest (dOp eqD (dVar 7) (dC (.int 0)))) (dAsg (dCall sp__law_one [] (dCons (dVar 0) (dCons (dLst (dCons (dC .non) (dCons (dC (.str "row")) (dCons (dC (.int 5)) (dCons (dC (.dK [] [])) (dCons (dLst dNil) (dCons (dLst (dCons (dVar 4) (dCons (dVar 5) dNil))) (dCons (dLst (dCons (dVar 4) (dCons (dVar 5) (dCons (dVar 6) (dCons (dC (.int 0)) dNil))))) dNil)))))))) dNil))) (gSubL (dVar 1) (dVar 2))) dNext)
    l__law_spoil_7)
def l__law_spoil_9 : DTS := (dSeq (dPar 7 8 (dCons (dCall sp__law_draw [] (dCons (dVar 0) (dCons (dC (.int 8)) dNil))) (dCons (dCall sp__law_draw [] (dCons (dVar 0) (dCons (dC (.int 256)) dNil))) dNil)))
    l__law_spoil_8)
def l__law_spoil_10 : DTS := (dSeq (dAsg (dOp ixA (dVar 1) (dVar 2)) (gT 3 (gsCons (gN 4) (gsCons (gN 5) (gsCons (gN 6) gsNil)))))
    l__law_spoil_9)
def l__law_spoil_11 : DTS := (dSeq (dIf (dOr (dNot (dTest (dCB isiF (dCons (dOp ixA (dVar 1) (dVar 2)) (dCons (dC (.ty "tuple")) dNil))))) (dOr (dNot (dTest (dCB isiF (dCons (dOp ixA (dVar 1) (dVar 3)) (dCons (dC (.ty "tuple")) dNil))))) (dNot (dTest (dCB isiF (dCons (dOp ixA (dOp ixA (dVar 1) (dVar 2)) (dC (.int 2))) (dCons (dC (.ty "list")) dNil))))))) dRetN dNext)
    l__law_spoil_10)
def t__law_spoil : DTS := (dSeq (dPar 2 3 (dCons (dCall sp__law_draw [] (dCons (dVar 0) (dCons (dCB lenF (dCons (dVar 1) dNil)) dNil))) (dCons (dCall sp__law_draw [] (dCons (dVar 0) (dCons (dCB lenF (dCons (dVar 1) dNil)) dNil))) dNil)))
    l__law_spoil_11)
theorem one_of {M : Mem} {r : Addr} {n : Nat} {Q : DV} {E : DEK} {xs : List D} (hw : Well M r n) (hn : n <= 10000000000000) (h0 : xs ≠ []) (hl : xs.length <= 1000) (q : ∀ x M', x ∈ xs -> WTo M M' r (n + 1) -> Q x M') : sp__law_one [.ref r, .lst xs] M Q E :=
  ⟨r, _, xs, n, rfl, hw, by omega, by simp, by simp, .inl ⟨rfl, by omega⟩, h0, q⟩
theorem way_do {E : DEnds} {ρ : DL.Env} {M : Mem} {i : Nat} {way k : Int} {b u : DTS} (h8 : ρ[i]? = some (some (.int way))) (ha : way = k -> b { E with nx := u E } ρ M) (hb : way ≠ k -> u E ρ M) : dSeq (dIf (dTest (dOp eqD (dVar i) (dC (.int k)))) b dNext) u E ρ M := by
  refine ⟨_, h8, .bl (way == k), rfl, _, rfl, ?_⟩
  by_cases e : way = k
  · subst e
    rw [beq_self_eq_true]
    exact ha rfl
  · rw [beq_false_of_ne e]
    exact hb e
theorem shy_keyL {l : List Nat} (h8 : N8 l) (hl : l.length <= 345) : SHY 1 18000 (keyL l) := by
  have h : ∀ d ∈ l.map intD, SHY 0 50 d := fun d hd => by
    obtain ⟨i, hi, rfl⟩ := List.mem_map.mp hd
    have := h8 i hi
    have p40 : (10 : Int) ^ 40 = 10000000000000000000000000000000000000000 := by decide
    exact shy_int (by rw [p40]; omega) (by rw [p40]; omega)
  have h2 : (l.map intD).length = l.length := by simp
  unfold keyL
  generalize l.map intD = xs at h h2
  exact (shy_lst h (by omega)).mono (by omega) (by omega)
theorem pl_keyL' (l : List Nat) : Pl (keyL l) := pl_of rfl (by simp [keyL])
theorem odd_flat {u : Nat} {y : D} (h : Pl y) (h2 : seqs y = none) (h3 : SHY 1 10100 y) (hne : ∀ l, y ≠ .tup l) : RowL u y :=
  .odd ⟨h, fun l e => by rw [h2] at e; cases e⟩ (by unfold plainW; rw [h2]) hne (by unfold itm; rw [h2]; rfl) (h3.mono (by omega) (by omega))
theorem odd_lst {u : Nat} {xs : List D} (hu : u <= 50) (hx : ∀ c ∈ xs, Pl c /\ SHY (u + 2) 18000 c) (hl : xs.length <= 4) (h3 : xs.length ≠ 3) (hb : byN (xs.getD 2 .non) = []) : RowL u (.lst xs) := by
  have hs : xs.length * 18000 <= 72000 := by omega
  refine .odd ⟨pl_of rfl (by simp), fun l e c hc => by cases e; exact (hx c hc).1⟩ ?_ (fun l e => by cases e) hb ((shy_lst (fun c hc => (hx c hc).2) (by omega)).mono (by omega) (by omega))
  show (if xs.length ≠ 3 then some "row" else _) = _
  rw [if_pos h3]
abbrev soE (r s : Addr) (a b : Nat) (nm va : D) (key : List Nat) (way num : Int) (o9 : Option D) : DL.Env := [some (.ref r), some (.ref s), some (.int (a : Int)), some (.int (b : Int)), some nm, some va, some (keyL key), some (.int way), some (.int num), o9]
structure SoOk (u : Nat) (r s : Addr) (ys : List D) (a b : Nat) (nm va : D) (key : List Nat) (num : Nat) (W : Nat) : Prop where
  ub : u <= 45
  sr : s ≠ r
  al : a < ys.length
  wl : W <= 2000000000000
  len : ys.length <= 60
  nmC : CelY u nm
  nmW : CelY u (.tup [nm])
  vaC : CelY u va
  k8 : N8 key
  kl : key.length + 1 <= 300 + u
  nu : num < 256
  byT : ∃ l0 l1 l2, ys[b]? = some (.tup [l0, l1, l2]) /\ CelY u l0 /\ ∀ n v, CelY u n -> CelY u v -> RowL u (.tup [n, v, l2])
structure SoSt (u : Nat) (r s : Addr) (ys : List D) (W : Nat) (way j : Int) (M : Mem) (zs : List D) : Prop where
  ms : M s = some (.lst zs)
  len : zs.length = ys.length
  row : ∀ y ∈ zs, RowL u y
  well : Well M r (W + 1)
  first : j <= way -> zs = ys /\ Well M r W
section
variable {Q : DV} {E : DEK} {r s : Addr} {ys zs : List D} {a b : Nat} {nm va : D} {key : List Nat} {way : Int} {u W num : Nat} {M : Mem} {o9 : Option D}
abbrev SoQ (u : Nat) (r s : Addr) (ys : List D) (W : Nat) (Q : DV) : Prop := ∀ zs M', zs.length = ys.length -> (∀ y ∈ zs, RowL u y) -> M' s = some (.lst zs) -> Well M' r (W + 1) -> Q .non M'
theorem SoOk.krow (ok : SoOk u r s ys a b nm va key num W) {n v : D} (hn : CelY u n) (hv : CelY u v) : RowL u (.tup [n, v, keyL key]) := .key hn hv ok.k8 (by have := ok.kl; omega)
theorem SoSt.put {j k : Int} {y : D} (h : SoSt u r s ys W way j M zs) (hs : s ≠ r) (hy : RowL u y) (hk : way < k) (i : Nat) : SoSt u r s ys W way k (updM M s (.lst (zs.set i y))) (zs.set i y) := by
  refine ⟨updM_same, by rw [List.length_set]; exact h.len, fun z hz => ?_, ?_, fun h => by omega⟩
  · rcases List.mem_or_eq_of_mem_set hz with hz | rfl
    · exact h.row z hz
    · exact hy
  · obtain ⟨x, y, z, h1, h2⟩ := h.well
    exact ⟨x, y, z, by rw [updM_ne (Ne.symm hs)]; exact h1, h2⟩
theorem SoSt.skip {j k : Int} (h : SoSt u r s ys W way j M zs) (hk : k <= way -> j <= way) : SoSt u r s ys W way k M zs := ⟨h.ms, h.len, h.row, h.well, fun z => h.first (hk z)⟩
theorem SoSt.one {j k : Int} {xs : List D} (ok : SoOk u r s ys a b nm va key num W) (h : SoSt u r s ys W way j M zs) (hj : j <= way) (hk : way < k) (h0 : xs ≠ []) (hl : xs.length <= 1000) {Q' : DV} {E' : DEK} (q : ∀ x M', x ∈ xs -> SoSt u r s ys W way k M' zs -> Q' x M') : sp__law_one [.ref r, .lst xs] M Q' E' := by
  refine one_of (h.first hj).2 (by have := ok.wl; omega) h0 hl fun x M' hx hto => q x M' hx ⟨hto.keep1 h.ms ok.sr, h.len, h.row, hto.ok, fun z => by omega⟩
theorem keyL_app (l m : List Nat) (h : l.length + m.length <= 1000) : addD (keyL l) (keyL m) = some (keyL (l ++ m)) := by
  unfold keyL
  rw [addD_lst (by simp; omega), List.map_append]
theorem so_1 (ok : SoOk u r s ys a b nm va key num W) (st : SoSt u r s ys W way 7 M zs) (q : SoQ u r s ys W Q) :
    (dIf (dAnd (dTest (dOp eqD (dVar 7) (dC (.int 7)))) (dTest (dOp neD (dVar 6) (dLst dNil)))) l__law_spoil_1 dNext) (dEnds Q E) (soE r s a b nm va key way num o9) M := by
  have h8 := ok.k8
  have hkl := ok.kl
  have hub := ok.ub
  have hwl := ok.wl
  have p30 : (10 : Int) ^ 30 = 1000000000000000000000000000000 := by decide
  refine ⟨_, rfl, .bl (way == 7), rfl, _, rfl, ?_⟩
  by_cases e : way = 7
  · subst e
    rw [beq_self_eq_true]
    obtain ⟨rfl, hw⟩ := st.first (by omega)
    refine ⟨_, rfl, by simp, .bl (!key.isEmpty), ?_, _, rfl, ?_⟩
    · show neD (.lst (key.map intD)) (.lst []) = _
      rw [neD_lst' (m := 0) (pl_ints key) (by simp), eqTs_nilr]
      simp
    cases hke : key.isEmpty with
    | true => exact q _ _ st.len st.row st.ms st.well
    | false =>
      have hkp : 0 < key.length := by cases key with
        | nil => cases hke
        | cons => simp
      refine ⟨_, rfl, _, rfl, .int (key.length : Nat), by show lenF [keyL key] = _; unfold keyL; show some (D.int ((key.map intD).length : Nat)) = _; rw [List.length_map], r, (key.length : Nat), W, rfl, hw, by omega, by omega, by rw [p30]; omega, fun i M1 i0 i1 h1 => ?_⟩
      obtain ⟨i, rfl⟩ := Int.eq_ofNat_of_zero_le i0
      have hs1 := h1.keep1 st.ms ok.sr
      have hil : i < key.length := by omega
      have hto : slD (vw M1 (keyL key)) none (some (i : Int)) = some (keyL (key.take i)) := by
        show some (D.lst (DL.cutD _ none (some ((i : Nat) : Int)))) = _
        rw [cutD_to, <- List.map_take]; rfl
      have hfr : slD (vw M1 (keyL key)) (some ((i : Int) + 1)) none = some (keyL (key.drop (i + 1))) := by
        show some (D.lst (DL.cutD _ (some ((i : Int) + 1)) none)) = _
        rw [show ((i : Int) + 1) = ((i + 1 : Nat) : Int) by omega, cutD_from, <- List.map_drop]; rfl
      have ha1 : addD (vw M1 (keyL (key.take i))) (vw M1 (.lst [.int (num : Int)])) = some (keyL (key.take i ++ [num])) := keyL_app (key.take i) [num] (by simp; omega)
      have ha2 : addD (vw M1 (keyL (key.take i ++ [num]))) (vw M1 (keyL (key.drop (i + 1)))) = some (keyL (key.take i ++ [num] ++ key.drop (i + 1))) := keyL_app _ _ (by simp; omega)
      have hrow : RowL u (.tup [nm, va, keyL (key.take i ++ [num] ++ key.drop (i + 1))]) := .key ok.nmC ok.vaC (N8.app.mpr ⟨N8.app.mpr ⟨h8.take i, N8.one ok.nu⟩, h8.drop _⟩) (by simp; omega)
      have st1 : SoSt u r s zs W 6 7 M1 zs := ⟨hs1, rfl, st.row, h1.ok, fun z => by omega⟩
      have st2 := st1.put (k := 8) ok.sr hrow (by omega) a
      exact ⟨_, rfl, _, rfl, _, rfl, _, rfl, _, rfl, _, hto, _, rfl, by simp, _, ha1, _, rfl, _, rfl, .int ((i : Int) + 1), rfl, _, rfl, _, hfr, _, ha2, by simp, _, rfl, _, rfl, s, zs, _, a, rfl, hs1, rfl, ixN_nat ok.al, q _ _ st2.len st2.row st2.ms st2.well⟩
  · rw [beq_false_of_ne e]
    exact q _ _ st.len st.row st.ms st.well
theorem so_2 (ok : SoOk u r s ys a b nm va key num W) (st : SoSt u r s ys W way 6 M zs) (q : SoQ u r s ys W Q) :
    l__law_spoil_2 (dEnds Q E) (soE r s a b nm va key way num o9) M := by
  have h8 := ok.k8
  have hkl := ok.kl
  have hub := ok.ub
  have row : ∀ l : List Nat, N8 l -> l.length <= 300 + u -> RowL u (.tup [nm, va, keyL l]) := fun l h1 h2 => .key ok.nmC ok.vaC h1 h2
  refine way_do rfl (fun e => ?_) (fun e => ?_)
  · subst e
    have e1 : ∀ M', slD (vw M' (keyL key)) none (some (-1)) = some (keyL (key.take (key.length - 1))) := fun M' => by
      show some (D.lst (DL.cutD _ none (some (-1)))) = _
      have : DL.cutD (key.map intD) none (some (-1)) = (key.map intD).take (key.length - 1) := by
        unfold DL.cutD HT.sIx
        simp only [show ((-1 : Int) < 0) = True by simp, if_true]
        simp
        omega
      rw [this, <- List.map_take]
      rfl
    have e2 : ∀ M', slD (vw M' (keyL key)) (some 1) none = some (keyL (key.drop 1)) := fun M' => by
      show some (D.lst (DL.cutD _ (some ((1 : Nat) : Int)) none)) = _
      rw [cutD_from, <- List.map_drop]
      rfl
    have e3 : ∀ M', addD (vw M' (keyL key)) (vw M' (.lst [.int (num : Int)])) = some (keyL (key ++ [num])) := fun M' => keyL_app key [num] (by simp; omega)
    have e4 : ∀ M', addD (vw M' (keyL key)) (vw M' (.lst [.int 2])) = some (keyL (key ++ [2])) := fun M' => keyL_app key [2] (by simp; omega)
    have e5 : ∀ M', addD (vw M' (keyL key)) (vw M' (.lst [.int 3])) = some (keyL (key ++ [3])) := fun M' => keyL_app key [3] (by simp; omega)
    refine ⟨_, rfl, _, rfl, _, rfl, _, rfl, .int (-1), rfl, -1, rfl, _, e1 M, _, rfl, 1, rfl, _, e2 M, _, rfl, _, rfl, by simp, _, e3 M, _, rfl, by simp, _, e4 M, _, rfl, by simp, _, e5 M, by simp, ?_⟩
    refine st.one (E' := fun _ _ _ _ => False) (k := 7) ok (by omega) (by omega) (by simp) (by simp) fun y M1 hy st1 => ⟨by simp, _, rfl, _, rfl, s, zs, _, a, rfl, st1.ms, rfl, ixN_nat (by rw [st1.len]; exact ok.al), ?_⟩
    refine so_1 ok (st1.put ok.sr ?_ (by omega) a) q
    simp only [List.mem_cons, List.not_mem_nil, or_false] at hy
    rcases hy with rfl | rfl | rfl | rfl | rfl
    · exact row _ (h8.take _) (by simp; omega)
    · exact row _ (h8.drop _) (by simp; omega)
    · exact row _ (N8.app.mpr ⟨h8, N8.one ok.nu⟩) (by simp; omega)
    · exact row _ (N8.app.mpr ⟨h8, N8.one (by omega)⟩) (by simp; omega)
    · exact row _ (N8.app.mpr ⟨h8, N8.one (by omega)⟩) (by simp; omega)
  · exact so_1 ok (st.skip (by omega)) q
theorem so_3 (ok : SoOk u r s ys a b nm va key num W) (st : SoSt u r s ys W way 5 M zs) (q : SoQ u r s ys W Q) :
    l__law_spoil_3 (dEnds Q E) (soE r s a b nm va key way num o9) M := by
  obtain ⟨l0, l1, l2, hb, c0, c2⟩ := ok.byT
  refine way_do rfl (fun e => ?_) (fun e => so_2 ok (st.skip (by omega)) q)
  obtain ⟨rfl, _⟩ := st.first (by omega)
  have ixb : ixA (vw M (.ref s)) (vw M (.int (b : Int))) = some (.tup [l0, l1, l2]) := by
    rw [vw_ref st.ms]
    exact atI_get' hb
  refine ⟨_, rfl, _, rfl, _, rfl, _, rfl, _, ixb, l2, (seqs_ix (d := .tup [l0, l1, l2]) rfl 2).trans atI_2, by simp, _, rfl, _, rfl, s, zs, _, a, rfl, st.ms, rfl, ixN_nat ok.al, ?_⟩
  exact so_2 ok (st.put ok.sr (c2 _ _ ok.nmC ok.vaC) (by omega) a) q
theorem so_4 (ok : SoOk u r s ys a b nm va key num W) (st : SoSt u r s ys W way 4 M zs) (q : SoQ u r s ys W Q) :
    l__law_spoil_4 (dEnds Q E) (soE r s a b nm va key way num o9) M := by
  obtain ⟨l0, l1, l2, hb, c0, c2⟩ := ok.byT
  refine way_do rfl (fun e => ?_) (fun e => so_3 ok (st.skip (by omega)) q)
  obtain ⟨rfl, _⟩ := st.first (by omega)
  have ixb : ixA (vw M (.ref s)) (vw M (.int (b : Int))) = some (.tup [l0, l1, l2]) := by
    rw [vw_ref st.ms]
    exact atI_get' hb
  refine ⟨_, rfl, _, rfl, _, ixb, _, (seqs_ix (d := .tup [l0, l1, l2]) rfl 0).trans atI_0, _, rfl, _, rfl, by simp, _, rfl, _, rfl, s, zs, _, a, rfl, st.ms, rfl, ixN_nat ok.al, ?_⟩
  exact so_3 ok (st.put ok.sr (ok.krow c0 ok.vaC) (by omega) a) q
theorem so_5 (ok : SoOk u r s ys a b nm va key num W) (st : SoSt u r s ys W way 3 M zs) (q : SoQ u r s ys W Q) :
    l__law_spoil_5 (dEnds Q E) (soE r s a b nm va key way num o9) M := by
  refine way_do rfl (fun e => ?_) (fun e => so_4 ok (st.skip (by omega)) q)
  refine ⟨_, rfl, _, rfl, _, rfl, by simp, by simp, by simp, ?_⟩
  refine st.one (E' := fun _ _ _ _ => False) (k := 4) ok (by omega) (by omega) (by simp) (by simp) fun y M1 hy st1 => ⟨by simp, _, rfl, _, rfl, s, zs, _, a, rfl, st1.ms, rfl, ixN_nat (by rw [st1.len]; exact ok.al), ?_⟩
  refine so_4 ok (st1.put ok.sr ?_ (by omega) a) q
  simp only [List.mem_cons, List.not_mem_nil, or_false] at hy
  rcases hy with rfl | rfl | rfl | rfl | rfl | rfl | rfl
  · exact .tup ok.nmC ok.vaC cy_non (by simp) rfl
  · exact .tup ok.nmC ok.vaC (cy_lit _ (by decide +kernel) (by decide +kernel)) (by simp) rfl
  · exact .tup ok.nmC ok.vaC (cy_int (by decide) (by decide)) (by simp) rfl
  · exact .tup ok.nmC ok.vaC (cy_flat (pl_of rfl (by simp)) ((shy_tup (k := 0) (n := 50) (by simp; exact shy_int (by decide) (by decide)) (by simp)).mono (by omega) (by simp))) (by simp) rfl
  · exact .tup ok.nmC ok.vaC cy_dict (by simp) rfl
  · exact .key (l := []) ok.nmC ok.vaC N8.nil (by simp)
  · exact .tup ok.nmC ok.vaC (cy_bl _) (by simp) rfl
theorem so_6 (ok : SoOk u r s ys a b nm va key num W) (st : SoSt u r s ys W way 2 M zs) (q : SoQ u r s ys W Q) :
    l__law_spoil_6 (dEnds Q E) (soE r s a b nm va key way num o9) M := by
  have hp30 : ∀ M', powD (vw M' (.int 10)) (vw M' (.int 30)) = some (.int 1000000000000000000000000000000) := fun M' => by simp
  refine way_do rfl (fun e => ?_) (fun e => so_5 ok (st.skip (by omega)) q)
  refine ⟨_, rfl, _, rfl, by simp, _, hp30 M, .int (1000000000000000000000000000000 + 1), rfl, _, hp30 M, .int (0 - 1000000000000000000000000000000), rfl, .int (0 - 1000000000000000000000000000000 - 1), rfl, by simp, ?_⟩
  refine st.one (E' := fun _ _ _ _ => False) (k := 3) ok (by omega) (by omega) (by simp) (by simp) fun y M1 hy st1 => ⟨_, rfl, by simp, _, rfl, _, rfl, s, zs, _, a, rfl, st1.ms, rfl, ixN_nat (by rw [st1.len]; exact ok.al), ?_⟩
  refine so_5 ok (st1.put ok.sr (ok.krow ok.nmC ?_) (by omega) a) q
  simp only [List.mem_cons, List.not_mem_nil, or_false] at hy
  rcases hy with rfl | rfl | rfl | rfl | rfl | rfl | rfl
  · exact cy_non
  · exact cy_bl _
  · exact cy_lit _ (by decide +kernel) (by decide +kernel)
  · exact cy_flat (pl_of rfl (by simp)) ((shy_tup (k := 0) (n := 50) (by simp; exact shy_int (by decide) (by decide)) (by simp)).mono (by omega) (by simp))
  · exact cy_dict
  · exact cy_int (by decide) (by decide)
  · exact cy_int (by decide) (by decide)
theorem so_7 (ok : SoOk u r s ys a b nm va key num W) (st : SoSt u r s ys W way 1 M zs) (q : SoQ u r s ys W Q) :
    l__law_spoil_7 (dEnds Q E) (soE r s a b nm va key way num o9) M := by
  refine way_do rfl (fun e => ?_) (fun e => so_6 ok (st.skip (by omega)) q)
  refine ⟨_, rfl, _, rfl, by simp, by simp, ?_⟩
  refine st.one (E' := fun _ _ _ _ => False) (k := 2) ok (by omega) (by omega) (by simp) (by simp) fun y M1 hy st1 => ⟨_, rfl, _, rfl, by simp, _, rfl, _, rfl, s, zs, _, a, rfl, st1.ms, rfl, ixN_nat (by rw [st1.len]; exact ok.al), ?_⟩
  refine so_6 ok (st1.put ok.sr (ok.krow ?_ ok.vaC) (by omega) a) q
  simp only [List.mem_cons, List.not_mem_nil, or_false] at hy
  rcases hy with rfl | rfl | rfl | rfl | rfl | rfl | rfl | rfl | rfl
  · exact cy_lit _ (by decide +kernel) (by decide +kernel)
  · exact cy_lit _ (by decide +kernel) (by decide +kernel)
  · exact cy_lit _ (by decide +kernel) (by decide +kernel)
  · exact cy_lit _ (by decide +kernel) (by decide +kernel)
  · exact ok.nmW
  · exact cy_non
  · exact cy_int (by decide) (by decide)
  · exact cy_bl _
  · exact cy_lit _ (by decide +kernel) (by decide +kernel)
theorem so_8 (ok : SoOk u r s ys a b nm va key num W) (st : SoSt u r s ys W way 0 M zs) (q : SoQ u r s ys W Q) :
    l__law_spoil_8 (dEnds Q E) (soE r s a b nm va key way num o9) M := by
  have hkl := ok.kl
  have hub := ok.ub
  have cn : Pl nm /\ SHY (u + 2) 18000 nm := ⟨ok.nmC.pl, ok.nmC.sh.mono (by omega) (by omega)⟩
  have cv : Pl va /\ SHY (u + 2) 18000 va := ⟨ok.vaC.pl, ok.vaC.sh.mono (by omega) (by omega)⟩
  have ck : Pl (keyL key) /\ SHY (u + 2) 18000 (keyL key) := ⟨pl_keyL' _, (shy_keyL ok.k8 (by omega)).mono (by omega) (by omega)⟩
  refine way_do rfl (fun e => ?_) (fun e => so_7 ok (st.skip (by omega)) q)
  refine ⟨_, rfl, by simp, _, rfl, _, rfl, by simp, _, rfl, _, rfl, _, rfl, by simp, by simp, ?_⟩
  refine st.one (E' := fun _ _ _ _ => False) (k := 1) ok (by omega) (by omega) (by simp) (by simp) fun y M1 hy st1 => ⟨_, rfl, _, rfl, s, zs, _, a, rfl, st1.ms, rfl, ixN_nat (by rw [st1.len]; exact ok.al), ?_⟩
  refine so_7 ok (st1.put ok.sr ?_ (by omega) a) q
  simp only [List.mem_cons, List.not_mem_nil, or_false] at hy
  rcases hy with rfl | rfl | rfl | rfl | rfl | rfl | rfl
  · exact odd_flat (cy_non (t := 0)).pl rfl (shy_non.mono (by omega) (by omega)) (by simp)
  · exact odd_flat (pl_lit _ (by decide +kernel) (by decide +kernel)) rfl ((shy_str (by decide +kernel) (by decide +kernel)).mono (by omega) (by omega)) (by simp)
  · exact odd_flat (pl_of rfl (by simp)) rfl ((shy_int (by decide) (by decide)).mono (by omega) (by omega)) (by simp)
  · exact odd_flat (cy_dict (t := 0)).pl rfl (shy_dict.mono (by omega) (by omega)) (by simp)
  · exact odd_lst (by omega) (by simp) (by simp) (by simp) rfl
  · exact odd_lst (by omega) (xs := [nm, va]) (fun c hc => by
      rcases List.mem_cons.mp hc with rfl | hc
      · exact cn
      · rw [List.mem_singleton.mp hc]; exact cv) (by simp) (by simp) rfl
  · exact odd_lst (by omega) (xs := [nm, va, keyL key, .int 0]) (fun c hc => by
      rcases List.mem_cons.mp hc with rfl | hc
      · exact cn
      · rcases List.mem_cons.mp hc with rfl | hc
        · exact cv
        · rcases List.mem_cons.mp hc with rfl | hc
          · exact ck
          · rw [List.mem_singleton.mp hc]; exact ⟨pl_of rfl (by simp), (shy_int (by decide) (by decide)).mono (by omega) (by omega)⟩) (by simp) (by simp) rfl
end
theorem pure__law_spoil : ∀ ds M Q E, sp__law_spoil ds M Q E -> ds.length = 2 /\ t__law_spoil (dEnds Q E) (startD N__law_spoil ds) M := by
  rintro ds M Q E ⟨r, s, ys, n, t, rfl, hsr, hw, hn, hs, hne, h60, hrow, ht, q⟩
  refine ⟨rfl, ?_⟩
  have hpos : 0 < ys.length := List.length_pos_iff.mpr hne
  have p30 : (10 : Int) ^ 30 = 1000000000000000000000000000000 := by decide
  have len : ∀ M', M' s = some (.lst ys) -> lenF [vw M' (.ref s)] = some (.int (ys.length : Nat)) := fun M' h => by rw [vw_ref h]; rfl
  refine ⟨_, rfl, _, rfl, _, len M hs, r, _, _, rfl, hw, by omega, by omega, by rw [p30]; omega, fun a M1 a0 a1 h1 => ?_⟩
  obtain ⟨a, rfl⟩ := Int.eq_ofNat_of_zero_le a0
  have hs1 := h1.keep1 hs hsr
  refine ⟨_, rfl, _, rfl, _, len M1 hs1, r, _, _, rfl, h1.ok, by omega, by omega, by rw [p30]; omega, fun b M2 b0 b1 h2 => ?_⟩
  obtain ⟨b, rfl⟩ := Int.eq_ofNat_of_zero_le b0
  have hs2 := h2.keep1 hs1 hsr
  have ha : a < ys.length := by omega
  have hb : b < ys.length := by omega
  have ix : ∀ M' (k : Nat) (hk : k < ys.length), M' s = some (.lst ys) -> ixA (vw M' (.ref s)) (vw M' (.int (k : Int))) = some ys[k] := fun M' k hk h => by
    rw [vw_ref h]
    exact atI_get' (List.getElem?_eq_getElem hk)
  have stop : ∀ M', M' s = some (.lst ys) -> Well M' r (n + 20) -> Q .non M' := fun M' h w => q ys M' rfl (fun y hy => (hrow y hy).mono (by omega)) h w
  have hra := hrow ys[a] (List.getElem_mem ha)
  have hrb := hrow ys[b] (List.getElem_mem hb)
  have key3 : ∀ {y : D}, RowL t y -> ∀ ty, tyName y = some ty -> (ty = "tuple" /\ ∃ l0 l1 l2, y = .tup [l0, l1, l2] /\ CelY t l0 /\ CelY t l1 /\ (∀ n v, CelY (t + 1) n -> CelY (t + 1) v -> RowL (t + 1) (.tup [n, v, l2])) /\ ((∃ l, l2 = keyL l /\ N8 l /\ l.length <= 300 + t) \/ (∃ k, tyName l2 = some k /\ k ≠ "list"))) \/ ty ≠ "tuple" := fun {y} h ty hty => by
    cases h with
    | key h1 h2 h3 h4 => cases hty; exact .inl ⟨rfl, _, _, _, rfl, h1, h2, fun n v hn hv => .key hn hv h3 (by omega), .inl ⟨_, rfl, h3, h4⟩⟩
    | tup h1 h2 h3 h4 h5 =>
      cases hty
      rename_i k
      obtain ⟨nk, hnk⟩ := h3.pl.ty
      refine .inl ⟨rfl, _, _, _, rfl, h1, h2, fun n v hn hv => .tup hn hv (h3.mono (by omega)) h4 h5, .inr ⟨nk, hnk, ?_⟩⟩
      rintro rfl
      cases k <;> first | exact absurd rfl (h4 _) | exact absurd hnk (by simp [tyName])
    | odd h1 h2 h3 h4 h5 =>
      refine .inr ?_
      rintro rfl
      cases y <;> first | exact absurd rfl (h3 _) | exact absurd hty (by simp [tyName])
  obtain ⟨na, hna⟩ := hra.pl.ty
  obtain ⟨nb, hnb⟩ := hrb.pl.ty
  refine ⟨_, _, rfl, ?_⟩
  refine ⟨_, rfl, _, rfl, _, ix M2 a ha hs2, _, isi_tup (d := vw M2 ys[a]) (by rw [hra.pl.vw]; exact hna), _, rfl, ?_⟩
  rcases key3 hra na hna with ⟨rfl, a0, a1, a2, ela, ca0, ca1, _, hka⟩ | ta
  case inr =>
    rw [beq_false_of_ne ta]
    exact stop M2 hs2 (h2.ok.mono (by omega))
  refine ⟨_, rfl, _, rfl, _, ix M2 b hb hs2, _, isi_tup (d := vw M2 ys[b]) (by rw [hrb.pl.vw]; exact hnb), _, rfl, ?_⟩
  rcases key3 hrb nb hnb with ⟨rfl, b0', b1', b2, elb, cb0, cb1, hb2, _⟩ | tb
  case inr =>
    rw [beq_false_of_ne tb]
    exact stop M2 hs2 (h2.ok.mono (by omega))
  refine ⟨_, rfl, _, rfl, _, ix M2 a ha hs2, ?_⟩
  rw [ela]
  refine ⟨a2, (seqs_ix (d := .tup [a0, a1, a2]) rfl 2).trans atI_2, ?_⟩
  rcases hka with ⟨key, rfl, hk8, hkl⟩ | ⟨k, hk, hkn⟩
  case inr =>
    refine ⟨_, isi_lst (by rw [show vw M2 a2 = a2 by cases a2 <;> first | rfl | cases hk]; exact hk), _, rfl, ?_⟩
    rw [beq_false_of_ne hkn]
    exact stop M2 hs2 (h2.ok.mono (by omega))
  refine ⟨_, isi_lst (n := "list") rfl, _, rfl, ?_⟩
  refine ⟨_, rfl, _, rfl, _, ix M2 a ha hs2, ?_⟩
  rw [ela]
  refine ⟨_, .inl rfl, rfl, _, _, rfl, _, _, rfl, _, _, rfl, rfl, ?_⟩
  refine ⟨_, rfl, r, 8, _, rfl, h2.ok, by omega, by decide, by decide, fun way M3 w0 w1 h3 => ?_⟩
  have hs3 := h3.keep1 hs2 hsr
  refine ⟨_, rfl, r, 256, _, rfl, h3.ok, by omega, by decide, by decide, fun num M4 n0 n1 h4 => ?_⟩
  obtain ⟨num, rfl⟩ := Int.eq_ofNat_of_zero_le n0
  have hs4 := h4.keep1 hs3 hsr
  refine ⟨_, _, rfl, ?_⟩
  have hrow' : ∀ y ∈ ys, RowL (t + 1) y := fun y hy => (hrow y hy).mono (by omega)
  refine so_8 (u := t + 1) (W := n + 1 + 1 + 1 + 1) (zs := ys) (key := key) (num := num) ⟨by omega, hsr, ha, by omega, h60, ca0.mono (by omega), cy_wrapT ca0 (by omega), ca1.mono (by omega), hk8, by omega, by omega, ⟨b0', b1', b2, by rw [List.getElem?_eq_getElem hb, elb], cb0.mono (by omega), hb2⟩⟩
    ⟨hs4, rfl, hrow', h4.ok.mono (by omega), fun _ => ⟨rfl, h4.ok⟩⟩ fun zs M' hz1 hz2 hz3 hz4 => q zs M' hz1 hz2 hz3 (hz4.mono (by omega))
end LawProof
set_option Elab.async false
set_option linter.all false
set_option maxRecDepth 100000
set_option maxHeartbeats 4000000
set_option autoImplicit true
namespace LawProof
open PySem L2 DL FL
def sp__law_made : SpD := fun ds M Q _ => ∃ (s : Addr) (ys : List D) (k : Int) (t : Nat), ds = [.ref s, .int k] /\ (k = 0 \/ k = 1) /\ M s = some (.lst ys) /\ ys.length <= 60 /\ t <= 50 /\ (∀ y ∈ ys, RowL t y) /\
  ∀ h M', M h = none -> M' h = some (.lst (ys.map (madeR (k == 1)))) -> Keep M M' -> Q (.ref h) M'
abbrev N__law_made : List Str := ["_law_rows_so", "_law_kind", "_law_found", "_law_row"]
def l__law_made_1 : DTS := (dSeq (dIf (dAnd (dTest (dCB isiF (dCons (dVar 3) (dCons (dC (.ty "tuple")) dNil)))) (dAnd (dTest (dOp eqD (dCB lenF (dCons (dVar 3) dNil)) (dC (.int 3)))) (dTest (dCB isiF (dCons (dOp ixA (dVar 3) (dC (.int 2))) (dCons (dC (.ty "list")) dNil)))))) (dAsg (dTup (dCons (dOp ixA (dVar 3) (dC (.int 0))) (dCons (dOp ixA (dVar 3) (dC (.int 1))) (dCons (dCall sp_bytes_of [] (dCons (dOp ixA (dVar 3) (dC (.int 2))) dNil)) dNil)))) (gN 3)) dNext)
    (dDrop (dBM "list" φApp (dVar 2) (dCons (dIfE (dAnd (dTest (dCB isiF (dCons (dVar 3) (dCons (dC (.ty "tuple")) dNil)))) (dTest (dOp eqD (dVar 1) (dC (.int 1))))) (dCB lstF (dCons (dVar 3) dNil)) (dVar 3)) dNil))))
def l__law_made_2 : DTS := (dSeq (dForG (iSG (dVar 0)) (gN 3) l__law_made_1)
    (dRet (dVar 2)))
def t__law_made : DTS := (dSeq (dAsg (dLstM dNil) (gN 2))
    l__law_made_2)
theorem pure__law_made : ∀ ds M Q E, sp__law_made ds M Q E -> ds.length = 2 /\ t__law_made (dEnds Q E) (startD N__law_made ds) M := by
  rintro ds M Q E ⟨s, ys, k, t, rfl, hk, hs, hl, ht, hR, q⟩
  refine ⟨rfl, ?_⟩
  refine ⟨by simp, fun f hf => ?_⟩
  have hsf : s ≠ f := fun z => by rw [<- z, hs] at hf; cases hf
  have hs1 : updM M f (.lst []) s = some (.lst ys) := by rw [updM_ne hsf]; exact hs
  refine ⟨_, rfl, ys, by rw [vw_ref hs1]; rfl, ?_⟩
  have vs : ∀ M1, Keep (delM M f) M1 -> M1 s = some (.lst ys) := fun M1 k1 => k1 _ _ (by rw [delM_ne hsf]; exact hs)
  refine forG_run _ (fun done ρ M1 => (∃ o3, ρ = [some (.ref s), some (.int k), some (.ref f), o3]) /\ M1 = updM M f (.lst ((ys.take done.length).map (madeR (k == 1))))) ?_ ?_ ⟨⟨_, rfl⟩, rfl⟩
  · rintro done y rest ρ M1 Nx e ⟨⟨o3, rfl⟩, rfl⟩ nx
    have hy : ys[done.length]? = some y := by rw [e]; simp
    have hRy := hR y (List.mem_of_getElem? hy)
    have hlt := (List.getElem?_eq_some_iff.mp hy).1
    have hs2 : ∀ d, updM M f d s = some (.lst ys) := fun d => by rw [updM_ne hsf]; exact hs
    refine ⟨by rw [vw_ref (hs2 _)]; rfl, ?_⟩
    obtain ⟨ny, hny⟩ := hRy.pl.ty
    have hsz : ((ys.take done.length).map (madeR (k == 1))).length < sizeLine := by rw [size_line]; simp; omega
    have hend : ∀ (z o : D) (nz : String) (E' : DEnds), tyName z = some nz -> (∀ M, vw M z = z) -> ((nz == "tuple") = true -> k = 1 -> lstF [z] = some o) -> ((nz == "tuple") = false \/ k = 0 -> z = o) ->
        E'.nx [some (.ref s), some (.int k), some (.ref f), some z] (updM M f (.lst ((ys.take done.length).map (madeR (k == 1)) ++ [o]))) ->
        (dDrop (dBM "list" φApp (dVar 2) (dCons (dIfE (dAnd (dTest (dCB isiF (dCons (dVar 3) (dCons (dC (.ty "tuple")) dNil)))) (dTest (dOp eqD (dVar 1) (dC (.int 1))))) (dCB lstF (dCons (dVar 3) dNil)) (dVar 3)) dNil))) E' [some (.ref s), some (.int k), some (.ref f), some z] (updM M f (.lst ((ys.take done.length).map (madeR (k == 1))))) := fun z o nz E' hz hv h1 h2 nx' => by
      refine ⟨_, rfl, by rw [vw_ref updM_same]; rfl, _, rfl, _, isi_tup (d := vw _ z) (by rw [hv]; exact hz), _, rfl, ?_⟩
      cases ht : (nz == "tuple") with
      | false =>
        have := h2 (.inl ht)
        subst this
        refine ⟨_, rfl, f, _, z, rfl, rfl, updM_same, hsz, ?_⟩
        rw [updM_updM]
        exact nx'
      | true =>
        refine ⟨_, rfl, .bl (k == 1), rfl, _, rfl, ?_⟩
        rcases hk with rfl | rfl
        · have := h2 (.inr rfl)
          subst this
          refine ⟨_, rfl, f, _, z, rfl, rfl, updM_same, hsz, ?_⟩
          rw [updM_updM]
          exact nx'
        · refine ⟨_, rfl, o, ?_, f, _, o, rfl, rfl, updM_same, hsz, ?_⟩
          · show lstF [vw _ z] = _
            rw [hv]
            exact h1 ht rfl
          · rw [updM_updM]
            exact nx'
    have hnx : ∀ o3, Nx [some (.ref s), some (.int k), some (.ref f), o3] (updM M f (.lst ((ys.take done.length).map (madeR (k == 1)) ++ [madeR (k == 1) y]))) := fun o3 => nx _ _ ⟨⟨_, rfl⟩, by
      rw [List.length_append, List.length_singleton, List.take_add_one, hy, List.map_append]
      rfl⟩
    cases hRy with
    | odd h1 h2 h3 h4 h5 =>
      have hnt : (ny == "tuple") = false := by
        rw [beq_eq_false_iff_ne]
        rintro rfl
        cases y <;> first | exact absurd rfl (h3 _) | exact absurd hny (by simp [tyName])
      refine ⟨_, rfl, _, isi_tup (d := vw _ y) (by rw [h1.pl.vw]; exact hny), _, rfl, ?_⟩
      rw [hnt]
      exact hend y (madeR (k == 1) y) ny _ hny (fun M => h1.pl.vw M) (fun z => by rw [hnt] at z; cases z) (fun _ => (made_odd h3).symm) (hnx _)
    | key h1 h2 h3 h4 =>
      rename_i n v l
      refine ⟨_, rfl, .bl true, rfl, true, rfl, _, rfl, .int 3, rfl, .bl true, rfl, true, rfl, _, rfl, _, rfl, .bl true, rfl, true, rfl, ?_⟩
      refine ⟨_, rfl, _, rfl, _, rfl, _, rfl, _, rfl, _, rfl, .lst (l.map intD), rfl, .inl ⟨l, rfl, h3, by omega, ?_⟩⟩
      refine ⟨by simp, ?_⟩
      refine hend (.tup [n, v, bD l]) _ "tuple" _ rfl (fun _ => rfl) (fun _ hk1 => ?_) (fun hk0 => ?_) (hnx _)
      · rw [hk1]
        show some (D.lst [n, v, bD l]) = some (.lst [n, v, bkD (.lst (l.map intD))])
        rw [bk_key]
      · rcases hk0 with z | rfl
        · cases z
        · show D.tup [n, v, bD l] = .tup [n, v, bkD (.lst (l.map intD))]
          rw [bk_key]
    | tup h1 h2 h3 h4 h5 =>
      rename_i n v kk
      obtain ⟨nk, hnk⟩ := h3.pl.ty
      have hnl : (nk == "list") = false := by
        rw [beq_eq_false_iff_ne]
        rintro rfl
        cases kk <;> first | exact absurd rfl (h4 _) | exact absurd hnk (by simp [tyName])
      refine ⟨_, rfl, .bl true, rfl, true, rfl, _, rfl, .int 3, rfl, .bl true, rfl, true, rfl, _, rfl, kk, rfl, _, isi_lst (by rw [h3.pl.vw]; exact hnk), _, rfl, ?_⟩
      rw [hnl]
      refine hend (.tup [n, v, kk]) _ "tuple" _ rfl (fun _ => rfl) (fun _ hk1 => ?_) (fun hk0 => ?_) (hnx _)
      · rw [hk1]
        show some (D.lst [n, v, kk]) = some (.lst [n, v, bkD kk])
        rw [bk_odd h4]
      · rcases hk0 with z | rfl
        · cases z
        · show D.tup [n, v, kk] = .tup [n, v, bkD kk]
          rw [bk_odd h4]
  · rintro ρ M1 ⟨⟨o3, rfl⟩, rfl⟩
    refine ⟨by rw [vw_ref (by rw [updM_ne hsf]; exact hs)]; rfl, ?_⟩
    refine ⟨_, rfl, ?_⟩
    rw [List.take_of_length_le (Nat.le_refl _)]
    exact q f _ hf updM_same (Keep.new hf)
end LawProof
set_option Elab.async false
set_option linter.all false
set_option maxRecDepth 100000
set_option maxHeartbeats 4000000
set_option autoImplicit true
namespace LawProof
open PySem L2 DL FL
def sp_law : SpD := fun ds M Q _ => ∃ (ns : List Int), ds = [.lst (ns.map D.int)] /\ ns.length <= 63 /\ ∀ M', Q (.bl true) M'
abbrev N_law : List Str := ["_law_script", "_law_cell", "_law_well_here", "_law_forest", "_law_keys", "_law_rows_so", "_law_turn", "_law_due_here", "_law_handed", "_law_kept", "_law_some", "_law_told", "_law_odd", "_law_at", "_law_row"]
def l_law_1 : DTS := (dSeq (dIf (dOr (dTest (dOp neD (dOp isNonD (dVar 11) (dC .non)) (dOp isNonD (dVar 7) (dC .non)))) (dTest (dOp neD (dCB reprY1 (dCons (dVar 8) dNil)) (dVar 9)))) (dRet (dC (.bl false))) dNext)
    (dIf (dAnd (dTest (dOp notNonD (dVar 7) (dC .non))) (dOr (dNot (dTest (dCB (isoF 12 [12] []) (dCons (dVar 11) (dCons (dC (.cls 12)) dNil))))) (dTest (dOp neD (dTup (dCons (dUn (fldD [12] "place") (dVar 11)) (dCons (dUn (fldD [12] "word") (dVar 11)) dNil))) (dVar 7))))) (dRet (dC (.bl false))) dNext))
def l_law_2 : DTS := (dSeq (dAsg (dCall sp_judge_keys [] (dCons (dVar 10) dNil)) (gN 11))
    l_law_1)
def l_law_3 : DTS := (dSeq (dFor (iS (dLst (dCons (dVar 8) (dCons (dCB tupF (dCons (dVar 8) dNil)) (dCons (dVar 8) dNil))))) (gN 10) l_law_2)
    (dIf (dAnd (dTest (dBin bNeE (dVar 5) (dLst dNil))) (dTest (dBin (bOr (bOp neD) (bEq [(12, sp_Thing___eq__)] [12] kNB)) (dCallK sp_judge_keys 1 [0] (dCons (dBin bRep (dVar 8) (dC (.int 61))) dNil)) (dMake 12 sp_Fault___init__ (dCons (dUn negD (dC (.int 1))) (dCons (dC (.str "rows")) dNil)))))) (dRet (dC (.bl false))) dNext))
def l_law_4 : DTS := (dSeq (dAsg (dCB reprY1 (dCons (dVar 8) dNil)) (gN 9))
    l_law_3)
def l_law_5 : DTS := (dSeq (dPar 7 8 (dCons (dCall sp__law_due [] (dCons (dVar 5) dNil)) (dCons (dCall sp__law_made [] (dCons (dVar 5) (dCons (dCall sp__law_draw [] (dCons (dVar 2) (dCons (dC (.int 2)) dNil))) dNil))) dNil)))
    l_law_4)
def l_law_6 : DTS := (dIf (dAnd (dTest (dOp eqD (dCall sp__law_draw [] (dCons (dVar 2) (dCons (dC (.int 3)) dNil))) (dC (.int 0)))) (dTest (dOp gtD (dCB lenF (dCons (dVar 5) dNil)) (dC (.int 1))))) (dDrop (dBM "list" φPopAt (dVar 5) (dCons (dCall sp__law_draw [] (dCons (dVar 2) (dCons (dCB lenF (dCons (dVar 5) dNil)) dNil))) dNil))) (dDrop (dCall sp__law_spoil [] (dCons (dVar 2) (dCons (dVar 5) dNil)))))
def l_law_7 : DTS := (dSeq (dFor (iR1 (dOp mulD (dCall sp__law_draw [] (dCons (dVar 2) (dCons (dC (.int 4)) dNil))) (dCB intF (dCons (dBin bNeE (dVar 5) (dLst dNil)) dNil)))) (gN 6) l_law_6)
    l_law_5)
def l_law_8 : DTS := (dSeq (dIf (dTest (dOp notNonD (dCall sp_judge_keys [] (dCons (dCall sp__law_made [] (dCons (dVar 5) (dCons (dC (.int 0)) dNil))) dNil)) (dC .non))) (dRet (dC (.bl false))) dNext)
    l_law_7)
def l_law_9 : DTS := (dSeq (dAsg (dCall sp__law_mixed [] (dCons (dVar 2) (dCons (dLc (iEnT (dVar 3)) (gT 2 (gsCons (gN 13) (gsCons (gN 14) gsNil))) dYes (dTup (dCons (dOp ixA (dVar 14) (dC (.int 0))) (dCons (dOp ixA (dVar 14) (dC (.int 1))) (dCons (dOp ixA (dVar 4) (dVar 13)) dNil)))) [13, 14]) dNil))) (gN 5))
    l_law_8)
def l_law_10 : DTS := (dSeq (dAsg (dCall sp__law_labels [] (dCons (dVar 2) (dCons (dVar 3) dNil))) (gN 4))
    l_law_9)
def l_law_11 : DTS := (dSeq (dAsg (dCall sp__law_rows [] (dCons (dVar 2) (dCons (dCall sp__law_one [] (dCons (dVar 2) (dCons (dLst (dCons (dC (.int 3)) (dCons (dC (.int 9)) (dCons (dC (.int 20)) dNil)))) dNil))) dNil))) (gN 3))
    l_law_10)
def l_law_12 : DTS := (dSeq (dAsg (dCall sp__law_well [] (dCons (dVar 1) dNil)) (gN 2))
    l_law_11)
def t_law : DTS := (dSeq (dFor (iS (dSl slD (dOp addD (dVar 0) (dLst (dCons (dC (.int 0)) dNil))) dNoPart (dPart (dC (.int 5))))) (gN 1) l_law_12)
    (dRet (dBin (bEqL [(12, sp_Thing___eq__)] [12] false) (dLc (iS (dLst (dCons (dC .non) (dCons (dC (.str "rows")) (dCons (dC (.dK [] [])) (dCons (dC (.int 5)) dNil)))))) (gN 12) dYes (dCall sp_judge_keys [] (dCons (dVar 12) dNil)) [12]) (dBin bRepD (dLstM (dCons (dMake 12 sp_Fault___init__ (dCons (dUn negD (dC (.int 1))) (dCons (dC (.str "rows")) dNil))) dNil)) (dC (.int 4))))))
def Words : List String := ["rows", "row", "name", "value", "key", "twice", "shared", "parent"]
theorem keyW_in {ys : List D} {y : D} {w : String} (h : keyW ys y = some w) : w ∈ Words := by
  unfold keyW at h
  cases hp : plainW 3 y with
  | some w' =>
    rw [hp] at h
    cases h
    unfold plainW at hp
    split at hp
    · cases hp; decide
    · split at hp
      · cases hp; decide
      · split at hp
        · split at hp
          · cases hp
          · cases hp; decide
        · cases hp; decide
  | none =>
    rw [hp] at h
    simp only at h
    split at h
    · split at h
      · cases h; decide
      · split at h
        · cases h; decide
        · cases h
    · cases h; decide
theorem keyJ_in {y : D} {p : Int} {w : String} (h : keyJ y = some (p, w)) : w ∈ Words := by
  unfold keyJ at h
  split at h
  · cases h; decide
  · split at h
    · cases h; decide
    · rename_i xs _ _
      cases hf : keyF xs with
      | some q =>
        rw [hf] at h
        cases h
        unfold keyF at hf
        obtain ⟨i, _, e⟩ := List.exists_of_findSome?_eq_some hf
        cases hw : keyWAt xs i with
        | none => rw [hw] at e; cases e
        | some w' => rw [hw] at e; cases e; exact keyW_in hw
      | none =>
        rw [hf] at h
        simp only at h
        cases hp : parF xs with
        | none => rw [hp] at h; cases h
        | some p => rw [hp] at h; cases h; decide
theorem words_ok {w : String} (h : w ∈ Words) : PyData.strOk w = true := by
  simp only [Words, List.mem_cons, List.not_mem_nil, or_false] at h
  rcases h with rfl | rfl | rfl | rfl | rfl | rfl | rfl | rfl <;> decide +kernel
theorem any_cg {α : Type} {l : List α} {f g : α -> Bool} (h : ∀ x ∈ l, f x = g x) : l.any f = l.any g := by
  induction l with
  | nil => rfl
  | cons a l ih => rw [List.any_cons, List.any_cons, h a (by simp), ih fun x hx => h x (by simp [hx])]
theorem plainW_sq {k : Nat} {y z : D} (h : seqs y = seqs z) : plainW k y = plainW k z := by unfold plainW; rw [h]
theorem itm_sq {i : Nat} {y z : D} (h : seqs y = seqs z) : itm y i = itm z i := by unfold itm; rw [h]
theorem nmS_sq {y z : D} (h : seqs y = seqs z) : nmS y = nmS z := by unfold nmS; rw [itm_sq h]
theorem getD_map {f : D -> D} (ys : List D) (p : Nat) (hp : p < ys.length) : (ys.map f).getD p .non = f (ys.getD p .non) := by simp [List.getD, hp]
theorem keyWAt_sq {f g : D -> D} {ys : List D} (h : ∀ y ∈ ys, seqs (f y) = seqs (g y)) (p : Nat) : keyWAt (ys.map f) p = keyWAt (ys.map g) p := by
  have hg : seqs ((ys.map f).getD p .non) = seqs ((ys.map g).getD p .non) := by
    by_cases hp : p < ys.length
    · rw [getD_map ys p hp, getD_map ys p hp]
      refine h _ ?_
      simp [List.getD, hp]
    · simp [List.getD, show ¬ p < ys.length from hp]
  unfold keyWAt keyW
  rw [plainW_sq hg, itm_sq hg, nmS_sq hg, <- List.map_take, <- List.map_take, List.any_map, List.any_map, List.map_map, List.map_map]
  have e1 : (ys.take p).any ((fun z => decide (nmS z = nmS ((ys.map g).getD p .non))) ∘ f) = (ys.take p).any ((fun z => decide (nmS z = nmS ((ys.map g).getD p .non))) ∘ g) := any_cg fun z hz => by
    show decide _ = decide _
    rw [nmS_sq (h z (List.mem_of_mem_take hz))]
  have e2 : (ys.take p).map ((fun z => bA (byN (itm z 2))) ∘ f) = (ys.take p).map ((fun z => bA (byN (itm z 2))) ∘ g) := List.map_congr_left fun z hz => by
    show bA _ = bA _
    rw [itm_sq (h z (List.mem_of_mem_take hz))]
  rw [e1, e2]
theorem keyJ_sq {f g : D -> D} {ys : List D} (h : ∀ y ∈ ys, seqs (f y) = seqs (g y)) : keyJ (.lst (ys.map f)) = keyJ (.lst (ys.map g)) := by
  have e1 : keyF (ys.map f) = keyF (ys.map g) := by
    unfold keyF
    rw [List.length_map, List.length_map]
    congr 1
    funext p
    rw [keyWAt_sq h]
  have e2 : kys (ys.map f) = kys (ys.map g) := by
    unfold kys
    rw [List.map_map, List.map_map]
    refine List.map_congr_left fun z hz => ?_
    show bA _ = bA _
    rw [itm_sq (h z hz)]
  have e3 : parF (ys.map f) = parF (ys.map g) := by
    unfold parF
    rw [List.length_map, List.length_map, e2]
    congr 1
    funext p
    have hg : seqs ((ys.map f).getD p .non) = seqs ((ys.map g).getD p .non) := by
      by_cases hp : p < ys.length
      · rw [getD_map ys p hp, getD_map ys p hp]
        refine h _ ?_
        simp [List.getD, hp]
      · simp [List.getD, show ¬ p < ys.length from hp]
    rw [itm_sq hg]
  unfold keyJ
  show (if 60 < (ys.map f).length then _ else _) = (if 60 < (ys.map g).length then _ else _)
  rw [List.length_map, List.length_map, e1, e3]
theorem keyJ_made {t : Nat} {ys : List D} (b : Bool) (h : ∀ y ∈ ys, RowL t y) : keyJ (.lst (ys.map (madeR b))) = keyJ (.lst (ys.map (madeR false))) := keyJ_sq fun y hy => by
  cases b
  · rfl
  · exact made_sq (h y hy)
def kRow (n : List Nat) (v : Int) (l : List Nat) : D := .tup [strD n, .int v, keyL l]
structure KOk (zs : List D) : Prop where
  len : zs.length <= 60
  row : ∀ z ∈ zs, ∃ n v l, z = kRow n v l /\ NameOk n /\ -(10 ^ 30) <= v /\ v <= 10 ^ 30 /\ N8 l /\ keyN l = true /\ l.length <= 300
  pw : zs.Pairwise fun y z => nmS (madeR false y) ≠ nmS (madeR false z) /\ lkey y ≠ lkey z
  par : ∀ z ∈ zs, cutL (lkey z) = [] \/ ∃ z' ∈ zs, lkey z' = cutL (lkey z)
theorem KOk.perm {ys zs : List D} (h : KOk ys) (p : List.Perm zs ys) : KOk zs :=
  ⟨by rw [p.length_eq]; exact h.len, fun z hz => h.row z (p.subset hz), (p.pairwise_iff fun h => ⟨Ne.symm h.1, Ne.symm h.2⟩).mpr h.pw, fun z hz => by
    rcases h.par z (p.subset hz) with e | ⟨z', hz', e⟩
    · exact .inl e
    · exact .inr ⟨z', p.symm.subset hz', e⟩⟩
theorem made_k (n : List Nat) (v : Int) (l : List Nat) : madeR false (kRow n v l) = .tup [strD n, .int v, bD l] := by show D.tup [_, _, bkD (.lst (l.map intD))] = _; rw [bk_key]
theorem lkey_k {n : List Nat} {v : Int} {l : List Nat} (h : N8 l) : lkey (kRow n v l) = l := by unfold lkey; rw [made_k]; exact byN_bD h
theorem nm_k (n : List Nat) (v : Int) (l : List Nat) : nmS (madeR false (kRow n v l)) = n := by rw [made_k]; exact nm_strS _
theorem KOk.rowL {zs : List D} (h : KOk zs) : ∀ z ∈ zs, RowL 0 z := fun z hz => by
  obtain ⟨n, v, l, rfl, h1, h2, h3, h4, h5, h6⟩ := h.row z hz
  have p30 : (10 : Int) ^ 30 = 1000000000000000000000000000000 := by decide
  have p40 : (10 : Int) ^ 40 = 10000000000000000000000000000000000000000 := by decide
  rw [p30] at h2 h3
  exact .key (cy_nm h1) (cy_int (by rw [p40]; omega) (by rw [p40]; omega)) h4 (by omega)
theorem KOk.good {zs : List D} (h : KOk zs) : keyJ (.lst (zs.map (madeR false))) = none := by
  have hg : ∀ p (hp : p < zs.length), (zs.map (madeR false)).getD p .non = madeR false zs[p] := fun p hp => by simp [List.getD, hp]
  have hF : keyF (zs.map (madeR false)) = none := keyF_none fun p hp => by
    rw [List.length_map] at hp
    unfold keyWAt
    rw [hg p hp, <- List.map_take]
    have ap : ∀ y ∈ zs.take p, nmS (madeR false y) ≠ nmS (madeR false zs[p]) /\ lkey y ≠ lkey zs[p] := fun y hy => by
      obtain ⟨j, hj, rfl⟩ := List.mem_take_iff_getElem.mp hy
      exact List.pairwise_iff_getElem.mp h.pw j p (by omega) hp (by omega)
    obtain ⟨n, v, l, e, h1, h2, h3, h4, h5, h6⟩ := h.row zs[p] (List.getElem_mem hp)
    have h8s : ∀ k ∈ (zs.take p).map lkey, N8 k := fun k hk => by
      obtain ⟨z, _, rfl⟩ := List.mem_map.mp hk
      exact byN_8 _
    rw [e] at ap ⊢
    rw [nm_k, lkey_k h4] at ap
    unfold keyW
    have hw : plainW 3 (madeR false (kRow n v l)) = none := by
      rw [made_k]
      have n1 : nameB (strD n) = true := nameC_iff.mpr (by simpa [S] using h1)
      have n2 : valB (.int v) = true := by simp only [valB, Bool.and_eq_true, decide_eq_true_eq]; exact ⟨h2, h3⟩
      show (if ([strD n, .int v, bD l] : List D).length ≠ 3 then some "row" else if nameB (strD n) = true then if valB (.int v) = true then none else some "value" else some "name") = none
      rw [n1, n2]
      rfl
    have hi : itm (madeR false (kRow n v l)) 2 = bD l := by rw [made_k]; rfl
    have hk : keyOkB (bD l) = true := by unfold keyOkB; rw [byN_bD h4, h5]; rfl
    rw [hw]
    simp only [hi, hk, if_true, nm_k, byN_bD h4]
    have a1 : (((zs.take p).map (madeR false)).any fun z => decide (nmS z = n)) = false := by
      rw [List.any_map, List.any_eq_false]
      intro y hy
      simpa using (ap y hy).1
    rw [a1, if_neg Bool.false_ne_true]
    have a2 : (((zs.take p).map (madeR false)).map fun z => bA (byN (itm z 2))) = ((zs.take p).map lkey).map bA := by rw [List.map_map, List.map_map]; rfl
    have a3 : ¬ l ∈ (zs.take p).map lkey := fun hm => by
      obtain ⟨y, hy, e⟩ := List.mem_map.mp hm
      exact (ap y hy).2 e
    rw [a2, has_keys h8s h4, decide_eq_false a3, if_neg Bool.false_ne_true]
  have hP : parF (zs.map (madeR false)) = none := parF_none fun p hp => by
    rw [List.length_map] at hp
    rw [hg p hp]
    have hkk : kys (zs.map (madeR false)) = (zs.map lkey).map bA := by unfold kys; rw [List.map_map, List.map_map]; rfl
    obtain ⟨n, v, l, e, h1, h2, h3, h4, h5, h6⟩ := h.row zs[p] (List.getElem_mem hp)
    have hl : byN (itm (madeR false zs[p]) 2) = l := by have := lkey_k (n := n) (v := v) h4; rw [<- e] at this; exact this
    have hpar := h.par zs[p] (List.getElem_mem hp)
    rw [show lkey zs[p] = l from hl] at hpar
    rw [hl, hkk, parB_in (zs.map lkey) (fun k hk => by
      obtain ⟨z, _, rfl⟩ := List.mem_map.mp hk
      exact byN_8 _) h4 h5]
    have : cutL l ∈ zs.map lkey ++ [[]] := by
      rcases hpar with e | ⟨z', hz', e⟩
      · rw [e]; simp
      · exact List.mem_append_left _ (List.mem_map.mpr ⟨z', hz', e⟩)
    rw [decide_eq_true this]
    rfl
  unfold keyJ
  show (if 60 < (zs.map (madeR false)).length then _ else _) = _
  rw [List.length_map, if_neg (by have := h.len; omega), hF, hP]
  rfl
theorem rows_kok {rs : List Row} (h : RowsOk rs) {L : List (List Nat)} (hL : LabsOk (lvs rs) L) : KOk (rs.zipIdx.map fun p => kRow p.1.nm p.1.va (keyAt (lvs rs) L p.2)) := by
  have hll : (lvs rs).length = rs.length := by simp [lvs]
  have h60 := h.len
  have cut : ∀ i, i < rs.length -> cutL (keyAt (lvs rs) L i) = (match ancs (lvs rs) i with | [] => [] | q :: _ => keyAt (lvs rs) L q) := fun i hi => by
    obtain ⟨m, e, h1, _, _, h2⟩ := key_last hL (p := i) (by omega)
    rw [h1, cutL_snoc]
    exact h2
  refine ⟨by simpa using h.len, fun z hz => ?_, ?_, fun z hz => ?_⟩
  · obtain ⟨p, hp, rfl⟩ := List.mem_map.mp hz
    obtain ⟨i, hi, rfl⟩ := List.getElem_of_mem hp
    simp only [List.length_zipIdx] at hi
    simp only [List.getElem_zipIdx, Nat.zero_add]
    have hv := h.vals rs[i] (List.getElem_mem hi)
    exact ⟨_, _, _, rfl, h.names _ (List.getElem_mem hi), hv.1, hv.2, key_n8 hL (by omega), key_keyN hL (by omega), by have := key_size hL (p := i) (by omega); omega⟩
  · rw [List.pairwise_map, List.pairwise_iff_getElem]
    intro i j hi hj hij
    simp only [List.length_zipIdx] at hi hj
    simp only [List.getElem_zipIdx, Nat.zero_add]
    rw [nm_k, nm_k, lkey_k (key_n8 hL (by omega)), lkey_k (key_n8 hL (by omega))]
    refine ⟨fun z => ?_, fun z => ?_⟩
    · have := List.pairwise_iff_getElem.mp (List.nodup_iff_pairwise_ne.mp h.nd) i j (by simpa using hi) (by simpa using hj) hij
      simp at this
      exact this z
    · have := key_inj hL i i j (Nat.le_refl _) (by omega) (by omega) z
      omega
  · obtain ⟨p, hp, rfl⟩ := List.mem_map.mp hz
    obtain ⟨i, hi, rfl⟩ := List.getElem_of_mem hp
    simp only [List.length_zipIdx] at hi
    simp only [List.getElem_zipIdx, Nat.zero_add]
    rw [lkey_k (key_n8 hL (by omega)), cut i hi]
    cases ha : ancs (lvs rs) i with
    | nil => exact .inl rfl
    | cons q r =>
      have hq := ancs_lt ha
      refine .inr ⟨_, List.mem_map.mpr ⟨(rs[q]'(by omega), q), ?_, rfl⟩, ?_⟩
      · exact List.mem_iff_getElem.mpr ⟨q, by simp; omega, by simp⟩
      · exact lkey_k (key_n8 hL (by omega))
section
variable {B : DEnds} {ns : List Int} {c : Int} {r s : Addr} {M : Mem} {ys : List D} {o3 o4 o6 o7 o8 o9 o10 o11 : Option D} {n : Nat}
abbrev lwE (ns : List Int) (c : Int) (r s : Addr) (o3 o4 o6 o7 o8 o9 o10 o11 : Option D) : DL.Env := [some (.lst (ns.map D.int)), some (.int c), some (.ref r), o3, o4, some (.ref s), o6, o7, o8, o9, o10, o11, none, none, none]
theorem judge_hand {zs : List D} {d : D} {Q : DV} {E : DEK} (hv : ∀ M', Keep M M' -> vw M' d = vw M d) (hd : vw M d = .lst zs \/ vw M d = .tup zs) (hr : ∀ a, d = .ref a -> (M a).isSome) (hp : ∀ y ∈ zs, PlRow y /\ (byN (itm y 2)).length <= 100000) (hl : zs.length <= 10000000)
    (q : ∀ M', Keep M M' -> Q (faultD (keyJ (.lst zs))) M') : sp_judge_keys [d] M Q E := by
  have hsq : seqs (vw M d) = some zs := by rcases hd with e | e <;> rw [e] <;> rfl
  have hj : keyJ (vw M d) = keyJ (.lst zs) := by unfold keyJ; rw [hsq]; rfl
  refine ⟨d, rfl, ?_, hr, fun ws e => ?_, fun M' k => ?_⟩
  · rcases hd with e | e <;> rw [e] <;> exact ⟨_, rfl⟩
  · rw [hsq] at e
    cases e
    exact ⟨fun y hy => (hp y hy).1, fun y hy => (hp y hy).2, hl⟩
  · rw [hj]
    exact q M' k
theorem due_ne {M' : Mem} {p : Int} {w : String} (h : PyData.strOk w = true) : neD (vw M' (.tup [.int p, .str w])) (vw M' (.tup [.int p, .str w])) = some (.bl false) := by
  have pl : plDs 0 [.int p, .str w] = true := by simp only [plDs, plD, Bool.true_and, Bool.and_true]; exact h
  show neD (.tup [.int p, .str w]) (.tup [.int p, .str w]) = _
  rw [neD_tup' pl pl, eqTs_refl _ _ pl]; rfl
theorem lw_2 {h : Addr} {zs : List D} {d : D} {z : Str} (hh : M h = some (.lst zs)) (hd : d = .ref h \/ d = .tup zs) (hp : ∀ y ∈ zs, PlRow y /\ (byN (itm y 2)).length <= 100000) (hl : zs.length <= 60) (hz : reprY1 [.lst zs] = some (.str z))
    (nx : ∀ o11 M', Keep M M' -> B.nx (lwE ns c r s o3 o4 o6 (some (dueD (keyJ (.lst zs)))) (some (.ref h)) (some (.str z)) (some d) o11) M') :
    l_law_2 B (lwE ns c r s o3 o4 o6 (some (dueD (keyJ (.lst zs)))) (some (.ref h)) (some (.str z)) (some d) o11) M := by
  have hd2 : vw M d = .lst zs \/ vw M d = .tup zs := by
    rcases hd with rfl | rfl
    · exact .inl (vw_ref hh)
    · exact .inr rfl
  refine ⟨_, rfl, ?_⟩
  simp only [dNil, List.append_nil]
  refine judge_hand (fun M' k => by
    rcases hd with rfl | rfl
    · rw [vw_ref hh, vw_ref (k _ _ hh)]
    · rfl) hd2 (fun a e => by
    rcases hd with rfl | rfl
    · cases e; rw [hh]; rfl
    · cases e) hp (by omega) fun M1 k1 => ?_
  have hh1 := k1 _ _ hh
  have hrep : reprY1 [vw M1 (.ref h)] = some (.str z) := by rw [vw_ref hh1]; exact hz
  have hsame : neD (vw M1 (.str z)) (vw M1 (.str z)) = some (.bl false) := by rw [vw_str, neD_str]; simp
  cases hj : keyJ (.lst zs) with
  | none =>
    rw [hj] at nx
    refine ⟨_, rfl, .bl true, rfl, _, rfl, .bl true, rfl, .bl false, rfl, false, rfl, ?_⟩
    refine ⟨_, rfl, _, hrep, _, rfl, _, hsame, false, rfl, ?_⟩
    refine ⟨_, rfl, .bl false, rfl, false, rfl, nx _ M1 k1⟩
  | some pw =>
    obtain ⟨p, w⟩ := pw
    rw [hj] at nx
    have hok := words_ok (keyJ_in hj)
    refine ⟨_, rfl, .bl false, rfl, _, rfl, .bl false, rfl, .bl false, rfl, false, rfl, ?_⟩
    refine ⟨_, rfl, _, hrep, _, rfl, _, hsame, false, rfl, ?_⟩
    refine ⟨_, rfl, .bl true, rfl, true, rfl, ?_⟩
    refine ⟨_, rfl, .bl true, ?_, true, rfl, _, rfl, .int p, by simp [faultD, FaultD, fldD, lookN], _, rfl, .str w, by simp [faultD, FaultD, fldD, lookN], by simp, _, rfl, _, due_ne hok, false, rfl, nx _ M1 k1⟩
    show isoF 12 [12] [] [FaultD (.int p) (.str w), .cls 12] = _
    unfold FaultD
    rw [isoF_obj, if_pos (by decide)]
theorem lw_3 {h : Addr} {zs : List D} {z : Str} (hs : M s = some (.lst ys)) (hh : M h = some (.lst zs)) (hyz : zs.length = ys.length) (hp : ∀ y ∈ zs, PlRow y /\ (byN (itm y 2)).length <= 100000) (hl : zs.length <= 60) (hz : reprY1 [.lst zs] = some (.str z))
    (nx : ∀ o10 o11 M', B.nx (lwE ns c r s o3 o4 o6 (some (dueD (keyJ (.lst zs)))) (some (.ref h)) (some (.str z)) o10 o11) M') :
    l_law_3 B (lwE ns c r s o3 o4 o6 (some (dueD (keyJ (.lst zs)))) (some (.ref h)) (some (.str z)) o10 o11) M := by
  have tp : tupF [vw M (.ref h)] = some (.tup zs) := by rw [vw_ref hh]; rfl
  refine ⟨_, rfl, _, rfl, _, tp, _, rfl, by simp, _, rfl, ?_⟩
  refine forD_run _ (fun done ρ M1 => ∃ o10 o11, ρ = lwE ns c r s o3 o4 o6 (some (dueD (keyJ (.lst zs)))) (some (.ref h)) (some (.str z)) o10 o11 /\ Keep M M1) ?_ ?_ ⟨_, _, rfl, Keep.refl M⟩
  · rintro done y rest ρ M1 Nx e ⟨o10, o11, rfl, k1⟩ nx2
    have hy : y ∈ [D.ref h, .tup zs, .ref h] := by
      have : y ∈ done ++ y :: rest := by simp
      rw [<- e] at this
      exact this
    have hy2 : y = .ref h \/ y = .tup zs := by
      simp only [List.mem_cons, List.not_mem_nil, or_false] at hy
      rcases hy with rfl | rfl | rfl
      · exact .inl rfl
      · exact .inr rfl
      · exact .inl rfl
    exact lw_2 (k1 _ _ hh) hy2 hp hl hz fun o11 M2 k2 => nx2 _ _ ⟨_, _, rfl, k1.trans k2⟩
  · rintro ρ M1 ⟨o10, o11, rfl, k1⟩
    have hs1 := k1 _ _ hs
    have hh1 := k1 _ _ hh
    refine ⟨_, rfl, by simp, ys, [], vw_ref hs1, rfl, .inr rfl, _, rfl, ?_⟩
    cases hy : (ys.isEmpty && ([] : List D).isEmpty) with
    | true => exact nx _ _ _
    | false =>
      have hyn : 0 < ys.length := by cases ys with
        | nil => cases hy
        | cons => simp
      refine ⟨_, rfl, h, zs, 61, rfl, hh1, rfl, by decide, by decide, by rw [size_line]; show zs.length * 61 <= _; omega, ?_⟩
      have hfl : ((List.replicate (61 : Int).toNat zs).flatten).length = 61 * zs.length := by
        rw [List.length_flatten, List.map_replicate, List.sum_replicate_nat]
        rfl
      have hfm : ∀ y ∈ (List.replicate (61 : Int).toNat zs).flatten, y ∈ zs := fun y hy => by
        obtain ⟨l, hl, hy⟩ := List.mem_flatten.mp hy
        rw [List.mem_replicate] at hl
        rw [hl.2] at hy
        exact hy
      generalize (List.replicate (61 : Int).toNat zs).flatten = ws at *
      have hj : keyJ (.lst ws) = some (-1, "rows") := by
        unfold keyJ
        show (if 60 < ws.length then _ else _) = _
        rw [if_pos (by omega)]
      refine ⟨rfl, .lst ws, rfl, ⟨_, rfl⟩, (fun a e => by cases e), (fun us e => by cases e; exact ⟨fun y hy => (hp y (hfm y hy)).1, fun y hy => (hp y (hfm y hy)).2, by omega⟩), fun M2 k2 => ?_⟩
      rw [show vw M1 (.lst ws) = .lst ws from rfl, hj]
      have hok : PyData.strOk "rows" = true := words_ok (by decide)
      refine ⟨_, rfl, fun x hx0 => ⟨x, _, _, rfl, updM_same, mk_fl ?_ x hx0⟩⟩
      refine .inr ⟨rfl, 12, _, _, sp_Thing___eq__, rfl, rfl, -1, "rows", _, true, rfl, hok, .inl ⟨rfl, rfl⟩, .bl false, rfl, false, rfl, ?_⟩
      exact nx _ _ _
theorem made_hand {t : Nat} (b : Bool) (hR : ∀ y ∈ ys, RowL t y) (ht : t <= 50) : ∀ y ∈ ys.map (madeR b), PlRow y /\ (byN (itm y 2)).length <= 100000 := fun y hy => by
  obtain ⟨x, hx, rfl⟩ := List.mem_map.mp hy
  exact ⟨(hR x hx).made b, (hR x hx).byl b (by omega)⟩
theorem lw_5 {t : Nat} (hs : M s = some (.lst ys)) (hR : ∀ y ∈ ys, RowL t y) (ht : t <= 50) (hl : ys.length <= 60) (hsr : s ≠ r) (hw : Well M r n) (hn : n <= 100000000000)
    (nx : ∀ o7 o8 o9 o10 o11 M', B.nx (lwE ns c r s o3 o4 o6 o7 o8 o9 o10 o11) M') :
    l_law_5 B (lwE ns c r s o3 o4 o6 o7 o8 o9 o10 o11) M := by
  refine ⟨_, rfl, s, ys, t, rfl, hs, hl, ht, hR, fun M1 k1 => ?_⟩
  have hs1 := k1 _ _ hs
  refine ⟨_, rfl, _, rfl, r, 2, n, rfl, hw.keep k1, by omega, by decide, by decide, fun k M2 k0 kl h2 => ?_⟩
  have hs2 := h2.keep1 hs1 hsr
  refine ⟨s, ys, k, t, rfl, by omega, hs2, hl, ht, hR, fun h M3 h0 hh k3 => ?_⟩
  refine ⟨_, _, rfl, ?_⟩
  obtain ⟨z, hz⟩ := rowsL_repr (k == 1) hR ht hl
  have hs3 := k3 _ _ hs2
  refine ⟨_, rfl, .str z, by show reprY1 [vw M3 (.ref h)] = _; rw [vw_ref hh]; exact hz, ?_⟩
  have ej := keyJ_made (k == 1) hR
  rw [<- ej]
  exact lw_3 hs3 hh (by simp) (made_hand _ hR ht) (by simpa using hl) hz fun o10 o11 M' => nx _ _ _ _ _ _
theorem lw_7 (hok : KOk ys) (hs : M s = some (.lst ys)) (hsr : s ≠ r) (hw : Well M r n) (hn : n <= 10000000000)
    (nx : ∀ o6 o7 o8 o9 o10 o11 M', B.nx (lwE ns c r s o3 o4 o6 o7 o8 o9 o10 o11) M') :
    l_law_7 B (lwE ns c r s o3 o4 o6 o7 o8 o9 o10 o11) M := by
  have h60 := hok.len
  refine ⟨_, rfl, r, 4, n, rfl, hw, by omega, by decide, by decide, fun k M3 k0 k1' h3 => ?_⟩
  have hs3 := h3.keep1 hs hsr
  refine ⟨_, rfl, by simp, ys, [], vw_ref hs3, rfl, .inr rfl, .int (if (!(ys.isEmpty && ([] : List D).isEmpty)) = true then 1 else 0), rfl, .int (k * (if (!(ys.isEmpty && ([] : List D).isEmpty)) = true then 1 else 0)), ?_, ?_⟩
  · rw [vw_int, vw_int, mulD_int (.inl (by omega))]
  obtain ⟨j, ej, j0, j4, jpos⟩ : ∃ j : Int, k * (if (!(ys.isEmpty && ([] : List D).isEmpty)) = true then 1 else 0) = j /\ 0 <= j /\ j < 4 /\ (0 < j -> ys ≠ []) := by
    refine ⟨_, rfl, ?_⟩
    cases ys with
    | nil => simp
    | cons x t => simp; omega
  rw [ej]
  refine ⟨_, rfl, by omega, by omega, ?_⟩
  refine forD_run _ (fun done ρ M4 => ∃ o6 zs, ρ = lwE ns c r s o3 o4 o6 o7 o8 o9 o10 o11 /\ M4 s = some (.lst zs) /\ zs.length <= 60 /\ (ys ≠ [] -> zs ≠ []) /\ (∀ y ∈ zs, RowL done.length y) /\ Well M4 r (n + 1 + 30 * done.length)) ?_ ?_ ⟨o6, ys, rfl, hs3, h60, id, hok.rowL, h3.ok⟩
  · rintro done y rest ρ M4 Nx e ⟨o6, zs, rfl, hs4, hl4, hz4, hr4, hw4⟩ nx2
    obtain ⟨hd, rfl⟩ := range_at e
    have hzs := hz4 (jpos (by omega))
    refine ⟨_, rfl, r, 3, _, rfl, hw4, by omega, by decide, by decide, fun k5 M5 k50 k51 h5 => ⟨.bl (k5 == 0), rfl, _, rfl, ?_⟩⟩
    have hs5 := h5.keep1 hs4 hsr
    have spoil : ∀ {M6 : Mem} {E : DEnds}, M6 s = some (.lst zs) -> Well M6 r (n + 1 + 30 * done.length + 1) -> (∀ M', (∃ ws, M' s = some (.lst ws) /\ ws.length <= 60 /\ ws ≠ [] /\ (∀ y ∈ ws, RowL (done.length + 1) y) /\ Well M' r (n + 1 + 30 * (done.length + 1))) -> E.nx (lwE ns c r s o3 o4 (some (.int (done.length : Nat))) o7 o8 o9 o10 o11) M') ->
        (dDrop (dCall sp__law_spoil [] (dCons (dVar 2) (dCons (dVar 5) dNil)))) E (lwE ns c r s o3 o4 (some (.int (done.length : Nat))) o7 o8 o9 o10 o11) M6 := fun {M6 E} h6 w6 nx6 =>
      ⟨_, rfl, _, rfl, r, s, zs, _, done.length, rfl, hsr, w6, by omega, h6, hzs, hl4, hr4, by omega, fun ws M7 e1 e2 e3 e4 => nx6 _ ⟨ws, e3, by omega, fun z => hzs (List.length_eq_zero_iff.mp (by rw [<- e1, z]; rfl)), e2, e4.mono (by omega)⟩⟩
    have fin : ∀ M', (∃ ws, M' s = some (.lst ws) /\ ws.length <= 60 /\ ws ≠ [] /\ (∀ y ∈ ws, RowL (done.length + 1) y) /\ Well M' r (n + 1 + 30 * (done.length + 1))) -> Nx (lwE ns c r s o3 o4 (some (.int (done.length : Nat))) o7 o8 o9 o10 o11) M' := fun M' ⟨ws, a1, a2, a3, a4, a5⟩ => nx2 _ _ ⟨_, ws, rfl, a1, a2, fun _ => a3, by simpa using a4, by simpa using a5⟩
    by_cases c5 : k5 = 0
    · subst c5
      rw [beq_self_eq_true]
      have hlen : ∀ M', M' s = some (.lst zs) -> lenF [vw M' (.ref s)] = some (.int (zs.length : Nat)) := fun M' h => by rw [vw_ref h]; rfl
      refine ⟨_, rfl, _, hlen M5 hs5, .bl (decide (1 < (zs.length : Int))), rfl, _, rfl, ?_⟩
      by_cases h1 : 1 < zs.length
      · rw [decide_eq_true (by omega)]
        refine ⟨_, rfl, by rw [vw_ref hs5]; rfl, _, rfl, _, rfl, _, hlen M5 hs5, r, _, _, rfl, h5.ok, by omega, by omega, by omega, fun i M6 i0 i1 h6 => ?_⟩
        obtain ⟨i, rfl⟩ := Int.eq_ofNat_of_zero_le i0
        have hs6 := h6.keep1 hs5 hsr
        have hi : i < zs.length := by omega
        refine ⟨s, zs, _, i, zs[i], rfl, rfl, hs6, by omega, by omega, sqix hi, List.getElem?_eq_getElem hi, fin _ ⟨zs.eraseIdx i, updM_same, by rw [List.length_eraseIdx]; split <;> omega, fun z => ?_, fun y hy => (hr4 y (List.mem_of_mem_eraseIdx hy)).mono (by omega), ?_⟩⟩
        · have := congrArg List.length z
          rw [List.length_eraseIdx, if_pos hi] at this
          simp at this
          omega
        · obtain ⟨x, y, z, w1, w2⟩ := h6.ok.mono (show _ <= n + 1 + 30 * (done.length + 1) by omega)
          exact ⟨x, y, z, by rw [updM_ne (Ne.symm hsr)]; exact w1, w2⟩
      · rw [decide_eq_false (by omega)]
        exact spoil hs5 h5.ok fin
    · rw [beq_false_of_ne c5]
      exact spoil hs5 h5.ok fin
  · rintro ρ M4 ⟨o6, zs, rfl, hs4, hl4, hz4, hr4, hw4⟩
    have hdl : ((List.range j.toNat).map fun (i : Nat) => D.int (i : Int)).length <= 3 := by simp; omega
    exact lw_5 hs4 hr4 (by omega) hl4 hsr hw4 (by omega) fun o7 o8 o9 o10 o11 M' => nx _ _ _ _ _ _ _
theorem lw_8 (hok : KOk ys) (hs : M s = some (.lst ys)) (hsr : s ≠ r) (hw : Well M r n) (hn : n <= 10000000000)
    (nx : ∀ o6 o7 o8 o9 o10 o11 M', B.nx (lwE ns c r s o3 o4 o6 o7 o8 o9 o10 o11) M') :
    l_law_8 B (lwE ns c r s o3 o4 o6 o7 o8 o9 o10 o11) M := by
  have h60 := hok.len
  refine ⟨_, rfl, s, ys, 0, 0, rfl, .inl rfl, hs, h60, by omega, hok.rowL, fun h M1 h0 hh k1 => ?_⟩
  simp only [dNil, List.append_nil]
  refine judge_hand (zs := ys.map (madeR false)) (fun M' k => by rw [vw_ref hh, vw_ref (k _ _ hh)]) (.inl (vw_ref hh)) (fun a e => by cases e; rw [hh]; rfl) (made_hand false hok.rowL (by omega)) (by simp; omega) fun M2 k2 => ?_
  rw [hok.good]
  refine ⟨.bl false, rfl, false, rfl, ?_⟩
  exact lw_7 hok (k2 _ _ (k1 _ _ hs)) hsr ((hw.keep k1).keep k2) hn nx
end
theorem lw_12 {B : DEnds} {ns : List Int} {c : Int} {M : Mem} {o2 o3 o4 o5 o6 o7 o8 o9 o10 o11 : Option D} (nx : ∀ o2 o3 o4 o5 o6 o7 o8 o9 o10 o11 M', B.nx [some (.lst (ns.map D.int)), some (.int c), o2, o3, o4, o5, o6, o7, o8, o9, o10, o11, none, none, none] M') :
    l_law_12 B [some (.lst (ns.map D.int)), some (.int c), o2, o3, o4, o5, o6, o7, o8, o9, o10, o11, none, none, none] M := by
  refine ⟨_, rfl, c, rfl, fun r M1 hr hw _ => ?_⟩
  refine ⟨_, rfl, _, rfl, by simp, one_of (E := fun _ _ _ _ => False) hw (by omega) (by simp) (by simp) fun y M2 hy h2 => ?_⟩
  obtain ⟨k, hk, rfl⟩ : ∃ k : Nat, k <= 60 /\ y = .int (k : Int) := by
    simp only [List.mem_cons, List.not_mem_nil, or_false] at hy
    rcases hy with rfl | rfl | rfl
    · exact ⟨3, by omega, rfl⟩
    · exact ⟨9, by omega, rfl⟩
    · exact ⟨20, by omega, rfl⟩
  refine ⟨r, k, _, rfl, h2.ok, by omega, hk, fun rs M3 hok hq h3 => ?_⟩
  have h60 := hok.len
  refine ⟨_, rfl, _, rfl, r, rs, _, rfl, hok, h3.ok, by omega, fun L M4 hL h4 => ?_⟩
  refine ⟨_, rfl, _, rfl, rs.map Row.d, rfl, fun a ha => ?_⟩
  rw [enum_rows]
  refine lcD_ix (fun p : Row × Nat => D.tup [.int (p.2 : Nat), Row.d p.1]) (fun p => some (kRow p.1.nm p.1.va (keyAt (lvs rs) L p.2))) rs.zipIdx (by simp; omega) ha (fun p hp M5 T k5 hT => ?_) fun M5 k5 => ?_
  · obtain ⟨i, hi, rfl⟩ := List.getElem_of_mem hp
    simp only [List.length_zipIdx] at hi
    simp only [List.getElem_zipIdx, Nat.zero_add] at hT ⊢
    refine ⟨_, .inl rfl, rfl, _, _, rfl, _, _, rfl, rfl, ?_⟩
    refine ⟨_, rfl, _, (seqs_ix (d := Row.d rs[i]) rfl 0).trans atI_0, _, rfl, _, (seqs_ix (d := Row.d rs[i]) rfl 1).trans atI_1, _, rfl, _, rfl, keyL (keyAt (lvs rs) L i), ?_, by simp, hT M5 (Keep.refl M5)⟩
    show atI _ (i : Int) = _
    exact atI_get' (by simp [hi])
  · rw [List.filterMap_eq_map']
    have hk := rows_kok hok hL
    have h5 := h4.ok.keep k5
    refine ⟨r, _, _, rfl, h5, by omega, by have := hk.len; omega, fun s zs M6 hs6 hp hs0 h6 => ?_⟩
    have hsr : s ≠ r := fun z => h5.ne hs0 z.symm
    have := hk.len
    exact lw_8 (hk.perm hp) hs6 hsr h6.ok (by omega) fun o6 o7 o8 o9 o10 o11 M' => nx _ _ _ _ _ _ _ _ _ _ _
theorem eq_fault {p : Int} {w : String} (hok : PyData.strOk w = true) {Q : DV} {E : DEK} {M : Mem} (q : Q (.bl true) M) : sp_Thing___eq__ [FaultD (.int p) (.str w), FaultD (.int p) (.str w)] M Q E := ⟨p, w, _, true, rfl, hok, .inl ⟨rfl, rfl⟩, q⟩
theorem pure_law : ∀ ds M Q E, sp_law ds M Q E -> ds.length = 1 /\ t_law (dEnds Q E) (startD N_law ds) M := by
  rintro ds M Q E ⟨ns, rfl, hl, q⟩
  refine ⟨rfl, ?_⟩
  have hsl := cells_int ns 5
  refine ⟨_, rfl, by simp, _, cells_add ns hl, 5, rfl, _, rfl, _, rfl, ?_⟩
  refine forD_run _ (fun done ρ M1 => ∃ o1 o2 o3 o4 o5 o6 o7 o8 o9 o10 o11 : Option D, ρ = [some (.lst (ns.map D.int)), o1, o2, o3, o4, o5, o6, o7, o8, o9, o10, o11, none, none, none]) ?_ ?_ ⟨_, _, _, _, _, _, _, _, _, _, _, rfl⟩
  · rintro done y rest ρ M1 Nx e ⟨o1, o2, o3, o4, o5, o6, o7, o8, o9, o10, o11, rfl⟩ nx
    obtain ⟨c, rfl⟩ := hsl y (by rw [show cutD (ns.map D.int ++ [D.int 0]) none (some ((5 : Nat) : Int)) = _ from e]; simp)
    exact lw_12 fun o2 o3 o4 o5 o6 o7 o8 o9 o10 o11 M' => nx _ _ ⟨_, _, _, _, _, _, _, _, _, _, _, rfl⟩
  · rintro ρ M1 ⟨o1, o2, o3, o4, o5, o6, o7, o8, o9, o10, o11, rfl⟩
    have hok : PyData.strOk "rows" = true := words_ok (by decide)
    refine ⟨by simp, _, rfl, fun c hc => ?_⟩
    refine lcD_run _ (fun done acc M1 => acc = List.replicate done.length (FaultD (.int (-1)) (.str "rows"))) ?_ ?_ rfl
    · rintro done y rest acc M3 Nx e h3 rfl nx
      have hy : y ∈ [D.non, .str "rows", .dK [] [], .int 5] := by rw [show [D.non, .str "rows", .dK [] [], .int 5] = done ++ y :: rest from e]; simp
      have hl := congrArg List.length e
      simp at hl
      have hodd : (∃ n, tyName (vw M3 y) = some n) /\ (∀ a, y ≠ .ref a) /\ seqs (vw M3 y) = none := by
        simp only [List.mem_cons, List.not_mem_nil, or_false] at hy
        rcases hy with rfl | rfl | rfl | rfl <;> exact ⟨⟨_, rfl⟩, by simp, rfl⟩
      refine ⟨_, rfl, y, rfl, hodd.1, fun a ea => absurd ea (hodd.2.1 a), fun us eu => (by rw [hodd.2.2] at eu; cases eu), fun M4 k4 => ?_⟩
      rw [show keyJ (vw M3 y) = some (-1, "rows") by unfold keyJ; rw [hodd.2.2]]
      refine ⟨_, k4 _ _ h3, by rw [size_line]; simp; omega, nx _ _ updM_same ?_⟩
      rw [List.length_append, List.length_singleton, List.replicate_succ']
      rfl
    · rintro acc M3 h3 rfl
      refine ⟨_, rfl, fun x hx0 => ⟨x, _, _, rfl, updM_same, mk_fl ?_ x hx0⟩⟩
      refine ⟨by simp, fun d hd => ⟨d, _, 4, rfl, updM_same, rfl, by decide, by decide, by rw [size_line]; decide, ?_⟩⟩
      refine ⟨_, _, rfl, rfl, eqRun_all (q _) rfl fun i x y hx hy => ?_⟩
      have ex : x = FaultD (.int (-1)) (.str "rows") := by
        have := List.mem_of_getElem? hx
        exact (List.mem_replicate.mp this).2
      have ey : y = FaultD (.int (-1)) (.str "rows") := by
        have := List.mem_of_getElem? hy
        obtain ⟨l, hl, hy⟩ := List.mem_flatten.mp this
        rw [(List.mem_replicate.mp hl).2] at hy
        simpa using hy
      subst ex ey
      exact ⟨12, _, _, 12, _, _, sp_Thing___eq__, rfl, rfl, by decide, rfl, fun Q q => eq_fault hok q⟩
theorem law_sp : ∀ (ns : List Int) (M : Mem) (Qd : DV) (Ed : DEK), ns.length <= 63 -> (∀ M', Qd (.bl true) M') -> sp_law [.lst (ns.map D.int)] M Qd Ed := fun ns M Qd Ed h q => ⟨ns, rfl, h, q⟩
end LawProof
set_option Elab.async false
set_option linter.all false
set_option maxRecDepth 100000
set_option maxHeartbeats 4000000
set_option autoImplicit true
namespace LawProof
open PySem L2 DL
theorem sc_is_integer : FnScope N_is_integer ["thing"] (defScope s_is_integer) := ⟨rfl, rfl, rfl, by decide +kernel, rfl, by decide +kernel, by decide +kernel⟩
theorem hb_is_integer : HBind "is_integer" "is_integer" (defArgs s_is_integer) (defBody s_is_integer) (defScope s_is_integer) ["thing"] := fun _ _ _ _ _ _ us hl => match us, hl with | [_], _ => rfl
theorem sc_is_sequence : FnScope N_is_sequence ["thing"] (defScope s_is_sequence) := ⟨rfl, rfl, rfl, by decide +kernel, rfl, by decide +kernel, by decide +kernel⟩
theorem hb_is_sequence : HBind "is_sequence" "is_sequence" (defArgs s_is_sequence) (defBody s_is_sequence) (defScope s_is_sequence) ["thing"] := fun _ _ _ _ _ _ us hl => match us, hl with | [_], _ => rfl
theorem sc_is_name : FnScope N_is_name ["thing"] (defScope s_is_name) := ⟨rfl, rfl, rfl, by decide +kernel, rfl, by decide +kernel, by decide +kernel⟩
theorem hb_is_name : HBind "is_name" "is_name" (defArgs s_is_name) (defBody s_is_name) (defScope s_is_name) ["thing"] := fun _ _ _ _ _ _ us hl => match us, hl with | [_], _ => rfl
theorem sc_is_value : FnScope N_is_value ["thing"] (defScope s_is_value) := ⟨rfl, rfl, rfl, by decide +kernel, rfl, by decide +kernel, by decide +kernel⟩
theorem hb_is_value : HBind "is_value" "is_value" (defArgs s_is_value) (defBody s_is_value) (defScope s_is_value) ["thing"] := fun _ _ _ _ _ _ us hl => match us, hl with | [_], _ => rfl
theorem sc_key_fault : FnScope N_key_fault ["key"] (defScope s_key_fault) := ⟨rfl, rfl, rfl, by decide +kernel, rfl, by decide +kernel, by decide +kernel⟩
theorem hb_key_fault : HBind "key_fault" "key_fault" (defArgs s_key_fault) (defBody s_key_fault) (defScope s_key_fault) ["key"] := fun _ _ _ _ _ _ us hl => match us, hl with | [_], _ => rfl
theorem sc_cut_key : FnScope N_cut_key ["key"] (defScope s_cut_key) := ⟨rfl, rfl, rfl, by decide +kernel, rfl, by decide +kernel, by decide +kernel⟩
theorem hb_cut_key : HBind "cut_key" "cut_key" (defArgs s_cut_key) (defBody s_cut_key) (defScope s_cut_key) ["key"] := fun _ _ _ _ _ _ us hl => match us, hl with | [_], _ => rfl
theorem sc_bytes_of : FnScope N_bytes_of ["numbers"] (defScope s_bytes_of) := ⟨rfl, rfl, rfl, by decide +kernel, rfl, by decide +kernel, by decide +kernel⟩
theorem hb_bytes_of : HBind "bytes_of" "bytes_of" (defArgs s_bytes_of) (defBody s_bytes_of) (defScope s_bytes_of) ["numbers"] := fun _ _ _ _ _ _ us hl => match us, hl with | [_], _ => rfl
theorem sc_Fault___init__ : FnScope N_Fault___init__ ["self", "place", "word"] (defScope s_Fault___init__) := ⟨rfl, rfl, rfl, by decide +kernel, rfl, by decide +kernel, by decide +kernel⟩
theorem hb_Fault___init__ : HBind "__init__" "Fault.__init__" (defArgs s_Fault___init__) (defBody s_Fault___init__) (defScope s_Fault___init__) ["self", "place", "word"] := fun _ _ _ _ _ _ us hl => match us, hl with | [_, _, _], _ => rfl
theorem sc_Fault_class_name : FnScope N_Fault_class_name ["self"] (defScope s_Fault_class_name) := ⟨rfl, rfl, rfl, by decide +kernel, rfl, by decide +kernel, by decide +kernel⟩
theorem hb_Fault_class_name : HBind "class_name" "Fault.class_name" (defArgs s_Fault_class_name) (defBody s_Fault_class_name) (defScope s_Fault_class_name) ["self"] := fun _ _ _ _ _ _ us hl => match us, hl with | [_], _ => rfl
theorem sc_Fault_facts : FnScope N_Fault_facts ["self"] (defScope s_Fault_facts) := ⟨rfl, rfl, rfl, by decide +kernel, rfl, by decide +kernel, by decide +kernel⟩
theorem hb_Fault_facts : HBind "facts" "Fault.facts" (defArgs s_Fault_facts) (defBody s_Fault_facts) (defScope s_Fault_facts) ["self"] := fun _ _ _ _ _ _ us hl => match us, hl with | [_], _ => rfl
theorem sc_Thing___eq__ : FnScope N_Thing___eq__ ["self", "other"] (defScope s_Thing___eq__) := ⟨rfl, rfl, rfl, by decide +kernel, rfl, by decide +kernel, by decide +kernel⟩
theorem hb_Thing___eq__ : HBind "__eq__" "Thing.__eq__" (defArgs s_Thing___eq__) (defBody s_Thing___eq__) (defScope s_Thing___eq__) ["self", "other"] := fun _ _ _ _ _ _ us hl => match us, hl with | [_, _], _ => rfl
theorem sc_plain_word : FnScope N_plain_word ["row", "many"] (defScope s_plain_word) := ⟨rfl, rfl, rfl, by decide +kernel, rfl, by decide +kernel, by decide +kernel⟩
theorem hb_plain_word : HBind "plain_word" "plain_word" (defArgs s_plain_word) (defBody s_plain_word) (defScope s_plain_word) ["row", "many"] := fun _ _ _ _ _ _ us hl => match us, hl with | [_, _], _ => rfl
theorem sc_key_word : FnScope N_key_word ["rows", "place"] (defScope s_key_word) := ⟨rfl, rfl, rfl, by decide +kernel, rfl, by decide +kernel, by decide +kernel⟩
theorem hb_key_word : HBind "key_word" "key_word" (defArgs s_key_word) (defBody s_key_word) (defScope s_key_word) ["rows", "place"] := fun _ _ _ _ _ _ us hl => match us, hl with | [_, _], _ => rfl
theorem sc_shorter_keys : FnScope N_shorter_keys ["key"] (defScope s_shorter_keys) := ⟨rfl, rfl, rfl, by decide +kernel, rfl, by decide +kernel, by decide +kernel⟩
theorem hb_shorter_keys : HBind "shorter_keys" "shorter_keys" (defArgs s_shorter_keys) (defBody s_shorter_keys) (defScope s_shorter_keys) ["key"] := fun _ _ _ _ _ _ us hl => match us, hl with | [_], _ => rfl
theorem sc_judge_keys : FnScope N_judge_keys ["rows"] (defScope s_judge_keys) := ⟨rfl, rfl, rfl, by decide +kernel, rfl, by decide +kernel, by decide +kernel⟩
theorem hb_judge_keys : HBind "judge_keys" "judge_keys" (defArgs s_judge_keys) (defBody s_judge_keys) (defScope s_judge_keys) ["rows"] := fun _ _ _ _ _ _ us hl => match us, hl with | [_], _ => rfl
theorem sc__law_well : FnScope N__law_well ["_law_cell"] (defScope s__law_well) := ⟨rfl, rfl, rfl, by decide +kernel, rfl, by decide +kernel, by decide +kernel⟩
theorem hb__law_well : HBind "_law_well" "_law_well" (defArgs s__law_well) (defBody s__law_well) (defScope s__law_well) ["_law_cell"] := fun _ _ _ _ _ _ us hl => match us, hl with | [_], _ => rfl
theorem sc__law_draw : FnScope N__law_draw ["_law_well_here", "_law_many"] (defScope s__law_draw) := ⟨rfl, rfl, rfl, by decide +kernel, rfl, by decide +kernel, by decide +kernel⟩
theorem hb__law_draw : HBind "_law_draw" "_law_draw" (defArgs s__law_draw) (defBody s__law_draw) (defScope s__law_draw) ["_law_well_here", "_law_many"] := fun _ _ _ _ _ _ us hl => match us, hl with | [_, _], _ => rfl
theorem sc__law_one : FnScope N__law_one ["_law_well_here", "_law_some"] (defScope s__law_one) := ⟨rfl, rfl, rfl, by decide +kernel, rfl, by decide +kernel, by decide +kernel⟩
theorem hb__law_one : HBind "_law_one" "_law_one" (defArgs s__law_one) (defBody s__law_one) (defScope s__law_one) ["_law_well_here", "_law_some"] := fun _ _ _ _ _ _ us hl => match us, hl with | [_, _], _ => rfl
theorem sc__law_names : FnScope N__law_names ["_law_well_here", "_law_many"] (defScope s__law_names) := ⟨rfl, rfl, rfl, by decide +kernel, rfl, by decide +kernel, by decide +kernel⟩
theorem hb__law_names : HBind "_law_names" "_law_names" (defArgs s__law_names) (defBody s__law_names) (defScope s__law_names) ["_law_well_here", "_law_many"] := fun _ _ _ _ _ _ us hl => match us, hl with | [_, _], _ => rfl
theorem sc__law_value : FnScope N__law_value ["_law_well_here"] (defScope s__law_value) := ⟨rfl, rfl, rfl, by decide +kernel, rfl, by decide +kernel, by decide +kernel⟩
theorem hb__law_value : HBind "_law_value" "_law_value" (defArgs s__law_value) (defBody s__law_value) (defScope s__law_value) ["_law_well_here"] := fun _ _ _ _ _ _ us hl => match us, hl with | [_], _ => rfl
theorem sc__law_levels : FnScope N__law_levels ["_law_well_here", "_law_many"] (defScope s__law_levels) := ⟨rfl, rfl, rfl, by decide +kernel, rfl, by decide +kernel, by decide +kernel⟩
theorem hb__law_levels : HBind "_law_levels" "_law_levels" (defArgs s__law_levels) (defBody s__law_levels) (defScope s__law_levels) ["_law_well_here", "_law_many"] := fun _ _ _ _ _ _ us hl => match us, hl with | [_, _], _ => rfl
theorem sc__law_rows : FnScope N__law_rows ["_law_well_here", "_law_most"] (defScope s__law_rows) := ⟨rfl, rfl, rfl, by decide +kernel, rfl, by decide +kernel, by decide +kernel⟩
theorem hb__law_rows : HBind "_law_rows" "_law_rows" (defArgs s__law_rows) (defBody s__law_rows) (defScope s__law_rows) ["_law_well_here", "_law_most"] := fun _ _ _ _ _ _ us hl => match us, hl with | [_, _], _ => rfl
theorem sc__law_mixed : FnScope N__law_mixed ["_law_well_here", "_law_some"] (defScope s__law_mixed) := ⟨rfl, rfl, rfl, by decide +kernel, rfl, by decide +kernel, by decide +kernel⟩
theorem hb__law_mixed : HBind "_law_mixed" "_law_mixed" (defArgs s__law_mixed) (defBody s__law_mixed) (defScope s__law_mixed) ["_law_well_here", "_law_some"] := fun _ _ _ _ _ _ us hl => match us, hl with | [_, _], _ => rfl
theorem sc__law_is_whole : FnScope N__law_is_whole ["_law_thing"] (defScope s__law_is_whole) := ⟨rfl, rfl, rfl, by decide +kernel, rfl, by decide +kernel, by decide +kernel⟩
theorem hb__law_is_whole : HBind "_law_is_whole" "_law_is_whole" (defArgs s__law_is_whole) (defBody s__law_is_whole) (defScope s__law_is_whole) ["_law_thing"] := fun _ _ _ _ _ _ us hl => match us, hl with | [_], _ => rfl
theorem sc__law_is_name : FnScope N__law_is_name ["_law_thing"] (defScope s__law_is_name) := ⟨rfl, rfl, rfl, by decide +kernel, rfl, by decide +kernel, by decide +kernel⟩
theorem hb__law_is_name : HBind "_law_is_name" "_law_is_name" (defArgs s__law_is_name) (defBody s__law_is_name) (defScope s__law_is_name) ["_law_thing"] := fun _ _ _ _ _ _ us hl => match us, hl with | [_], _ => rfl
theorem sc__law_is_value : FnScope N__law_is_value ["_law_thing"] (defScope s__law_is_value) := ⟨rfl, rfl, rfl, by decide +kernel, rfl, by decide +kernel, by decide +kernel⟩
theorem hb__law_is_value : HBind "_law_is_value" "_law_is_value" (defArgs s__law_is_value) (defBody s__law_is_value) (defScope s__law_is_value) ["_law_thing"] := fun _ _ _ _ _ _ us hl => match us, hl with | [_], _ => rfl
theorem sc__law_labels : FnScope N__law_labels ["_law_well_here", "_law_rows_so"] (defScope s__law_labels) := ⟨rfl, rfl, rfl, by decide +kernel, rfl, by decide +kernel, by decide +kernel⟩
theorem hb__law_labels : HBind "_law_labels" "_law_labels" (defArgs s__law_labels) (defBody s__law_labels) (defScope s__law_labels) ["_law_well_here", "_law_rows_so"] := fun _ _ _ _ _ _ us hl => match us, hl with | [_, _], _ => rfl
theorem sc__law_cut : FnScope N__law_cut ["_law_numbers"] (defScope s__law_cut) := ⟨rfl, rfl, rfl, by decide +kernel, rfl, by decide +kernel, by decide +kernel⟩
theorem hb__law_cut : HBind "_law_cut" "_law_cut" (defArgs s__law_cut) (defBody s__law_cut) (defScope s__law_cut) ["_law_numbers"] := fun _ _ _ _ _ _ us hl => match us, hl with | [_], _ => rfl
theorem sc__law_is_key : FnScope N__law_is_key ["_law_thing"] (defScope s__law_is_key) := ⟨rfl, rfl, rfl, by decide +kernel, rfl, by decide +kernel, by decide +kernel⟩
theorem hb__law_is_key : HBind "_law_is_key" "_law_is_key" (defArgs s__law_is_key) (defBody s__law_is_key) (defScope s__law_is_key) ["_law_thing"] := fun _ _ _ _ _ _ us hl => match us, hl with | [_], _ => rfl
theorem sc__law_word : FnScope N__law_word ["_law_rows_so", "_law_place"] (defScope s__law_word) := ⟨rfl, rfl, rfl, by decide +kernel, rfl, by decide +kernel, by decide +kernel⟩
theorem hb__law_word : HBind "_law_word" "_law_word" (defArgs s__law_word) (defBody s__law_word) (defScope s__law_word) ["_law_rows_so", "_law_place"] := fun _ _ _ _ _ _ us hl => match us, hl with | [_, _], _ => rfl
theorem sc__law_due : FnScope N__law_due ["_law_rows_so"] (defScope s__law_due) := ⟨rfl, rfl, rfl, by decide +kernel, rfl, by decide +kernel, by decide +kernel⟩
theorem hb__law_due : HBind "_law_due" "_law_due" (defArgs s__law_due) (defBody s__law_due) (defScope s__law_due) ["_law_rows_so"] := fun _ _ _ _ _ _ us hl => match us, hl with | [_], _ => rfl
theorem sc__law_spoil : FnScope N__law_spoil ["_law_well_here", "_law_rows_so"] (defScope s__law_spoil) := ⟨rfl, rfl, rfl, by decide +kernel, rfl, by decide +kernel, by decide +kernel⟩
theorem hb__law_spoil : HBind "_law_spoil" "_law_spoil" (defArgs s__law_spoil) (defBody s__law_spoil) (defScope s__law_spoil) ["_law_well_here", "_law_rows_so"] := fun _ _ _ _ _ _ us hl => match us, hl with | [_, _], _ => rfl
theorem sc__law_made : FnScope N__law_made ["_law_rows_so", "_law_kind"] (defScope s__law_made) := ⟨rfl, rfl, rfl, by decide +kernel, rfl, by decide +kernel, by decide +kernel⟩
theorem hb__law_made : HBind "_law_made" "_law_made" (defArgs s__law_made) (defBody s__law_made) (defScope s__law_made) ["_law_rows_so", "_law_kind"] := fun _ _ _ _ _ _ us hl => match us, hl with | [_, _], _ => rfl
theorem sc_law : FnScope N_law ["_law_script"] (defScope s_law) := ⟨rfl, rfl, rfl, by decide +kernel, rfl, by decide +kernel, by decide +kernel⟩
theorem hb_law : HBind "law" "law" (defArgs s_law) (defBody s_law) (defScope s_law) ["_law_script"] := fun _ _ _ _ _ _ us hl => match us, hl with | [_], _ => rfl
theorem hb_NoKey___init__ : HBind "__init__" "NoKey.__init__" (defArgs s_NoKey___init__) (defBody s_NoKey___init__) (defScope s_NoKey___init__) ["self", "place"] := fun _ _ _ _ _ _ us hl => match us, hl with | [_, _], _ => rfl
structure Tx (K : PySem.W.Frag) (mg : Str -> Option Value) : Prop where
  f_is_integer : ∃ fd, FunD K "is_integer" "is_integer" (defArgs s_is_integer) (defBody s_is_integer) (defScope s_is_integer) [] [] (He.fAd K ("is_integer", none)) fd
  f_is_sequence : ∃ fd, FunD K "is_sequence" "is_sequence" (defArgs s_is_sequence) (defBody s_is_sequence) (defScope s_is_sequence) [] [] (He.fAd K ("is_sequence", none)) fd
  f_is_name : ∃ fd, FunD K "is_name" "is_name" (defArgs s_is_name) (defBody s_is_name) (defScope s_is_name) [] [] (He.fAd K ("is_name", none)) fd
  f_is_value : ∃ fd, FunD K "is_value" "is_value" (defArgs s_is_value) (defBody s_is_value) (defScope s_is_value) [] [] (He.fAd K ("is_value", none)) fd
  f_key_fault : ∃ fd, FunD K "key_fault" "key_fault" (defArgs s_key_fault) (defBody s_key_fault) (defScope s_key_fault) [] [] (He.fAd K ("key_fault", none)) fd
  f_cut_key : ∃ fd, FunD K "cut_key" "cut_key" (defArgs s_cut_key) (defBody s_cut_key) (defScope s_cut_key) [] [] (He.fAd K ("cut_key", none)) fd
  f_bytes_of : ∃ fd, FunD K "bytes_of" "bytes_of" (defArgs s_bytes_of) (defBody s_bytes_of) (defScope s_bytes_of) [] [] (He.fAd K ("bytes_of", none)) fd
  f_plain_word : ∃ fd, FunD K "plain_word" "plain_word" (defArgs s_plain_word) (defBody s_plain_word) (defScope s_plain_word) [] [] (He.fAd K ("plain_word", none)) fd
  f_key_word : ∃ fd, FunD K "key_word" "key_word" (defArgs s_key_word) (defBody s_key_word) (defScope s_key_word) [] [] (He.fAd K ("key_word", none)) fd
  f_shorter_keys : ∃ fd, FunD K "shorter_keys" "shorter_keys" (defArgs s_shorter_keys) (defBody s_shorter_keys) (defScope s_shorter_keys) [] [] (He.fAd K ("shorter_keys", none)) fd
  f_judge_keys : ∃ fd, FunD K "judge_keys" "judge_keys" (defArgs s_judge_keys) (defBody s_judge_keys) (defScope s_judge_keys) [] [] (He.fAd K ("judge_keys", none)) fd
  f__law_well : ∃ fd, FunD K "_law_well" "_law_well" (defArgs s__law_well) (defBody s__law_well) (defScope s__law_well) [] [] (He.fAd K ("_law_well", none)) fd
  f__law_draw : ∃ fd, FunD K "_law_draw" "_law_draw" (defArgs s__law_draw) (defBody s__law_draw) (defScope s__law_draw) [] [] (He.fAd K ("_law_draw", none)) fd
  f__law_one : ∃ fd, FunD K "_law_one" "_law_one" (defArgs s__law_one) (defBody s__law_one) (defScope s__law_one) [] [] (He.fAd K ("_law_one", none)) fd
  f__law_names : ∃ fd, FunD K "_law_names" "_law_names" (defArgs s__law_names) (defBody s__law_names) (defScope s__law_names) [] [] (He.fAd K ("_law_names", none)) fd
  f__law_value : ∃ fd, FunD K "_law_value" "_law_value" (defArgs s__law_value) (defBody s__law_value) (defScope s__law_value) [] [] (He.fAd K ("_law_value", none)) fd
  f__law_levels : ∃ fd, FunD K "_law_levels" "_law_levels" (defArgs s__law_levels) (defBody s__law_levels) (defScope s__law_levels) [] [] (He.fAd K ("_law_levels", none)) fd
  f__law_rows : ∃ fd, FunD K "_law_rows" "_law_rows" (defArgs s__law_rows) (defBody s__law_rows) (defScope s__law_rows) [] [] (He.fAd K ("_law_rows", none)) fd
  f__law_mixed : ∃ fd, FunD K "_law_mixed" "_law_mixed" (defArgs s__law_mixed) (defBody s__law_mixed) (defScope s__law_mixed) [] [] (He.fAd K ("_law_mixed", none)) fd
  f__law_is_whole : ∃ fd, FunD K "_law_is_whole" "_law_is_whole" (defArgs s__law_is_whole) (defBody s__law_is_whole) (defScope s__law_is_whole) [] [] (He.fAd K ("_law_is_whole", none)) fd
  f__law_is_name : ∃ fd, FunD K "_law_is_name" "_law_is_name" (defArgs s__law_is_name) (defBody s__law_is_name) (defScope s__law_is_name) [] [] (He.fAd K ("_law_is_name", none)) fd
  f__law_is_value : ∃ fd, FunD K "_law_is_value" "_law_is_value" (defArgs s__law_is_value) (defBody s__law_is_value) (defScope s__law_is_value) [] [] (He.fAd K ("_law_is_value", none)) fd
  f__law_labels : ∃ fd, FunD K "_law_labels" "_law_labels" (defArgs s__law_labels) (defBody s__law_labels) (defScope s__law_labels) [] [] (He.fAd K ("_law_labels", none)) fd
  f__law_cut : ∃ fd, FunD K "_law_cut" "_law_cut" (defArgs s__law_cut) (defBody s__law_cut) (defScope s__law_cut) [] [] (He.fAd K ("_law_cut", none)) fd
  f__law_is_key : ∃ fd, FunD K "_law_is_key" "_law_is_key" (defArgs s__law_is_key) (defBody s__law_is_key) (defScope s__law_is_key) [] [] (He.fAd K ("_law_is_key", none)) fd
  f__law_word : ∃ fd, FunD K "_law_word" "_law_word" (defArgs s__law_word) (defBody s__law_word) (defScope s__law_word) [] [] (He.fAd K ("_law_word", none)) fd
  f__law_due : ∃ fd, FunD K "_law_due" "_law_due" (defArgs s__law_due) (defBody s__law_due) (defScope s__law_due) [] [] (He.fAd K ("_law_due", none)) fd
  f__law_spoil : ∃ fd, FunD K "_law_spoil" "_law_spoil" (defArgs s__law_spoil) (defBody s__law_spoil) (defScope s__law_spoil) [] [] (He.fAd K ("_law_spoil", none)) fd
  f__law_made : ∃ fd, FunD K "_law_made" "_law_made" (defArgs s__law_made) (defBody s__law_made) (defScope s__law_made) [] [] (He.fAd K ("_law_made", none)) fd
  f_law : ∃ fd, FunD K "law" "law" (defArgs s_law) (defBody s_law) (defScope s_law) [] [] (He.fAd K ("law", none)) fd
  f_NoKey____init__ : ∃ fd, FunD K "__init__" "NoKey.__init__" (defArgs s_NoKey___init__) (defBody s_NoKey___init__) (defScope s_NoKey___init__) [] [] (He.fAd K ("NoKey", some "__init__")) fd
  f_Fault__facts : ∃ fd, FunD K "facts" "Fault.facts" (defArgs s_Fault_facts) (defBody s_Fault_facts) (defScope s_Fault_facts) [] [] (He.fAd K ("Fault", some "facts")) fd
  f_Fault__class_name : ∃ fd, FunD K "class_name" "Fault.class_name" (defArgs s_Fault_class_name) (defBody s_Fault_class_name) (defScope s_Fault_class_name) [] [] (He.fAd K ("Fault", some "class_name")) fd
  f_Fault____init__ : ∃ fd, FunD K "__init__" "Fault.__init__" (defArgs s_Fault___init__) (defBody s_Fault___init__) (defScope s_Fault___init__) [] [] (He.fAd K ("Fault", some "__init__")) fd
  f_Fault____eq__ : ∃ fd, FunD K "__eq__" "Thing.__eq__" (defArgs s_Thing___eq__) (defBody s_Thing___eq__) (defScope s_Thing___eq__) [] [] (He.fAd K ("Fault", some "__eq__")) fd
  g_is_integer : mg "is_integer" = some (.ref (He.fAd K ("is_integer", none)))
  g_is_sequence : mg "is_sequence" = some (.ref (He.fAd K ("is_sequence", none)))
  g_is_name : mg "is_name" = some (.ref (He.fAd K ("is_name", none)))
  g_is_value : mg "is_value" = some (.ref (He.fAd K ("is_value", none)))
  g_key_fault : mg "key_fault" = some (.ref (He.fAd K ("key_fault", none)))
  g_cut_key : mg "cut_key" = some (.ref (He.fAd K ("cut_key", none)))
  g_bytes_of : mg "bytes_of" = some (.ref (He.fAd K ("bytes_of", none)))
  g_plain_word : mg "plain_word" = some (.ref (He.fAd K ("plain_word", none)))
  g_key_word : mg "key_word" = some (.ref (He.fAd K ("key_word", none)))
  g_shorter_keys : mg "shorter_keys" = some (.ref (He.fAd K ("shorter_keys", none)))
  g_judge_keys : mg "judge_keys" = some (.ref (He.fAd K ("judge_keys", none)))
  g__law_well : mg "_law_well" = some (.ref (He.fAd K ("_law_well", none)))
  g__law_draw : mg "_law_draw" = some (.ref (He.fAd K ("_law_draw", none)))
  g__law_one : mg "_law_one" = some (.ref (He.fAd K ("_law_one", none)))
  g__law_names : mg "_law_names" = some (.ref (He.fAd K ("_law_names", none)))
  g__law_value : mg "_law_value" = some (.ref (He.fAd K ("_law_value", none)))
  g__law_levels : mg "_law_levels" = some (.ref (He.fAd K ("_law_levels", none)))
  g__law_rows : mg "_law_rows" = some (.ref (He.fAd K ("_law_rows", none)))
  g__law_mixed : mg "_law_mixed" = some (.ref (He.fAd K ("_law_mixed", none)))
  g__law_is_whole : mg "_law_is_whole" = some (.ref (He.fAd K ("_law_is_whole", none)))
  g__law_is_name : mg "_law_is_name" = some (.ref (He.fAd K ("_law_is_name", none)))
  g__law_is_value : mg "_law_is_value" = some (.ref (He.fAd K ("_law_is_value", none)))
  g__law_labels : mg "_law_labels" = some (.ref (He.fAd K ("_law_labels", none)))
  g__law_cut : mg "_law_cut" = some (.ref (He.fAd K ("_law_cut", none)))
  g__law_is_key : mg "_law_is_key" = some (.ref (He.fAd K ("_law_is_key", none)))
  g__law_word : mg "_law_word" = some (.ref (He.fAd K ("_law_word", none)))
  g__law_due : mg "_law_due" = some (.ref (He.fAd K ("_law_due", none)))
  g__law_spoil : mg "_law_spoil" = some (.ref (He.fAd K ("_law_spoil", none)))
  g__law_made : mg "_law_made" = some (.ref (He.fAd K ("_law_made", none)))
  g_law : mg "law" = some (.ref (He.fAd K ("law", none)))
  g_Fault : mg "Fault" = some (.ref (He.ga K "Fault"))
  k_Fault : Cls K (He.ga K "Fault")
  g_Thing : mg "Thing" = some (.ref (He.ga K "Thing"))
  k_Thing : Cls K (He.ga K "Thing")
  g_NoKey : mg "NoKey" = some (.ref (He.ga K "NoKey"))
  g_ForestError : mg "ForestError" = some (.ref (He.ga K "ForestError"))
  oex_NoKey : OexC K (He.ga K "NoKey")
  xn_NoKey : xnB K (He.ga K "NoKey") (He.fAd K ("NoKey", some "__init__")) ["place"] = true
  n_Fault__word : NoAttr K (He.ga K "Fault") "word"
  n_Fault__place : NoAttr K (He.ga K "Fault") "place"
  m_Fault__facts : Meth K (He.ga K "Fault") "facts" (He.fAd K ("Fault", some "facts"))
  m_Fault__class_name : Meth K (He.ga K "Fault") "class_name" (He.fAd K ("Fault", some "class_name"))
  mk_Fault : Mk K (He.ga K "Fault") (He.fAd K ("Fault", some "__init__"))
  sm : SmOk K
  m_Fault____eq__ : Meth K (He.ga K "Fault") "__eq__" (He.fAd K ("Fault", some "__eq__"))
  ty_Fault : TyC K (He.ga K "Fault")
  iso_Thing : IsoOk K (cl K) 1 [12] []
  nf_12 : NfOk K (cl K) [12]
  ne_12 : NeOk K (cl K) [12]
  iso_Fault : IsoOk K (cl K) 12 [12] []
  b_isinstance : mg "isinstance" = none
  b_int : mg "int" = none
  b_bool : mg "bool" = none
  b_tuple : mg "tuple" = none
  b_list : mg "list" = none
  b_all : mg "all" = none
  b_str : mg "str" = none
  b_len : mg "len" = none
  b_enumerate : mg "enumerate" = none
  b_bytes : mg "bytes" = none
  b_range : mg "range" = none
  b_repr : mg "repr" = none
  c_LETTERS : ∃ t, mg "LETTERS" = some (.str "abcdefghijklmnopqrstuvwxyz" t)
  c_SIGNS : ∃ t, mg "SIGNS" = some (.str "abcdefghijklmnopqrstuvwxyz0123456789" t)
  c_MOST_SIGNS : ∃ t, mg "MOST_SIGNS" = some (.int 8 t)
  c_MOST_VALUE : ∃ t, mg "MOST_VALUE" = some (.int 1000000000000000000000000000000 t)
  c_MOST_ROWS : ∃ t, mg "MOST_ROWS" = some (.int 60 t)
theorem fo_word {K : PySem.W.Frag} {mg : Str -> Option Value} (T : Tx K mg) : FldOk K (cl K) [12] "word" := by
  intro c hc
  rcases List.mem_cons.mp hc with rfl | hc
  · exact ⟨T.k_Fault, T.n_Fault__word⟩
  cases hc
theorem fo_place {K : PySem.W.Frag} {mg : Str -> Option Value} (T : Tx K mg) : FldOk K (cl K) [12] "place" := by
  intro c hc
  rcases List.mem_cons.mp hc with rfl | hc
  · exact ⟨T.k_Fault, T.n_Fault__place⟩
  cases hc
section
variable {P : Program} {w : World} {K : PySem.W.Frag} {mg : Str -> Option Value} {base : Heap}
theorem x_NoKey (T : Tx K mg) : ExcK P w K mg base "NoKey" (cl K 30) ["place"] := by
  obtain ⟨fd, F⟩ := T.f_NoKey____init__
  have z := xnB_ok T.xn_NoKey
  exact ⟨T.oex_NoKey, T.g_NoKey, He.fAd K ("NoKey", some "__init__"), fd, ["self", "place"], z.1, z.2.1, xinit1 T.oex_NoKey (z.2.2 "place" (by simp)) F ⟨rfl, rfl, rfl, by decide +kernel, rfl, by decide +kernel, by decide +kernel⟩, F.bindsN hb_NoKey___init__⟩
theorem core_is_integer (T : Tx K mg) {f : Addr} (F : ∃ fd, FunD K "is_integer" "is_integer" (defArgs s_is_integer) (defBody s_is_integer) (defScope s_is_integer) [] [] f fd) : FnC (clw K P w) P w K mg base 1 "is_integer" "is_integer" (defArgs s_is_integer) (defBody s_is_integer) (defScope s_is_integer) f ["thing"] sp_is_integer := by
  refine fnC_of (k := 0) (t := t_is_integer) F sc_is_integer (fun cdv A outer s H E c => ?_) pure_is_integer
  exact (dss_one (ds_ret (d_andV (d_callB (call_isi.or (call_isiT.or call_isiK)) lc_isi rfl T.b_isinstance (by decide +kernel) (da_cons (d_var 0) (da_cons (d_ty rfl T.b_int (by decide +kernel)) da_nil))) (d_one (d_notV (d_callB (call_isi.or (call_isiT.or call_isiK)) lc_isi rfl T.b_isinstance (by decide +kernel) (da_cons (d_var 0) (da_cons (d_ty rfl T.b_bool (by decide +kernel)) da_nil))))))))
theorem core_is_sequence (T : Tx K mg) {f : Addr} (F : ∃ fd, FunD K "is_sequence" "is_sequence" (defArgs s_is_sequence) (defBody s_is_sequence) (defScope s_is_sequence) [] [] f fd) : FnC (clw K P w) P w K mg base 1 "is_sequence" "is_sequence" (defArgs s_is_sequence) (defBody s_is_sequence) (defScope s_is_sequence) f ["thing"] sp_is_sequence := by
  refine fnC_of (k := 0) (t := t_is_sequence) F sc_is_sequence (fun cdv A outer s H E c => ?_) pure_is_sequence
  exact (dss_one (ds_ret (d_callB (call_isi.or (call_isiT.or call_isiK)) lc_isi rfl T.b_isinstance (by decide +kernel) (da_cons (d_var 0) (da_cons (d_tup (da_cons (d_ty rfl T.b_list (by decide +kernel)) (da_cons (d_ty rfl T.b_tuple (by decide +kernel)) da_nil))) da_nil)))))
theorem core_is_name (T : Tx K mg) {f : Addr} (F : ∃ fd, FunD K "is_name" "is_name" (defArgs s_is_name) (defBody s_is_name) (defScope s_is_name) [] [] f fd) : FnC (clw K P w) P w K mg base 1 "is_name" "is_name" (defArgs s_is_name) (defBody s_is_name) (defScope s_is_name) f ["thing"] sp_is_name := by
  refine fnC_of (k := 0) (t := t_is_name) F sc_is_name (fun cdv A outer s H E c => ?_) pure_is_name
  exact (dss_cons (ds_if (DW.dt (dw_or (d_tnot (d_val (d_callB (call_isi.or (call_isiT.or call_isiK)) lc_isi rfl T.b_isinstance (by decide +kernel) (da_cons (d_var 0) (da_cons (d_ty rfl T.b_str (by decide +kernel)) da_nil))))) (dw_or1 (d_tnot (d_tchain op_le op_le (lop_cmp _) (lop_cmp _) d_int (d_callB call_len lc_len rfl T.b_len PySem.boot_len (da_cons (d_var 0) da_nil)) (d_globI rfl T.c_MOST_SIGNS)))))) (dss_one (ds_ret d_bl)) dss_nil)
      (dss_one (ds_ret (d_andV (d_cmp (op_inA (RoomG.u1 c.hr)) lop_in (d_ixA (RoomG.u1 c.hr) (d_var 0) d_int) (d_globS rfl T.c_LETTERS) rfl) (d_one (d_callB (cr_all c.calm) lc_all rfl T.b_all (by decide +kernel) (da_cons (d_lc (own := [("sign", 1)]) c.calm sc_is_name.nd (di_seq (d_var 0)) (blkOk_by (own := [("sign", 1)]) (N := N_is_name) (sc := defScope s_is_name) (by decide +kernel)) (fun _ _ _ _ _ => (dg_name 1 sc_is_name.nd)) (fun _ _ _ _ _ => dts_nil) (fun _ _ _ _ _ => (d_cmp (op_inA (RoomG.u1 c.blk.hr)) lop_in (d_var 1) (d_globS rfl T.c_SIGNS) rfl))) da_nil)))))))
theorem core_is_value (T : Tx K mg) {f : Addr} (F : ∃ fd, FunD K "is_value" "is_value" (defArgs s_is_value) (defBody s_is_value) (defScope s_is_value) [] [] f fd) : FnC (clw K P w) P w K mg base 2 "is_value" "is_value" (defArgs s_is_value) (defBody s_is_value) (defScope s_is_value) f ["thing"] sp_is_value := by
  have G0 : FnB (clw K P w) P w K mg base 1 "is_integer" ["thing"] sp_is_integer := (core_is_integer T T.f_is_integer).fn T.g_is_integer hb_is_integer
  refine fnC_of (k := 1) (t := t_is_value) F sc_is_value (fun cdv A outer s H E c => ?_) pure_is_value
  exact (dss_one (ds_ret (d_andV (d_fn c G0 (by decide) rfl (da_cons (d_var 0) da_nil)) (d_one (d_chain op_le op_le (lop_cmp _) (lop_cmp _) (d_un un_neg lun_neg (d_globI rfl T.c_MOST_VALUE)) (d_var 0) (d_globI rfl T.c_MOST_VALUE))))))
theorem core_key_fault (T : Tx K mg) {f : Addr} (F : ∃ fd, FunD K "key_fault" "key_fault" (defArgs s_key_fault) (defBody s_key_fault) (defScope s_key_fault) [] [] f fd) : FnC (clw K P w) P w K mg base 1 "key_fault" "key_fault" (defArgs s_key_fault) (defBody s_key_fault) (defScope s_key_fault) f ["key"] sp_key_fault := by
  refine fnC_of (k := 0) (t := t_key_fault) F sc_key_fault (fun cdv A outer s H E c => ?_) pure_key_fault
  exact (dss_cons (ds_if (DW.dt (dw_or (d_tnot (d_val (d_callB (call_isi.or (call_isiT.or call_isiK)) lc_isi rfl T.b_isinstance (by decide +kernel) (da_cons (d_var 0) (da_cons (d_ty rfl T.b_bytes (by decide +kernel)) da_nil))))) (dw_or1 (d_tcmp (op_eqA c.hr.room.units) lop_eq (d_callB call_len lc_len rfl T.b_len PySem.boot_len (da_cons (d_var 0) da_nil)) d_int (nomark _))))) (dss_one (ds_ret (d_un un_neg lun_neg d_int))) dss_nil)
      (dss_cons (ds_for c.po c.calm (di_enumW rfl T.b_enumerate (d_var 0)) (dg_tup c.calm (dgs_cons (dg_name 1 sc_key_fault.nd) (dgs_cons (dg_name 2 sc_key_fault.nd) dgs_nil))) (dss_one (ds_if (d_tcmp (op_eqA c.hr.room.units) lop_eq (d_var 2) d_int (nomark _)) (dss_one (ds_ret (d_var 1))) dss_nil)))
      (dss_one (ds_ret (d_ifE (d_tcmp (op_eqA c.hr.room.units) lop_eq (d_op op_mod lop_mod (d_callTy call_int1 lc_int rfl T.b_int (by decide +kernel) (da_cons (d_ixB (d_var 0) (d_un un_neg lun_neg d_int)) da_nil)) d_int) d_int (nomark _)) (d_callB call_len lc_len rfl T.b_len PySem.boot_len (da_cons (d_var 0) da_nil)) d_non)))))
theorem core_cut_key (T : Tx K mg) {f : Addr} (F : ∃ fd, FunD K "cut_key" "cut_key" (defArgs s_cut_key) (defBody s_cut_key) (defScope s_cut_key) [] [] f fd) : FnC (clw K P w) P w K mg base 1 "cut_key" "cut_key" (defArgs s_cut_key) (defBody s_cut_key) (defScope s_cut_key) f ["key"] sp_cut_key := by
  refine fnC_of (k := 0) (t := t_cut_key) F sc_cut_key (fun cdv A outer s H E c => ?_) pure_cut_key
  exact (dss_cons (ds_par (i := 1) (j := 2) c.calm sc_cut_key.nd (da_cons (d_lstM da_nil) (da_cons d_int da_nil)))
      (dss_cons (ds_for c.po c.calm (di_enumW rfl T.b_enumerate (d_var 0)) (dg_tup c.calm (dgs_cons (dg_name 3 sc_cut_key.nd) (dgs_cons (dg_name 4 sc_cut_key.nd) dgs_nil))) (dss_one (ds_if (d_tcmp (op_eqA c.hr.room.units) lop_eq (d_op op_mod lop_mod (d_callTy call_int1 lc_int rfl T.b_int (by decide +kernel) (da_cons (d_var 4) da_nil)) d_int) d_int (nomark _)) (dss_cons (ds_expr (d_bm PySem.F.plainAttrs_list PySem.F.slot_list_append PySem.F.type_list_append mt_append lm_app (d_var 1) (da_cons (d_sliceB (d_var 0) (do_some (d_var 2)) (do_some (d_op op_addAll lop_add (d_var 3) d_int))) da_nil)))
      (dss_one (ds_set 2 sc_cut_key.nd (d_op op_addAll lop_add (d_var 3) d_int)))) dss_nil)))
      (dss_one (ds_ret (d_frz (d_var 1))))))
theorem core_bytes_of (T : Tx K mg) {f : Addr} (F : ∃ fd, FunD K "bytes_of" "bytes_of" (defArgs s_bytes_of) (defBody s_bytes_of) (defScope s_bytes_of) [] [] f fd) : FnC (clw K P w) P w K mg base 3 "bytes_of" "bytes_of" (defArgs s_bytes_of) (defBody s_bytes_of) (defScope s_bytes_of) f ["numbers"] sp_bytes_of := by
  have G0 : FnB (clw K P w) P w K mg base 1 "is_integer" ["thing"] sp_is_integer := (core_is_integer T T.f_is_integer).fn T.g_is_integer hb_is_integer
  have G1 : FnB (clw K P w) P w K mg base 1 "is_sequence" ["thing"] sp_is_sequence := (core_is_sequence T T.f_is_sequence).fn T.g_is_sequence hb_is_sequence
  refine fnC_of (k := 2) (t := t_bytes_of) F sc_bytes_of (fun cdv A outer s H E c => ?_) pure_bytes_of
  exact (dss_cons (ds_if (d_tnot (d_val (d_fn c G1 (by decide) rfl (da_cons (d_var 0) da_nil)))) (dss_one (ds_raise c (by decide) (x_NoKey T) (by decide) rfl (da_cons (d_un un_neg lun_neg d_int) da_nil))) dss_nil)
      (dss_cons (ds_for c.po c.calm (di_enumT rfl T.b_enumerate (d_var 0)) (dg_tup c.calm (dgs_cons (dg_name 1 sc_bytes_of.nd) (dgs_cons (dg_name 2 sc_bytes_of.nd) dgs_nil))) (dss_one (ds_if (DW.dt (dw_or (d_tnot (d_val (d_fn c G0 (by decide) rfl (da_cons (d_var 2) da_nil)))) (dw_or1 (d_tnot (d_tchain op_le op_le (lop_cmp _) (lop_cmp _) d_int (d_var 2) d_int))))) (dss_one (ds_raise c (by decide) (x_NoKey T) (by decide) rfl (da_cons (d_var 1) da_nil))) dss_nil)))
      (dss_one (ds_ret (d_callTy (call_bytesA c.calm) lc_bytes rfl T.b_bytes (by decide +kernel) (da_cons (d_var 0) da_nil))))))
theorem core_Fault___init__ (T : Tx K mg) {f : Addr} (F : ∃ fd, FunD K "__init__" "Fault.__init__" (defArgs s_Fault___init__) (defBody s_Fault___init__) (defScope s_Fault___init__) [] [] f fd) : FnC (clw K P w) P w K mg base 1 "__init__" "Fault.__init__" (defArgs s_Fault___init__) (defBody s_Fault___init__) (defScope s_Fault___init__) f ["self", "place", "word"] sp_Fault___init__ := by
  refine fnC_of (k := 0) (t := t_Fault___init__) F sc_Fault___init__ (fun cdv A outer s H E c => ?_) pure_Fault___init__
  exact (dss_cons (ds_fld (fo_place T) (d_var 0) (d_var 1))
      (dss_one (ds_fld (fo_word T) (d_var 0) (d_var 2))))
theorem core_Fault_class_name (T : Tx K mg) {f : Addr} (F : ∃ fd, FunD K "class_name" "Fault.class_name" (defArgs s_Fault_class_name) (defBody s_Fault_class_name) (defScope s_Fault_class_name) [] [] f fd) : FnC (clw K P w) P w K mg base 1 "class_name" "Fault.class_name" (defArgs s_Fault_class_name) (defBody s_Fault_class_name) (defScope s_Fault_class_name) f ["self"] sp_Fault_class_name := by
  refine fnC_of (k := 0) (t := t_Fault_class_name) F sc_Fault_class_name (fun cdv A outer s H E c => ?_) pure_Fault_class_name
  exact (dss_one (ds_ret d_str))
theorem core_Fault_facts (T : Tx K mg) {f : Addr} (F : ∃ fd, FunD K "facts" "Fault.facts" (defArgs s_Fault_facts) (defBody s_Fault_facts) (defScope s_Fault_facts) [] [] f fd) : FnC (clw K P w) P w K mg base 1 "facts" "Fault.facts" (defArgs s_Fault_facts) (defBody s_Fault_facts) (defScope s_Fault_facts) f ["self"] sp_Fault_facts := by
  refine fnC_of (k := 0) (t := t_Fault_facts) F sc_Fault_facts (fun cdv A outer s H E c => ?_) pure_Fault_facts
  exact (dss_one (ds_ret (d_tup (da_cons (d_fld (fo_place T) (d_var 0)) (da_cons (d_fld (fo_word T) (d_var 0)) da_nil)))))
theorem core_Thing___eq__ (T : Tx K mg) {f : Addr} (F : ∃ fd, FunD K "__eq__" "Thing.__eq__" (defArgs s_Thing___eq__) (defBody s_Thing___eq__) (defScope s_Thing___eq__) [] [] f fd) : FnC (clw K P w) P w K mg base 2 "__eq__" "Thing.__eq__" (defArgs s_Thing___eq__) (defBody s_Thing___eq__) (defScope s_Thing___eq__) f ["self", "other"] sp_Thing___eq__ := by
  have G0 : ∀ c spd, List.lookup c ([(12, sp_Fault_facts)] : List (Nat × SpD)) = some spd -> MethB (clw K P w) P w K mg base 1 c "facts" spd := (tb_cons ((core_Fault_facts T T.f_Fault__facts).meth (c := 12) T.k_Fault T.m_Fault__facts hb_Fault_facts (by decide)) tb_nil)
  have G1 : ∀ c spd, List.lookup c ([(12, sp_Fault_class_name)] : List (Nat × SpD)) = some spd -> MethB (clw K P w) P w K mg base 1 c "class_name" spd := (tb_cons ((core_Fault_class_name T T.f_Fault__class_name).meth (c := 12) T.k_Fault T.m_Fault__class_name hb_Fault_class_name (by decide)) tb_nil)
  refine fnC_of (k := 1) (t := t_Thing___eq__) F sc_Thing___eq__ (fun cdv A outer s H E c => ?_) pure_Thing___eq__
  exact (dss_cons (ds_if (DW.dt (dw_or (d_tnot (d_val (d_callB call_isi (lc_iso T.iso_Thing) rfl T.b_isinstance (by decide +kernel) (da_cons (d_var 1) (da_cons (d_clsN (c := 1) rfl T.g_Thing) da_nil))))) (dw_or1 (d_tcmp (op_neA c.hr.room.units) lop_ne (d_meth0 c G1 (d_var 0)) (d_meth0 c G1 (d_var 1)) (nomark _))))) (dss_one (ds_ret d_bl)) dss_nil)
      (dss_one (ds_ret (d_cmp (op_eqA c.hr.room.units) lop_eq (d_meth0 c G0 (d_var 0)) (d_meth0 c G0 (d_var 1)) (nomark _)))))
theorem core_plain_word (T : Tx K mg) {f : Addr} (F : ∃ fd, FunD K "plain_word" "plain_word" (defArgs s_plain_word) (defBody s_plain_word) (defScope s_plain_word) [] [] f fd) : FnC (clw K P w) P w K mg base 3 "plain_word" "plain_word" (defArgs s_plain_word) (defBody s_plain_word) (defScope s_plain_word) f ["row", "many"] sp_plain_word := by
  have G0 : FnB (clw K P w) P w K mg base 2 "is_value" ["thing"] sp_is_value := (core_is_value T T.f_is_value).fn T.g_is_value hb_is_value
  have G1 : FnB (clw K P w) P w K mg base 1 "is_name" ["thing"] sp_is_name := (core_is_name T T.f_is_name).fn T.g_is_name hb_is_name
  have G2 : FnB (clw K P w) P w K mg base 1 "is_sequence" ["thing"] sp_is_sequence := (core_is_sequence T T.f_is_sequence).fn T.g_is_sequence hb_is_sequence
  refine fnC_of (k := 2) (t := t_plain_word) F sc_plain_word (fun cdv A outer s H E c => ?_) pure_plain_word
  exact (dss_cons (ds_if (DW.dt (dw_or (d_tnot (d_val (d_fn c G2 (by decide) rfl (da_cons (d_var 0) da_nil)))) (dw_or1 (d_tcmp (op_neA c.hr.room.units) lop_ne (d_callB call_len lc_len rfl T.b_len PySem.boot_len (da_cons (d_var 0) da_nil)) (d_var 1) (nomark _))))) (dss_one (ds_ret d_str)) dss_nil)
      (dss_cons (ds_if (d_tnot (d_val (d_fn c G1 (by decide) rfl (da_cons (d_ixA (RoomG.u1 c.hr) (d_var 0) d_int) da_nil)))) (dss_one (ds_ret d_str)) dss_nil)
      (dss_one (ds_ret (d_ifE (d_val (d_fn c G0 (by decide) rfl (da_cons (d_ixA (RoomG.u1 c.hr) (d_var 0) d_int) da_nil))) d_non d_str)))))
theorem core_key_word (T : Tx K mg) {f : Addr} (F : ∃ fd, FunD K "key_word" "key_word" (defArgs s_key_word) (defBody s_key_word) (defScope s_key_word) [] [] f fd) : FnC (clw K P w) P w K mg base 4 "key_word" "key_word" (defArgs s_key_word) (defBody s_key_word) (defScope s_key_word) f ["rows", "place"] sp_key_word := by
  have G0 : FnB (clw K P w) P w K mg base 1 "key_fault" ["key"] sp_key_fault := (core_key_fault T T.f_key_fault).fn T.g_key_fault hb_key_fault
  have G1 : FnB (clw K P w) P w K mg base 3 "plain_word" ["row", "many"] sp_plain_word := (core_plain_word T T.f_plain_word).fn T.g_plain_word hb_plain_word
  refine fnC_of (k := 3) (t := t_key_word) F sc_key_word (fun cdv A outer s H E c => ?_) pure_key_word
  exact (dss_cons (ds_set 2 sc_key_word.nd (d_fn c G1 (by decide) rfl (da_cons (d_ixA (RoomG.u1 c.hr) (d_var 0) (d_var 1)) (da_cons d_int da_nil))))
      (dss_cons (ds_if (d_tcmp op_notN lop_notN (d_var 2) d_non (nomark _)) (dss_one (ds_ret (d_var 2))) dss_nil)
      (dss_cons (ds_asg (d_ixA (RoomG.u1 c.hr) (d_var 0) (d_var 1)) (dg_tup c.calm (dgs_cons (dg_name 3 sc_key_word.nd) (dgs_cons (dg_name 4 sc_key_word.nd) (dgs_cons (dg_name 5 sc_key_word.nd) dgs_nil)))))
      (dss_cons (ds_if (d_tcmp op_notN lop_notN (d_fn c G0 (by decide) rfl (da_cons (d_var 5) da_nil)) d_non (nomark _)) (dss_one (ds_ret d_str)) dss_nil)
      (dss_cons (ds_if (d_tcmp (op_inA (RoomG.u1 c.hr)) lop_in (d_var 3) (d_lc (own := [("row", 6)]) c.calm sc_key_word.nd (di_seq (d_slice (d_var 0) do_none (do_some (d_var 1)))) (blkOk_by (own := [("row", 6)]) (N := N_key_word) (sc := defScope s_key_word) (by decide +kernel)) (fun _ _ _ _ _ => (dg_name 6 sc_key_word.nd)) (fun _ _ _ _ _ => dts_nil) (fun _ _ _ _ _ => (d_ixA (RoomG.u1 c.blk.hr) (d_var 6) d_int))) rfl) (dss_one (ds_ret d_str)) dss_nil)
      (dss_one (ds_ret (d_ifE (d_tcmpG (bin_inB c.hr.room.units) (d_var 5) (d_lc (own := [("row", 6)]) c.calm sc_key_word.nd (di_seq (d_slice (d_var 0) do_none (do_some (d_var 1)))) (blkOk_by (own := [("row", 6)]) (N := N_key_word) (sc := defScope s_key_word) (by decide +kernel)) (fun _ _ _ _ _ => (dg_name 6 sc_key_word.nd)) (fun _ _ _ _ _ => dts_nil) (fun _ _ _ _ _ => (d_ixA (RoomG.u1 c.blk.hr) (d_var 6) d_int))) rfl) d_str d_non))))))))
theorem core_shorter_keys (T : Tx K mg) {f : Addr} (F : ∃ fd, FunD K "shorter_keys" "shorter_keys" (defArgs s_shorter_keys) (defBody s_shorter_keys) (defScope s_shorter_keys) [] [] f fd) : FnC (clw K P w) P w K mg base 2 "shorter_keys" "shorter_keys" (defArgs s_shorter_keys) (defBody s_shorter_keys) (defScope s_shorter_keys) f ["key"] sp_shorter_keys := by
  have G0 : FnB (clw K P w) P w K mg base 1 "cut_key" ["key"] sp_cut_key := (core_cut_key T T.f_cut_key).fn T.g_cut_key hb_cut_key
  refine fnC_of (k := 1) (t := t_shorter_keys) F sc_shorter_keys (fun cdv A outer s H E c => ?_) pure_shorter_keys
  exact (dss_cons (ds_set 1 sc_shorter_keys.nd (d_fn c G0 (by decide) rfl (da_cons (d_var 0) da_nil)))
      (dss_one (ds_ret (d_lc (own := [("many", 2)]) c.calm sc_shorter_keys.nd (di_range2 rfl T.b_range d_int (d_callB call_len lc_len rfl T.b_len PySem.boot_len (da_cons (d_var 1) da_nil))) (blkOk_by (own := [("many", 2)]) (N := N_shorter_keys) (sc := defScope s_shorter_keys) (by decide +kernel)) (fun _ _ _ _ _ => (dg_name 2 sc_shorter_keys.nd)) (fun _ _ _ _ _ => dts_nil) (fun _ _ _ _ _ => (d_bjoin d_byt (d_slice (d_var 1) do_none (do_some (d_var 2)))))))))
theorem core_judge_keys (T : Tx K mg) {f : Addr} (F : ∃ fd, FunD K "judge_keys" "judge_keys" (defArgs s_judge_keys) (defBody s_judge_keys) (defScope s_judge_keys) [] [] f fd) : FnC (clw K P w) P w K mg base 5 "judge_keys" "judge_keys" (defArgs s_judge_keys) (defBody s_judge_keys) (defScope s_judge_keys) f ["rows"] sp_judge_keys := by
  have G0 : FnB (clw K P w) P w K mg base 2 "shorter_keys" ["key"] sp_shorter_keys := (core_shorter_keys T T.f_shorter_keys).fn T.g_shorter_keys hb_shorter_keys
  have G1 : MkB (clw K P w) P w K mg base 1 "Fault" 12 ["self", "place", "word"] sp_Fault___init__ := (core_Fault___init__ T T.f_Fault____init__).mk (c := 12) T.g_Fault T.mk_Fault hb_Fault___init__
  have G2 : FnB (clw K P w) P w K mg base 4 "key_word" ["rows", "place"] sp_key_word := (core_key_word T T.f_key_word).fn T.g_key_word hb_key_word
  have G3 : FnB (clw K P w) P w K mg base 1 "is_sequence" ["thing"] sp_is_sequence := (core_is_sequence T T.f_is_sequence).fn T.g_is_sequence hb_is_sequence
  refine fnC_of (k := 4) (t := t_judge_keys) F sc_judge_keys (fun cdv A outer s H E c => ?_) pure_judge_keys
  exact (dss_cons (ds_if (DW.dt (dw_or (d_tnot (d_val (d_fn c G3 (by decide) rfl (da_cons (d_var 0) da_nil)))) (dw_or1 (d_tcmp op_gt (lop_cmp _) (d_callB call_len lc_len rfl T.b_len PySem.boot_len (da_cons (d_var 0) da_nil)) (d_globI rfl T.c_MOST_ROWS) (nomark _))))) (dss_one (ds_ret (d_make c G1 (by decide) rfl (da_cons (d_un un_neg lun_neg d_int) (da_cons d_str da_nil))))) dss_nil)
      (dss_cons (ds_for c.po c.calm (di_range1 rfl T.b_range (d_callB call_len lc_len rfl T.b_len PySem.boot_len (da_cons (d_var 0) da_nil))) (dg_name 1 sc_judge_keys.nd) (dss_cons (ds_set 2 sc_judge_keys.nd (d_fn c G2 (by decide) rfl (da_cons (d_var 0) (da_cons (d_var 1) da_nil))))
      (dss_one (ds_if (d_tcmp op_notN lop_notN (d_var 2) d_non (nomark _)) (dss_one (ds_ret (d_make c G1 (by decide) rfl (da_cons (d_var 1) (da_cons (d_var 2) da_nil))))) dss_nil))))
      (dss_cons (ds_set 3 sc_judge_keys.nd (d_lcG (own := [("row", 5)]) c.calm sc_judge_keys.nd (di_seqG (d_var 0)) (blkOk_by (own := [("row", 5)]) (N := N_judge_keys) (sc := defScope s_judge_keys) (by decide +kernel)) (fun _ _ _ _ _ => (dg_name 5 sc_judge_keys.nd)) (fun _ _ _ _ _ => dts_nil) (fun _ _ _ _ _ => (d_ixA (RoomG.u1 c.blk.hr) (d_var 5) d_int))))
      (dss_cons (ds_for c.po c.calm (di_enumT rfl T.b_enumerate (d_var 3)) (dg_tup c.calm (dgs_cons (dg_name 1 sc_judge_keys.nd) (dgs_cons (dg_name 4 sc_judge_keys.nd) dgs_nil))) (dss_one (ds_if (d_tnot (d_val (d_callB (cr_all c.calm) lc_all rfl T.b_all (by decide +kernel) (da_cons (d_lc (own := [("one", 6)]) c.calm sc_judge_keys.nd (di_seq (d_slice (d_fn c G0 (by decide) rfl (da_cons (d_var 4) da_nil)) (do_some (d_un un_neg lun_neg d_int)) do_none)) (blkOk_by (own := [("one", 6)]) (N := N_judge_keys) (sc := defScope s_judge_keys) (by decide +kernel)) (fun _ _ _ _ _ => (dg_name 6 sc_judge_keys.nd)) (fun _ _ _ _ _ => dts_nil) (fun _ _ _ _ _ => (d_cmpG (bin_inB c.blk.hr.room.units) (d_var 6) (d_var 3) rfl))) da_nil)))) (dss_one (ds_ret (d_make c G1 (by decide) rfl (da_cons (d_var 1) (da_cons d_str da_nil))))) dss_nil)))
      (dss_one (ds_ret d_non))))))
theorem core__law_well (T : Tx K mg) {f : Addr} (F : ∃ fd, FunD K "_law_well" "_law_well" (defArgs s__law_well) (defBody s__law_well) (defScope s__law_well) [] [] f fd) : FnC (clw K P w) P w K mg base 1 "_law_well" "_law_well" (defArgs s__law_well) (defBody s__law_well) (defScope s__law_well) f ["_law_cell"] sp__law_well := by
  refine fnC_of (k := 0) (t := t__law_well) F sc__law_well (fun cdv A outer s H E c => ?_) pure__law_well
  exact (dss_one (ds_ret (d_lstM (da_cons (d_op op_mul lop_mul (d_var 0) (d_callTy call_int1 lc_int rfl T.b_int (by decide +kernel) (da_cons (d_cmp op_ge (lop_cmp _) (d_var 0) (d_op op_pow lop_pow d_int d_int) (nomark _)) da_nil))) (da_cons (d_op op_mod lop_mod (d_callTy call_int1 lc_int rfl T.b_int (by decide +kernel) (da_cons (d_var 0) da_nil)) d_int) (da_cons d_int da_nil))))))
theorem core__law_draw (T : Tx K mg) {f : Addr} (F : ∃ fd, FunD K "_law_draw" "_law_draw" (defArgs s__law_draw) (defBody s__law_draw) (defScope s__law_draw) [] [] f fd) : FnC (clw K P w) P w K mg base 1 "_law_draw" "_law_draw" (defArgs s__law_draw) (defBody s__law_draw) (defScope s__law_draw) f ["_law_well_here", "_law_many"] sp__law_draw := by
  refine fnC_of (k := 0) (t := t__law_draw) F sc__law_draw (fun cdv A outer s H E c => ?_) pure__law_draw
  exact (dss_cons (ds_if (d_tcmp op_gt (lop_cmp _) (d_ixA (RoomG.u1 c.hr) (d_var 0) d_int) d_int (nomark _)) (dss_cons (ds_set 2 sc__law_draw.nd (d_op op_mod lop_mod (d_callTy call_int1 lc_int rfl T.b_int (by decide +kernel) (da_cons (d_ixA (RoomG.u1 c.hr) (d_var 0) d_int) da_nil)) (d_var 1)))
      (dss_cons (ds_asg (d_op op_fdivW lop_fdiv (d_ixA (RoomG.u1 c.hr) (d_var 0) d_int) (d_var 1)) (dg_subL (d_var 0) d_int))
      (dss_one (ds_ret (d_var 2))))) dss_nil)
      (dss_cons (ds_asg (d_op op_addAll lop_add (d_ixA (RoomG.u1 c.hr) (d_var 0) d_int) d_int) (dg_subL (d_var 0) d_int))
      (dss_cons (ds_set 3 sc__law_draw.nd (d_op op_mod lop_mod (d_callTy call_int1 lc_int rfl T.b_int (by decide +kernel) (da_cons (d_op op_pow lop_pow (d_op op_addAll lop_add (d_op op_addAll lop_add (d_ixA (RoomG.u1 c.hr) (d_var 0) d_int) (d_op op_mul lop_mul d_int (d_ixA (RoomG.u1 c.hr) (d_var 0) d_int))) d_int) d_int) da_nil)) d_int))
      (dss_cons (ds_set 3 sc__law_draw.nd (d_op op_mod lop_mod (d_callTy call_int1 lc_int rfl T.b_int (by decide +kernel) (da_cons (d_op op_mul lop_mul (d_op op_addAll lop_add (d_var 3) (d_ixA (RoomG.u1 c.hr) (d_var 0) d_int)) (d_op op_addAll lop_add (d_op op_fdivW lop_fdiv (d_var 3) d_int) d_int)) da_nil)) d_int))
      (dss_one (ds_ret (d_op op_mod lop_mod (d_callTy call_int1 lc_int rfl T.b_int (by decide +kernel) (da_cons (d_op op_fdivW lop_fdiv (d_op op_mod lop_mod (d_callTy call_int1 lc_int rfl T.b_int (by decide +kernel) (da_cons (d_op op_mul lop_mul (d_var 3) (d_op op_addAll lop_add (d_op op_fdivW lop_fdiv (d_var 3) d_int) d_int)) da_nil)) d_int) d_int) da_nil)) (d_var 1))))))))
theorem core__law_one (T : Tx K mg) {f : Addr} (F : ∃ fd, FunD K "_law_one" "_law_one" (defArgs s__law_one) (defBody s__law_one) (defScope s__law_one) [] [] f fd) : FnC (clw K P w) P w K mg base 2 "_law_one" "_law_one" (defArgs s__law_one) (defBody s__law_one) (defScope s__law_one) f ["_law_well_here", "_law_some"] sp__law_one := by
  have G0 : FnB (clw K P w) P w K mg base 1 "_law_draw" ["_law_well_here", "_law_many"] sp__law_draw := (core__law_draw T T.f__law_draw).fn T.g__law_draw hb__law_draw
  refine fnC_of (k := 1) (t := t__law_one) F sc__law_one (fun cdv A outer s H E c => ?_) pure__law_one
  exact (dss_one (ds_ret (d_ixA (RoomG.u1 c.hr) (d_var 1) (d_fn c G0 (by decide) rfl (da_cons (d_var 0) (da_cons (d_callB call_len lc_len rfl T.b_len PySem.boot_len (da_cons (d_var 1) da_nil)) da_nil))))))
theorem core__law_names (T : Tx K mg) {f : Addr} (F : ∃ fd, FunD K "_law_names" "_law_names" (defArgs s__law_names) (defBody s__law_names) (defScope s__law_names) [] [] f fd) : FnC (clw K P w) P w K mg base 3 "_law_names" "_law_names" (defArgs s__law_names) (defBody s__law_names) (defScope s__law_names) f ["_law_well_here", "_law_many"] sp__law_names := by
  have G0 : FnB (clw K P w) P w K mg base 1 "_law_draw" ["_law_well_here", "_law_many"] sp__law_draw := (core__law_draw T T.f__law_draw).fn T.g__law_draw hb__law_draw
  have G1 : FnB (clw K P w) P w K mg base 2 "_law_one" ["_law_well_here", "_law_some"] sp__law_one := (core__law_one T T.f__law_one).fn T.g__law_one hb__law_one
  refine fnC_of (k := 2) (t := t__law_names) F sc__law_names (fun cdv A outer s H E c => ?_) pure__law_names
  exact (dss_cons (ds_par (i := 2) (j := 3) c.calm sc__law_names.nd (da_cons d_str (da_cons (d_lstM da_nil) da_nil)))
      (dss_cons (ds_for c.po c.calm (di_range1 rfl T.b_range (d_var 1)) (dg_name 4 sc__law_names.nd) (dss_cons (ds_set 5 sc__law_names.nd (d_fn c G1 (by decide) rfl (da_cons (d_var 0) (da_cons (d_var 2) da_nil))))
      (dss_cons (ds_for c.po c.calm (di_range1 rfl T.b_range (d_fn c G0 (by decide) rfl (da_cons (d_var 0) (da_cons d_int da_nil)))) (dg_name 6 sc__law_names.nd) (dss_one (ds_set 5 sc__law_names.nd (d_op op_addAll lop_add (d_var 5) (d_fn c G1 (by decide) rfl (da_cons (d_var 0) (da_cons (d_op op_addAll lop_add (d_var 2) d_str) da_nil)))))))
      (dss_cons (ds_if (DW.dt (dw_and (d_tcmp (op_neA c.hr.room.units) lop_ne (d_var 3) (d_lst da_nil) (nomark _)) (dw_and1 (d_tcmp (op_eqA c.hr.room.units) lop_eq (d_fn c G0 (by decide) rfl (da_cons (d_var 0) (da_cons d_int da_nil))) d_int (nomark _))))) (dss_cons (ds_set 7 sc__law_names.nd (d_fn c G1 (by decide) rfl (da_cons (d_var 0) (da_cons (d_var 3) da_nil))))
      (dss_cons (ds_set 8 sc__law_names.nd (d_fn c G0 (by decide) rfl (da_cons (d_var 0) (da_cons (d_callB call_len lc_len rfl T.b_len PySem.boot_len (da_cons (d_var 7) da_nil)) da_nil))))
      (dss_one (ds_set 5 sc__law_names.nd (d_op op_addAll lop_add (d_op op_addAll lop_add (d_slice (d_var 7) do_none (do_some (d_var 8))) (d_fn c G1 (by decide) rfl (da_cons (d_var 0) (da_cons (d_var 2) da_nil)))) (d_slice (d_var 7) (do_some (d_op op_addAll lop_add (d_var 8) d_int)) do_none)))))) dss_nil)
      (dss_one (ds_expr (d_bm PySem.F.plainAttrs_list PySem.F.slot_list_append PySem.F.type_list_append mt_append lm_app (d_var 3) (da_cons (d_ifE (d_tcmp (op_inA (RoomG.u1 c.hr)) lop_in (d_var 5) (d_var 3) rfl) (d_op op_addAll lop_add d_str (d_callTy call_str_int lc_str rfl T.b_str (by decide +kernel) (da_cons (d_var 4) da_nil))) (d_var 5)) da_nil))))))))
      (dss_one (ds_ret (d_frz (d_var 3))))))
theorem core__law_value (T : Tx K mg) {f : Addr} (F : ∃ fd, FunD K "_law_value" "_law_value" (defArgs s__law_value) (defBody s__law_value) (defScope s__law_value) [] [] f fd) : FnC (clw K P w) P w K mg base 3 "_law_value" "_law_value" (defArgs s__law_value) (defBody s__law_value) (defScope s__law_value) f ["_law_well_here"] sp__law_value := by
  have G0 : FnB (clw K P w) P w K mg base 2 "_law_one" ["_law_well_here", "_law_some"] sp__law_one := (core__law_one T T.f__law_one).fn T.g__law_one hb__law_one
  have G1 : FnB (clw K P w) P w K mg base 1 "_law_draw" ["_law_well_here", "_law_many"] sp__law_draw := (core__law_draw T T.f__law_draw).fn T.g__law_draw hb__law_draw
  refine fnC_of (k := 2) (t := t__law_value) F sc__law_value (fun cdv A outer s H E c => ?_) pure__law_value
  exact (dss_cons (ds_if (d_tcmp (op_eqA c.hr.room.units) lop_eq (d_fn c G1 (by decide) rfl (da_cons (d_var 0) (da_cons d_int da_nil))) d_int (nomark _)) (dss_one (ds_ret (d_op op_sub lop_sub (d_fn c G1 (by decide) rfl (da_cons (d_var 0) (da_cons d_int da_nil))) d_int))) dss_nil)
      (dss_cons (ds_set 1 sc__law_value.nd (d_op op_addAll lop_add (d_op op_mul lop_mul (d_fn c G1 (by decide) rfl (da_cons (d_var 0) (da_cons (d_op op_pow lop_pow d_int d_int) da_nil))) (d_op op_pow lop_pow d_int d_int)) (d_fn c G1 (by decide) rfl (da_cons (d_var 0) (da_cons (d_op op_pow lop_pow d_int d_int) da_nil)))))
      (dss_one (ds_ret (d_fn c G0 (by decide) rfl (da_cons (d_var 0) (da_cons (d_lst (da_cons (d_var 1) (da_cons (d_op op_sub lop_sub d_int (d_var 1)) (da_cons (d_op op_pow lop_pow d_int d_int) (da_cons (d_op op_sub lop_sub d_int (d_op op_pow lop_pow d_int d_int)) da_nil))))) da_nil)))))))
theorem core__law_levels (T : Tx K mg) {f : Addr} (F : ∃ fd, FunD K "_law_levels" "_law_levels" (defArgs s__law_levels) (defBody s__law_levels) (defScope s__law_levels) [] [] f fd) : FnC (clw K P w) P w K mg base 2 "_law_levels" "_law_levels" (defArgs s__law_levels) (defBody s__law_levels) (defScope s__law_levels) f ["_law_well_here", "_law_many"] sp__law_levels := by
  have G0 : FnB (clw K P w) P w K mg base 1 "_law_draw" ["_law_well_here", "_law_many"] sp__law_draw := (core__law_draw T T.f__law_draw).fn T.g__law_draw hb__law_draw
  refine fnC_of (k := 1) (t := t__law_levels) F sc__law_levels (fun cdv A outer s H E c => ?_) pure__law_levels
  exact (dss_cons (ds_par (i := 2) (j := 3) c.calm sc__law_levels.nd (da_cons (d_lstM da_nil) (da_cons (d_fn c G0 (by decide) rfl (da_cons (d_var 0) (da_cons d_int da_nil))) da_nil)))
      (dss_cons (ds_for c.po c.calm (di_range1 rfl T.b_range (d_var 1)) (dg_name 4 sc__law_levels.nd) (dss_cons (ds_set 5 sc__law_levels.nd (d_ifE (d_tcmp (op_neA c.hr.room.units) lop_ne (d_var 2) (d_lst da_nil) (nomark _)) (d_op op_addAll lop_add (d_ixA (RoomG.u1 c.hr) (d_var 2) (d_un un_neg lun_neg d_int)) d_int) d_int))
      (dss_cons (ds_set 6 sc__law_levels.nd (d_var 5))
      (dss_cons (ds_if (DW.dt (dw_or (d_tcmp (op_eqA c.hr.room.units) lop_eq (d_var 3) d_int (nomark _)) (dw_or1 (DW.dt (dw_and (d_tcmp (op_eqA c.hr.room.units) lop_eq (d_var 3) d_int (nomark _)) (dw_and1 (d_tcmp (op_eqA c.hr.room.units) lop_eq (d_fn c G0 (by decide) rfl (da_cons (d_var 0) (da_cons d_int da_nil))) d_int (nomark _)))))))) (dss_one (ds_set 6 sc__law_levels.nd (d_fn c G0 (by decide) rfl (da_cons (d_var 0) (da_cons (d_op op_addAll lop_add (d_var 5) d_int) da_nil))))) dss_nil)
      (dss_cons (ds_if (d_tcmp (op_eqA c.hr.room.units) lop_eq (d_var 3) d_int (nomark _)) (dss_one (ds_set 6 sc__law_levels.nd (d_fn c G0 (by decide) rfl (da_cons (d_var 0) (da_cons (d_op op_addAll lop_add d_int (d_ixA (RoomG.u1 c.hr) (d_lst (da_cons (d_var 5) (da_cons d_int da_nil))) (d_callTy call_int1 lc_int rfl T.b_int (by decide +kernel) (da_cons (d_cmp op_gt (lop_cmp _) (d_var 5) d_int (nomark _)) da_nil)))) da_nil))))) dss_nil)
      (dss_one (ds_expr (d_bm PySem.F.plainAttrs_list PySem.F.slot_list_append PySem.F.type_list_append mt_append lm_app (d_var 2) (da_cons (d_var 6) da_nil)))))))))
      (dss_one (ds_ret (d_frz (d_var 2))))))
theorem core__law_rows (T : Tx K mg) {f : Addr} (F : ∃ fd, FunD K "_law_rows" "_law_rows" (defArgs s__law_rows) (defBody s__law_rows) (defScope s__law_rows) [] [] f fd) : FnC (clw K P w) P w K mg base 4 "_law_rows" "_law_rows" (defArgs s__law_rows) (defBody s__law_rows) (defScope s__law_rows) f ["_law_well_here", "_law_most"] sp__law_rows := by
  have G0 : FnB (clw K P w) P w K mg base 3 "_law_value" ["_law_well_here"] sp__law_value := (core__law_value T T.f__law_value).fn T.g__law_value hb__law_value
  have G1 : FnB (clw K P w) P w K mg base 2 "_law_levels" ["_law_well_here", "_law_many"] sp__law_levels := (core__law_levels T T.f__law_levels).fn T.g__law_levels hb__law_levels
  have G2 : FnB (clw K P w) P w K mg base 3 "_law_names" ["_law_well_here", "_law_many"] sp__law_names := (core__law_names T T.f__law_names).fn T.g__law_names hb__law_names
  have G3 : FnB (clw K P w) P w K mg base 1 "_law_draw" ["_law_well_here", "_law_many"] sp__law_draw := (core__law_draw T T.f__law_draw).fn T.g__law_draw hb__law_draw
  refine fnC_of (k := 3) (t := t__law_rows) F sc__law_rows (fun cdv A outer s H E c => ?_) pure__law_rows
  exact (dss_cons (ds_set 2 sc__law_rows.nd (d_fn c G3 (by decide) rfl (da_cons (d_var 0) (da_cons (d_op op_addAll lop_add (d_var 1) d_int) da_nil))))
      (dss_cons (ds_asg (d_tup (da_cons (d_fn c G2 (by decide) rfl (da_cons (d_var 0) (da_cons (d_var 2) da_nil))) (da_cons (d_fn c G1 (by decide) rfl (da_cons (d_var 0) (da_cons (d_var 2) da_nil))) da_nil))) (dg_tup c.calm (dgs_cons (dg_name 3 sc__law_rows.nd) (dgs_cons (dg_name 4 sc__law_rows.nd) dgs_nil))))
      (dss_one (ds_ret (d_lc (own := [("_law_k", 5)]) c.calm sc__law_rows.nd (di_range1 rfl T.b_range (d_var 2)) (blkOk_by (own := [("_law_k", 5)]) (N := N__law_rows) (sc := defScope s__law_rows) (by decide +kernel)) (fun _ _ _ _ _ => (dg_name 5 sc__law_rows.nd)) (fun _ _ _ _ _ => dts_nil) (fun _ _ _ _ _ => (d_tup (da_cons (d_ixA (RoomG.u1 c.blk.hr) (d_var 3) (d_var 5)) (da_cons (d_fn c.blk G0 (by decide) rfl (da_cons (d_var 0) da_nil)) (da_cons (d_ixA (RoomG.u1 c.blk.hr) (d_var 4) (d_var 5)) da_nil))))))))))
theorem core__law_mixed (T : Tx K mg) {f : Addr} (F : ∃ fd, FunD K "_law_mixed" "_law_mixed" (defArgs s__law_mixed) (defBody s__law_mixed) (defScope s__law_mixed) [] [] f fd) : FnC (clw K P w) P w K mg base 2 "_law_mixed" "_law_mixed" (defArgs s__law_mixed) (defBody s__law_mixed) (defScope s__law_mixed) f ["_law_well_here", "_law_some"] sp__law_mixed := by
  have G0 : FnB (clw K P w) P w K mg base 1 "_law_draw" ["_law_well_here", "_law_many"] sp__law_draw := (core__law_draw T T.f__law_draw).fn T.g__law_draw hb__law_draw
  refine fnC_of (k := 1) (t := t__law_mixed) F sc__law_mixed (fun cdv A outer s H E c => ?_) pure__law_mixed
  exact (dss_cons (ds_par (i := 2) (j := 3) c.calm sc__law_mixed.nd (da_cons (d_listM rfl T.b_list (by decide +kernel) (da_cons (d_var 1) da_nil)) (da_cons (d_lstM da_nil) da_nil)))
      (dss_cons (ds_for c.po c.calm (di_range1 rfl T.b_range (d_callB call_len lc_len rfl T.b_len PySem.boot_len (da_cons (d_var 1) da_nil))) (dg_name 4 sc__law_mixed.nd) (dss_one (ds_expr (d_bm PySem.F.plainAttrs_list PySem.F.slot_list_append PySem.F.type_list_append mt_append lm_app (d_var 3) (da_cons (d_bm PySem.F.plainAttrs_list PySem.F.slot_list_pop PySem.F.type_list_pop mt_popAt lm_popAt (d_var 2) (da_cons (d_fn c G0 (by decide) rfl (da_cons (d_var 0) (da_cons (d_callB call_len lc_len rfl T.b_len PySem.boot_len (da_cons (d_var 2) da_nil)) da_nil))) da_nil)) da_nil)))))
      (dss_one (ds_ret (d_var 3)))))
theorem core__law_is_whole (T : Tx K mg) {f : Addr} (F : ∃ fd, FunD K "_law_is_whole" "_law_is_whole" (defArgs s__law_is_whole) (defBody s__law_is_whole) (defScope s__law_is_whole) [] [] f fd) : FnC (clw K P w) P w K mg base 1 "_law_is_whole" "_law_is_whole" (defArgs s__law_is_whole) (defBody s__law_is_whole) (defScope s__law_is_whole) f ["_law_thing"] sp__law_is_whole := by
  refine fnC_of (k := 0) (t := t__law_is_whole) F sc__law_is_whole (fun cdv A outer s H E c => ?_) pure__law_is_whole
  exact (dss_one (ds_ret (d_andV (d_callB (call_isi.or (call_isiT.or call_isiK)) lc_isi rfl T.b_isinstance (by decide +kernel) (da_cons (d_var 0) (da_cons (d_ty rfl T.b_int (by decide +kernel)) da_nil))) (d_one (d_notV (d_callB (call_isi.or (call_isiT.or call_isiK)) lc_isi rfl T.b_isinstance (by decide +kernel) (da_cons (d_var 0) (da_cons (d_ty rfl T.b_bool (by decide +kernel)) da_nil))))))))
theorem core__law_is_name (T : Tx K mg) {f : Addr} (F : ∃ fd, FunD K "_law_is_name" "_law_is_name" (defArgs s__law_is_name) (defBody s__law_is_name) (defScope s__law_is_name) [] [] f fd) : FnC (clw K P w) P w K mg base 1 "_law_is_name" "_law_is_name" (defArgs s__law_is_name) (defBody s__law_is_name) (defScope s__law_is_name) f ["_law_thing"] sp__law_is_name := by
  refine fnC_of (k := 0) (t := t__law_is_name) F sc__law_is_name (fun cdv A outer s H E c => ?_) pure__law_is_name
  exact (dss_cons (ds_if (DW.dt (dw_or (d_tnot (d_val (d_callB (call_isi.or (call_isiT.or call_isiK)) lc_isi rfl T.b_isinstance (by decide +kernel) (da_cons (d_var 0) (da_cons (d_ty rfl T.b_str (by decide +kernel)) da_nil))))) (dw_or1 (d_tnot (d_tchain op_le op_le (lop_cmp _) (lop_cmp _) d_int (d_callB call_len lc_len rfl T.b_len PySem.boot_len (da_cons (d_var 0) da_nil)) d_int))))) (dss_one (ds_ret d_bl)) dss_nil)
      (dss_cons (ds_setLc (own := [("_law_sign", 2)]) 1 c.calm sc__law_is_name.nd (di_seq (d_var 0)) (blkOk_by (own := [("_law_sign", 2)]) (N := N__law_is_name) (sc := defScope s__law_is_name) (by decide +kernel)) (fun _ _ _ _ _ => (dg_name 2 sc__law_is_name.nd)) (fun _ _ _ _ _ => (dts_one (d_tcmp (op_ninA (RoomG.u1 c.blk.hr)) lop_nin (d_var 2) d_str rfl))) (fun _ _ _ _ _ => (d_var 2)))
      (dss_one (ds_ret (d_andV (d_cmp (op_eqA c.hr.room.units) lop_eq (d_var 1) (d_lst da_nil) (nomark _)) (d_one (d_cmp (op_ninA (RoomG.u1 c.hr)) lop_nin (d_ixA (RoomG.u1 c.hr) (d_var 0) d_int) d_str rfl)))))))
theorem core__law_is_value (T : Tx K mg) {f : Addr} (F : ∃ fd, FunD K "_law_is_value" "_law_is_value" (defArgs s__law_is_value) (defBody s__law_is_value) (defScope s__law_is_value) [] [] f fd) : FnC (clw K P w) P w K mg base 2 "_law_is_value" "_law_is_value" (defArgs s__law_is_value) (defBody s__law_is_value) (defScope s__law_is_value) f ["_law_thing"] sp__law_is_value := by
  have G0 : FnB (clw K P w) P w K mg base 1 "_law_is_whole" ["_law_thing"] sp__law_is_whole := (core__law_is_whole T T.f__law_is_whole).fn T.g__law_is_whole hb__law_is_whole
  refine fnC_of (k := 1) (t := t__law_is_value) F sc__law_is_value (fun cdv A outer s H E c => ?_) pure__law_is_value
  exact (dss_one (ds_ret (d_andV (d_fn c G0 (by decide) rfl (da_cons (d_var 0) da_nil)) (d_one (d_chain op_le op_le (lop_cmp _) (lop_cmp _) (d_op op_sub lop_sub d_int (d_op op_pow lop_pow d_int d_int)) (d_var 0) (d_op op_pow lop_pow d_int d_int))))))
theorem core__law_labels (T : Tx K mg) {f : Addr} (F : ∃ fd, FunD K "_law_labels" "_law_labels" (defArgs s__law_labels) (defBody s__law_labels) (defScope s__law_labels) [] [] f fd) : FnC (clw K P w) P w K mg base 2 "_law_labels" "_law_labels" (defArgs s__law_labels) (defBody s__law_labels) (defScope s__law_labels) f ["_law_well_here", "_law_rows_so"] sp__law_labels := by
  have G0 : FnB (clw K P w) P w K mg base 1 "_law_draw" ["_law_well_here", "_law_many"] sp__law_draw := (core__law_draw T T.f__law_draw).fn T.g__law_draw hb__law_draw
  refine fnC_of (k := 1) (t := t__law_labels) F sc__law_labels (fun cdv A outer s H E c => ?_) pure__law_labels
  exact (dss_cons (ds_par3 (i := 2) (j := 3) (l := 4) c.calm sc__law_labels.nd (da_cons (d_lstM da_nil) (da_cons (d_lst da_nil) (da_cons (d_bin bin_repD (d_lstM (da_cons d_int da_nil)) d_int) da_nil))))
      (dss_cons (ds_for c.po c.calm (di_seq (d_var 1)) (dg_tup c.calm (dgs_cons (dg_name 5 sc__law_labels.nd) (dgs_cons (dg_name 6 sc__law_labels.nd) (dgs_cons (dg_name 7 sc__law_labels.nd) dgs_nil)))) (dss_cons (ds_set 4 sc__law_labels.nd (d_bin bin_addM (d_slice (d_var 4) do_none (do_some (d_op op_addAll lop_add (d_var 7) d_int))) (d_bin bin_repD (d_lstM (da_cons d_int da_nil)) (d_op op_sub lop_sub d_int (d_var 7)))))
      (dss_cons (ds_set 8 sc__law_labels.nd (d_ixA (RoomG.u1 c.hr) (d_var 4) (d_var 7)))
      (dss_cons (ds_asg (d_op op_addAll lop_add (d_var 8) d_int) (dg_subL (d_var 4) (d_var 7)))
      (dss_cons (ds_set 9 sc__law_labels.nd (d_lst (da_cons (d_op op_addAll lop_add (d_op op_mul lop_mul d_int (d_var 8)) d_int) da_nil)))
      (dss_cons (ds_if (d_tcmp (op_eqA c.hr.room.units) lop_eq (d_fn c G0 (by decide) rfl (da_cons (d_var 0) (da_cons d_int da_nil))) d_int (nomark _)) (dss_one (ds_set 9 sc__law_labels.nd (d_lst (da_cons (d_op op_addAll lop_add (d_op op_mul lop_mul d_int (d_var 8)) d_int) (da_cons (d_op op_addAll lop_add (d_op op_mul lop_mul d_int (d_fn c G0 (by decide) rfl (da_cons (d_var 0) (da_cons d_int da_nil)))) d_int) da_nil))))) dss_nil)
      (dss_cons (ds_if (d_tcmp (op_eqA c.hr.room.units) lop_eq (d_fn c G0 (by decide) rfl (da_cons (d_var 0) (da_cons d_int da_nil))) d_int (nomark _)) (dss_one (ds_set 9 sc__law_labels.nd (d_lst (da_cons (d_op op_addAll lop_add (d_op op_mul lop_mul d_int (d_var 8)) d_int) (da_cons (d_op op_addAll lop_add (d_op op_mul lop_mul d_int (d_fn c G0 (by decide) rfl (da_cons (d_var 0) (da_cons d_int da_nil)))) d_int) (da_cons d_int (da_cons (d_op op_addAll lop_add (d_op op_mul lop_mul d_int (d_fn c G0 (by decide) rfl (da_cons (d_var 0) (da_cons d_int da_nil)))) d_int) da_nil))))))) dss_nil)
      (dss_cons (ds_set 3 sc__law_labels.nd (d_slice (d_var 3) do_none (do_some (d_var 7))))
      (dss_cons (ds_expr (d_bm PySem.F.plainAttrs_list PySem.F.slot_list_append PySem.F.type_list_append mt_append lm_app (d_var 2) (da_cons (d_op op_addAll lop_add (d_ifE (d_tcmp (op_neA c.hr.room.units) lop_ne (d_var 3) (d_lst da_nil) (nomark _)) (d_ixA (RoomG.u1 c.hr) (d_var 3) (d_un un_neg lun_neg d_int)) (d_lst da_nil)) (d_var 9)) da_nil)))
      (dss_one (ds_set 3 sc__law_labels.nd (d_op op_addAll lop_add (d_var 3) (d_lst (da_cons (d_ixA (RoomG.u1 c.hr) (d_var 2) (d_un un_neg lun_neg d_int)) da_nil))))))))))))))
      (dss_one (ds_ret (d_frz (d_var 2))))))
theorem core__law_cut (T : Tx K mg) {f : Addr} (F : ∃ fd, FunD K "_law_cut" "_law_cut" (defArgs s__law_cut) (defBody s__law_cut) (defScope s__law_cut) [] [] f fd) : FnC (clw K P w) P w K mg base 1 "_law_cut" "_law_cut" (defArgs s__law_cut) (defBody s__law_cut) (defScope s__law_cut) f ["_law_numbers"] sp__law_cut := by
  refine fnC_of (k := 0) (t := t__law_cut) F sc__law_cut (fun cdv A outer s H E c => ?_) pure__law_cut
  exact (dss_cons (ds_setLc (own := [("_law_at", 2)]) 1 c.calm sc__law_cut.nd (di_range1 rfl T.b_range (d_op op_sub lop_sub (d_callB call_len lc_len rfl T.b_len PySem.boot_len (da_cons (d_var 0) da_nil)) d_int)) (blkOk_by (own := [("_law_at", 2)]) (N := N__law_cut) (sc := defScope s__law_cut) (by decide +kernel)) (fun _ _ _ _ _ => (dg_name 2 sc__law_cut.nd)) (fun _ _ _ _ _ => (dts_one (d_tcmp (op_eqA c.blk.hr.room.units) lop_eq (d_op op_mod lop_mod (d_callTy call_int1 lc_int rfl T.b_int (by decide +kernel) (da_cons (d_ixA (RoomG.u1 c.blk.hr) (d_var 0) (d_var 2)) da_nil)) d_int) d_int (nomark _)))) (fun _ _ _ _ _ => (d_var 2)))
      (dss_one (ds_ret (d_ifE (d_tcmp (op_neA c.hr.room.units) lop_ne (d_var 1) (d_lst da_nil) (nomark _)) (d_slice (d_var 0) do_none (do_some (d_op op_addAll lop_add (d_ixA (RoomG.u1 c.hr) (d_var 1) (d_un un_neg lun_neg d_int)) d_int))) (d_lst da_nil)))))
theorem core__law_is_key (T : Tx K mg) {f : Addr} (F : ∃ fd, FunD K "_law_is_key" "_law_is_key" (defArgs s__law_is_key) (defBody s__law_is_key) (defScope s__law_is_key) [] [] f fd) : FnC (clw K P w) P w K mg base 1 "_law_is_key" "_law_is_key" (defArgs s__law_is_key) (defBody s__law_is_key) (defScope s__law_is_key) f ["_law_thing"] sp__law_is_key := by
  refine fnC_of (k := 0) (t := t__law_is_key) F sc__law_is_key (fun cdv A outer s H E c => ?_) pure__law_is_key
  exact (dss_cons (ds_if (DW.dt (dw_or (d_tnot (d_val (d_callB (call_isi.or (call_isiT.or call_isiK)) lc_isi rfl T.b_isinstance (by decide +kernel) (da_cons (d_var 0) (da_cons (d_ty rfl T.b_list (by decide +kernel)) da_nil))))) (dw_or (d_tcmp (op_eqA c.hr.room.units) lop_eq (d_var 0) (d_lst da_nil) (nomark _)) (dw_or1 (d_tcmp (op_inA (RoomG.u1 c.hr)) lop_in d_int (d_var 0) rfl))))) (dss_one (ds_ret d_bl)) dss_nil)
      (dss_one (ds_ret (d_cmp (op_eqA c.hr.room.units) lop_eq (d_op op_mod lop_mod (d_callTy call_int1 lc_int rfl T.b_int (by decide +kernel) (da_cons (d_ixA (RoomG.u1 c.hr) (d_var 0) (d_un un_neg lun_neg d_int)) da_nil)) d_int) d_int (nomark _)))))
theorem core__law_word (T : Tx K mg) {f : Addr} (F : ∃ fd, FunD K "_law_word" "_law_word" (defArgs s__law_word) (defBody s__law_word) (defScope s__law_word) [] [] f fd) : FnC (clw K P w) P w K mg base 3 "_law_word" "_law_word" (defArgs s__law_word) (defBody s__law_word) (defScope s__law_word) f ["_law_rows_so", "_law_place"] sp__law_word := by
  have G0 : FnB (clw K P w) P w K mg base 1 "_law_is_key" ["_law_thing"] sp__law_is_key := (core__law_is_key T T.f__law_is_key).fn T.g__law_is_key hb__law_is_key
  have G1 : FnB (clw K P w) P w K mg base 2 "_law_is_value" ["_law_thing"] sp__law_is_value := (core__law_is_value T T.f__law_is_value).fn T.g__law_is_value hb__law_is_value
  have G2 : FnB (clw K P w) P w K mg base 1 "_law_is_name" ["_law_thing"] sp__law_is_name := (core__law_is_name T T.f__law_is_name).fn T.g__law_is_name hb__law_is_name
  refine fnC_of (k := 2) (t := t__law_word) F sc__law_word (fun cdv A outer s H E c => ?_) pure__law_word
  exact (dss_cons (ds_set 2 sc__law_word.nd (d_ixA (RoomG.u1 c.hr) (d_var 0) (d_var 1)))
      (dss_cons (ds_if (DW.dt (dw_or (d_tnot (d_val (d_callB (call_isi.or (call_isiT.or call_isiK)) lc_isi rfl T.b_isinstance (by decide +kernel) (da_cons (d_var 2) (da_cons (d_ty rfl T.b_tuple (by decide +kernel)) da_nil))))) (dw_or1 (d_tcmp (op_neA c.hr.room.units) lop_ne (d_callB call_len lc_len rfl T.b_len PySem.boot_len (da_cons (d_var 2) da_nil)) d_int (nomark _))))) (dss_one (ds_ret d_str)) dss_nil)
      (dss_cons (ds_if (d_tnot (d_val (d_fn c G2 (by decide) rfl (da_cons (d_ixA (RoomG.u1 c.hr) (d_var 2) d_int) da_nil)))) (dss_one (ds_ret d_str)) dss_nil)
      (dss_cons (ds_if (d_tnot (d_val (d_fn c G1 (by decide) rfl (da_cons (d_ixA (RoomG.u1 c.hr) (d_var 2) d_int) da_nil)))) (dss_one (ds_ret d_str)) dss_nil)
      (dss_cons (ds_if (d_tnot (d_val (d_fn c G0 (by decide) rfl (da_cons (d_ixA (RoomG.u1 c.hr) (d_var 2) d_int) da_nil)))) (dss_one (ds_ret d_str)) dss_nil)
      (dss_cons (ds_if (d_tcmp (op_inA (RoomG.u1 c.hr)) lop_in (d_ixA (RoomG.u1 c.hr) (d_var 2) d_int) (d_lc (own := [("_law_other", 3)]) c.calm sc__law_word.nd (di_seq (d_slice (d_var 0) do_none (do_some (d_var 1)))) (blkOk_by (own := [("_law_other", 3)]) (N := N__law_word) (sc := defScope s__law_word) (by decide +kernel)) (fun _ _ _ _ _ => (dg_name 3 sc__law_word.nd)) (fun _ _ _ _ _ => dts_nil) (fun _ _ _ _ _ => (d_ixA (RoomG.u1 c.blk.hr) (d_var 3) d_int))) rfl) (dss_one (ds_ret d_str)) dss_nil)
      (dss_one (ds_ret (d_ifE (d_tcmpG (bin_inP T.sm c.hr.room.units) (d_ixA (RoomG.u1 c.hr) (d_var 2) d_int) (d_lc (own := [("_law_other", 3)]) c.calm sc__law_word.nd (di_seq (d_slice (d_var 0) do_none (do_some (d_var 1)))) (blkOk_by (own := [("_law_other", 3)]) (N := N__law_word) (sc := defScope s__law_word) (by decide +kernel)) (fun _ _ _ _ _ => (dg_name 3 sc__law_word.nd)) (fun _ _ _ _ _ => dts_nil) (fun _ _ _ _ _ => (d_ixA (RoomG.u1 c.blk.hr) (d_var 3) d_int))) rfl) d_str d_non)))))))))
theorem core__law_due (T : Tx K mg) {f : Addr} (F : ∃ fd, FunD K "_law_due" "_law_due" (defArgs s__law_due) (defBody s__law_due) (defScope s__law_due) [] [] f fd) : FnC (clw K P w) P w K mg base 4 "_law_due" "_law_due" (defArgs s__law_due) (defBody s__law_due) (defScope s__law_due) f ["_law_rows_so"] sp__law_due := by
  have G0 : FnB (clw K P w) P w K mg base 1 "_law_cut" ["_law_numbers"] sp__law_cut := (core__law_cut T T.f__law_cut).fn T.g__law_cut hb__law_cut
  have G1 : FnB (clw K P w) P w K mg base 3 "_law_word" ["_law_rows_so", "_law_place"] sp__law_word := (core__law_word T T.f__law_word).fn T.g__law_word hb__law_word
  refine fnC_of (k := 3) (t := t__law_due) F sc__law_due (fun cdv A outer s H E c => ?_) pure__law_due
  exact (dss_cons (ds_if (d_tcmp op_gt (lop_cmp _) (d_callB call_len lc_len rfl T.b_len PySem.boot_len (da_cons (d_var 0) da_nil)) d_int (nomark _)) (dss_one (ds_ret (d_tup (da_cons (d_un un_neg lun_neg d_int) (da_cons d_str da_nil))))) dss_nil)
      (dss_cons (ds_for c.po c.calm (di_range1 rfl T.b_range (d_callB call_len lc_len rfl T.b_len PySem.boot_len (da_cons (d_var 0) da_nil))) (dg_name 1 sc__law_due.nd) (dss_cons (ds_set 2 sc__law_due.nd (d_fn c G1 (by decide) rfl (da_cons (d_var 0) (da_cons (d_var 1) da_nil))))
      (dss_one (ds_if (d_tcmp op_notN lop_notN (d_var 2) d_non (nomark _)) (dss_one (ds_ret (d_tup (da_cons (d_var 1) (da_cons (d_var 2) da_nil))))) dss_nil))))
      (dss_cons (ds_set 3 sc__law_due.nd (d_op op_addAll lop_add (d_lcG (own := [("_law_row", 4)]) c.calm sc__law_due.nd (di_seqG (d_var 0)) (blkOk_by (own := [("_law_row", 4)]) (N := N__law_due) (sc := defScope s__law_due) (by decide +kernel)) (fun _ _ _ _ _ => (dg_name 4 sc__law_due.nd)) (fun _ _ _ _ _ => dts_nil) (fun _ _ _ _ _ => (d_ixA (RoomG.u1 c.blk.hr) (d_var 4) d_int))) (d_lst (da_cons (d_lst da_nil) da_nil))))
      (dss_cons (ds_forG c.po c.calm (di_enumG rfl T.b_enumerate (d_var 0)) (dg_tup c.calm (dgs_cons (dg_name 1 sc__law_due.nd) (dgs_cons (dg_name 4 sc__law_due.nd) dgs_nil))) (dss_one (ds_if (d_tcmpG (bin_ninP T.sm c.hr.room.units) (d_fn c G0 (by decide) rfl (da_cons (d_ixA (RoomG.u1 c.hr) (d_var 4) d_int) da_nil)) (d_var 3) rfl) (dss_one (ds_ret (d_tup (da_cons (d_var 1) (da_cons d_str da_nil))))) dss_nil)))
      (dss_one (ds_ret d_non))))))
theorem core__law_spoil (T : Tx K mg) {f : Addr} (F : ∃ fd, FunD K "_law_spoil" "_law_spoil" (defArgs s__law_spoil) (defBody s__law_spoil) (defScope s__law_spoil) [] [] f fd) : FnC (clw K P w) P w K mg base 3 "_law_spoil" "_law_spoil" (defArgs s__law_spoil) (defBody s__law_spoil) (defScope s__law_spoil) f ["_law_well_here", "_law_rows_so"] sp__law_spoil := by
  have G0 : FnB (clw K P w) P w K mg base 1 "_law_draw" ["_law_well_here", "_law_many"] sp__law_draw := (core__law_draw T T.f__law_draw).fn T.g__law_draw hb__law_draw
  have G1 : FnB (clw K P w) P w K mg base 2 "_law_one" ["_law_well_here", "_law_some"] sp__law_one := (core__law_one T T.f__law_one).fn T.g__law_one hb__law_one
  refine fnC_of (k := 2) (t := t__law_spoil) F sc__law_spoil (fun cdv A outer s H E c => ?_) pure__law_spoil
  exact (dss_cons (ds_par (i := 2) (j := 3) c.calm sc__law_spoil.nd (da_cons (d_fn c G0 (by decide) rfl (da_cons (d_var 0) (da_cons (d_callB call_len lc_len rfl T.b_len PySem.boot_len (da_cons (d_var 1) da_nil)) da_nil))) (da_cons (d_fn c G0 (by decide) rfl (da_cons (d_var 0) (da_cons (d_callB call_len lc_len rfl T.b_len PySem.boot_len (da_cons (d_var 1) da_nil)) da_nil))) da_nil)))
      (dss_cons (ds_if (DW.dt (dw_or (d_tnot (d_val (d_callB (call_isi.or (call_isiT.or call_isiK)) lc_isi rfl T.b_isinstance (by decide +kernel) (da_cons (d_ixA (RoomG.u1 c.hr) (d_var 1) (d_var 2)) (da_cons (d_ty rfl T.b_tuple (by decide +kernel)) da_nil))))) (dw_or (d_tnot (d_val (d_callB (call_isi.or (call_isiT.or call_isiK)) lc_isi rfl T.b_isinstance (by decide +kernel) (da_cons (d_ixA (RoomG.u1 c.hr) (d_var 1) (d_var 3)) (da_cons (d_ty rfl T.b_tuple (by decide +kernel)) da_nil))))) (dw_or1 (d_tnot (d_val (d_callB (call_isi.or (call_isiT.or call_isiK)) lc_isi rfl T.b_isinstance (by decide +kernel) (da_cons (d_ixA (RoomG.u1 c.hr) (d_ixA (RoomG.u1 c.hr) (d_var 1) (d_var 2)) d_int) (da_cons (d_ty rfl T.b_list (by decide +kernel)) da_nil))))))))) (dss_one ds_retN) dss_nil)
      (dss_cons (ds_asg (d_ixA (RoomG.u1 c.hr) (d_var 1) (d_var 2)) (dg_tup c.calm (dgs_cons (dg_name 4 sc__law_spoil.nd) (dgs_cons (dg_name 5 sc__law_spoil.nd) (dgs_cons (dg_name 6 sc__law_spoil.nd) dgs_nil)))))
      (dss_cons (ds_par (i := 7) (j := 8) c.calm sc__law_spoil.nd (da_cons (d_fn c G0 (by decide) rfl (da_cons (d_var 0) (da_cons d_int da_nil))) (da_cons (d_fn c G0 (by decide) rfl (da_cons (d_var 0) (da_cons d_int da_nil))) da_nil)))
      (dss_cons (ds_if (d_tcmp (op_eqA c.hr.room.units) lop_eq (d_var 7) d_int (nomark _)) (dss_one (ds_asg (d_fn c G1 (by decide) rfl (da_cons (d_var 0) (da_cons (d_lst (da_cons d_non (da_cons d_str (da_cons d_int (da_cons d_dict0 (da_cons (d_lst da_nil) (da_cons (d_lst (da_cons (d_var 4) (da_cons (d_var 5) da_nil))) (da_cons (d_lst (da_cons (d_var 4) (da_cons (d_var 5) (da_cons (d_var 6) (da_cons d_int da_nil))))) da_nil)))))))) da_nil))) (dg_subL (d_var 1) (d_var 2)))) dss_nil)
      (dss_cons (ds_if (d_tcmp (op_eqA c.hr.room.units) lop_eq (d_var 7) d_int (nomark _)) (dss_one (ds_asg (d_tup (da_cons (d_fn c G1 (by decide) rfl (da_cons (d_var 0) (da_cons (d_lst (da_cons d_str (da_cons d_str (da_cons d_str (da_cons d_str (da_cons (d_tup (da_cons (d_var 4) da_nil)) (da_cons d_non (da_cons d_int (da_cons d_bl (da_cons d_str da_nil)))))))))) da_nil))) (da_cons (d_var 5) (da_cons (d_var 6) da_nil)))) (dg_subL (d_var 1) (d_var 2)))) dss_nil)
      (dss_cons (ds_if (d_tcmp (op_eqA c.hr.room.units) lop_eq (d_var 7) d_int (nomark _)) (dss_one (ds_asg (d_tup (da_cons (d_var 4) (da_cons (d_fn c G1 (by decide) rfl (da_cons (d_var 0) (da_cons (d_lst (da_cons d_non (da_cons d_bl (da_cons d_str (da_cons (d_tup (da_cons d_int da_nil)) (da_cons d_dict0 (da_cons (d_op op_addAll lop_add (d_op op_pow lop_pow d_int d_int) d_int) (da_cons (d_op op_sub lop_sub (d_op op_sub lop_sub d_int (d_op op_pow lop_pow d_int d_int)) d_int) da_nil)))))))) da_nil))) (da_cons (d_var 6) da_nil)))) (dg_subL (d_var 1) (d_var 2)))) dss_nil)
      (dss_cons (ds_if (d_tcmp (op_eqA c.hr.room.units) lop_eq (d_var 7) d_int (nomark _)) (dss_one (ds_asg (d_tup (da_cons (d_var 4) (da_cons (d_var 5) (da_cons (d_fn c G1 (by decide) rfl (da_cons (d_var 0) (da_cons (d_lst (da_cons d_non (da_cons d_str (da_cons d_int (da_cons (d_tup (da_cons d_int da_nil)) (da_cons d_dict0 (da_cons (d_lst da_nil) (da_cons d_bl da_nil)))))))) da_nil))) da_nil)))) (dg_subL (d_var 1) (d_var 2)))) dss_nil)
      (dss_cons (ds_if (d_tcmp (op_eqA c.hr.room.units) lop_eq (d_var 7) d_int (nomark _)) (dss_one (ds_asg (d_tup (da_cons (d_ixA (RoomG.u1 c.hr) (d_ixA (RoomG.u1 c.hr) (d_var 1) (d_var 3)) d_int) (da_cons (d_var 5) (da_cons (d_var 6) da_nil)))) (dg_subL (d_var 1) (d_var 2)))) dss_nil)
      (dss_cons (ds_if (d_tcmp (op_eqA c.hr.room.units) lop_eq (d_var 7) d_int (nomark _)) (dss_one (ds_asg (d_tup (da_cons (d_var 4) (da_cons (d_var 5) (da_cons (d_ixA (RoomG.u1 c.hr) (d_ixA (RoomG.u1 c.hr) (d_var 1) (d_var 3)) d_int) da_nil)))) (dg_subL (d_var 1) (d_var 2)))) dss_nil)
      (dss_cons (ds_if (d_tcmp (op_eqA c.hr.room.units) lop_eq (d_var 7) d_int (nomark _)) (dss_one (ds_asg (d_tup (da_cons (d_var 4) (da_cons (d_var 5) (da_cons (d_fn c G1 (by decide) rfl (da_cons (d_var 0) (da_cons (d_lst (da_cons (d_slice (d_var 6) do_none (do_some (d_un un_neg lun_neg d_int))) (da_cons (d_slice (d_var 6) (do_some d_int) do_none) (da_cons (d_op op_addAll lop_add (d_var 6) (d_lst (da_cons (d_var 8) da_nil))) (da_cons (d_op op_addAll lop_add (d_var 6) (d_lst (da_cons d_int da_nil))) (da_cons (d_op op_addAll lop_add (d_var 6) (d_lst (da_cons d_int da_nil))) da_nil)))))) da_nil))) da_nil)))) (dg_subL (d_var 1) (d_var 2)))) dss_nil)
      (dss_one (ds_if (DW.dt (dw_and (d_tcmp (op_eqA c.hr.room.units) lop_eq (d_var 7) d_int (nomark _)) (dw_and1 (d_tcmp (op_neA c.hr.room.units) lop_ne (d_var 6) (d_lst da_nil) (nomark _))))) (dss_cons (ds_set 9 sc__law_spoil.nd (d_fn c G0 (by decide) rfl (da_cons (d_var 0) (da_cons (d_callB call_len lc_len rfl T.b_len PySem.boot_len (da_cons (d_var 6) da_nil)) da_nil))))
      (dss_one (ds_asg (d_tup (da_cons (d_var 4) (da_cons (d_var 5) (da_cons (d_op op_addAll lop_add (d_op op_addAll lop_add (d_slice (d_var 6) do_none (do_some (d_var 9))) (d_lst (da_cons (d_var 8) da_nil))) (d_slice (d_var 6) (do_some (d_op op_addAll lop_add (d_var 9) d_int)) do_none)) da_nil)))) (dg_subL (d_var 1) (d_var 2))))) dss_nil)))))))))))))
theorem core__law_made (T : Tx K mg) {f : Addr} (F : ∃ fd, FunD K "_law_made" "_law_made" (defArgs s__law_made) (defBody s__law_made) (defScope s__law_made) [] [] f fd) : FnC (clw K P w) P w K mg base 4 "_law_made" "_law_made" (defArgs s__law_made) (defBody s__law_made) (defScope s__law_made) f ["_law_rows_so", "_law_kind"] sp__law_made := by
  have G0 : FnB (clw K P w) P w K mg base 3 "bytes_of" ["numbers"] sp_bytes_of := (core_bytes_of T T.f_bytes_of).fn T.g_bytes_of hb_bytes_of
  refine fnC_of (k := 3) (t := t__law_made) F sc__law_made (fun cdv A outer s H E c => ?_) pure__law_made
  exact (dss_cons (ds_set 2 sc__law_made.nd (d_lstM da_nil))
      (dss_cons (ds_forG c.po c.calm (di_seqG (d_var 0)) (dg_name 3 sc__law_made.nd) (dss_cons (ds_if (DW.dt (dw_and (d_val (d_callB (call_isi.or (call_isiT.or call_isiK)) lc_isi rfl T.b_isinstance (by decide +kernel) (da_cons (d_var 3) (da_cons (d_ty rfl T.b_tuple (by decide +kernel)) da_nil)))) (dw_and (d_tcmp (op_eqA c.hr.room.units) lop_eq (d_callB call_len lc_len rfl T.b_len PySem.boot_len (da_cons (d_var 3) da_nil)) d_int (nomark _)) (dw_and1 (d_val (d_callB (call_isi.or (call_isiT.or call_isiK)) lc_isi rfl T.b_isinstance (by decide +kernel) (da_cons (d_ixA (RoomG.u1 c.hr) (d_var 3) d_int) (da_cons (d_ty rfl T.b_list (by decide +kernel)) da_nil)))))))) (dss_one (ds_set 3 sc__law_made.nd (d_tup (da_cons (d_ixA (RoomG.u1 c.hr) (d_var 3) d_int) (da_cons (d_ixA (RoomG.u1 c.hr) (d_var 3) d_int) (da_cons (d_fn c G0 (by decide) rfl (da_cons (d_ixA (RoomG.u1 c.hr) (d_var 3) d_int) da_nil)) da_nil)))))) dss_nil)
      (dss_one (ds_expr (d_bm PySem.F.plainAttrs_list PySem.F.slot_list_append PySem.F.type_list_append mt_append lm_app (d_var 2) (da_cons (d_ifE (DW.dt (dw_and (d_val (d_callB (call_isi.or (call_isiT.or call_isiK)) lc_isi rfl T.b_isinstance (by decide +kernel) (da_cons (d_var 3) (da_cons (d_ty rfl T.b_tuple (by decide +kernel)) da_nil)))) (dw_and1 (d_tcmp (op_eqA c.hr.room.units) lop_eq (d_var 1) d_int (nomark _))))) (d_callTy call_list_of lc_lst rfl T.b_list (by decide +kernel) (da_cons (d_var 3) da_nil)) (d_var 3)) da_nil))))))
      (dss_one (ds_ret (d_var 2)))))
theorem core_law (T : Tx K mg) {f : Addr} (F : ∃ fd, FunD K "law" "law" (defArgs s_law) (defBody s_law) (defScope s_law) [] [] f fd) : FnC (clw K P w) P w K mg base 6 "law" "law" (defArgs s_law) (defBody s_law) (defScope s_law) f ["_law_script"] sp_law := by
  have G0 : ∀ c spd, List.lookup c ([(12, sp_Thing___eq__)] : List (Nat × SpD)) = some spd -> MethB (clw K P w) P w K mg base 4 c "__eq__" spd := (tb_cons ((core_Thing___eq__ T T.f_Fault____eq__).meth (c := 12) T.k_Fault T.m_Fault____eq__ hb_Thing___eq__ (by decide)) tb_nil)
  have G1 : FnB (clw K P w) P w K mg base 5 "judge_keys" ["rows"] sp_judge_keys := (core_judge_keys T T.f_judge_keys).fn T.g_judge_keys hb_judge_keys
  have G2 : MkB (clw K P w) P w K mg base 1 "Fault" 12 ["self", "place", "word"] sp_Fault___init__ := (core_Fault___init__ T T.f_Fault____init__).mk (c := 12) T.g_Fault T.mk_Fault hb_Fault___init__
  have G3 : FnBK (clw K P w) P w K mg base 5 "judge_keys" 0 ["rows"] [0] sp_judge_keys := (core_judge_keys T T.f_judge_keys).fnK T.g_judge_keys (fun _ _ _ _ _ _ us ws hu hw => match us, ws, hu, hw with | [], [_], _, _ => rfl)
  have G4 : FnB (clw K P w) P w K mg base 4 "_law_made" ["_law_rows_so", "_law_kind"] sp__law_made := (core__law_made T T.f__law_made).fn T.g__law_made hb__law_made
  have G5 : FnB (clw K P w) P w K mg base 1 "_law_draw" ["_law_well_here", "_law_many"] sp__law_draw := (core__law_draw T T.f__law_draw).fn T.g__law_draw hb__law_draw
  have G6 : FnB (clw K P w) P w K mg base 4 "_law_due" ["_law_rows_so"] sp__law_due := (core__law_due T T.f__law_due).fn T.g__law_due hb__law_due
  have G7 : FnB (clw K P w) P w K mg base 3 "_law_spoil" ["_law_well_here", "_law_rows_so"] sp__law_spoil := (core__law_spoil T T.f__law_spoil).fn T.g__law_spoil hb__law_spoil
  have G8 : FnB (clw K P w) P w K mg base 2 "_law_mixed" ["_law_well_here", "_law_some"] sp__law_mixed := (core__law_mixed T T.f__law_mixed).fn T.g__law_mixed hb__law_mixed
  have G9 : FnB (clw K P w) P w K mg base 2 "_law_labels" ["_law_well_here", "_law_rows_so"] sp__law_labels := (core__law_labels T T.f__law_labels).fn T.g__law_labels hb__law_labels
  have G10 : FnB (clw K P w) P w K mg base 4 "_law_rows" ["_law_well_here", "_law_most"] sp__law_rows := (core__law_rows T T.f__law_rows).fn T.g__law_rows hb__law_rows
  have G11 : FnB (clw K P w) P w K mg base 2 "_law_one" ["_law_well_here", "_law_some"] sp__law_one := (core__law_one T T.f__law_one).fn T.g__law_one hb__law_one
  have G12 : FnB (clw K P w) P w K mg base 1 "_law_well" ["_law_cell"] sp__law_well := (core__law_well T T.f__law_well).fn T.g__law_well hb__law_well
  refine fnC_of (k := 5) (t := t_law) F sc_law (fun cdv A outer s H E c => ?_) pure_law
  exact (dss_cons (ds_for c.po c.calm (di_seq (d_slice (d_op op_addAll lop_add (d_var 0) (d_lst (da_cons d_int da_nil))) do_none (do_some d_int))) (dg_name 1 sc_law.nd) (dss_cons (ds_set 2 sc_law.nd (d_fn c G12 (by decide) rfl (da_cons (d_var 1) da_nil)))
      (dss_cons (ds_set 3 sc_law.nd (d_fn c G10 (by decide) rfl (da_cons (d_var 2) (da_cons (d_fn c G11 (by decide) rfl (da_cons (d_var 2) (da_cons (d_lst (da_cons d_int (da_cons d_int (da_cons d_int da_nil)))) da_nil))) da_nil))))
      (dss_cons (ds_set 4 sc_law.nd (d_fn c G9 (by decide) rfl (da_cons (d_var 2) (da_cons (d_var 3) da_nil))))
      (dss_cons (ds_set 5 sc_law.nd (d_fn c G8 (by decide) rfl (da_cons (d_var 2) (da_cons (d_lc (own := [("_law_at", 13), ("_law_row", 14)]) c.calm sc_law.nd (di_enumT rfl T.b_enumerate (d_var 3)) (blkOk_by (own := [("_law_at", 13), ("_law_row", 14)]) (N := N_law) (sc := defScope s_law) (by decide +kernel)) (fun _ _ _ _ _ => (dg_tup c.blk.calm (dgs_cons (dg_name 13 sc_law.nd) (dgs_cons (dg_name 14 sc_law.nd) dgs_nil)))) (fun _ _ _ _ _ => dts_nil) (fun _ _ _ _ _ => (d_tup (da_cons (d_ixA (RoomG.u1 c.blk.hr) (d_var 14) d_int) (da_cons (d_ixA (RoomG.u1 c.blk.hr) (d_var 14) d_int) (da_cons (d_ixA (RoomG.u1 c.blk.hr) (d_var 4) (d_var 13)) da_nil)))))) da_nil))))
      (dss_cons (ds_if (d_tcmp op_notN lop_notN (d_fn c G1 (by decide) rfl (da_cons (d_fn c G4 (by decide) rfl (da_cons (d_var 5) (da_cons d_int da_nil))) da_nil)) d_non (nomark _)) (dss_one (ds_ret d_bl)) dss_nil)
      (dss_cons (ds_for c.po c.calm (di_range1 rfl T.b_range (d_op op_mul lop_mul (d_fn c G5 (by decide) rfl (da_cons (d_var 2) (da_cons d_int da_nil))) (d_callTy call_int1 lc_int rfl T.b_int (by decide +kernel) (da_cons (d_cmpG (bin_neE c.hr.room.units) (d_var 5) (d_lst da_nil) (nomark _)) da_nil)))) (dg_name 6 sc_law.nd) (dss_one (ds_if (DW.dt (dw_and (d_tcmp (op_eqA c.hr.room.units) lop_eq (d_fn c G5 (by decide) rfl (da_cons (d_var 2) (da_cons d_int da_nil))) d_int (nomark _)) (dw_and1 (d_tcmp op_gt (lop_cmp _) (d_callB call_len lc_len rfl T.b_len PySem.boot_len (da_cons (d_var 5) da_nil)) d_int (nomark _))))) (dss_one (ds_expr (d_bm PySem.F.plainAttrs_list PySem.F.slot_list_pop PySem.F.type_list_pop mt_popAt lm_popAt (d_var 5) (da_cons (d_fn c G5 (by decide) rfl (da_cons (d_var 2) (da_cons (d_callB call_len lc_len rfl T.b_len PySem.boot_len (da_cons (d_var 5) da_nil)) da_nil))) da_nil)))) (dss_one (ds_expr (d_fn c G7 (by decide) rfl (da_cons (d_var 2) (da_cons (d_var 5) da_nil))))))))
      (dss_cons (ds_par (i := 7) (j := 8) c.calm sc_law.nd (da_cons (d_fn c G6 (by decide) rfl (da_cons (d_var 5) da_nil)) (da_cons (d_fn c G4 (by decide) rfl (da_cons (d_var 5) (da_cons (d_fn c G5 (by decide) rfl (da_cons (d_var 2) (da_cons d_int da_nil))) da_nil))) da_nil)))
      (dss_cons (ds_set 9 sc_law.nd (d_callB (call_reprY c.hr) lc_reprY rfl T.b_repr (by decide +kernel) (da_cons (d_var 8) da_nil)))
      (dss_cons (ds_for c.po c.calm (di_seq (d_lst (da_cons (d_var 8) (da_cons (d_callTy call_tuple_of lc_tup rfl T.b_tuple (by decide +kernel) (da_cons (d_var 8) da_nil)) (da_cons (d_var 8) da_nil))))) (dg_name 10 sc_law.nd) (dss_cons (ds_set 11 sc_law.nd (d_fn c G1 (by decide) rfl (da_cons (d_var 10) da_nil)))
      (dss_cons (ds_if (DW.dt (dw_or (d_tcmp (op_neA c.hr.room.units) lop_ne (d_cmp op_isN lop_isN (d_var 11) d_non (nomark _)) (d_cmp op_isN lop_isN (d_var 7) d_non (nomark _)) (nomark _)) (dw_or1 (d_tcmp (op_neA c.hr.room.units) lop_ne (d_callB (call_reprY c.hr) lc_reprY rfl T.b_repr (by decide +kernel) (da_cons (d_var 8) da_nil)) (d_var 9) (nomark _))))) (dss_one (ds_ret d_bl)) dss_nil)
      (dss_one (ds_if (DW.dt (dw_and (d_tcmp op_notN lop_notN (d_var 7) d_non (nomark _)) (dw_and1 (DW.dt (dw_or (d_tnot (d_val (d_callB call_isi (lc_iso T.iso_Fault) rfl T.b_isinstance (by decide +kernel) (da_cons (d_var 11) (da_cons (d_clsN (c := 12) rfl T.g_Fault) da_nil))))) (dw_or1 (d_tcmp (op_neA c.hr.room.units) lop_ne (d_tup (da_cons (d_fld (fo_place T) (d_var 11)) (da_cons (d_fld (fo_word T) (d_var 11)) da_nil))) (d_var 7) (nomark _)))))))) (dss_one (ds_ret d_bl)) dss_nil)))))
      (dss_one (ds_if (DW.dt (dw_and (d_tcmpG (bin_neE c.hr.room.units) (d_var 5) (d_lst da_nil) (nomark _)) (dw_and1 (d_tcmpG (BinG.or (BinG.of_op (op_neA c.hr.room.units) lop_ne) (own_ne (k := 4) c T.nf_12 T.ne_12 (tb_in (by decide)) G0)) (d_fnK0 c G3 (by decide) rfl (dk_cons (d_bin bin_rep (d_var 8) d_int) dk_nil)) (d_make c G2 (by decide) rfl (da_cons (d_un un_neg lun_neg d_int) (da_cons d_str da_nil))) (nomark _))))) (dss_one (ds_ret d_bl)) dss_nil))))))))))))
      (dss_one (ds_ret (d_cmpG (own_eqL (k := 4) c T.nf_12 (tb_in (by decide)) G0) (d_lc (own := [("_law_odd", 12)]) c.calm sc_law.nd (di_seq (d_lst (da_cons d_non (da_cons d_str (da_cons d_dict0 (da_cons d_int da_nil)))))) (blkOk_by (own := [("_law_odd", 12)]) (N := N_law) (sc := defScope s_law) (by decide +kernel)) (fun _ _ _ _ _ => (dg_name 12 sc_law.nd)) (fun _ _ _ _ _ => dts_nil) (fun _ _ _ _ _ => (d_fn c.blk G1 (by decide) rfl (da_cons (d_var 12) da_nil)))) (d_bin bin_repD (d_lstM (da_cons (d_make c G2 (by decide) rfl (da_cons (d_un un_neg lun_neg d_int) (da_cons d_str da_nil))) da_nil)) d_int) (nomark _)))))
end
end LawProof
set_option Elab.async false
set_option linter.all false
set_option maxRecDepth 100000
set_option maxHeartbeats 4000000
set_option autoImplicit true
namespace LawProof
open PySem L2 DL
theorem tx_of {K : PySem.W.Frag} {h : Heap} {mg : Str -> Option Value} (X : K.In h) (G : h.Ns mainGlobals mg) (c : He.SaysD fa fn K) (e : ex K = true) : Tx K mg :=
  { f_is_integer := c.def_ 0 (d := d_is_integer) rfl,
    f_is_sequence := c.def_ 1 (d := d_is_sequence) rfl,
    f_is_name := c.def_ 2 (d := d_is_name) rfl,
    f_is_value := c.def_ 3 (d := d_is_value) rfl,
    f_key_fault := c.def_ 4 (d := d_key_fault) rfl,
    f_cut_key := c.def_ 5 (d := d_cut_key) rfl,
    f_bytes_of := c.def_ 6 (d := d_bytes_of) rfl,
    f_plain_word := c.def_ 7 (d := d_plain_word) rfl,
    f_key_word := c.def_ 8 (d := d_key_word) rfl,
    f_shorter_keys := c.def_ 9 (d := d_shorter_keys) rfl,
    f_judge_keys := c.def_ 10 (d := d_judge_keys) rfl,
    f__law_well := c.def_ 11 (d := d__law_well) rfl,
    f__law_draw := c.def_ 12 (d := d__law_draw) rfl,
    f__law_one := c.def_ 13 (d := d__law_one) rfl,
    f__law_names := c.def_ 14 (d := d__law_names) rfl,
    f__law_value := c.def_ 15 (d := d__law_value) rfl,
    f__law_levels := c.def_ 16 (d := d__law_levels) rfl,
    f__law_rows := c.def_ 17 (d := d__law_rows) rfl,
    f__law_mixed := c.def_ 18 (d := d__law_mixed) rfl,
    f__law_is_whole := c.def_ 19 (d := d__law_is_whole) rfl,
    f__law_is_name := c.def_ 20 (d := d__law_is_name) rfl,
    f__law_is_value := c.def_ 21 (d := d__law_is_value) rfl,
    f__law_labels := c.def_ 22 (d := d__law_labels) rfl,
    f__law_cut := c.def_ 23 (d := d__law_cut) rfl,
    f__law_is_key := c.def_ 24 (d := d__law_is_key) rfl,
    f__law_word := c.def_ 25 (d := d__law_word) rfl,
    f__law_due := c.def_ 26 (d := d__law_due) rfl,
    f__law_spoil := c.def_ 27 (d := d__law_spoil) rfl,
    f__law_made := c.def_ 28 (d := d__law_made) rfl,
    f_law := c.def_ 29 (d := d_law) rfl,
    f_NoKey____init__ := c.def_ 30 (d := d_NoKey____init__) rfl,
    f_Fault__facts := c.def_ 31 (d := d_Fault__facts) rfl,
    f_Fault__class_name := c.def_ 32 (d := d_Fault__class_name) rfl,
    f_Fault____init__ := c.def_ 33 (d := d_Fault____init__) rfl,
    f_Fault____eq__ := c.def_ 34 (d := d_Fault____eq__) rfl,
    g_is_integer := He.glo_ok X G (c.fact 0 (f := .glo "is_integer") rfl),
    g_is_sequence := He.glo_ok X G (c.fact 1 (f := .glo "is_sequence") rfl),
    g_is_name := He.glo_ok X G (c.fact 2 (f := .glo "is_name") rfl),
    g_is_value := He.glo_ok X G (c.fact 3 (f := .glo "is_value") rfl),
    g_key_fault := He.glo_ok X G (c.fact 4 (f := .glo "key_fault") rfl),
    g_cut_key := He.glo_ok X G (c.fact 5 (f := .glo "cut_key") rfl),
    g_bytes_of := He.glo_ok X G (c.fact 6 (f := .glo "bytes_of") rfl),
    g_plain_word := He.glo_ok X G (c.fact 7 (f := .glo "plain_word") rfl),
    g_key_word := He.glo_ok X G (c.fact 8 (f := .glo "key_word") rfl),
    g_shorter_keys := He.glo_ok X G (c.fact 9 (f := .glo "shorter_keys") rfl),
    g_judge_keys := He.glo_ok X G (c.fact 10 (f := .glo "judge_keys") rfl),
    g__law_well := He.glo_ok X G (c.fact 11 (f := .glo "_law_well") rfl),
    g__law_draw := He.glo_ok X G (c.fact 12 (f := .glo "_law_draw") rfl),
    g__law_one := He.glo_ok X G (c.fact 13 (f := .glo "_law_one") rfl),
    g__law_names := He.glo_ok X G (c.fact 14 (f := .glo "_law_names") rfl),
    g__law_value := He.glo_ok X G (c.fact 15 (f := .glo "_law_value") rfl),
    g__law_levels := He.glo_ok X G (c.fact 16 (f := .glo "_law_levels") rfl),
    g__law_rows := He.glo_ok X G (c.fact 17 (f := .glo "_law_rows") rfl),
    g__law_mixed := He.glo_ok X G (c.fact 18 (f := .glo "_law_mixed") rfl),
    g__law_is_whole := He.glo_ok X G (c.fact 19 (f := .glo "_law_is_whole") rfl),
    g__law_is_name := He.glo_ok X G (c.fact 20 (f := .glo "_law_is_name") rfl),
    g__law_is_value := He.glo_ok X G (c.fact 21 (f := .glo "_law_is_value") rfl),
    g__law_labels := He.glo_ok X G (c.fact 22 (f := .glo "_law_labels") rfl),
    g__law_cut := He.glo_ok X G (c.fact 23 (f := .glo "_law_cut") rfl),
    g__law_is_key := He.glo_ok X G (c.fact 24 (f := .glo "_law_is_key") rfl),
    g__law_word := He.glo_ok X G (c.fact 25 (f := .glo "_law_word") rfl),
    g__law_due := He.glo_ok X G (c.fact 26 (f := .glo "_law_due") rfl),
    g__law_spoil := He.glo_ok X G (c.fact 27 (f := .glo "_law_spoil") rfl),
    g__law_made := He.glo_ok X G (c.fact 28 (f := .glo "_law_made") rfl),
    g_law := He.glo_ok X G (c.fact 29 (f := .glo "law") rfl),
    g_Fault := He.glo_ok X G (c.fact 30 (f := .glo "Fault") rfl),
    k_Fault := He.cls_ok (c.fact 31 (f := .cls "Fault") rfl),
    g_Thing := He.glo_ok X G (c.fact 32 (f := .glo "Thing") rfl),
    k_Thing := He.cls_ok (c.fact 33 (f := .cls "Thing") rfl),
    g_NoKey := He.glo_ok X G (c.fact 34 (f := .glo "NoKey") rfl),
    g_ForestError := He.glo_ok X G (c.fact 35 (f := .glo "ForestError") rfl),
    oex_NoKey := oexB_ok (ex_0 e),
    xn_NoKey := ex_1 e,
    n_Fault__word := He.noat_ok (c.fact 36 (f := .noat "Fault" "word") rfl),
    n_Fault__place := He.noat_ok (c.fact 37 (f := .noat "Fault" "place") rfl),
    m_Fault__facts := He.meth_ok (c.fact 38 (f := .meth "Fault" "facts") rfl),
    m_Fault__class_name := He.meth_ok (c.fact 39 (f := .meth "Fault" "class_name") rfl),
    mk_Fault := He.mkr_ok (c.fact 40 (f := .mkr "Fault") rfl),
    sm := smB_ok (ex_2 e),
    m_Fault____eq__ := He.meth_ok (c.fact 41 (f := .meth "Fault" "__eq__") rfl),
    ty_Fault := tycB_ok (He.cls_ok (c.fact 31 (f := .cls "Fault") rfl)) (ex_3 e),
    iso_Thing := isoB_ok (ex_4 e) (fun j hj => (by rcases List.mem_cons.mp hj with rfl | hj; exact (tycB_ok (He.cls_ok (c.fact 31 (f := .cls "Fault") rfl)) (ex_3 e)); exact (by cases hj))),
    nf_12 := nfB_ok (ex_5 e),
    ne_12 := neB_ok (ex_6 e),
    iso_Fault := isoB_ok (ex_7 e) (fun j hj => (by rcases List.mem_cons.mp hj with rfl | hj; exact (tycB_ok (He.cls_ok (c.fact 31 (f := .cls "Fault") rfl)) (ex_3 e)); exact (by cases hj))),
    b_isinstance := He.free_ok X G (c.fact 42 (f := .free "isinstance") rfl),
    b_int := He.free_ok X G (c.fact 43 (f := .free "int") rfl),
    b_bool := He.free_ok X G (c.fact 44 (f := .free "bool") rfl),
    b_tuple := He.free_ok X G (c.fact 45 (f := .free "tuple") rfl),
    b_list := He.free_ok X G (c.fact 46 (f := .free "list") rfl),
    b_all := He.free_ok X G (c.fact 47 (f := .free "all") rfl),
    b_str := He.free_ok X G (c.fact 48 (f := .free "str") rfl),
    b_len := He.free_ok X G (c.fact 49 (f := .free "len") rfl),
    b_enumerate := He.free_ok X G (c.fact 50 (f := .free "enumerate") rfl),
    b_bytes := He.free_ok X G (c.fact 51 (f := .free "bytes") rfl),
    b_range := He.free_ok X G (c.fact 52 (f := .free "range") rfl),
    b_repr := He.free_ok X G (c.fact 53 (f := .free "repr") rfl),
    c_LETTERS := He.str_ok X G (c.fact 54 (f := .str "LETTERS" "abcdefghijklmnopqrstuvwxyz") rfl),
    c_SIGNS := He.str_ok X G (c.fact 55 (f := .str "SIGNS" "abcdefghijklmnopqrstuvwxyz0123456789") rfl),
    c_MOST_SIGNS := He.int_ok X G (c.fact 56 (f := .int "MOST_SIGNS" 8) rfl),
    c_MOST_VALUE := He.int_ok X G (c.fact 57 (f := .int "MOST_VALUE" 1000000000000000000000000000000) rfl),
    c_MOST_ROWS := He.int_ok X G (c.fact 58 (f := .int "MOST_ROWS" 60) rfl) }
end LawProof
open PySem PySem.W PySem.Calls PyProof.Rows
set_option maxRecDepth 100000 in
set_option maxHeartbeats 0 in
theorem PySem.Challenge.cw_forestrows_k20_key_rows_judged_holds : PySem.Challenge.rw_forestrows_k20_key_rows_judged.Holds := by
  w_on; o_law
  refine HandSHeadRun.head_any (r := OpenLaw.row PySem.Challenge.rw_forestrows_k20_key_rows_judged) (q := view (OpenLaw.row PySem.Challenge.rw_forestrows_k20_key_rows_judged).prog [44]) (H := LawProof.hk) (ob := LawProof.ob) (M := 20000) (loose := LawProof.loose) (d := HandSHeadRun.topDef (OpenLaw.row PySem.Challenge.rw_forestrows_k20_key_rows_judged).prog 44) (kwd := []) LawProof.ob_eq
    (by kernel_rfl) (fun s => by kernel_rfl) LawProof.run (by kernel_rfl) (by kernel_rfl) (by kernel_rfl) (by rfl) (by first | assumption | decide +kernel) (by decide +kernel) ⟨rfl, rfl, rfl, rfl, rfl, by decide +kernel⟩ ?hw ?hc
  case hw => w_witness2
  case hc =>
    refine DL.walk_D (l := PySem.Challenge.rw_forestrows_k20_key_rows_judged) (n := 63) (k := 6) (x := "_law_script") rfl (by decide) (by kernel_rfl) ⟨⟨rfl, by decide, by decide⟩, rfl⟩ ?F
    intro w mg fa h Y G hmg0
    obtain ⟨K, KX, c⟩ := Y
    have T := LawProof.tx_of KX G c.1 c.2
    have hmg : mg ("law" : PySem.Str) = some (.ref fa) := by
      have e : (HandSHeadRun.topDef (OpenLaw.row PySem.Challenge.rw_forestrows_k20_key_rows_judged).prog 44).name = ("law" : PySem.Str) := by kernel_rfl
      rw [<- e]
      exact hmg0
    have e := hmg.symm.trans T.g_law
    cases e
    refine ⟨LawProof.clw K PySem.Challenge.rw_forestrows_k20_key_rows_judged.prog w, K, LawProof.sp_law, rfl, KX, LawProof.law_sp, fun base _ _ => ?_⟩
    obtain ⟨f, fd2, h1, h2, h3, h4⟩ := (LawProof.core_law (P := PySem.Challenge.rw_forestrows_k20_key_rows_judged.prog) (w := w) (base := base) T T.f_law).fn T.g_law LawProof.hb_law
    have e1 := h1.symm.trans T.g_law
    cases e1
    exact ⟨fd2, h3, h4⟩
