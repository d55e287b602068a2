import PyProof.Rows.All
import Wide.All
import OpenK.AllK
import Wide.FinOn
import HandS.ForMost
import HandS.ForExc
import HandS.IsInst
import HandS.Flow
import HandS.Wide
import HandS.Lambda
import HandS.ExcInit
import HandS.NoneIn
import KE.KDictKeyed
import KE.KDflt
import HandS.TupAny
import HandS.Style
import HandS.Defaults
import HandS.RaiseMore
import HandS.Head0
import HandS.Head1
import HandS.Head2
import HandS.HeadEnd
import HandS.HeadHook1
import HandS.HeadHook2
import KE.DataEq
import HandS.HeadHook3
import HandS.HeadHook4
import HandS.Text
import HandS.Zip
import HandS.ClsMeth
import HandS.Dict
import HandS.DictComp
import HandS.Bytes
import HandS.OwnEq
import PyProof.InstNe
import HandS.ExcField
import HandS.TryMany
import KE.GoesEnum
import HandS.ExcIs
import HandS.Conv
import HandS.ListEq
import HandS.DictEq
import HandS.BytesMake
import HandS.More
import HandS.SortKw
import KE.SortKeyHeap
import KE.SortData
import KE.KSortKey
import HandS.FStr
import HandS.Codes
import HandS.Star
import HandS.EndTab
import HandS.NestedK
import PyProof.FactsBase
import PyProof.TableTree
import PyProof.FactsTree
import PyProof.PlainAttrs
import KE.GoesMore
import Wide.BytesRules
import PyProof.EqAt
import PyProof.EqKinds
import PyProof.NeKinds
import PyProof.FactsAll.subtypes_3
import PyProof.FactsAll.subtypes_6
import KE.GoesEnumKw
import KE.GoesZip
import HandS.ExcValue
import KE.KSortAsk
import HandS.Iter
import KE.KBytesCut
import KE.LtData
import HandS.Flt
import HandS.Property
import HandS.HeadNt
import KE.KDictPairs
import PyProof.MeetsDictList
import PyProof.DictRoadsH
import PyProof.DictMoreH
import PyProof.DictItems
import PyProof.AutoIntOps
import OpenK.KMeth
import KE.KOpsOwn
import KE.KBytesFind
import PyProof.ListStr
import KE.KStateDown
import Lean
import PySem.Challenge.RW_forestrows_k46_keys_and_their_labels
set_option Elab.async false
set_option linter.all false
set_option maxRecDepth 100000
set_option maxHeartbeats 2000000
namespace DL
open PySem L2
inductive D where
  | non | bl (b : Bool) | int (i : Int) | str (x : Str) | byt (b : Array UInt8) | ty (n : String) | ref (a : Addr)
  | lst (xs : List D) | tup (xs : List D)
  | dK (ks : List Key) (ds : List D) | dT (ep : Nat) (ks : List (List (Option Key))) (ds : List D)
  | obj (c : Nat) (ns : List Str) (ds : List D)
  | cls (c : Nat)
  | exc (a dd : Addr) (c : Nat) (ns : List Str) (ds : List D)
  | xob (c : Nat) (ns : List Str) (ds : List D)
  | thk (f c : Addr) (q : Str) (vs : List V) (ds : List D)
  | dN (ep : Nat) (ks : List (Option Key)) (ds : List D)
  | fn (j : Nat) (C : List (Str × Addr))
  | cel (o : Obj) (d : D)
structure LamSyn where
  N : List Str
  q : Str
  params : Arguments
  body : Expr
  scope : Scope
  df : List Int
structure ClW where
  f : Nat -> Addr
  p : Program
  w : World
  lam : Nat -> Option LamSyn := fun _ => none
instance : CoeFun ClW (fun _ => Nat -> Addr) := ⟨ClW.f⟩
instance : Coe ClW (Nat -> Addr) := ⟨ClW.f⟩
abbrev Mem := Addr -> Option D
abbrev Env := List (Option D)
def updM (M : Mem) (a : Addr) (d : D) : Mem := fun b => if b = a then some d else M b
def delM (M : Mem) (a : Addr) : Mem := fun b => if b = a then none else M b
theorem updM_same {M : Mem} {a : Addr} {d : D} : updM M a d a = some d := if_pos rfl
theorem updM_ne {M : Mem} {a b : Addr} {d : D} (h : b ≠ a) : updM M a d b = M b := if_neg h
theorem delM_same {M : Mem} {a : Addr} : delM M a a = none := if_pos rfl
theorem delM_ne {M : Mem} {a b : Addr} (h : b ≠ a) : delM M a b = M b := if_neg h
theorem updM_updM {M : Mem} {a : Addr} {d e : D} : updM (updM M a d) a e = updM M a e := by
  funext b; unfold updM; split <;> rfl
theorem delM_updM {M : Mem} {a : Addr} {d : D} (h : M a = none) : delM (updM M a d) a = M := by
  funext b
  by_cases e : b = a
  · subst e; rw [delM_same, h]
  · rw [delM_ne e, updM_ne e]
def SqT1 (K : PySem.W.Frag) (F : Hp) (a : Addr) (vs : List V) : Prop := F a = some (.tup vs) \/
  ∃ (o : Obj) (its : Array Value) (n : Nat), K.lookup a = some o /\ o.cls = .type "tuple" /\ o.data = .seq its n /\ its.size <= sizeLine /\ Vals vs its.toList
theorem SqT1.of {K : PySem.W.Frag} {F : Hp} {a : Addr} {vs : List V} (h : F a = some (.tup vs)) : SqT1 K F a vs := .inl h
theorem SqT1.sq {K : PySem.W.Frag} {F : Hp} {a : Addr} {vs : List V} (h : SqT1 K F a vs) : SqT K F a vs := h.elim (fun h => .inl (.inl h)) .inr
theorem SqT1.mono {K : PySem.W.Frag} {F F' : Hp} {a : Addr} {vs : List V} (s : Same F F') (h : SqT1 K F a vs) : SqT1 K F' a vs := h.imp (s _ _) id
def NDict (P : Program) (w : World) (a : Addr) (ep : Nat) (kvs : List (Option Key × V)) : Heap -> Prop := fun h =>
  kvs.length <= sizeLine /\ (a == sysModules) = false /\ ∃ vs, KV kvs vs /\ Heap.DictAt (noneKind P w) h a vs ep
theorem nd_ne_code {P : Program} {w : World} {a c : Addr} {ep : Nat} {kvs : List (Option Key × V)} {q : Str} : HO.ext (NDict P w a ep kvs) ≠ LamX.CodeO c q := fun e => by
  unfold LamX.CodeO at e
  have e' := HO.ext.inj e
  let ob : Obj := { cls := .type "function", data := .fields #[.none, .str q 0] }
  let h : Heap := { objs := Array.replicate (c + 1) ob }
  have hg : ∀ b, h.get? b = if b < c + 1 then some ob else none := fun b => by
    unfold Heap.get?
    by_cases hb : b < c + 1
    · have : h.objs[b]? = some ob := by simp [h, hb]
      rw [this, if_pos hb]
    · have : h.objs[b]? = none := by simp only [h]; rw [Array.getElem?_eq_none]; rw [Array.size_replicate]; exact Nat.not_lt.mp hb
      rw [this, if_neg hb]
  have hc : NDict P w a ep kvs h := by
    rw [e']
    exact ⟨ob, _, 0, by rw [hg, if_pos (Nat.lt_succ_self c)], rfl, rfl⟩
  obtain ⟨_, _, vs, _, o, es, ho, _, hd, _⟩ := hc
  rw [hg] at ho
  split at ho
  · cases ho; cases hd
  · cases ho
abbrev ndO (P : Program) (w : World) (a : Addr) (ep : Nat) (kvs : List (Option Key × V)) : HO := .ext (NDict P w a ep kvs)
def nkV : Option Key -> V
  | none => .non
  | some (.inl i) => .int i
  | some (.inr x) => .str x
def leafOf : Option Key -> Leaf
  | none => .none
  | some (.inl i) => .num i
  | some (.inr x) => .text x
inductive TV : List (List (Option Key) × Addr × V) -> List (List Leaf × Addr × Value) -> Prop
  | nil : TV [] []
  | cons {k : List (Option Key)} {b : Addr} {v : V} {u : Value} {ts : List (List (Option Key) × Addr × V)} {xs : List (List Leaf × Addr × Value)} : RelV v u -> TV ts xs -> TV ((k, b, v) :: ts) ((k.map leafOf, b, u) :: xs)
def TDict (P : Program) (w : World) (a : Addr) (ep : Nat) (ts : List (List (Option Key) × Addr × V)) : Heap -> Prop := fun h =>
  ts.length <= sizeLine /\ (a == sysModules) = false /\ ∃ xs, TV ts xs /\ ∃ o es, h.get? a = some o /\ o.ExactDict /\ o.data = .dict es ep /\ es.toList = xs.map (entryOfKey (tupleKind (leafKind P w))) /\ (xs.map (·.1)).Nodup
theorem td_ne_code {P : Program} {w : World} {a c : Addr} {ep : Nat} {ts : List (List (Option Key) × Addr × V)} {q : Str} : HO.ext (TDict P w a ep ts) ≠ LamX.CodeO c q := fun e => by
  unfold LamX.CodeO at e
  have e' := HO.ext.inj e
  let ob : Obj := { cls := .type "function", data := .fields #[.none, .str q 0] }
  let h : Heap := { objs := Array.replicate (c + 1) ob }
  have hg : ∀ b, h.get? b = if b < c + 1 then some ob else none := fun b => by
    unfold Heap.get?
    by_cases hb : b < c + 1
    · have : h.objs[b]? = some ob := by simp [h, hb]
      rw [this, if_pos hb]
    · have : h.objs[b]? = none := by simp only [h]; rw [Array.getElem?_eq_none]; rw [Array.size_replicate]; exact Nat.not_lt.mp hb
      rw [this, if_neg hb]
  have hc : TDict P w a ep ts h := by
    rw [e']
    exact ⟨ob, _, 0, by rw [hg, if_pos (Nat.lt_succ_self c)], rfl, rfl⟩
  obtain ⟨_, _, vs, _, o, es, ho, _, hd, _⟩ := hc
  rw [hg] at ho
  split at ho
  · cases ho; cases hd
  · cases ho
abbrev tdO (P : Program) (w : World) (a : Addr) (ep : Nat) (ts : List (List (Option Key) × Addr × V)) : HO := .ext (TDict P w a ep ts)
def ObO (a : Addr) (o : Obj) : HO := .ext fun h => h.get? a = some o
theorem ob_ne_code {a c : Addr} {o : Obj} {q : Str} (ho : ∀ vs, o.data ≠ .fields vs) : ObO a o ≠ LamX.CodeO c q := fun e => by
  unfold LamX.CodeO ObO at e
  have e' := HO.ext.inj e
  let ob : Obj := { cls := .type "function", data := .fields #[.none, .str q 0] }
  let h : Heap := { objs := Array.replicate (a + c + 1) ob }
  have hg : ∀ b, h.get? b = if b < a + c + 1 then some ob else none := fun b => by
    unfold Heap.get?
    by_cases hb : b < a + c + 1
    · have : h.objs[b]? = some ob := by simp [h, hb]
      rw [this, if_pos hb]
    · have : h.objs[b]? = none := by simp only [h]; rw [Array.getElem?_eq_none]; rw [Array.size_replicate]; exact Nat.not_lt.mp hb
      rw [this, if_neg hb]
  have hc : h.get? a = some o := by
    have := congrFun e' h
    rw [show (h.get? a = some o) = _ from this]
    exact ⟨ob, _, 0, by rw [hg, if_pos (Nat.lt_succ_of_le (Nat.le_add_left c a))], rfl, rfl⟩
  rw [hg, if_pos (Nat.lt_succ_of_le (Nat.le_add_right a c))] at hc
  exact ho #[.none, .str q 0] (by rw [<- Option.some.inj hc])
def DfOk (F : Hp) (L : LamSyn) (dV : Value) : Prop := (L.df = [] /\ dV = .none) \/ ∃ T, L.df ≠ [] /\ dV = .ref T /\ F T = some (.tup (L.df.map V.int))
theorem DfOk.mono {F F' : Hp} {L : LamSyn} {dV : Value} (s : Same F F') (h : DfOk F L dV) : DfOk F' L dV := h.imp id fun ⟨T, h1, h2, h3⟩ => ⟨T, h1, h2, s _ _ h3⟩
abbrev lamObj (L : LamSyn) (C : List (Str × Addr)) (dV doc pm cv ctv : Value) : Obj := { cls := .type "function", data := .func (PySem.W.kdv_fn "<lambda>" L.q L.params (.expr L.body) L.scope (cloFrom C L.scope.names []) dV doc pm cv ctv) }
section
variable (K : PySem.W.Frag) (cl : ClW)
def XoAt (F : Hp) (a C : Addr) (fs : List (Str × V)) : Prop := (∃ dd, F a = some (exo a C (some dd)) /\ F dd = some (exd dd fs)) \/ (fs = [] /\ F a = some (exo a C none))
theorem XoAt.mono {F F' : Hp} {a C : Addr} {fs : List (Str × V)} (s : Same F F') (h : XoAt F a C fs) : XoAt F' a C fs := by
  rcases h with ⟨dd, h1, h2⟩ | ⟨h1, h2⟩
  · exact .inl ⟨dd, s _ _ h1, s _ _ h2⟩
  · exact .inr ⟨h1, s _ _ h2⟩
mutual
inductive Rep (K : PySem.W.Frag) (cl : ClW) (F : Hp) : V -> D -> Prop where
  | non : Rep K cl F .non .non
  | bl (b : Bool) : Rep K cl F (.bl b) (.bl b)
  | int (i : Int) : Rep K cl F (.int i) (.int i)
  | str (x : Str) : Rep K cl F (.str x) (.str x)
  | byt (b : Array UInt8) : Rep K cl F (.byt b) (.byt b)
  | ty (n : String) : Rep K cl F (.ty n) (.ty n)
  | ref (a : Addr) : Rep K cl F (.ref a) (.ref a)
  | cls (c : Nat) : Rep K cl F (.ref (cl c)) (.cls c)
  | lst {a : Addr} {vs : List V} {ds : List D} : SqL K F a vs -> Reps K cl F vs ds -> Rep K cl F (.ref a) (.lst ds)
  | tup {a : Addr} {vs : List V} {ds : List D} : SqT1 K F a vs -> Reps K cl F vs ds -> Rep K cl F (.ref a) (.tup ds)
  | dK {a : Addr} {ks : List Key} {vs : List V} {ds : List D} : F a = some (.dK (ks.zip vs)) -> ks.length = vs.length -> Reps K cl F vs ds -> Rep K cl F (.ref a) (.dK ks ds)
  | dT {a : Addr} {ep : Nat} {ks : List (List (Option Key))} {ts : List (List (Option Key) × Addr × V)} {ds : List D} : F a = some (tdO cl.p cl.w a ep ts) -> ks = ts.map (·.1) -> (∀ t ∈ ts, SqT1 K F t.2.1 (t.1.map nkV)) -> Reps K cl F (ts.map (·.2.2)) ds -> Rep K cl F (.ref a) (.dT ep ks ds)
  | obj {a dx : Addr} {c : Nat} {ns : List Str} {vs : List V} {ds : List D} : F a = some (.ins (cl c) dx (ns.zip vs)) -> ns.length = vs.length -> Reps K cl F vs ds -> Rep K cl F (.ref a) (.obj c ns ds)
  | exc {a dd : Addr} {c : Nat} {ns : List Str} {vs : List V} {ds : List D} : F dd = some (.xd (ns.zip vs)) -> ns.length = vs.length -> Reps K cl F vs ds -> Rep K cl F (.ref a) (.exc a dd c ns ds)
  | xob {a : Addr} {c : Nat} {ns : List Str} {vs : List V} {ds : List D} : XoAt F a (cl c) (ns.zip vs) -> ns.length = vs.length -> Reps K cl F vs ds -> Rep K cl F (.ref a) (.xob c ns ds)
  | thk {f c : Addr} {q : Str} {vs : List V} {ds : List D} : F c = some (LamX.CodeO c q) -> Reps K cl F vs ds -> Rep K cl F (.ref f) (.thk f c q vs ds)
  | dN {a : Addr} {ep : Nat} {ks : List (Option Key)} {vs : List V} {ds : List D} : F a = some (ndO cl.p cl.w a ep (ks.zip vs)) -> ks.length = vs.length -> Reps K cl F vs ds -> Rep K cl F (.ref a) (.dN ep ks ds)
  | fn {f c : Addr} {j : Nat} {C : List (Str × Addr)} {L : LamSyn} {dV doc pm ctv : Value} : cl.lam j = some L -> F f = some (ObO f (lamObj L C dV doc pm (.ref c) ctv)) -> F c = some (LamX.CodeO c L.q) -> DfOk F L dV -> Rep K cl F (.ref f) (.fn j C)
  | cel {a : Addr} {o : Obj} {u : Value} {v : V} {d : D} : F a = some (ObO a o) -> o.data = .cell (some u) -> RelV v u -> Rep K cl F v d -> Rep K cl F (.ref a) (.cel o d)
inductive Reps (K : PySem.W.Frag) (cl : ClW) (F : Hp) : List V -> List D -> Prop where
  | nil : Reps K cl F [] []
  | cons {v : V} {d : D} {vs : List V} {ds : List D} : Rep K cl F v d -> Reps K cl F vs ds -> Reps K cl F (v :: vs) (d :: ds)
end
end
section
variable {K : PySem.W.Frag} {cl : ClW} {F F' : Hp}
theorem same_l {H H' : Hp} {a : Addr} {xs : List V} (e : Same H H') (h : SqL K H a xs) : SqL K H' a xs := e.seq h
theorem same_t {H H' : Hp} {a : Addr} {xs : List V} (e : Same H H') (h : SqT K H a xs) : SqT K H' a xs := by
  rcases h with (h | ⟨o, h⟩) | h
  · exact .inl (.inl (e _ _ h))
  · exact .inl (.inr ⟨o, e _ _ h⟩)
  · exact .inr h
mutual
theorem Rep.mono (s : Same F F') : ∀ {v : V} {d : D}, Rep K cl F v d -> Rep K cl F' v d
  | _, _, .non => .non
  | _, _, .bl b => .bl b
  | _, _, .int i => .int i
  | _, _, .str x => .str x
  | _, _, .byt b => .byt b
  | _, _, .ty n => .ty n
  | _, _, .ref a => .ref a
  | _, _, .cls c => .cls c
  | _, _, .lst h r => .lst (same_l s h) (Reps.mono s r)
  | _, _, .tup h r => .tup (h.mono s) (Reps.mono s r)
  | _, _, .dK h l r => .dK (s _ _ h) l (Reps.mono s r)
  | _, _, .dT h l q r => .dT (s _ _ h) l (fun t ht => (q t ht).mono s) (Reps.mono s r)
  | _, _, .obj h l r => .obj (s _ _ h) l (Reps.mono s r)
  | _, _, .exc h l r => .exc (s _ _ h) l (Reps.mono s r)
  | _, _, .xob h l r => .xob (h.mono s) l (Reps.mono s r)
  | _, _, .thk h r => .thk (s _ _ h) (Reps.mono s r)
  | _, _, .dN h l r => .dN (s _ _ h) l (Reps.mono s r)
  | _, _, .fn h1 h2 h3 h4 => .fn h1 (s _ _ h2) (s _ _ h3) (h4.mono s)
  | _, _, .cel h1 h2 h3 r => .cel (s _ _ h1) h2 h3 (Rep.mono s r)
theorem Reps.mono (s : Same F F') : ∀ {vs : List V} {ds : List D}, Reps K cl F vs ds -> Reps K cl F' vs ds
  | _, _, .nil => .nil
  | _, _, .cons h r => .cons (Rep.mono s h) (Reps.mono s r)
end
theorem Reps.length : ∀ {vs : List V} {ds : List D}, Reps K cl F vs ds -> vs.length = ds.length
  | _, _, .nil => rfl
  | _, _, .cons _ r => by simp [Reps.length r]
theorem Reps.get : ∀ {vs : List V} {ds : List D} {i : Nat} {d : D}, Reps K cl F vs ds -> ds[i]? = some d -> ∃ v, vs[i]? = some v /\ Rep K cl F v d
  | _, _, _, _, .nil, e => by simp at e
  | _, _, 0, _, .cons r _, e => by simp at e; subst e; exact ⟨_, rfl, r⟩
  | _, _, i + 1, d, .cons _ t, e => by
    obtain ⟨u, h1, h2⟩ := Reps.get (i := i) (d := d) t (by simpa using e)
    exact ⟨u, by simpa using h1, h2⟩
theorem Reps.append : ∀ {vs ws : List V} {ds es : List D}, Reps K cl F vs ds -> Reps K cl F ws es -> Reps K cl F (vs ++ ws) (ds ++ es)
  | _, _, _, _, .nil, s => s
  | _, _, _, _, .cons r t, s => .cons r (Reps.append t s)
theorem Reps.one {v : V} {d : D} (h : Rep K cl F v d) : Reps K cl F [v] [d] := .cons h .nil
theorem Reps.set {v : V} {d : D} (r : Rep K cl F v d) : ∀ {vs : List V} {ds : List D} (i : Nat), Reps K cl F vs ds -> Reps K cl F (vs.set i v) (ds.set i d)
  | _, _, _, .nil => .nil
  | _, _, 0, .cons _ t => .cons r t
  | _, _, i + 1, .cons q t => .cons q (Reps.set r i t)
theorem Reps.take : ∀ {vs : List V} {ds : List D} (n : Nat), Reps K cl F vs ds -> Reps K cl F (vs.take n) (ds.take n)
  | _, _, 0, _ => .nil
  | _, _, _ + 1, .nil => .nil
  | _, _, n + 1, .cons r t => .cons r (Reps.take n t)
theorem Reps.drop : ∀ {vs : List V} {ds : List D} (n : Nat), Reps K cl F vs ds -> Reps K cl F (vs.drop n) (ds.drop n)
  | _, _, 0, r => r
  | _, _, _ + 1, .nil => .nil
  | _, _, n + 1, .cons _ t => Reps.drop n t
theorem Reps.reverse : ∀ {vs : List V} {ds : List D}, Reps K cl F vs ds -> Reps K cl F vs.reverse ds.reverse
  | _, _, .nil => .nil
  | _, _, .cons r t => by
    rw [List.reverse_cons, List.reverse_cons]
    exact (Reps.reverse t).append (.one r)
theorem Reps.inv {vs : List V} {d : D} {ds : List D} (h : Reps K cl F vs (d :: ds)) : ∃ v ws, vs = v :: ws /\ Rep K cl F v d /\ Reps K cl F ws ds := by
  cases h with
  | cons a b => exact ⟨_, _, rfl, a, b⟩
theorem Reps.inv0 {vs : List V} (h : Reps K cl F vs []) : vs = [] := by
  cases h with
  | nil => rfl
theorem Rep.toInt {v : V} {i : Int} (h : Rep K cl F v (.int i)) : v = .int i := by cases h; rfl
theorem Rep.toBl {v : V} {i : Bool} (h : Rep K cl F v (.bl i)) : v = .bl i := by cases h; rfl
theorem Rep.toStr {v : V} {i : Str} (h : Rep K cl F v (.str i)) : v = .str i := by cases h; rfl
theorem Rep.toByt {v : V} {i : Array UInt8} (h : Rep K cl F v (.byt i)) : v = .byt i := by cases h; rfl
theorem Rep.toNon {v : V} (h : Rep K cl F v .non) : v = .non := by cases h; rfl
theorem Rep.toRef {v : V} {a : Addr} (h : Rep K cl F v (.ref a)) : v = .ref a := by cases h; rfl
theorem Rep.toTy {v : V} {n : String} (h : Rep K cl F v (.ty n)) : v = .ty n := by cases h; rfl
theorem Rep.toLst {v : V} {ds : List D} (h : Rep K cl F v (.lst ds)) : ∃ a vs, v = .ref a /\ SqL K F a vs /\ Reps K cl F vs ds := by
  cases h with | lst a b => exact ⟨_, _, rfl, a, b⟩
theorem Rep.toTup {v : V} {ds : List D} (h : Rep K cl F v (.tup ds)) : ∃ a vs, v = .ref a /\ SqT K F a vs /\ Reps K cl F vs ds := by
  cases h with | tup a b => exact ⟨_, _, rfl, a.sq, b⟩
theorem Rep.toTup1 {v : V} {ds : List D} (h : Rep K cl F v (.tup ds)) : ∃ a vs, v = .ref a /\ SqT1 K F a vs /\ Reps K cl F vs ds := by
  cases h with | tup a b => exact ⟨_, _, rfl, a, b⟩
theorem Reps.ints : ∀ {vs : List V} {ns : List Int}, Reps K cl F vs (ns.map D.int) -> vs = ns.map V.int
  | _, [], h => h.inv0
  | _, n :: ns, h => by
    obtain ⟨v, ws, rfl, a, b⟩ := h.inv
    rw [a.toInt, Reps.ints b]; rfl
theorem Reps.of_ints (ns : List Int) : Reps K cl F (ns.map V.int) (ns.map D.int) := by
  induction ns with
  | nil => exact .nil
  | cons n ns ih => exact .cons (.int n) ih
end
section
variable (K : PySem.W.Frag) (cl : ClW)
def RepTop (F H : Hp) (a : Addr) : D -> Prop
  | .lst ds => ∃ vs, H a = some (.lst vs) /\ Reps K cl F vs ds
  | .dK ks ds => ∃ vs, H a = some (.dK (ks.zip vs)) /\ ks.length = vs.length /\ Reps K cl F vs ds
  | .dT ep ks ds => ∃ ts, H a = some (tdO cl.p cl.w a ep ts) /\ ks = ts.map (·.1) /\ (∀ t ∈ ts, SqT1 K F t.2.1 (t.1.map nkV)) /\ Reps K cl F (ts.map (·.2.2)) ds
  | .obj c ns ds => ∃ dx vs, H a = some (.ins (cl c) dx (ns.zip vs)) /\ ns.length = vs.length /\ Reps K cl F vs ds
  | .dN ep ks ds => ∃ vs, H a = some (ndO cl.p cl.w a ep (ks.zip vs)) /\ ks.length = vs.length /\ Reps K cl F vs ds
  | .cel o d => ∃ v u, H a = some (ObO a o) /\ o.data = .cell (some u) /\ RelV v u /\ Rep K cl F v d
  | _ => False
def tabNames : List Str := ["walk_spans.<locals>.<lambda>", "SpanTable.__init__.<locals>.<lambda>", "PairTable.put_rows.<locals>.<lambda>", "KeyTable.put_rows.<locals>.<lambda>", "law.<locals>.<lambda>", "_law_right.<locals>.<lambda>", "_law_asks.<locals>.<lambda>",
  "_law_wrong.<locals>.<lambda>", "_law_refused.<locals>.<lambda>", "_law_odd.<locals>.<lambda>", "KeyTable.__init__.<locals>.<lambda>", "PairTable.__init__.<locals>.<lambda>", "_law_fit.<locals>.<lambda>", "_law_state_right.<locals>.<lambda>", "_law_steps_right.<locals>.<lambda>", "_law_sizes_right.<locals>.<lambda>"]
def tabsOf (cl : Nat -> Addr) : List (Addr × Str) := tabNames.zipIdx.filterMap fun p => if cl (1000 + p.2) = 0 then none else some (cl (1000 + p.2), p.1)
structure Good (F H : Hp) (M : Mem) : Prop where
  sub : Same F H
  cell : ∀ a d, M a = some d -> F a = none /\ RepTop K cl F H a d
  tab : LamX.Tabs (tabsOf cl) H
  noT : ∀ b ps, F b ≠ some (.tbl ps)
structure Slots (F : Hp) (σ : St) (ρ : Env) : Prop where
  len : σ.length = ρ.length
  get : ∀ (i : Nat) d, ρ[i]? = some (some d) -> ∃ v, σ[i]? = some (some v) /\ Rep K cl F v d
def ExcAt (F : Hp) (dd : Option Addr) (ns : List Str) (ds : List D) : Prop :=
  (dd = none /\ ns = [] /\ ds = []) \/ ∃ d vs, dd = some d /\ F d = some (.xd (ns.zip vs)) /\ ns.length = vs.length /\ Reps K cl F vs ds
end
section
variable {K : PySem.W.Frag} {cl : ClW} {F F' H H' : Hp} {M : Mem}
theorem same_new {H : Hp} {p : Addr} {o : HO} (h : H p = none) : Same H (upd H p o) := fun a u e => by
  rw [upd_ne (ne_of_none e h)]; exact e
theorem RepTop.mono {a : Addr} {d : D} (s : Same F F') (h : RepTop K cl F H a d) (hH : ∀ o, H a = some o -> H' a = some o) : RepTop K cl F' H' a d := by
  cases d with
  | lst ds => obtain ⟨vs, h1, h2⟩ := h; exact ⟨vs, hH _ h1, h2.mono s⟩
  | dK ks ds => obtain ⟨vs, h1, h2, h3⟩ := h; exact ⟨vs, hH _ h1, h2, h3.mono s⟩
  | dT ep ks ds => obtain ⟨ts, h1, h2, h3, h4⟩ := h; exact ⟨ts, hH _ h1, h2, fun t ht => (h3 t ht).mono s, h4.mono s⟩
  | dN ep ks ds => obtain ⟨vs, h1, h2, h3⟩ := h; exact ⟨vs, hH _ h1, h2, h3.mono s⟩
  | obj c ns ds => obtain ⟨dx, vs, h1, h2, h3⟩ := h; exact ⟨dx, vs, hH _ h1, h2, h3.mono s⟩
  | cel o d => obtain ⟨v, u, h1, h2, h3, h4⟩ := h; exact ⟨v, u, hH _ h1, h2, h3, h4.mono s⟩
  | _ => exact h.elim
theorem RepTop.there {a : Addr} {d : D} (h : RepTop K cl F H a d) : ∃ o, H a = some o := by
  cases d with
  | lst ds => obtain ⟨vs, h1, _⟩ := h; exact ⟨_, h1⟩
  | dK ks ds => obtain ⟨vs, h1, _⟩ := h; exact ⟨_, h1⟩
  | dT ep ks ds => obtain ⟨ts, h1, _⟩ := h; exact ⟨_, h1⟩
  | dN ep ks ds => obtain ⟨vs, h1, _⟩ := h; exact ⟨_, h1⟩
  | obj c ns ds => obtain ⟨dx, vs, h1, _⟩ := h; exact ⟨_, h1⟩
  | cel o d => obtain ⟨v, u, h1, _⟩ := h; exact ⟨_, h1⟩
  | _ => exact h.elim
theorem RepTop.plain {a : Addr} {d : D} (h : RepTop K cl F H a d) : ∃ o, H a = some o /\ (∀ ps, o ≠ .tbl ps) /\ ∀ c q, o ≠ LamX.CodeO c q := by
  cases d with
  | lst ds => obtain ⟨vs, h1, _⟩ := h; exact ⟨_, h1, (fun _ e => by cases e), fun _ _ e => by unfold LamX.CodeO at e; cases e⟩
  | dK ks ds => obtain ⟨vs, h1, _⟩ := h; exact ⟨_, h1, (fun _ e => by cases e), fun _ _ e => by unfold LamX.CodeO at e; cases e⟩
  | dT ep ks ds => obtain ⟨ts, h1, _⟩ := h; exact ⟨_, h1, (fun _ e => by cases e), fun _ _ e => td_ne_code e⟩
  | dN ep ks ds => obtain ⟨vs, h1, _⟩ := h; exact ⟨_, h1, (fun _ e => by cases e), fun _ _ e => nd_ne_code e⟩
  | obj c ns ds => obtain ⟨dx, vs, h1, _⟩ := h; exact ⟨_, h1, (fun _ e => by cases e), fun _ _ e => by unfold LamX.CodeO at e; cases e⟩
  | cel o d => obtain ⟨v, u, h1, h2, _⟩ := h; exact ⟨_, h1, (fun _ e => by cases e), fun _ _ e => ob_ne_code (fun vs z => by rw [h2] at z; cases z) e⟩
  | _ => exact h.elim
theorem tabs_put {T : List (Addr × Str)} {p : Addr} {o' : HO} (t : LamX.Tabs T H) {o : HO} (hp : H p = some o) (h1 : ∀ ps, o ≠ .tbl ps) (h2 : ∀ c q, o ≠ LamX.CodeO c q) : LamX.Tabs T (upd H p o') := fun q hq => by
  obtain ⟨ps, a1, a2, a3⟩ := t q hq
  have n1 : q.1 ≠ p := fun z => by rw [z, hp] at a1; exact h1 ps (Option.some.inj a1)
  refine ⟨ps, by rw [upd_ne n1]; exact a1, a2, fun pos cv hcv => ?_⟩
  obtain ⟨c, e1, e2⟩ := a3 pos cv hcv
  have n2 : c ≠ p := fun z => by rw [z, hp] at e2; exact h2 _ _ (Option.some.inj e2)
  exact ⟨c, e1, by rw [upd_ne n2]; exact e2⟩
theorem Good.freshF (g : Good K cl F H M) {p : Addr} (h : H p = none) : F p = none := g.sub.free h
theorem Good.freshM (g : Good K cl F H M) {p : Addr} (h : H p = none) : M p = none := by
  cases e : M p with
  | none => rfl
  | some d => obtain ⟨o, q⟩ := (g.cell p d e).2.there; rw [h] at q; cases q
theorem Good.new (g : Good K cl F H M) {p : Addr} {o : HO} (h : H p = none) (ho : ∀ ps, o ≠ .tbl ps := by intro _ z; cases z) : Good K cl (upd F p o) (upd H p o) M where
  tab := g.tab.ext (same_new h)
  noT := fun b ps e => by
    by_cases q : b = p
    · subst q; rw [upd_same] at e; exact ho ps (Option.some.inj e)
    · rw [upd_ne q] at e; exact g.noT b ps e
  sub := fun a u e => by
    by_cases q : a = p
    · subst q; rw [upd_same] at e ⊢; exact e
    · rw [upd_ne q] at e ⊢; exact g.sub a u e
  cell := fun a d e => by
    obtain ⟨h1, h2⟩ := g.cell a d e
    have ne : a ≠ p := fun z => by rw [z, g.freshM h] at e; cases e
    refine ⟨by rw [upd_ne ne]; exact h1, h2.mono (same_new (g.freshF h)) fun u q => by rw [upd_ne ne]; exact q⟩
theorem Good.newM (g : Good K cl F H M) {p : Addr} {o : HO} {d : D} (h : H p = none) (r : RepTop K cl F (upd H p o) p d) : Good K cl F (upd H p o) (updM M p d) where
  tab := g.tab.ext (same_new h)
  noT := g.noT
  sub := fun a u e => (same_new h) a u (g.sub a u e)
  cell := fun a e q => by
    by_cases z : a = p
    · subst z; rw [updM_same] at q; cases q; exact ⟨g.freshF h, r⟩
    · rw [updM_ne z] at q
      obtain ⟨h1, h2⟩ := g.cell a e q
      exact ⟨h1, h2.mono (Same.refl F) (same_new h a)⟩
theorem Good.put (g : Good K cl F H M) {p : Addr} {o : HO} {d e : D} (h : M p = some e) (r : RepTop K cl F (upd H p o) p d) : Good K cl F (upd H p o) (updM M p d) where
  tab := by
    obtain ⟨o', h1, h2, h3⟩ := (g.cell p e h).2.plain
    exact tabs_put g.tab h1 h2 h3
  noT := g.noT
  sub := fun a u q => by
    have ne : a ≠ p := fun z => by rw [z, (g.cell p e h).1] at q; cases q
    rw [upd_ne ne]; exact g.sub a u q
  cell := fun a b q => by
    by_cases z : a = p
    · subst z; rw [updM_same] at q; cases q; exact ⟨(g.cell _ _ h).1, r⟩
    · rw [updM_ne z] at q
      obtain ⟨h1, h2⟩ := g.cell a b q
      exact ⟨h1, h2.mono (Same.refl F) fun u w => by rw [upd_ne z]; exact w⟩
theorem Good.freeze (g : Good K cl F H M) {p : Addr} {d : D} (h : M p = some d) : ∃ F', Same F F' /\ Good K cl F' H (delM M p) /\ Rep K cl F' (.ref p) d := by
  obtain ⟨h1, h2⟩ := g.cell p d h
  obtain ⟨o, ho⟩ := h2.there
  have sm : Same F (upd F p o) := same_new h1
  have gd : Good K cl (upd F p o) H (delM M p) := {
    tab := g.tab
    noT := fun b ps e => by
      by_cases q : b = p
      · subst q
        rw [upd_same] at e
        obtain ⟨o', k1, k2, _⟩ := h2.plain
        rw [ho] at k1
        exact k2 ps (by rw [<- Option.some.inj k1]; exact Option.some.inj e)
      · rw [upd_ne q] at e; exact g.noT b ps e
    sub := fun a u e => by
      by_cases q : a = p
      · subst q; rw [upd_same] at e; rw [<- e]; exact ho
      · rw [upd_ne q] at e; exact g.sub a u e
    cell := fun a b q => by
      by_cases z : a = p
      · subst z; rw [delM_same] at q; cases q
      · rw [delM_ne z] at q
        obtain ⟨k1, k2⟩ := g.cell a b q
        exact ⟨by rw [upd_ne z]; exact k1, k2.mono sm fun u w => w⟩ }
  refine ⟨upd F p o, sm, gd, ?_⟩
  cases d with
  | lst ds => obtain ⟨vs, h1, h2⟩ := h2; rw [h1] at ho; cases ho; exact .lst (SqL.of upd_same) (h2.mono sm)
  | dK ks ds => obtain ⟨vs, h1, h2, h3⟩ := h2; rw [h1] at ho; cases ho; exact .dK upd_same h2 (h3.mono sm)
  | dT ep ks ds => obtain ⟨ts, h1, h2, h3, h4⟩ := h2; rw [h1] at ho; cases ho; exact .dT upd_same h2 (fun t ht => (h3 t ht).mono sm) (h4.mono sm)
  | dN ep ks ds => obtain ⟨vs, h1, h2, h3⟩ := h2; rw [h1] at ho; cases ho; exact .dN upd_same h2 (h3.mono sm)
  | obj c ns ds => obtain ⟨dx, vs, h1, h2, h3⟩ := h2; rw [h1] at ho; cases ho; exact .obj upd_same h2 (h3.mono sm)
  | cel o d => obtain ⟨v, u, h1, h2, h3, h4⟩ := h2; rw [h1] at ho; cases ho; exact .cel upd_same h2 h3 (h4.mono sm)
  | _ => exact h2.elim
theorem Slots.mono {σ : St} {ρ : Env} (s : Same F F') (h : Slots K cl F σ ρ) : Slots K cl F' σ ρ := ⟨h.len, fun i d e => by
  obtain ⟨v, h1, h2⟩ := h.get i d e
  exact ⟨v, h1, h2.mono s⟩⟩
theorem Slots.set {σ : St} {ρ : Env} {v : V} {d : D} (h : Slots K cl F σ ρ) (i : Nat) (r : Rep K cl F v d) : Slots K cl F (σ.set i (some v)) (ρ.set i (some d)) := ⟨by rw [List.length_set, List.length_set]; exact h.len, fun j e q => by
  by_cases z : i = j
  · subst z
    rw [List.getElem?_set_self'] at q ⊢
    cases w : ρ[i]? with
    | none => rw [w] at q; cases q
    | some x =>
      rw [w] at q
      have hi : i < σ.length := by rw [h.len]; exact (List.getElem?_eq_some_iff.mp w).1
      have e1 : some d = some e := Option.some.inj q
      cases e1
      rw [List.getElem?_eq_getElem hi]
      exact ⟨v, rfl, r⟩
  · rw [List.getElem?_set_ne z] at q ⊢
    exact h.get j e q⟩
theorem Slots.setN {σ : St} {ρ : Env} {v : Option V} (h : Slots K cl F σ ρ) (i : Nat) : Slots K cl F (σ.set i v) (ρ.set i none) := ⟨by rw [List.length_set, List.length_set]; exact h.len, fun j e q => by
  by_cases z : i = j
  · subst z
    rw [List.getElem?_set_self'] at q
    cases w : ρ[i]? with
    | none => rw [w] at q; cases q
    | some x => rw [w] at q; cases q
  · rw [List.getElem?_set_ne z] at q ⊢
    exact h.get j e q⟩
end
abbrev DV := D -> Mem -> Prop
abbrev DX := Nat -> List Str -> List D -> Env -> Mem -> Prop
abbrev DTE := Env -> Mem -> DV -> DX -> Prop
abbrev DTT := Env -> Mem -> (Bool -> Mem -> Prop) -> DX -> Prop
abbrev DTA := Env -> Mem -> (List D -> Mem -> Prop) -> DX -> Prop
structure DEnds where
  nx : Env -> Mem -> Prop
  rt : DV
  bk : Env -> Mem -> Prop
  ct : Env -> Mem -> Prop
  ex : DX
abbrev DTS := DEnds -> Env -> Mem -> Prop
abbrev DEK := Nat -> List Str -> List D -> Mem -> Prop
abbrev SpD := List D -> Mem -> DV -> DEK -> Prop
section
variable (K : PySem.W.Frag) (cl : ClW)
def Post (F : Hp) (Q : VK) (Qd : DV) : Prop := ∀ v H' F' d M', Same F F' -> Good K cl F' H' M' -> Rep K cl F' v d -> Qd d M' -> Q v H'
def PostT (F : Hp) (Q : Bool -> Hp -> Prop) (Qd : Bool -> Mem -> Prop) : Prop := ∀ b H' F' M', Same F F' -> Good K cl F' H' M' -> Qd b M' -> Q b H'
def PostA (F : Hp) (Q : List V -> Hp -> Prop) (Qd : List D -> Mem -> Prop) : Prop := ∀ vs H' F' ds M', Same F F' -> Good K cl F' H' M' -> Reps K cl F' vs ds -> Qd ds M' -> Q vs H'
def PostS (F : Hp) (Q : St -> Hp -> Prop) (Qd : Env -> Mem -> Prop) : Prop := ∀ σ H' F' ρ M', Same F F' -> Good K cl F' H' M' -> Slots K cl F' σ ρ -> Qd ρ M' -> Q σ H'
def WOk (W : WX) (F : Hp) (Xd : DX) : Prop := ∀ c ns ds σ H' F' ρ M' dd, Same F F' -> Good K cl F' H' M' -> Slots K cl F' σ ρ -> ExcAt K cl F' dd ns ds -> Xd c ns ds ρ M' -> W (.ref (cl c)) dd σ H'
def EOk (F : Hp) (E : XK) (Ed : DEK) : Prop := ∀ c ns ds H' F' M' dd, Same F F' -> Good K cl F' H' M' -> ExcAt K cl F' dd ns ds -> Ed c ns ds M' -> E (.ref (cl c)) dd H'
structure EndsOk (W : WX) (F : Hp) (D : Ends) (Dd : DEnds) : Prop where
  nx : PostS K cl F D.nx Dd.nx
  rt : Post K cl F D.rt Dd.rt
  bk : PostS K cl F D.bk Dd.bk
  ct : PostS K cl F D.ct Dd.ct
  ex : WOk K cl W F Dd.ex
def lowE (W : WX) (τ : DTE) : TE := fun σ H Q => ∃ F ρ M Qd Xd, Good K cl F H M /\ Slots K cl F σ ρ /\ τ ρ M Qd Xd /\ Post K cl F Q Qd /\ WOk K cl W F Xd
def lowT (W : WX) (τ : DTT) : TT := fun σ H Q => ∃ F ρ M Qd Xd, Good K cl F H M /\ Slots K cl F σ ρ /\ τ ρ M Qd Xd /\ PostT K cl F Q Qd /\ WOk K cl W F Xd
def lowA (W : WX) (τ : DTA) : TA := fun σ H Q => ∃ F ρ M Qd Xd, Good K cl F H M /\ Slots K cl F σ ρ /\ τ ρ M Qd Xd /\ PostA K cl F Q Qd /\ WOk K cl W F Xd
def lowS (W : WX) (τ : DTS) : TS := fun D σ H => ∃ F ρ M Dd, Good K cl F H M /\ Slots K cl F σ ρ /\ τ Dd ρ M /\ EndsOk K cl W F D Dd
def lower (spd : SpD) : Sp := fun vs H Q E => ∃ F M ds Qd Ed, Good K cl F H M /\ Reps K cl F vs ds /\ spd ds M Qd Ed /\ Post K cl F Q Qd /\ EOk K cl F E Ed
end
section
variable {K : PySem.W.Frag} {cl : ClW} {F F' : Hp}
theorem Post.mono {Q : VK} {Qd : DV} (s : Same F F') (h : Post K cl F Q Qd) : Post K cl F' Q Qd := fun v H' G d M' s' => h v H' G d M' (s.trans s')
theorem PostT.mono {Q : Bool -> Hp -> Prop} {Qd : Bool -> Mem -> Prop} (s : Same F F') (h : PostT K cl F Q Qd) : PostT K cl F' Q Qd := fun v H' G M' s' => h v H' G M' (s.trans s')
theorem PostS.mono {Q : St -> Hp -> Prop} {Qd : Env -> Mem -> Prop} (s : Same F F') (h : PostS K cl F Q Qd) : PostS K cl F' Q Qd := fun v H' G d M' s' => h v H' G d M' (s.trans s')
theorem WOk.mono {W : WX} {Xd : DX} (s : Same F F') (h : WOk K cl W F Xd) : WOk K cl W F' Xd := fun c ns ds σ H' G ρ M' dd s' => h c ns ds σ H' G ρ M' dd (s.trans s')
theorem EndsOk.mono {W : WX} {D : Ends} {Dd : DEnds} (s : Same F F') (h : EndsOk K cl W F D Dd) : EndsOk K cl W F' D Dd := ⟨h.nx.mono s, h.rt.mono s, h.bk.mono s, h.ct.mono s, h.ex.mono s⟩
end
structure DE (cl : ClW) (X : Cx) (W : WX) (e : Expr) (τ : DTE) : Prop where
  pe : PE X e (lowE X.K cl W τ)
structure DT (cl : ClW) (X : Cx) (W : WX) (e : Expr) (τ : DTT) : Prop where
  pt : PT X e (lowT X.K cl W τ)
structure DW (cl : ClW) (X : Cx) (W : WX) (e : Expr) (τ : DTT) : Prop where
  pw : PW X e (lowT X.K cl W τ)
structure DA (cl : ClW) (X : Cx) (W : WX) (es : List Expr) (τ : DTA) : Prop where
  pa : PA X es (lowA X.K cl W τ)
structure DS (cl : ClW) (X : Cx) (W : WX) (st : Stmt) (τ : DTS) : Prop where
  ps : PS X st (lowS X.K cl W τ)
structure DSs (cl : ClW) (X : Cx) (W : WX) (st : List Stmt) (τ : DTS) : Prop where
  pss : PSs X st (lowS X.K cl W τ)
section
variable {cl : ClW} {X : Cx} {W : WX}
theorem pe_imp {e : Expr} {t t' : TE} (h : PE X e t) (i : ∀ σ H Q, t' σ H Q -> t σ H Q) : PE X e t' := ⟨fun pins s σ H Q I q => h.run pins s σ H Q I (i σ H Q q)⟩
theorem pt_imp {e : Expr} {t t' : TT} (h : PT X e t) (i : ∀ σ H Q, t' σ H Q -> t σ H Q) : PT X e t' := ⟨fun pins s σ H Q I q => h.run pins s σ H Q I (i σ H Q q)⟩
theorem pw_imp {e : Expr} {t t' : TT} (h : PW X e t) (i : ∀ σ H Q, t' σ H Q -> t σ H Q) : PW X e t' := ⟨fun wh pins s σ H Q I q => h.run wh pins s σ H Q I (i σ H Q q)⟩
theorem pa_imp {es : List Expr} {t t' : TA} (h : PA X es t) (i : ∀ σ H Q, t' σ H Q -> t σ H Q) : PA X es t' := ⟨fun pos pins s σ H Q I q => h.run pos pins s σ H Q I (i σ H Q q)⟩
theorem ps_imp {st : Stmt} {t t' : TS} (h : PS X st t) (i : ∀ D σ H, t' D σ H -> t D σ H) : PS X st t' := ⟨fun pins s σ H D I q => h.run pins s σ H D I (i D σ H q)⟩
theorem pss_imp {st : List Stmt} {t t' : TS} (h : PSs X st t) (i : ∀ D σ H, t' D σ H -> t D σ H) : PSs X st t' := ⟨fun pins s σ H D I q => h.run pins s σ H D I (i D σ H q)⟩
end
end DL
set_option Elab.async false
set_option linter.all false
set_option maxRecDepth 100000
set_option maxHeartbeats 2000000
namespace DL
open PySem L2
def vw (M : Mem) : D -> D
  | .ref a => (M a).getD (.ref a)
  | d => d
def Vw (K : PySem.W.Frag) (cl : ClW) (F H : Hp) (v : V) (d : D) : Prop := Rep K cl F v d \/ ∃ a, v = .ref a /\ RepTop K cl F H a d
section
variable {K : PySem.W.Frag} {cl : ClW} {F F' H H' : Hp} {M : Mem} {v : V} {d : D}
theorem vw_ok (g : Good K cl F H M) (r : Rep K cl F v d) : Vw K cl F H v (vw M d) := by
  cases d with
  | ref a =>
    obtain rfl := r.toRef
    show Vw K cl F H (.ref a) ((M a).getD (.ref a))
    cases e : M a with
    | none => exact .inl (.ref a)
    | some c => exact .inr ⟨a, rfl, (g.cell a c e).2⟩
  | _ => exact .inl r
theorem Vw.int {i : Int} (h : Vw K cl F H v (.int i)) : v = .int i := by
  rcases h with h | ⟨a, _, h⟩
  · exact h.toInt
  · exact h.elim
theorem Vw.bl {i : Bool} (h : Vw K cl F H v (.bl i)) : v = .bl i := by
  rcases h with h | ⟨a, _, h⟩
  · exact h.toBl
  · exact h.elim
theorem Vw.str {i : Str} (h : Vw K cl F H v (.str i)) : v = .str i := by
  rcases h with h | ⟨a, _, h⟩
  · exact h.toStr
  · exact h.elim
theorem Vw.byt {i : Array UInt8} (h : Vw K cl F H v (.byt i)) : v = .byt i := by
  rcases h with h | ⟨a, _, h⟩
  · exact h.toByt
  · exact h.elim
theorem Vw.non (h : Vw K cl F H v .non) : v = .non := by
  rcases h with h | ⟨a, _, h⟩
  · exact h.toNon
  · exact h.elim
theorem Vw.lst {ds : List D} (g : Same F H) (h : Vw K cl F H v (.lst ds)) : ∃ a vs, v = .ref a /\ SqL K H a vs /\ Reps K cl F vs ds := by
  rcases h with h | ⟨a, rfl, vs, h1, h2⟩
  · obtain ⟨a, vs, rfl, h1, h2⟩ := h.toLst
    exact ⟨a, vs, rfl, same_l g h1, h2⟩
  · exact ⟨a, vs, rfl, SqL.of h1, h2⟩
theorem Vw.tup {ds : List D} (g : Same F H) (h : Vw K cl F H v (.tup ds)) : ∃ a vs, v = .ref a /\ SqT K H a vs /\ Reps K cl F vs ds := by
  rcases h with h | ⟨a, rfl, h1⟩
  · obtain ⟨a, vs, rfl, h1, h2⟩ := h.toTup
    exact ⟨a, vs, rfl, same_t g h1, h2⟩
  · exact h1.elim
theorem Post.val {Q : VK} {Qd : DV} (p : Post K cl F Q Qd) (g : Good K cl F H M) (r : Rep K cl F v d) (q : Qd d M) : Q v H := p v H F d M (Same.refl F) g r q
theorem Post.newL {Q : VK} {Qd : DV} {vs : List V} {ds : List D} (p : Post K cl F Q Qd) (g : Good K cl F H M) (r : Reps K cl F vs ds) (q : Qd (.lst ds) M) {a : Addr} (h : H a = none) : Q (.ref a) (upd H a (.lst vs)) :=
  p _ _ (upd F a (.lst vs)) (.lst ds) M (same_new (g.freshF h)) (g.new h) (.lst (SqL.of upd_same) (r.mono (same_new (g.freshF h)))) q
theorem Post.newT {Q : VK} {Qd : DV} {vs : List V} {ds : List D} (p : Post K cl F Q Qd) (g : Good K cl F H M) (r : Reps K cl F vs ds) (q : Qd (.tup ds) M) {a : Addr} (h : H a = none) : Q (.ref a) (upd H a (.tup vs)) :=
  p _ _ (upd F a (.tup vs)) (.tup ds) M (same_new (g.freshF h)) (g.new h) (.tup (SqT1.of upd_same) (r.mono (same_new (g.freshF h)))) q
end
def LOp (K : PySem.W.Frag) (cl : ClW) (r : R2) (f : D -> D -> Option D) : Prop :=
  ∀ F H M x y d e z Q Qd, Good K cl F H M -> Vw K cl F H x d -> Vw K cl F H y e -> f d e = some z -> Post K cl F Q Qd -> Qd z M -> r x y H Q
def LUn (K : PySem.W.Frag) (cl : ClW) (r : V -> Hp -> VK -> Prop) (f : D -> Option D) : Prop :=
  ∀ F H M x d z Q Qd, Good K cl F H M -> Vw K cl F H x d -> f d = some z -> Post K cl F Q Qd -> Qd z M -> r x H Q
def LCall (K : PySem.W.Frag) (cl : ClW) (r : List V -> Hp -> VK -> Prop) (f : List D -> Option D) : Prop :=
  ∀ F H M xs ds z Q Qd, Good K cl F H M -> Reps K cl F xs ds -> f (ds.map (vw M)) = some z -> Post K cl F Q Qd -> Qd z M -> r xs H Q
@[simp] def dVar (i : Nat) : DTE := fun ρ M Q _ => ∃ d, ρ[i]? = some (some d) /\ Q d M
@[simp] def dC (d : D) : DTE := fun _ M Q _ => Q d M
@[simp] def dOp (f : D -> D -> Option D) (τa τb : DTE) : DTE := fun ρ M Q X => τa ρ M (fun d M1 => τb ρ M1 (fun e M2 => ∃ z, f (vw M2 d) (vw M2 e) = some z /\ Q z M2) X) X
@[simp] def dUn (f : D -> Option D) (τa : DTE) : DTE := fun ρ M Q X => τa ρ M (fun d M1 => ∃ z, f (vw M1 d) = some z /\ Q z M1) X
@[simp] def dTest (τ : DTE) : DTT := fun ρ M Q X => τ ρ M (fun d M1 => ∃ b, d = .bl b /\ Q b M1) X
@[simp] def dAnd (τ υ : DTT) : DTT := fun ρ M Q X => τ ρ M (fun c M1 => if c = true then υ ρ M1 Q X else Q false M1) X
@[simp] def dOr (τ υ : DTT) : DTT := fun ρ M Q X => τ ρ M (fun c M1 => if c = true then Q true M1 else υ ρ M1 Q X) X
@[simp] def dNot (τ : DTT) : DTT := fun ρ M Q X => τ ρ M (fun c M1 => Q (!c) M1) X
@[simp] def dIfE (τ : DTT) (τa τb : DTE) : DTE := fun ρ M Q X => τ ρ M (fun c M1 => if c = true then τa ρ M1 Q X else τb ρ M1 Q X) X
@[simp] def dNil : DTA := fun _ M Q _ => Q [] M
@[simp] def dCons (τ : DTE) (τr : DTA) : DTA := fun ρ M Q X => τ ρ M (fun d M1 => τr ρ M1 (fun ds M2 => Q (d :: ds) M2) X) X
@[simp] def dTup (τ : DTA) : DTE := fun ρ M Q X => τ ρ M (fun ds M1 => ds.length <= sizeLine /\ Q (.tup ds) M1) X
@[simp] def dLst (τ : DTA) : DTE := fun ρ M Q X => τ ρ M (fun ds M1 => ds.length <= sizeLine /\ Q (.lst ds) M1) X
def dLstM (τ : DTA) : DTE := fun ρ M Q X => τ ρ M (fun ds M1 => ds.length <= sizeLine /\ ∀ a, M1 a = none -> Q (.ref a) (updM M1 a (.lst ds))) X
@[simp] def frz (d : D) (M : Mem) (Q : DV) : Prop := match d with
  | .ref a => (match M a with
    | some c => Q c (delM M a)
    | none => Q d M)
  | d => Q d M
@[simp] def dFrz (τ : DTE) : DTE := fun ρ M Q X => τ ρ M (fun d M1 => frz d M1 Q) X
@[simp] def dCB (f : List D -> Option D) (τ : DTA) : DTE := fun ρ M Q X => τ ρ M (fun ds M1 => ∃ z, f (ds.map (vw M1)) = some z /\ Q z M1) X
@[simp] def dSl (f : D -> Option Int -> Option Int -> Option D) (τ : DTE) (lo hi : Env -> Mem -> (Option Int -> Mem -> Prop) -> DX -> Prop) : DTE := fun ρ M Q X => τ ρ M (fun d M1 => lo ρ M1 (fun l M2 => hi ρ M2 (fun h M3 => ∃ z, f (vw M3 d) l h = some z /\ Q z M3) X) X) X
abbrev DTO := Env -> Mem -> (Option Int -> Mem -> Prop) -> DX -> Prop
@[simp] def dNoPart : DTO := fun _ M Q _ => Q none M
@[simp] def dPart (τ : DTE) : DTO := fun ρ M Q X => τ ρ M (fun d M1 => ∃ i, d = .int i /\ Q (some i) M1) X
section
variable {cl : ClW} {X : Cx} {W : WX} {a b e c : Expr} {es rest : List Expr} {pos : Pos} {τ τa τb τc : DTE} {υ υ' : DTT} {α : DTA}
theorem d_var {x : Str} (i : Nat) (hN : X.N[i]? = some x := by rfl) (hv : Vis X.env.scope x := by first | exact Or.inl rfl | exact Or.inr (Or.inl rfl) | exact Or.inr (Or.inr rfl)) (hd : (x == ("__debug__" : Str)) = false := by decide)
    (hcd : (x == ("__classdict__" : Str)) = false := by decide) : DE cl X W (.Name x pos) (dVar i) :=
  ⟨pe_imp (pe_var hN hv hd hcd) fun σ H Q ⟨F, ρ, M, Qd, Xd, g, s, ⟨d, h1, h2⟩, p, w⟩ => by
    obtain ⟨v, e1, r⟩ := s.get i d h1
    exact ⟨v, e1, p.val g r h2⟩⟩
theorem d_c {v : V} {d : D} (h : PE X e (tC v)) (r : ∀ F, Rep X.K cl F v d) : DE cl X W e (dC d) :=
  ⟨pe_imp h fun σ H Q ⟨F, ρ, M, Qd, Xd, g, s, h2, p, w⟩ => p.val g (r F) h2⟩
theorem d_int {i j} : DE cl X W (.Constant (.int i) j pos) (dC (.int i)) := d_c pe_int fun _ => .int i
theorem d_bl {i j} : DE cl X W (.Constant (.bool i) j pos) (dC (.bl i)) := d_c pe_bl fun _ => .bl i
theorem d_str {i j} : DE cl X W (.Constant (.str i) j pos) (dC (.str i)) := d_c pe_str fun _ => .str i
theorem d_non {j} : DE cl X W (.Constant .none j pos) (dC .non) := d_c pe_non fun _ => .non
theorem d_op {op : Operator} {r : R2} {f : D -> D -> Option D} (ho : OpR X (binaryOp op) r) (hf : LOp X.K cl r f) (ha : DE cl X W a τa) (hb : DE cl X W b τb) : DE cl X W (.BinOp a op b pos) (dOp f τa τb) :=
  ⟨pe_imp (pe_op ho ha.pe hb.pe) fun σ H Q ⟨F, ρ, M, Qd, Xd, g, s, t, p, w⟩ =>
    ⟨F, ρ, M, _, Xd, g, s, t, fun v H' F' d M' sm g' r' q => ⟨F', ρ, M', _, Xd, g', s.mono sm, q, fun u H2 F2 e M2 sm2 g2 r2 q2 => by
      obtain ⟨z, e1, e2⟩ := q2
      exact hf F2 H2 M2 v u _ _ z Q Qd g2 (vw_ok g2 (r'.mono sm2)) (vw_ok g2 r2) e1 (p.mono (sm.trans sm2)) e2, w.mono sm⟩, w⟩⟩
theorem d_cmp {op : CmpOp} {r : R2} {f : D -> D -> Option D} (ho : OpR X (compareOp op) r) (hf : LOp X.K cl r f) (ha : DE cl X W a τa) (hb : DE cl X W b τb) (hm : behindInMarks op b = false) : DE cl X W (.Compare a [op] [b] pos) (dOp f τa τb) :=
  ⟨pe_imp (pe_cmpR ho ha.pe hb.pe hm) fun σ H Q ⟨F, ρ, M, Qd, Xd, g, s, t, p, w⟩ =>
    ⟨F, ρ, M, _, Xd, g, s, t, fun v H' F' d M' sm g' r' q => ⟨F', ρ, M', _, Xd, g', s.mono sm, q, fun u H2 F2 e M2 sm2 g2 r2 q2 => by
      obtain ⟨z, e1, e2⟩ := q2
      exact hf F2 H2 M2 v u _ _ z Q Qd g2 (vw_ok g2 (r'.mono sm2)) (vw_ok g2 r2) e1 (p.mono (sm.trans sm2)) e2, w.mono sm⟩, w⟩⟩
theorem PostT.test {K : PySem.W.Frag} {F : Hp} {Q : Bool -> Hp -> Prop} {Qd : Bool -> Mem -> Prop} (p : PostT K cl F Q Qd) : Post K cl F (fun x H' => ∃ k, x = .bl k /\ Q k H') (fun d M1 => ∃ b, d = .bl b /\ Qd b M1) := fun v H' F' d M' sm g r ⟨b, e1, q⟩ => by
  subst e1
  exact ⟨b, r.toBl, p b H' F' M' sm g q⟩
theorem d_tcmp {op : CmpOp} {r : R2} {f : D -> D -> Option D} (ho : OpR X (compareOp op) r) (hf : LOp X.K cl r f) (ha : DE cl X W a τa) (hb : DE cl X W b τb) (hm : behindInMarks op b = false) : DT cl X W (.Compare a [op] [b] pos) (dTest (dOp f τa τb)) :=
  ⟨pt_imp (pt_cmpR ho ha.pe hb.pe hm) fun σ H Q ⟨F, ρ, M, Qd, Xd, g, s, t, p, w⟩ =>
    ⟨F, ρ, M, _, Xd, g, s, t, fun v H' F' d M' sm g' r' q => ⟨F', ρ, M', _, Xd, g', s.mono sm, q, fun u H2 F2 e M2 sm2 g2 r2 q2 => by
      obtain ⟨z, e1, e2⟩ := q2
      exact hf F2 H2 M2 v u _ _ z _ _ g2 (vw_ok g2 (r'.mono sm2)) (vw_ok g2 r2) e1 (PostT.test (p.mono (sm.trans sm2))) e2, w.mono sm⟩, w⟩⟩
@[simp] def dChain (f f' : D -> D -> Option D) (τa τb τc : DTE) : DTE := fun ρ M Q X => τa ρ M (fun d M1 => τb ρ M1 (fun e M2 => ∃ k, f (vw M2 d) (vw M2 e) = some (.bl k) /\ if k = true then τc ρ M2 (fun h M3 => ∃ z, f' (vw M3 e) (vw M3 h) = some z /\ Q z M3) X else Q (.bl false) M2) X) X
theorem d_chain {op op' : CmpOp} {r r' : R2} {f f' : D -> D -> Option D} (ho : OpR X (compareOp op) r) (ho' : OpR X (compareOp op') r') (hf : LOp X.K cl r f) (hf' : LOp X.K cl r' f') (ha : DE cl X W a τa) (hb : DE cl X W b τb) (hc : DE cl X W c τc)
    (hm : lastMarks [op, op'] [b, c] = false := by with_unfolding_all rfl) : DE cl X W (.Compare a [op, op'] [b, c] pos) (dChain f f' τa τb τc) :=
  ⟨pe_imp (pe_chain ho ho' ha.pe hb.pe hc.pe hm) fun σ H Q ⟨F, ρ, M, Qd, Xd, g, s, t, p, w⟩ =>
    ⟨F, ρ, M, _, Xd, g, s, t, fun v H' F' d M' sm g' r' q => ⟨F', ρ, M', _, Xd, g', s.mono sm, q, fun u H2 F2 e M2 sm2 g2 r2 q2 => by
      obtain ⟨k, e1, e2⟩ := q2
      refine hf F2 H2 M2 v u _ _ (.bl k) _ (fun z M3 => z = .bl k /\ M3 = M2) g2 (vw_ok g2 (r'.mono sm2)) (vw_ok g2 r2) e1 ?_ ⟨rfl, rfl⟩
      intro z H3 F3 dz M3 sm3 g3 r3 ⟨h3, h4⟩
      subst h3 h4
      refine ⟨k, r3.toBl, ?_⟩
      cases k with
      | true =>
        rw [if_pos rfl] at e2 ⊢
        refine ⟨F3, ρ, M3, _, Xd, g3, s.mono ((sm.trans sm2).trans sm3), e2, fun y H4 F4 h M4 sm4 g4 r4 ⟨z4, h5, h6⟩ => ?_, w.mono ((sm.trans sm2).trans sm3)⟩
        exact hf' F4 H4 M4 u y _ _ z4 Q Qd g4 (vw_ok g4 (r2.mono (sm3.trans sm4))) (vw_ok g4 r4) h5 (p.mono (((sm.trans sm2).trans sm3).trans sm4)) h6
      | false =>
        rw [if_neg Bool.false_ne_true] at e2 ⊢
        exact p _ _ _ _ _ ((sm.trans sm2).trans sm3) g3 (.bl false) e2, w.mono sm⟩, w⟩⟩
theorem d_tchain {op op' : CmpOp} {r r' : R2} {f f' : D -> D -> Option D} (ho : OpR X (compareOp op) r) (ho' : OpR X (compareOp op') r') (hf : LOp X.K cl r f) (hf' : LOp X.K cl r' f') (ha : DE cl X W a τa) (hb : DE cl X W b τb) (hc : DE cl X W c τc)
    (hm : lastMarks [op, op'] [b, c] = false := by with_unfolding_all rfl) : DT cl X W (.Compare a [op, op'] [b, c] pos) (dTest (dChain f f' τa τb τc)) :=
  ⟨pt_imp (pt_chain ho ho' ha.pe hb.pe hc.pe hm) fun σ H Q ⟨F, ρ, M, Qd, Xd, g, s, t, p, w⟩ =>
    ⟨F, ρ, M, _, Xd, g, s, t, fun v H' F' d M' sm g' r' q => ⟨F', ρ, M', _, Xd, g', s.mono sm, q, fun u H2 F2 e M2 sm2 g2 r2 q2 => by
      obtain ⟨k, e1, e2⟩ := q2
      refine hf F2 H2 M2 v u _ _ (.bl k) _ (fun z M3 => z = .bl k /\ M3 = M2) g2 (vw_ok g2 (r'.mono sm2)) (vw_ok g2 r2) e1 ?_ ⟨rfl, rfl⟩
      intro z H3 F3 dz M3 sm3 g3 r3 ⟨h3, h4⟩
      subst h3 h4
      refine ⟨k, r3.toBl, ?_⟩
      cases k with
      | true =>
        rw [if_pos rfl] at e2 ⊢
        refine ⟨F3, ρ, M3, _, Xd, g3, s.mono ((sm.trans sm2).trans sm3), e2, fun y H4 F4 h M4 sm4 g4 r4 ⟨z4, h5, h6⟩ => ?_, w.mono ((sm.trans sm2).trans sm3)⟩
        exact hf' F4 H4 M4 u y _ _ z4 _ _ g4 (vw_ok g4 (r2.mono (sm3.trans sm4))) (vw_ok g4 r4) h5 (PostT.test (p.mono (((sm.trans sm2).trans sm3).trans sm4))) h6
      | false =>
        rw [if_neg Bool.false_ne_true] at e2 ⊢
        exact PostT.test p _ _ _ _ _ ((sm.trans sm2).trans sm3) g3 (.bl false) e2, w.mono sm⟩, w⟩⟩
theorem d_un {op : UnaryOp} {r : V -> Hp -> VK -> Prop} {f : D -> Option D} (ho : UnR X (unaryOp op) r) (hf : LUn X.K cl r f) (ha : DE cl X W a τa) : DE cl X W (.UnaryOp op a pos) (dUn f τa) :=
  ⟨pe_imp (pe_un ho ha.pe) fun σ H Q ⟨F, ρ, M, Qd, Xd, g, s, t, p, w⟩ =>
    ⟨F, ρ, M, _, Xd, g, s, t, fun v H' F' d M' sm g' r' ⟨z, e1, e2⟩ => hf F' H' M' v _ z Q Qd g' (vw_ok g' r') e1 (p.mono sm) e2, w⟩⟩
theorem d_val (h : DE cl X W e τ) (he : ∀ whole, isTrue e X.env whole = (do let v <- whole; standAt e.pos; holding [v] (truthy v)) := by intro _; rfl) : DT cl X W e (dTest τ) :=
  ⟨pt_imp (pt_val h.pe he) fun σ H Q ⟨F, ρ, M, Qd, Xd, g, s, t, p, w⟩ => ⟨F, ρ, M, _, Xd, g, s, t, p.test, w⟩⟩
theorem dw_or1 (h : DT cl X W a υ) : DW cl X W (.BoolOp .Or [a] pos) υ := ⟨pw_or1 h.pt⟩
theorem dw_or (h : DT cl X W a υ) (h' : DW cl X W (.BoolOp .Or (b :: rest) pos) υ') : DW cl X W (.BoolOp .Or (a :: b :: rest) pos) (dOr υ υ') :=
  ⟨pw_imp (pw_or h.pt h'.pw) fun σ H Q ⟨F, ρ, M, Qd, Xd, g, s, t, p, w⟩ => ⟨F, ρ, M, _, Xd, g, s, t, fun k H' F' M' sm g' q => by
    cases k with
    | true => rw [if_pos rfl] at q ⊢; exact p _ _ _ _ sm g' q
    | false => rw [if_neg Bool.false_ne_true] at q ⊢; exact ⟨F', ρ, M', Qd, Xd, g', s.mono sm, q, p.mono sm, w.mono sm⟩, w⟩⟩
theorem DW.dt (h : DW cl X W e υ) : DT cl X W e υ := ⟨h.pw.pt⟩
theorem d_tnot (h : DT cl X W a υ) : DT cl X W (.UnaryOp .Not a pos) (dNot υ) :=
  ⟨pt_imp (pt_not h.pt) fun σ H Q ⟨F, ρ, M, Qd, Xd, g, s, t, p, w⟩ => ⟨F, ρ, M, _, Xd, g, s, t, fun k H' F' M' sm g' q => p _ _ _ _ sm g' q, w⟩⟩
theorem d_ifE (h : DT cl X W c υ) (ha : DE cl X W a τa) (hb : DE cl X W b τb) : DE cl X W (.IfExp c a b pos) (dIfE υ τa τb) :=
  ⟨pe_imp (pe_ifExp h.pt ha.pe hb.pe) fun σ H Q ⟨F, ρ, M, Qd, Xd, g, s, t, p, w⟩ => ⟨F, ρ, M, _, Xd, g, s, t, fun k H' F' M' sm g' q => by
    cases k with
    | true => rw [if_pos rfl] at q ⊢; exact ⟨F', ρ, M', Qd, Xd, g', s.mono sm, q, p.mono sm, w.mono sm⟩
    | false => rw [if_neg Bool.false_ne_true] at q ⊢; exact ⟨F', ρ, M', Qd, Xd, g', s.mono sm, q, p.mono sm, w.mono sm⟩, w⟩⟩
@[simp] def dAndV (τa τb : DTE) : DTE := fun ρ M Q X => τa ρ M (fun d M1 => ∃ c, d = .bl c /\ if c = true then τb ρ M1 Q X else Q (.bl false) M1) X
@[simp] def dOrV (τa τb : DTE) : DTE := fun ρ M Q X => τa ρ M (fun d M1 => ∃ c, d = .bl c /\ if c = true then Q (.bl true) M1 else τb ρ M1 Q X) X
@[simp] def dNotV (τa : DTE) : DTE := fun ρ M Q X => τa ρ M (fun d M1 => ∃ c, d = .bl c /\ Q (.bl (!c)) M1) X
theorem d_one {op} (h : DE cl X W a τ) : DE cl X W (.BoolOp op [a] pos) τ := ⟨pe_one h.pe⟩
theorem d_andV (ha : DE cl X W a τa) (hb : DE cl X W (.BoolOp .And (b :: rest) pos) τb) : DE cl X W (.BoolOp .And (a :: b :: rest) pos) (dAndV τa τb) :=
  ⟨pe_imp (pe_and ha.pe hb.pe) fun σ H Q ⟨F, ρ, M, Qd, Xd, g, s, t, p, w⟩ => ⟨F, ρ, M, _, Xd, g, s, t, fun v H' F' d M' sm g' r ⟨k, e1, q⟩ => by
    subst e1
    refine ⟨k, r.toBl, ?_⟩
    cases k with
    | true => rw [if_pos rfl] at q ⊢; exact ⟨F', ρ, M', Qd, Xd, g', s.mono sm, q, p.mono sm, w.mono sm⟩
    | false => rw [if_neg Bool.false_ne_true] at q ⊢; exact p _ _ _ _ _ sm g' (.bl false) q, w⟩⟩
theorem d_notV (ha : DE cl X W a τa) : DE cl X W (.UnaryOp .Not a pos) (dNotV τa) :=
  ⟨pe_imp (pe_not ha.pe) fun σ H Q ⟨F, ρ, M, Qd, Xd, g, s, t, p, w⟩ => ⟨F, ρ, M, _, Xd, g, s, t, fun v H' F' d M' sm g' r ⟨k, e1, q⟩ => by
    subst e1
    exact ⟨k, r.toBl, p _ _ _ _ _ sm g' (.bl _) q⟩, w⟩⟩
theorem da_nil : DA cl X W [] dNil := ⟨pa_imp pa_nil fun σ H Q ⟨F, ρ, M, Qd, Xd, g, s, t, p, w⟩ => p [] H F [] M (Same.refl F) g .nil t⟩
theorem da_cons (ha : DE cl X W e τ) (hr : DA cl X W es α) (hs : starEach (e :: es) X.env = (false, eval e X.env) :: starEach es X.env := by rfl) : DA cl X W (e :: es) (dCons τ α) :=
  ⟨pa_imp (pa_cons ha.pe hr.pa hs) fun σ H Q ⟨F, ρ, M, Qd, Xd, g, s, t, p, w⟩ => ⟨F, ρ, M, _, Xd, g, s, t, fun v H' F' d M' sm g' r q => ⟨F', ρ, M', _, Xd, g', s.mono sm, q, fun vs H2 F2 ds M2 sm2 g2 r2 q2 => p _ _ _ _ _ (sm.trans sm2) g2 (.cons (r.mono sm2) r2) q2, w.mono sm⟩, w⟩⟩
theorem d_tup {x1} (h : DA cl X W es α) : DE cl X W (.Tuple es x1 pos) (dTup α) :=
  ⟨pe_imp (pe_tup h.pa) fun σ H Q ⟨F, ρ, M, Qd, Xd, g, s, t, p, w⟩ => ⟨F, ρ, M, _, Xd, g, s, t, fun vs H' F' ds M' sm g' r ⟨hl, q⟩ => ⟨by rw [r.length]; exact hl, fun a ha => (p.mono sm).newT g' r q ha⟩, w⟩⟩
theorem d_lst (h : DA cl X W es α) : DE cl X W (.List es pos) (dLst α) :=
  ⟨pe_imp (pe_lst h.pa) fun σ H Q ⟨F, ρ, M, Qd, Xd, g, s, t, p, w⟩ => ⟨F, ρ, M, _, Xd, g, s, t, fun vs H' F' ds M' sm g' r ⟨hl, q⟩ => ⟨by rw [r.length]; exact hl, fun a ha => (p.mono sm).newL g' r q ha⟩, w⟩⟩
theorem d_lstM (h : DA cl X W es α) : DE cl X W (.List es pos) (dLstM α) :=
  ⟨pe_imp (pe_lst h.pa) fun σ H Q ⟨F, ρ, M, Qd, Xd, g, s, t, p, w⟩ => ⟨F, ρ, M, _, Xd, g, s, t, fun vs H' F' ds M' sm g' r ⟨hl, q⟩ => ⟨by rw [r.length]; exact hl, fun a ha =>
    p _ _ F' _ _ sm (g'.newM (d := .lst ds) ha ⟨vs, upd_same, r⟩) (.ref a) (q a (g'.freshM ha))⟩, w⟩⟩
theorem d_frz (h : DE cl X W e τ) : DE cl X W e (dFrz τ) :=
  ⟨pe_imp h.pe fun σ H Q ⟨F, ρ, M, Qd, Xd, g, s, t, p, w⟩ => ⟨F, ρ, M, _, Xd, g, s, t, fun v H' F' d M' sm g' r q => by
    cases d with
    | ref a =>
      obtain rfl := r.toRef
      cases e : M' a with
      | none =>
        have q' : Qd (.ref a) M' := by
          simp only [frz] at q
          rw [e] at q
          exact q
        exact p _ _ _ _ _ sm g' r q'
      | some c =>
        have q' : Qd c (delM M' a) := by
          simp only [frz] at q
          rw [e] at q
          exact q
        obtain ⟨F2, s2, g2, r2⟩ := g'.freeze e
        exact p _ _ _ _ _ (sm.trans s2) g2 r2 q'
    | _ => exact p _ _ _ _ _ sm g' r q, w⟩⟩
theorem d_callB {x : Str} {id : String} {p : Pos} {r : List V -> Hp -> VK -> Prop} {f : List D -> Option D} (hc : CallR X (.builtin id) r) (hf : LCall X.K cl r f) (hg : Gl X x) (hm : X.mg x = none) (hv : bootBuiltins x = some (.builtin id)) (ha : DA cl X W (e :: es) α) (hn : x ≠ "__name__" := by decide) (hdb : (x == ("__debug__" : Str)) = false := by decide)
    (he : starEach (e :: es) X.env = (false, eval e X.env) :: starEach es X.env := by rfl) (hpl : (backTo pos (starEach es X.env)).any (·.1) = false := by rfl) : DE cl X W (.Call (.Name x p) (e :: es) [] pos) (dCB f α) :=
  ⟨pe_imp (pe_callB hc hg hm hv ha.pa hn hdb he hpl) fun σ H Q ⟨F, ρ, M, Qd, Xd, g, s, t, p, w⟩ => ⟨F, ρ, M, _, Xd, g, s, t, fun vs H' F' ds M' sm g' r ⟨z, e1, e2⟩ => hf F' H' M' vs ds z Q Qd g' r e1 (p.mono sm) e2, w⟩⟩
theorem d_callTy {x : Str} {T : String} {p : Pos} {r : List V -> Hp -> VK -> Prop} {f : List D -> Option D} (hc : CallR X (.type T) r) (hf : LCall X.K cl r f) (hg : Gl X x) (hm : X.mg x = none) (hv : bootBuiltins x = some (.type T)) (ha : DA cl X W (e :: es) α) (hn : x ≠ "__name__" := by decide) (hdb : (x == ("__debug__" : Str)) = false := by decide)
    (he : starEach (e :: es) X.env = (false, eval e X.env) :: starEach es X.env := by rfl) (hpl : (backTo pos (starEach es X.env)).any (·.1) = false := by rfl) : DE cl X W (.Call (.Name x p) (e :: es) [] pos) (dCB f α) :=
  ⟨pe_imp (pe_callTy hc hg hm hv ha.pa hn hdb he hpl) fun σ H Q ⟨F, ρ, M, Qd, Xd, g, s, t, p, w⟩ => ⟨F, ρ, M, _, Xd, g, s, t, fun vs H' F' ds M' sm g' r ⟨z, e1, e2⟩ => hf F' H' M' vs ds z Q Qd g' r e1 (p.mono sm) e2, w⟩⟩
end
end DL
set_option Elab.async false
set_option linter.all false
set_option maxRecDepth 100000
set_option maxHeartbeats 2000000
namespace DL
open PySem L2
def addD : D -> D -> Option D
  | .int i, .int j => some (.int (i + j))
  | .str x, .str y => if x.length + y.length <= sizeLine then some (.str (x ++ y)) else none
  | .lst xs, .lst ys => if xs.length + ys.length <= sizeLine then some (.lst (xs ++ ys)) else none
  | .tup xs, .tup ys => if xs.length + ys.length <= sizeLine then some (.tup (xs ++ ys)) else none
  | .byt x, .byt y => if x.size + y.size <= 16777216 then some (.byt (x ++ y)) else none
  | _, _ => none
@[simp] def subD : D -> D -> Option D
  | .int i, .int j => some (.int (i - j))
  | _, _ => none
def mulD : D -> D -> Option D
  | .int i, .int j => if (-(2 ^ 64) < i /\ i < 2 ^ 64) \/ (-(2 ^ 64) < j /\ j < 2 ^ 64) then some (.int (i * j)) else none
  | _, _ => none
def fdivD : D -> D -> Option D
  | .int i, .int j => if 0 < j /\ j < 2 ^ 200 then some (.int (i / j)) else none
  | _, _ => none
def modD : D -> D -> Option D
  | .int i, .int j => if 0 < j then some (.int (i % j)) else none
  | _, _ => none
def powD : D -> D -> Option D
  | .int i, .int j => if 0 <= j /\ j <= 1000000 /\ i.natAbs < 2 ^ 64 then some (.int (i ^ j.toNat)) else none
  | _, _ => none
@[simp] def cmpD (p : Int -> Int -> Bool) : D -> D -> Option D
  | .int i, .int j => some (.bl (p i j))
  | _, _ => none
@[simp] def negD : D -> Option D
  | .int i => some (.int (-i))
  | _ => none
@[simp] def isNonD : D -> D -> Option D
  | .non, .non => some (.bl true)
  | _, .non => some (.bl false)
  | _, _ => none
@[simp] def notNonD : D -> D -> Option D
  | .non, .non => some (.bl false)
  | _, .non => some (.bl true)
  | _, _ => none
section
variable {K : PySem.W.Frag} {cl : ClW} {X : Cx}
def rCatS (K : PySem.W.Frag) : R2 := fun x y H Q => ∃ l b xs zs, x = .ref l /\ y = .ref b /\ SqL K H l xs /\ SqL K H b zs /\ xs.length + zs.length <= sizeLine /\ ∀ p, H p = none -> Q (.ref p) (upd H p (.lst (xs ++ zs)))
theorem op_catS : OpR X (binaryOp .Add) (rCatS X.K) := by
  intro pins s σ H x y v u Q I rx ry h
  obtain ⟨l, b, xs, zs, rfl, rfl, hH, hB, hz, q⟩ := h
  cases rx
  cases ry
  obtain ⟨its, r, ⟨o, n, ho, hc, hd, hs⟩, z⟩ := I.list hH
  obtain ⟨its2, r2, ⟨o2, n2, ho2, hc2, hd2, hs2⟩, z2⟩ := I.list hB
  obtain ⟨c1, d1, t1, sl1⟩ := o
  obtain ⟨c2, d2, t2, sl2⟩ := o2
  simp only at hc hd hs hc2 hd2 hs2
  subst hc hd hs hc2 hd2 hs2
  have l1 := r.length
  have l2 := r2.length
  have ea : its.toArray ++ its2.toArray = (its ++ its2).toArray := by simp
  refine concat_meets ⟨_, ho, rfl⟩ ⟨_, ho2, rfl⟩ noFill_list_add seq_list_add PySem.F.slot_list_add PySem.F.entry_list_add (PySem.F.args_list_add_2 _ _) (PyProof.Rows.list_addW l b its.toArray its2.toArray n n2 none none sl1 sl2 (by simp; omega)) ⟨ho, ho2, ?_⟩
  rw [ea]
  exact ⟨.ref _, _, I.lnew (t' := s.toks) (r.append r2) (by rw [List.length_append]; omega), rfl, q _ I.fresh⟩
def rAddAll (K : PySem.W.Frag) : R2 := fun x y H Q => rI0 (fun i j => .int (i + j)) x y H Q \/ (fun x y H Q => ∃ i j, x = .str i /\ y = .str j /\ i.length + j.length <= sizeLine /\ Q (.str (i ++ j)) H) x y H Q \/ rCatS K x y H Q \/ rCatA K x y H Q \/ (fun x y H Q => ∃ i j, x = .byt i /\ y = .byt j /\ i.size + j.size <= 16777216 /\ Q (.byt (i ++ j)) H) x y H Q
theorem op_addAll : OpR X (binaryOp .Add) (rAddAll X.K) := op_add.or (op_add_str.or (op_catS.or (op_catA.or op_add_byt)))
theorem lop_add : LOp K cl (rAddAll K) addD := by
  intro F H M x y d e z Q Qd g hx hy h p q
  cases d with
  | int i =>
    cases e with
    | int j =>
      cases h
      obtain rfl := hx.int; obtain rfl := hy.int
      exact .inl ⟨i, j, rfl, rfl, p.val g (.int _) q⟩
    | _ => cases h
  | str i =>
    cases e with
    | str j =>
      simp only [addD] at h
      split at h
      · cases h
        obtain rfl := hx.str; obtain rfl := hy.str
        exact .inr (.inl ⟨i, j, rfl, rfl, by assumption, p.val g (.str _) q⟩)
      · cases h
    | _ => cases h
  | lst ds =>
    cases e with
    | lst es =>
      simp only [addD] at h
      split at h
      · cases h
        obtain ⟨a, vs, rfl, h1, h2⟩ := hx.lst g.sub
        obtain ⟨b, us, rfl, h3, h4⟩ := hy.lst g.sub
        exact .inr (.inr (.inl ⟨a, b, vs, us, rfl, rfl, h1, h3, by rw [h2.length, h4.length]; assumption, fun c hc => p.newL g (h2.append h4) q hc⟩))
      · cases h
    | _ => cases h
  | tup ds =>
    cases e with
    | tup es =>
      simp only [addD] at h
      split at h
      · cases h
        rcases hx with hx | ⟨_, _, hx⟩
        · rcases hy with hy | ⟨_, _, hy⟩
          · obtain ⟨a, vs, rfl, h1, h2⟩ := hx.toTup
            obtain ⟨b, us, rfl, h3, h4⟩ := hy.toTup
            refine .inr (.inr (.inr (.inl ⟨a, b, vs, us, rfl, rfl, same_t g.sub h1, same_t g.sub h3, by rw [h2.length, h4.length]; assumption, fun e => ?_, fun _ e => ?_, fun _ _ c hc => p.newT g (h2.append h4) q hc⟩)))
            · subst e
              cases h2
              exact p.val g hy q
            · subst e
              cases h4
              rw [List.append_nil] at q
              exact p.val g hx q
          · exact hy.elim
        · exact hx.elim
      · cases h
    | _ => cases h
  | byt i =>
    cases e with
    | byt j =>
      simp only [addD] at h
      split at h
      · cases h
        obtain rfl := hx.byt; obtain rfl := hy.byt
        exact .inr (.inr (.inr (.inr ⟨i, j, rfl, rfl, by assumption, p.val g (.byt _) q⟩)))
      · cases h
    | _ => cases h
  | _ => cases h
theorem lop_mul : LOp K cl (rI CMul fun i j => .int (i * j)) mulD := by
  intro F H M x y d e z Q Qd g hx hy h p q
  cases d <;> cases e <;> first | (simp only [mulD] at h; split at h <;> first | (cases h; obtain rfl := hx.int; obtain rfl := hy.int; exact ⟨_, _, rfl, rfl, (by assumption), p.val g (.int _) q⟩) | cases h) | cases h
theorem cdivW_of {i j : Int} (h : 0 < j /\ j < 2 ^ 200) : CDivW i j := by
  refine wide_div (b := 200) h.1 ?_ (by decide) (by decide)
  have h2 : ((j.natAbs : Nat) : Int) < ((2 ^ 200 : Nat) : Int) := by
    rw [Int.natAbs_of_nonneg (Int.le_of_lt h.1)]
    exact_mod_cast h.2
  exact Int.ofNat_lt.mp h2
theorem lop_fdiv : LOp K cl (rI CDivW fun i j => .int (i / j)) fdivD := by
  intro F H M x y d e z Q Qd g hx hy h p q
  cases d with
  | int i =>
    cases e with
    | int j =>
      simp only [fdivD] at h
      split at h
      · cases h
        obtain rfl := hx.int; obtain rfl := hy.int
        exact ⟨i, j, rfl, rfl, cdivW_of (by assumption), p.val g (.int _) q⟩
      · cases h
    | _ => cases h
  | _ => cases h
theorem lop_mod : LOp K cl (rI (fun _ j => 0 < j) fun i j => .int (i % j)) modD := by
  intro F H M x y d e z Q Qd g hx hy h p q
  cases d with
  | int i =>
    cases e with
    | int j =>
      simp only [modD] at h
      split at h
      · cases h
        obtain rfl := hx.int; obtain rfl := hy.int
        exact ⟨i, j, rfl, rfl, by assumption, p.val g (.int _) q⟩
      · cases h
    | _ => cases h
  | _ => cases h
theorem lop_pow : LOp K cl (rI CPow fun i j => .int (i ^ j.toNat)) powD := by
  intro F H M x y d e z Q Qd g hx hy h p q
  cases d with
  | int i =>
    cases e with
    | int j =>
      simp only [powD] at h
      split at h
      · cases h
        obtain rfl := hx.int; obtain rfl := hy.int
        exact ⟨i, j, rfl, rfl, by assumption, p.val g (.int _) q⟩
      · cases h
    | _ => cases h
  | _ => cases h
theorem lop_cmp (k : Int -> Int -> Bool) : LOp K cl (rI0 fun i j => .bl (k i j)) (cmpD k) := by
  intro F H M x y d e z Q Qd g hx hy h p q
  cases d with
  | int i =>
    cases e with
    | int j =>
      cases h
      obtain rfl := hx.int; obtain rfl := hy.int
      exact ⟨i, j, rfl, rfl, p.val g (.bl _) q⟩
    | _ => cases h
  | _ => cases h
abbrev leD := cmpD fun i j => decide (i <= j)
abbrev geD := cmpD fun i j => decide (j <= i)
theorem lun_neg : LUn K cl (rU fun i => .int (-i)) negD := by
  intro F H M x d z Q Qd g hx h p q
  cases d with
  | int i =>
    cases h
    obtain rfl := hx.int
    exact ⟨i, rfl, p.val g (.int _) q⟩
  | _ => cases h
theorem Vw.ne_non {F H : Hp} {v : V} {d : D} (h : Vw K cl F H v d) (hd : d ≠ .non) : v ≠ .non := by
  intro e
  subst e
  rcases h with h | ⟨a, e, _⟩
  · cases h; exact hd rfl
  · cases e
theorem lop_notN : LOp K cl (fun x y H Q => y = .non /\ Q (.bl (!decide (x = .non))) H) notNonD := by
  intro F H M x y d e z Q Qd g hx hy h p q
  cases e with
  | non =>
    refine ⟨hy.non, ?_⟩
    by_cases hd : d = .non
    · subst hd
      cases h
      obtain rfl := hx.non
      rw [decide_eq_true rfl]
      exact p.val g (.bl _) q
    · have hz : z = .bl true := by cases d <;> first | exact absurd rfl hd | (cases h; rfl)
      subst hz
      rw [decide_eq_false (hx.ne_non hd)]
      exact p.val g (.bl _) q
  | _ => cases d <;> cases h
def ixD : D -> D -> Option D
  | .lst xs, .int i => atI xs i
  | .tup xs, .int i => atI xs i
  | .str z, .int i => if z.length <= sizeLine then (atI z.cps.toList i).map fun c => .str ⟨#[c]⟩ else none
  | _, _ => none
theorem reps_atI {F : Hp} {vs : List V} {ds : List D} {i : Int} {d : D} (r : Reps K cl F vs ds) (h : atI ds i = some d) : ∃ v, atI vs i = some v /\ Rep K cl F v d := by
  unfold atI at h ⊢
  rw [r.length]
  cases e : ixN ds.length i with
  | none => rw [e] at h; cases h
  | some j =>
    rw [e] at h
    exact r.get h
theorem lix : LOp K cl (rIx K) ixD := by
  intro F H M x y d e z Q Qd g hx hy h p q
  cases d with
  | lst ds =>
    cases e with
    | int i =>
      obtain rfl := hy.int
      obtain ⟨a, vs, rfl, h1, h2⟩ := hx.lst g.sub
      obtain ⟨v, h3, h4⟩ := reps_atI h2 h
      exact .inl ⟨a, vs, i, v, rfl, rfl, h1, h3, p.val g h4 q⟩
    | _ => cases h
  | tup ds =>
    cases e with
    | int i =>
      obtain rfl := hy.int
      obtain ⟨a, vs, rfl, h1, h2⟩ := hx.tup g.sub
      obtain ⟨v, h3, h4⟩ := reps_atI h2 h
      exact .inr (.inl ⟨a, vs, i, v, rfl, rfl, h1, h3, p.val g h4 q⟩)
    | _ => cases h
  | str w =>
    cases e with
    | int i =>
      obtain rfl := hy.int
      obtain rfl := hx.str
      simp only [ixD] at h
      split at h
      · rename_i hl
        cases e1 : atI w.cps.toList i with
        | none => rw [e1] at h; cases h
        | some c =>
          rw [e1] at h
          cases h
          exact .inr (.inr ⟨w, i, c, rfl, rfl, hl, e1, p.val g (.str _) q⟩)
      · cases h
    | _ => cases h
  | _ => cases h
variable {W : WX} {a b e : Expr} {pos : Pos} {τ τa τb : DTE}
structure DO (cl : ClW) (X : Cx) (W : WX) (e : Option Expr) (τ : DTO) : Prop where
  po : PO X e (fun σ H Q => ∃ F ρ M Qd Xd, Good X.K cl F H M /\ Slots X.K cl F σ ρ /\ τ ρ M Qd Xd /\ (∀ o H' F' M', Same F F' -> Good X.K cl F' H' M' -> Qd o M' -> Q o H') /\ WOk X.K cl W F Xd)
theorem do_none : DO cl X W none dNoPart := ⟨⟨fun pins s σ H Q I ⟨F, ρ, M, Qd, Xd, g, sl, t, p, w⟩ => po_none.run pins s σ H Q I (p none H F M (Same.refl F) g t)⟩⟩
theorem do_some (h : DE cl X W e τ) : DO cl X W (some e) (dPart τ) := ⟨⟨fun pins s σ H Q I ⟨F, ρ, M, Qd, Xd, g, sl, t, p, w⟩ => (po_some h.pe).run pins s σ H Q I
  ⟨F, ρ, M, _, Xd, g, sl, t, fun v H' F' d M' sm g' r ⟨i, e1, q⟩ => by subst e1; exact ⟨i, r.toInt, p _ _ _ _ sm g' q⟩, w⟩⟩⟩
def cutD (xs : List D) (lo hi : Option Int) : List D := (xs.drop (HT.sIx xs.length 0 lo)).take (HT.sIx xs.length xs.length hi - HT.sIx xs.length 0 lo)
def slD : D -> Option Int -> Option Int -> Option D
  | .lst xs, lo, hi => some (.lst (cutD xs lo hi))
  | .tup xs, lo, hi => some (.tup (cutD xs lo hi))
  | .str z, lo, hi => if z.length <= sizeLine then some (.str (cutS z lo hi)) else none
  | _, _, _ => none
theorem reps_cut {F : Hp} {vs : List V} {ds : List D} (r : Reps K cl F vs ds) (lo hi : Option Int) : Reps K cl F (cutV vs lo hi) (cutD ds lo hi) := by
  unfold cutV cutD
  rw [r.length]
  exact (r.drop _).take _
theorem cutD_whole {xs : List D} {lo hi : Option Int} (h : HT.sIx xs.length 0 lo = 0 /\ HT.sIx xs.length xs.length hi = xs.length) : cutD xs lo hi = xs := by
  unfold cutD
  rw [h.1, h.2]
  simp
theorem d_slice {lo hi : Option Expr} {τl τh : DTO} {p2 : Pos} (he : DE cl X W e τ) (hl : DO cl X W lo τl) (hu : DO cl X W hi τh) : DE cl X W (.Subscript e (.Slice lo hi none p2) pos) (dSl slD τ τl τh) :=
  ⟨pe_imp (pe_slice (sl_list.or (sl_tupA.or sl_str)) he.pe hl.po hu.po) fun σ H Q ⟨F, ρ, M, Qd, Xd, g, s, t, p, w⟩ =>
    ⟨F, ρ, M, _, Xd, g, s, t, fun v H1 F1 d M1 sm1 g1 r1 q1 => ⟨F1, ρ, M1, _, Xd, g1, s.mono sm1, q1, fun l H2 F2 M2 sm2 g2 q2 => ⟨F2, ρ, M2, _, Xd, g2, s.mono (sm1.trans sm2), q2, fun h H3 F3 M3 sm3 g3 q3 => (by
      obtain ⟨z, e1, e2⟩ := q3
      have hv := vw_ok g3 (r1.mono (sm2.trans sm3))
      have p' := p.mono ((sm1.trans sm2).trans sm3)
      cases hd : vw M3 d with
      | lst ds =>
        rw [hd] at hv e1
        cases e1
        obtain ⟨a, vs, rfl, h1, h2⟩ := hv.lst g3.sub
        exact .inl ⟨a, vs, rfl, h1, fun c hc => p'.newL g3 (reps_cut h2 l h) e2 hc⟩
      | tup ds =>
        rw [hd] at hv e1
        cases e1
        rcases hv with hv | ⟨_, _, hv⟩
        · obtain ⟨a, vs, rfl, h1, h2⟩ := hv.toTup
          refine .inr (.inl ⟨a, vs, rfl, same_t g3.sub h1, fun hw => ?_, fun _ c hc => p'.newT g3 (reps_cut h2 l h) e2 hc⟩)
          rw [h2.length] at hw
          rw [cutD_whole hw] at e2
          exact p'.val g3 hv e2
        · exact hv.elim
      | str w =>
        rw [hd] at hv e1
        simp only [slD] at e1
        split at e1
        · cases e1
          exact .inr (.inr ⟨w, hv.str, by assumption, p'.val g3 (.str _) e2⟩)
        · cases e1
      | _ =>
        rw [hd] at e1
        cases e1), w.mono (sm1.trans sm2)⟩, w.mono sm1⟩, w⟩⟩
end
end DL
set_option Elab.async false
set_option linter.all false
set_option maxRecDepth 100000
set_option maxHeartbeats 2000000
namespace DL
open PySem L2
@[simp] def dNext : DTS := fun E ρ M => E.nx ρ M
@[simp] def dSeq (t u : DTS) : DTS := fun E ρ M => t { E with nx := u E } ρ M
@[simp] def dIf (υ : DTT) (t u : DTS) : DTS := fun E ρ M => υ ρ M (fun b M1 => if b = true then t E ρ M1 else u E ρ M1) E.ex
@[simp] def dRet (τ : DTE) : DTS := fun E ρ M => τ ρ M E.rt E.ex
@[simp] def dRetN : DTS := fun E _ M => E.rt .non M
@[simp] def dDrop (τ : DTE) : DTS := fun E ρ M => τ ρ M (fun _ M1 => E.nx ρ M1) E.ex
@[simp] def dBrk : DTS := fun E ρ M => E.bk ρ M
@[simp] def dCnt : DTS := fun E ρ M => E.ct ρ M
@[simp] def dNever : DTS := fun _ _ _ => False
abbrev DTG := D -> Env -> Mem -> (Env -> Mem -> Prop) -> DX -> Prop
abbrev DTGs := List D -> Env -> Mem -> (Env -> Mem -> Prop) -> DX -> Prop
@[simp] def gN (i : Nat) : DTG := fun d ρ M Q _ => Q (ρ.set i (some d)) M
@[simp] def gsNil : DTGs := fun ds ρ M Q _ => ds = [] /\ Q ρ M
@[simp] def gsCons (γ : DTG) (γs : DTGs) : DTGs := fun ds ρ M Q X => ∃ d r, ds = d :: r /\ γ d ρ M (fun ρ1 M1 => γs r ρ1 M1 Q X) X
@[simp] def gT (n : Nat) (γs : DTGs) : DTG := fun d ρ M Q X => ∃ ds, (vw M d = .tup ds \/ vw M d = .lst ds) /\ ds.length = n /\ γs ds ρ M Q X
@[simp] def gSubL (τo τi : DTE) : DTG := fun d ρ M Q X => τo ρ M (fun o M1 => τi ρ M1 (fun i M2 => ∃ a xs k j, o = .ref a /\ M2 a = some (.lst xs) /\ i = .int k /\ ixN xs.length k = some j /\ Q ρ (updM M2 a (.lst (xs.set j d)))) X) X
@[simp] def dAsg (τ : DTE) (γ : DTG) : DTS := fun E ρ M => τ ρ M (fun d M1 => γ d ρ M1 E.nx E.ex) E.ex
@[simp] def dPar (i j : Nat) (α : DTA) : DTS := fun E ρ M => α ρ M (fun ds M1 => ∃ d e, ds = [d, e] /\ E.nx ((ρ.set i (some d)).set j (some e)) M1) E.ex
@[simp] def dPar3 (i j l : Nat) (α : DTA) : DTS := fun E ρ M => α ρ M (fun ds M1 => ∃ d e f, ds = [d, e, f] /\ E.nx (((ρ.set i (some d)).set j (some e)).set l (some f)) M1) E.ex
@[simp] def dAug (i : Nat) (f : D -> D -> Option D) (τ : DTE) : DTS := fun E ρ M => ∃ d, ρ[i]? = some (some d) /\ τ ρ M (fun e M1 => ∃ z, f d (vw M1 e) = some z /\ E.nx (ρ.set i (some z)) M1) E.ex
@[simp] def augI : D -> D -> Option D
  | .int i, .int j => some (.int (i + j))
  | _, _ => none
def forD (γ : DTG) (t : DTS) : List D -> DTS
  | [] => fun E ρ M => E.nx ρ M
  | x :: xs => fun E ρ M => γ x ρ M (fun ρ2 M2 => t { E with nx := forD γ t xs E, ct := forD γ t xs E, bk := E.nx } ρ2 M2) E.ex
abbrev DTI := Env -> Mem -> (List D -> Mem -> Prop) -> DX -> Prop
def dFor (ι : DTI) (γ : DTG) (t : DTS) : DTS := fun E ρ M => ι ρ M (fun xs M1 => forD γ t xs E ρ M1) E.ex
def noX : DX := fun _ _ _ _ _ => False
@[simp] def wipeD (ρ : Env) : List Nat -> Env
  | [] => ρ
  | v :: vs => (wipeD ρ vs).set v none
def lcD (γ : DTG) (υ : DTT) (τ : DTE) (vs : List Nat) (a : Addr) : List D -> Env -> Mem -> DV -> Prop
  | [] => fun _ M Q => ∃ ds, M a = some (.lst ds) /\ Q (.lst ds) (delM M a)
  | x :: xs => fun ρ M Q => γ x (wipeD ρ vs) M (fun ρ2 M2 => υ ρ2 M2 (fun b M3 => if b = true then τ ρ2 M3 (fun d M4 => ∃ acc, M4 a = some (.lst acc) /\ acc.length < sizeLine /\ lcD γ υ τ vs a xs ρ (updM M4 a (.lst (acc ++ [d]))) Q) noX else lcD γ υ τ vs a xs ρ M3 Q) noX) noX
def dLc (ι : DTI) (γ : DTG) (υ : DTT) (τ : DTE) (vs : List Nat) : DTE := fun ρ M Q X => ι ρ M (fun xs M1 => ∀ a, M1 a = none -> lcD γ υ τ vs a xs ρ (updM M1 a (.lst [])) Q) X
@[simp] def dYes : DTT := fun _ M Q _ => Q true M
section
variable {cl : ClW} {X : Cx} {W : WX} {a b e c : Expr} {es : List Expr} {st : Stmt} {sts sts' : List Stmt} {pos : Pos} {τ τa τb τc : DTE} {υ : DTT} {α : DTA} {t u : DTS}
theorem dss_nil : DSs cl X W [] dNext := ⟨pss_imp pss_nil fun D σ H ⟨F, ρ, M, E, g, s, q, ok⟩ => ok.nx σ H F ρ M (Same.refl F) g s q⟩
theorem dss_cons (h1 : DS cl X W st t) (h2 : DSs cl X W sts u) : DSs cl X W (st :: sts) (dSeq t u) := ⟨pss_imp (pss_cons h1.ps h2.pss) fun D σ H ⟨F, ρ, M, E, g, s, q, ok⟩ =>
  ⟨F, ρ, M, { E with nx := u E }, g, s, q, ⟨fun σ' H' F' ρ' M' sm g' s' q' => ⟨F', ρ', M', E, g', s', q', ok.mono sm⟩, ok.rt, ok.bk, ok.ct, ok.ex⟩⟩⟩
theorem dss_one (h1 : DS cl X W st t) : DSs cl X W [st] t := ⟨pss_one h1.ps⟩
theorem ds_if (h : DT cl X W c υ) (h1 : DSs cl X W sts t) (h2 : DSs cl X W sts' u) : DS cl X W (.If c sts sts' pos) (dIf υ t u) := ⟨ps_imp (ps_if h.pt h1.pss h2.pss) fun D σ H ⟨F, ρ, M, E, g, s, q, ok⟩ =>
  ⟨F, ρ, M, _, E.ex, g, s, q, fun k H' F' M' sm g' q' => by
    cases k with
    | true => rw [if_pos rfl] at q' ⊢; exact ⟨F', ρ, M', E, g', s.mono sm, q', ok.mono sm⟩
    | false => rw [if_neg Bool.false_ne_true] at q' ⊢; exact ⟨F', ρ, M', E, g', s.mono sm, q', ok.mono sm⟩, ok.ex⟩⟩
theorem ds_ret (h : DE cl X W e τ) : DS cl X W (.Return (some e) pos) (dRet τ) := ⟨ps_imp (ps_ret h.pe) fun D σ H ⟨F, ρ, M, E, g, s, q, ok⟩ => ⟨F, ρ, M, _, E.ex, g, s, q, ok.rt, ok.ex⟩⟩
theorem ds_expr (h : DE cl X W e τ) (hs : swapsWith e none pos.line X.env = pure false := by rfl) : DS cl X W (.Expr e pos) (dDrop τ) := ⟨ps_imp (ps_expr h.pe hs) fun D σ H ⟨F, ρ, M, E, g, s, q, ok⟩ =>
  ⟨F, ρ, M, _, E.ex, g, s, q, fun v H' F' d M' sm g' r q' => ok.nx _ _ _ _ _ sm g' (s.mono sm) q', ok.ex⟩⟩
structure DG (cl : ClW) (X : Cx) (W : WX) (tg : Expr) (is : List Nat) (γ : DTG) : Prop where
  pg : PG X tg (fun v σ H Q => ∃ F ρ M d Qd Xd, Good X.K cl F H M /\ Slots X.K cl F σ ρ /\ Rep X.K cl F v d /\ γ d ρ M Qd Xd /\ (∀ σ' H' F' ρ' M', Same F F' -> Good X.K cl F' H' M' -> Slots X.K cl F' σ' ρ' -> (∀ vs : List Nat, (∀ i ∈ is, i ∈ vs) -> wipe σ' vs = wipe σ vs) -> Qd ρ' M' -> Q σ' H') /\ WOk X.K cl W F Xd)
structure DGs (cl : ClW) (X : Cx) (W : WX) (tgs : List Expr) (is : List Nat) (γs : DTGs) : Prop where
  pgs : PGs X tgs (fun vs σ H Q => ∃ F ρ M ds Qd Xd, Good X.K cl F H M /\ Slots X.K cl F σ ρ /\ Reps X.K cl F vs ds /\ γs ds ρ M Qd Xd /\ (∀ σ' H' F' ρ' M', Same F F' -> Good X.K cl F' H' M' -> Slots X.K cl F' σ' ρ' -> (∀ vs : List Nat, (∀ i ∈ is, i ∈ vs) -> wipe σ' vs = wipe σ vs) -> Qd ρ' M' -> Q σ' H') /\ WOk X.K cl W F Xd)
theorem pg_imp {tg : Expr} {t t' : TG} (h : PG X tg t) (i : ∀ v σ H Q, t' v σ H Q -> t v σ H Q) : PG X tg t' := ⟨fun pins s σ H v u Q I r q => h.run pins s σ H v u Q I r (i v σ H Q q)⟩
theorem pgs_imp {tg : List Expr} {t t' : TGs} (h : PGs X tg t) (i : ∀ v σ H Q, t' v σ H Q -> t v σ H Q) : PGs X tg t' := ⟨fun pins s σ H v u Q I r q => h.run pins s σ H v u Q I r (i v σ H Q q)⟩
theorem wipe_set {σ : St} {i : Nat} {x : Option V} : ∀ {vs : List Nat}, i ∈ vs -> wipe (σ.set i x) vs = wipe σ vs
  | v :: vs, h => by
    unfold wipe
    by_cases e : i ∈ vs
    · rw [wipe_set e]
    · have e2 : i = v := by
        rcases List.mem_cons.mp h with h | h
        · exact h
        · exact absurd h e
      subst e2
      have : ∀ (vs : List Nat), i ∉ vs -> wipe (σ.set i x) vs = (wipe σ vs).set i x := by
        intro vs
        induction vs with
        | nil => intro _; rfl
        | cons w ws ih =>
          intro hn
          have h1 : i ≠ w := fun z => hn (z ▸ List.mem_cons_self)
          have h2 : i ∉ ws := fun z => hn (List.mem_cons_of_mem _ z)
          show (wipe (σ.set i x) ws).set w none = ((wipe σ ws).set w none).set i x
          rw [ih h2, List.set_comm _ _ h1]
      rw [this vs e, List.set_set]
theorem dg_name {x : Str} (i : Nat) (hN : X.N.Nodup) (hi : X.N[i]? = some x := by rfl) (hx : Loc X.env.scope x := by first | exact Or.inl rfl | exact Or.inr rfl) (hf : X.fn x = true \/ X.env.scope.names.lookup x = some .local := by first | exact .inl rfl | exact .inr rfl) : DG cl X W (.Name x pos) [i] (gN i) :=
  ⟨pg_imp (pg_name hN hi hx hf) fun v σ H Q ⟨F, ρ, M, d, Qd, Xd, g, s, r, q, p, w⟩ => p _ _ F _ M (Same.refl F) g (s.set i r) (fun vs h => wipe_set (h i (List.mem_singleton.mpr rfl))) q⟩
theorem dgs_nil : DGs cl X W [] [] gsNil := ⟨pgs_imp pgs_nil fun v σ H Q ⟨F, ρ, M, d, Qd, Xd, g, s, r, ⟨e1, q⟩, p, w⟩ => by
  subst e1
  exact ⟨r.inv0, p _ _ F _ M (Same.refl F) g s (fun _ _ => rfl) q⟩⟩
theorem dgs_cons {tgs : List Expr} {is js : List Nat} {γ : DTG} {γs : DTGs} (h1 : DG cl X W e is γ) (h2 : DGs cl X W tgs js γs) (hs : (assignEach (e :: tgs) X.env).map (·.2) = assign e X.env :: (assignEach tgs X.env).map (·.2) := by rfl) : DGs cl X W (e :: tgs) (is ++ js) (gsCons γ γs) :=
  ⟨pgs_imp (pgs_cons h1.pg h2.pgs hs) fun vs σ H Q ⟨F, ρ, M, ds, Qd, Xd, g, s, r, ⟨d, rest, e1, q⟩, p, w⟩ => by
    subst e1
    obtain ⟨v, ws, rfl, r1, r2⟩ := r.inv
    refine ⟨v, ws, rfl, F, ρ, M, d, _, Xd, g, s, r1, q, fun σ1 H1 F1 ρ1 M1 sm1 g1 s1 w1 q1 => ?_, w⟩
    refine ⟨F1, ρ1, M1, rest, Qd, Xd, g1, s1, r2.mono sm1, q1, fun σ2 H2 F2 ρ2 M2 sm2 g2 s2 w2 q2 => ?_, w.mono sm1⟩
    exact p _ _ _ _ _ (sm1.trans sm2) g2 s2 (fun vs hv => (w2 vs fun i hi => hv i (List.mem_append_right _ hi)).trans (w1 vs fun i hi => hv i (List.mem_append_left _ hi))) q2⟩
def gTL (K : PySem.W.Frag) (n : Nat) (t : TGs) : TG := fun v σ H Q => gTup K n t v σ H Q \/ gLst K n t v σ H Q
theorem pg_tl {k : Nat} {t : TGs} {n : Nat} (hc : X.calm = true) (h : PGs X es t) (hn : (assignEach es X.env).length = n := by rfl) (hst : (assignEach es X.env).findIdx? (·.1) = none := by rfl) : PG X (.Tuple es k pos) (gTL X.K n t) :=
  ⟨fun pins s σ H v u Q I r q => q.elim (fun q => (pg_tup hc h hn hst).run pins s σ H v u Q I r q) fun q => (pg_lst hc h hn hst).run pins s σ H v u Q I r q⟩
theorem dg_tup {k n : Nat} {is : List Nat} {γs : DTGs} (hc : X.calm = true) (h : DGs cl X W es is γs) (hn : (assignEach es X.env).length = n := by rfl) (hst : (assignEach es X.env).findIdx? (·.1) = none := by rfl) : DG cl X W (.Tuple es k pos) is (gT n γs) :=
  ⟨pg_imp (pg_tl hc h.pgs hn hst) fun v σ H Q ⟨F, ρ, M, d, Qd, Xd, g, s, r, ⟨ds, e1, e2, q⟩, p, w⟩ => by
    have hv := vw_ok g r
    rcases e1 with e1 | e1
    · rw [e1] at hv
      obtain ⟨a, vs, rfl, h1, h2⟩ := hv.tup g.sub
      exact .inl ⟨a, vs, rfl, h1, by rw [h2.length]; exact e2, F, ρ, M, ds, Qd, Xd, g, s, h2, q, p, w⟩
    · rw [e1] at hv
      obtain ⟨a, vs, rfl, h1, h2⟩ := hv.lst g.sub
      exact .inr ⟨a, vs, rfl, h1, by rw [h2.length]; exact e2, F, ρ, M, ds, Qd, Xd, g, s, h2, q, p, w⟩⟩
theorem dg_subL {o i : Expr} {τo τi : DTE} (ho : DE cl X W o τo) (hi : DE cl X W i τi) (ha : ∀ v, assign (.Subscript o i pos) X.env v = (do
      let ov <- holding [v] (eval o X.env)
      let iv <- holding [v, ov] (eval i X.env)
      standAt pos
      holding [v, ov, iv] (setItem ov iv v)
      release [v, ov, iv] []) := by intro _; rfl) : DG cl X W (.Subscript o i pos) [] (gSubL τo τi) :=
  ⟨pg_imp (pg_sub ho.pe hi.pe set_list ha) fun v σ H Q ⟨F, ρ, M, d, Qd, Xd, g, s, r, q, p, w⟩ =>
    ⟨F, ρ, M, _, Xd, g, s, q, fun x H1 F1 od M1 sm1 g1 r1 q1 => ⟨F1, ρ, M1, _, Xd, g1, s.mono sm1, q1, fun y H2 F2 jd M2 sm2 g2 r2 q2 => (by
      obtain ⟨a, xs, k, j, e1, e2, e3, e4, e5⟩ := q2
      subst e1 e3
      obtain rfl := r1.toRef
      obtain rfl := r2.toInt
      obtain ⟨hF, vs, h1, h2⟩ := g2.cell a _ e2
      refine ⟨a, vs, k, j, rfl, rfl, h1, by rw [h2.length]; exact e4, ?_⟩
      exact p _ _ F2 ρ _ (sm1.trans sm2) (g2.put (d := .lst (xs.set j d)) e2 ⟨vs.set j v, upd_same, h2.set (r.mono (sm1.trans sm2)) j⟩) (s.mono (sm1.trans sm2)) (fun _ _ => rfl) e5), w.mono sm1⟩, w⟩⟩
theorem ds_asg {tg : Expr} {is : List Nat} {γ : DTG} (he : DE cl X W e τ) (hg : DG cl X W tg is γ) (hs : swapsWithSole [tg] e pos.line X.env = pure false := by rfl) (hw : swappedStores [tg] e X.env = pure none := by rfl)
    (h1 : (assignEach [tg] X.env).map (·.2) = [assign tg X.env] := by rfl) : DS cl X W (.Assign [tg] e pos) (dAsg τ γ) := ⟨ps_imp (ps_asg he.pe hg.pg hs hw h1) fun D σ H ⟨F, ρ, M, E, g, s, q, ok⟩ =>
  ⟨F, ρ, M, _, E.ex, g, s, q, fun v H' F' d M' sm g' r q' => ⟨F', ρ, M', d, E.nx, E.ex, g', s.mono sm, r, q', fun σ2 H2 F2 ρ2 M2 sm2 g2 s2 _ q2 => ok.nx _ _ _ _ _ (sm.trans sm2) g2 s2 q2, ok.ex.mono sm⟩, ok.ex⟩⟩
theorem ds_set {x : Str} {pos' : Pos} (i : Nat) (hN : X.N.Nodup) (he : DE cl X W e τ) (hi : X.N[i]? = some x := by rfl) (hx : Loc X.env.scope x := by first | exact Or.inl rfl | exact Or.inr rfl) (hs : swapsWith e (some (.Name x pos')) pos.line X.env = pure false := by rfl) (hf : X.fn x = true \/ X.env.scope.names.lookup x = some .local := by first | exact .inl rfl | exact .inr rfl) :
    DS cl X W (.Assign [.Name x pos'] e pos) (dAsg τ (gN i)) := ⟨ps_imp (ps_set hN hi hx he.pe hs hf) fun D σ H ⟨F, ρ, M, E, g, s, q, ok⟩ =>
  ⟨F, ρ, M, _, E.ex, g, s, q, fun v H' F' d M' sm g' r q' => ok.nx _ _ _ _ _ sm g' ((s.mono sm).set i r) q', ok.ex⟩⟩
theorem ds_par {i j : Nat} {x y : Str} {px py pt : Pos} {kt k2 pt2} (hc : X.calm = true) (hN : X.N.Nodup) (ha : DA cl X W [a, b] α) (hi : X.N[i]? = some x := by rfl) (hj : X.N[j]? = some y := by rfl) (hij : i ≠ j := by decide)
    (hx : X.env.scope.names.lookup x = some .local := by rfl) (hy : X.env.scope.names.lookup y = some .local := by rfl)
    (hw : swappedStores [.Tuple [.Name x px, .Name y py] kt pt] (.Tuple [a, b] k2 pt2) X.env = pure (some [x, y]) := by rfl)
    (hs : swapsWithSole [.Tuple [.Name x px, .Name y py] kt pt] (.Tuple [a, b] k2 pt2) pos.line X.env = pure false := by rfl) :
    DS cl X W (.Assign [.Tuple [.Name x px, .Name y py] kt pt] (.Tuple [a, b] k2 pt2) pos) (dPar i j α) := ⟨ps_imp (ps_par hc hN hi hj hij hx hy ha.pa hw hs) fun D σ H ⟨F, ρ, M, E, g, s, q, ok⟩ =>
  ⟨F, ρ, M, _, E.ex, g, s, q, fun vs H' F' ds M' sm g' r q' => by
    obtain ⟨d, e, e1, q'⟩ := q'
    subst e1
    obtain ⟨v, ws, rfl, r1, r2⟩ := r.inv
    obtain ⟨v2, ws, rfl, r3, r4⟩ := r2.inv
    obtain rfl := r4.inv0
    exact ⟨v, v2, rfl, ok.nx _ _ _ _ _ sm g' (((s.mono sm).set i r1).set j r3) q'⟩, ok.ex⟩⟩
def Walks (K : PySem.W.Frag) (cl : ClW) (J : It) (F : Hp) (xs : List D) : Prop := ∀ i F' H' M', Same F F' -> Good K cl F' H' M' ->
  (∀ d, xs[i]? = some d -> J.go i H' /\ ∀ x H3, J.yld i H' x H3 -> ∃ F3, Same F' F3 /\ Good K cl F3 H3 M' /\ Rep K cl F3 x d) /\ (xs.length <= i -> J.stop i H')
structure DI (cl : ClW) (X : Cx) (W : WX) (tg iter : Expr) (ι : DTI) : Prop where
  pi : PI X tg iter (fun σ H R => ∃ F ρ M Rd Xd, Good X.K cl F H M /\ Slots X.K cl F σ ρ /\ ι ρ M Rd Xd /\ (∀ J H' F' xs M', Same F F' -> Good X.K cl F' H' M' -> Walks X.K cl J F' xs -> Rd xs M' -> R J H') /\ WOk X.K cl W F Xd)
theorem pi_imp {tg it : Expr} {t t' : TI} (h : PI X tg it t) (i : ∀ σ H R, t' σ H R -> t σ H R) : PI X tg it t' := ⟨fun pins s σ H R I q => h.run pins s σ H R I (i σ H R q)⟩
@[simp] def iL (τ : DTE) : DTI := fun ρ M R X => τ ρ M (fun d M1 => ∃ xs, d = .lst xs /\ R xs M1) X
@[simp] def iT (τ : DTE) : DTI := fun ρ M R X => τ ρ M (fun d M1 => ∃ xs, d = .tup xs /\ R xs M1) X
@[simp] def iR1 (τ : DTE) : DTI := fun ρ M R X => τ ρ M (fun d M1 => ∃ n, d = .int n /\ -(2 ^ 62) <= n /\ n < 2 ^ 62 /\ R ((List.range n.toNat).map fun (i : Nat) => D.int (i : Int)) M1) X
@[simp] def iR2 (τ τ' : DTE) : DTI := fun ρ M R X => τ ρ M (fun d M1 => τ' ρ M1 (fun e M2 => ∃ l n, d = .int l /\ e = .int n /\ (-(2 ^ 62) <= l /\ l < 2 ^ 62 /\ -(2 ^ 62) <= n /\ n < 2 ^ 62) /\ R ((List.range (n - l).toNat).map fun (i : Nat) => D.int (l + (i : Int))) M2) X) X
theorem walks_range {K : PySem.W.Frag} {F : Hp} (l : Int) (n : Nat) : Walks K cl (Itr l n) F ((List.range n).map fun (i : Nat) => D.int (l + (i : Int))) := fun i F2 H2 M2 sm2 g2 => by
  refine ⟨fun d hd => ?_, fun hl => (show n <= i by simpa using hl)⟩
  rw [List.getElem?_map] at hd
  cases e : (List.range n)[i]? with
  | none => rw [e] at hd; cases hd
  | some j =>
    obtain ⟨hj, ej⟩ := List.getElem?_eq_some_iff.mp e
    rw [List.getElem_range] at ej
    subst ej
    rw [e] at hd
    cases hd
    refine ⟨(show i < n by simpa using hj), fun x H3 ⟨e1, e2⟩ => ?_⟩
    subst e1 e2
    exact ⟨F2, Same.refl F2, g2, .int _⟩
theorem di_range1 {tg : Expr} {p : Pos} (hg : Gl X "range") (hm : X.mg "range" = none) (ha : DE cl X W a τa) (hs : starEach [a] X.env = [(false, eval a X.env)] := by rfl) : DI cl X W tg (.Call (.Name "range" p) [a] [] pos) (iR1 τa) :=
  ⟨pi_imp (pi_range1 hg hm (da_cons (W := W) (cl := cl) ha da_nil hs).pa hs) fun σ H R ⟨F, ρ, M, Rd, Xd, g, s, q, p, w⟩ =>
    ⟨F, ρ, M, fun ds M1 => ∃ n : Int, ds = [.int n] /\ -(2 ^ 62) <= n /\ n < 2 ^ 62 /\ Rd ((List.range n.toNat).map fun (i : Nat) => D.int (i : Int)) M1, Xd, g, s, (by
      unfold iR1 at q
      unfold dCons dNil
      have mono : (fun d M1 => ∃ n, d = D.int n /\ -(2 ^ 62) <= n /\ n < 2 ^ 62 /\ Rd ((List.range n.toNat).map fun (i : Nat) => D.int (i : Int)) M1) = (fun d M1 => ∃ n : Int, [d] = [.int n] /\ -(2 ^ 62) <= n /\ n < 2 ^ 62 /\ Rd ((List.range n.toNat).map fun (i : Nat) => D.int (i : Int)) M1) := by
        funext d M1
        simp
      rw [mono] at q
      exact q), fun vs H' F' ds M' sm g' r ⟨n, e1, b1, b2, q'⟩ => by
      subst e1
      obtain ⟨v, ws, rfl, r1, r2⟩ := r.inv
      obtain rfl := r2.inv0
      obtain rfl := r1.toInt
      refine ⟨n, rfl, b1, b2, p _ _ F' _ M' sm g' (walks_range 0 n.toNat) ?_⟩
      simpa using q', w⟩⟩
theorem ds_for {tg iter : Expr} {is : List Nat} {ι : DTI} {γ : DTG} (hp : PassesOwn (model X.prog X.w) X.A X.env X.xe) (hc : X.calm = true) (hi : DI cl X W tg iter ι) (hg : DG cl X W tg is γ) (hb : DSs cl X W sts t) (hs : ∀ x, foldedSetIterable iter X.env x = pure x := by intro _; rfl) :
    DS cl X W (.For tg iter sts [] pos) (dFor ι γ t) := ⟨ps_imp (ps_for hp hc hi.pi hg.pg hb.pss hs) fun D σ H ⟨F, ρ, M, E, g, s, q, ok⟩ => by
  refine ⟨F, ρ, M, _, E.ex, g, s, q, fun J H1 F1 xs M1 sm1 g1 wk q1 => ?_, ok.ex⟩
  refine ⟨fun i m σ H => m = xs.length - i /\ i <= xs.length /\ ∃ F' ρ M, Same F1 F' /\ Good X.K cl F' H M /\ Slots X.K cl F' σ ρ /\ forD γ t (xs.drop i) E ρ M, ⟨xs.length, by simp, Nat.zero_le _, F1, ρ, M1, Same.refl F1, g1, s.mono sm1, by simpa using q1⟩, ?_⟩
  rintro i m σ2 H2 ⟨rfl, hi, F2, ρ2, M2, sm2, g2, s2, q2⟩
  have ok2 := ok.mono (sm1.trans sm2)
  by_cases hlt : i < xs.length
  · obtain ⟨go, yl⟩ := (wk i F2 H2 M2 sm2 g2).1 xs[i] (by simp [hlt])
    rw [List.drop_eq_getElem_cons hlt] at q2
    refine .inr ⟨go, fun σ' H' => ∃ F' ρ' M', Same F1 F' /\ Good X.K cl F' H' M' /\ Slots X.K cl F' σ' ρ' /\ forD γ t (xs.drop (i + 1)) E ρ' M', fun σ' H' n => ⟨xs.length - (i + 1), by omega, rfl, hlt, n⟩, fun x H3 y => ?_⟩
    obtain ⟨F3, sm3, g3, r3⟩ := yl x H3 y
    refine ⟨F3, ρ2, M2, xs[i], _, E.ex, g3, s2.mono sm3, r3, q2, fun σ4 H4 F4 ρ4 M4 sm4 g4 s4 _ q4 => ?_, ok2.ex.mono sm3⟩
    have ok4 := ok2.mono (sm3.trans sm4)
    exact ⟨F4, ρ4, M4, _, g4, s4, q4, ⟨fun σ' H' F' ρ' M' sm' g' s' q' => ⟨F', ρ', M', ((sm2.trans sm3).trans sm4).trans sm', g', s', q'⟩, ok4.rt, ok4.nx, fun σ' H' F' ρ' M' sm' g' s' q' => ⟨F', ρ', M', ((sm2.trans sm3).trans sm4).trans sm', g', s', q'⟩, ok4.ex⟩⟩
  · have e : i = xs.length := by omega
    subst e
    rw [List.drop_length] at q2
    exact .inl ⟨(wk _ F2 H2 M2 sm2 g2).2 (Nat.le_refl _), ok2.nx _ _ F2 ρ2 M2 (Same.refl F2) g2 s2 q2⟩⟩
end
end DL
set_option Elab.async false
set_option linter.all false
set_option maxRecDepth 100000
set_option maxHeartbeats 2000000
namespace DL
open PySem L2
abbrev W0 : WX := fun _ _ _ _ => False
theorem wok0 {K : PySem.W.Frag} {cl : ClW} {F : Hp} : WOk K cl W0 F noX := fun _ _ _ _ _ _ _ _ _ _ _ _ _ h => h
theorem wipe_idem (σ : St) : ∀ vs : List Nat, ∀ ws : List Nat, (∀ v ∈ vs, v ∈ ws) -> wipe (wipe σ vs) ws = wipe σ ws
  | [], ws, _ => rfl
  | v :: vs, ws, h => by
    show wipe ((wipe σ vs).set v none) ws = wipe σ ws
    rw [wipe_set (h v List.mem_cons_self), wipe_idem σ vs ws fun x hx => h x (List.mem_cons_of_mem _ hx)]
theorem Slots.wipe {K : PySem.W.Frag} {cl : ClW} {F : Hp} {σ : St} {ρ : Env} (h : Slots K cl F σ ρ) : ∀ vs : List Nat, Slots K cl F (wipe σ vs) (wipeD ρ vs)
  | [] => h
  | v :: vs => (Slots.wipe h vs).setN v
structure DTs (cl : ClW) (X : Cx) (W : WX) (ifs : List Expr) (υ : DTT) : Prop where
  pts : PTs X ifs (lowT X.K cl W υ)
section
variable {cl : ClW} {X : Cx} {W : WX} {c : Expr} {υ : DTT}
theorem dts_nil : DTs cl X W [] dYes := ⟨⟨fun pins s σ H Q I ⟨F, ρ, M, Qd, Xd, g, sl, t, p, w⟩ => pts_nil.run pins s σ H Q I (p true H F M (Same.refl F) g t)⟩⟩
end
section
variable {cl : ClW} {X : Cx} {W : WX} {elt tg iter : Expr} {ifs : List Expr} {scope : Scope} {own : List (Str × Nat)} {pos : Pos} {ι : DTI} {is : List Nat} {γ : DTG} {υ : DTT} {τ : DTE}
theorem lc_lift {K : PySem.W.Frag} (his : ∀ i ∈ is, i ∈ own.map (·.2)) {σ : St} {H : Hp} {Q : VK} {F : Hp} {ρ : Env} {M : Mem} {Qd : DV} {Xd : DX} (g : Good K cl F H M) (s : Slots K cl F σ ρ) (q : dLc ι γ υ τ (own.map (·.2)) ρ M Qd Xd) (p : Post K cl F Q Qd) (w : WOk K cl W F Xd) :
    tLc (fun σ H R => ∃ F ρ M Rd Xd, Good K cl F H M /\ Slots K cl F σ ρ /\ ι ρ M Rd Xd /\ (∀ J H' F' xs M', Same F F' -> Good K cl F' H' M' -> Walks K cl J F' xs -> Rd xs M' -> R J H') /\ WOk K cl W F Xd)
      (fun v σ H Q => ∃ F ρ M d Qd Xd, Good K cl F H M /\ Slots K cl F σ ρ /\ Rep K cl F v d /\ γ d ρ M Qd Xd /\ (∀ σ' H' F' ρ' M', Same F F' -> Good K cl F' H' M' -> Slots K cl F' σ' ρ' -> (∀ vs : List Nat, (∀ i ∈ is, i ∈ vs) -> wipe σ' vs = wipe σ vs) -> Qd ρ' M' -> Q σ' H') /\ WOk K cl W0 F Xd)
      (lowT K cl W0 υ) (lowE K cl W0 τ) (own.map (·.2)) σ H Q := by
  refine ⟨F, ρ, M, _, Xd, g, s, q, fun J H1 F1 xs M1 sm1 g1 wk q1 a hD => ?_, w⟩
  refine ⟨fun i m H => m = xs.length - i /\ i <= xs.length /\ ∃ F' M, Same F1 F' /\ Good K cl F' H M /\ lcD γ υ τ (own.map (·.2)) a (xs.drop i) ρ M Qd,
    ⟨xs.length, by simp, Nat.zero_le _, F1, updM M1 a (.lst []), Same.refl F1, g1.newM (d := .lst []) hD ⟨[], upd_same, .nil⟩, by simpa using q1 a (g1.freshM hD)⟩, ?_⟩
  rintro i m H2 ⟨rfl, hi, F2, M2, sm2, g2, q2⟩
  by_cases hlt : i < xs.length
  · obtain ⟨go, yl⟩ := (wk i F2 H2 M2 sm2 g2).1 xs[i] (by simp [hlt])
    rw [List.drop_eq_getElem_cons hlt] at q2
    unfold lcD at q2
    refine .inr ⟨go, fun H' => ∃ F' M', Same F1 F' /\ Good K cl F' H' M' /\ lcD γ υ τ (own.map (·.2)) a (xs.drop (i + 1)) ρ M' Qd, fun H' n => ⟨xs.length - (i + 1), by omega, rfl, hlt, n⟩, fun x H3 y => ?_⟩
    obtain ⟨F3, sm3, g3, r3⟩ := yl x H3 y
    refine ⟨F3, wipeD ρ (own.map (·.2)), M2, xs[i], _, noX, g3, (s.mono ((sm1.trans sm2).trans sm3)).wipe _, r3, q2, fun σ4 H4 F4 ρ4 M4 sm4 g4 s4 w4 q4 => ⟨?_, ?_⟩, wok0⟩
    · rw [w4 _ his]
      exact wipe_idem _ _ _ fun _ h => h
    · refine ⟨F4, ρ4, M4, _, noX, g4, s4, q4, fun k H5 F5 M5 sm5 g5 q5 => ?_, wok0⟩
      cases k with
      | true =>
        rw [if_pos rfl] at q5 ⊢
        refine ⟨F5, ρ4, M5, _, noX, g5, s4.mono sm5, q5, fun y2 H6 F6 d M6 sm6 g6 r6 q6 => ?_, wok0⟩
        obtain ⟨acc, e1, e2, q6⟩ := q6
        obtain ⟨hF, vs, h1, h2⟩ := g6.cell a _ e1
        refine ⟨vs, h1, by rw [h2.length]; exact e2, F6, _, (((sm2.trans sm3).trans sm4).trans sm5).trans sm6, g6.put (d := .lst (acc ++ [d])) e1 ⟨vs ++ [y2], upd_same, h2.append (.one r6)⟩, q6⟩
      | false =>
        rw [if_neg Bool.false_ne_true] at q5 ⊢
        exact ⟨F5, M5, ((sm2.trans sm3).trans sm4).trans sm5, g5, q5⟩
  · have e : i = xs.length := by omega
    subst e
    rw [List.drop_length] at q2
    obtain ⟨ds, e1, q2⟩ := q2
    obtain ⟨F3, sm3, g3, r3⟩ := g2.freeze e1
    exact .inl ⟨(wk _ F2 H2 M2 sm2 g2).2 (Nat.le_refl _), p _ _ _ _ _ ((sm1.trans sm2).trans sm3) g3 r3 q2⟩
theorem d_lc (hc : X.calm = true) (hN : X.N.Nodup) (hi : DI cl X W tg iter ι) (ok : BlkOk X.N X.env.scope scope own)
    (hg : ∀ (s : Shared) (H : Hp) (C : Addr) (cs : List (Str × Addr)) (fp : List Addr), DG cl (X.blk s H scope (compEnvC scope cs C X.env) fp) W0 tg is γ) (ht : ∀ (s : Shared) (H : Hp) (C : Addr) (cs : List (Str × Addr)) (fp : List Addr), DTs cl (X.blk s H scope (compEnvC scope cs C X.env) fp) W0 ifs υ)
    (he : ∀ (s : Shared) (H : Hp) (C : Addr) (cs : List (Str × Addr)) (fp : List Addr), DE cl (X.blk s H scope (compEnvC scope cs C X.env) fp) W0 elt τ) (his : ∀ i ∈ is, i ∈ own.map (·.2) := by decide) (hs : ∀ x, foldedSetIterable iter X.env x = pure x := by intro _; rfl) :
    DE cl X W (.ListComp elt [⟨tg, iter, ifs, 0⟩] scope pos) (dLc ι γ υ τ (own.map (·.2))) :=
  ⟨pe_imp (pe_lc hc hN hi.pi ok (fun s H C cs fp => (hg s H C cs fp).pg) (fun s H C cs fp => (ht s H C cs fp).pts) (fun s H C cs fp => (he s H C cs fp).pe) hs) fun σ H Q ⟨F, ρ, M, Qd, Xd, g, s, q, p, w⟩ => lc_lift his g s q p w⟩
theorem ds_setLc {y : Str} {py spos : Pos} (i : Nat) (hc : X.calm = true) (hN : X.N.Nodup) (hi : DI cl X W tg iter ι) (ok : BlkOk X.N X.env.scope scope own)
    (hg : ∀ (s : Shared) (H : Hp) (C : Addr) (cs : List (Str × Addr)) (fp : List Addr), DG cl (X.blk s H scope (compEnvC scope cs C X.env) fp) W0 tg is γ) (ht : ∀ (s : Shared) (H : Hp) (C : Addr) (cs : List (Str × Addr)) (fp : List Addr), DTs cl (X.blk s H scope (compEnvC scope cs C X.env) fp) W0 ifs υ)
    (he : ∀ (s : Shared) (H : Hp) (C : Addr) (cs : List (Str × Addr)) (fp : List Addr), DE cl (X.blk s H scope (compEnvC scope cs C X.env) fp) W0 elt τ) (hy : X.N[i]? = some y := by rfl) (hyl : X.env.scope.names.lookup y = some .local := by rfl)
    (hsw : swapsWith (.ListComp elt [⟨tg, iter, ifs, 0⟩] scope pos) (some (.Name y py)) spos.line X.env = pure true := by exact sw_true rfl rfl rfl (by decide +kernel)) (his : ∀ i ∈ is, i ∈ own.map (·.2) := by decide) (hs : ∀ x, foldedSetIterable iter X.env x = pure x := by intro _; rfl) :
    DS cl X W (.Assign [.Name y py] (.ListComp elt [⟨tg, iter, ifs, 0⟩] scope pos) spos) (dAsg (dLc ι γ υ τ (own.map (·.2))) (gN i)) :=
  ⟨ps_imp (ps_setLc hc hN hy hyl hsw hi.pi ok (fun s H C cs fp => (hg s H C cs fp).pg) (fun s H C cs fp => (ht s H C cs fp).pts) (fun s H C cs fp => (he s H C cs fp).pe) hs) fun D σ H ⟨F, ρ, M, E, g, s, q, ok⟩ =>
    lc_lift his g s q (fun v H' F' d M' sm g' r q' => ok.nx _ _ _ _ _ sm g' ((s.mono sm).set i r) q') ok.ex⟩
end
structure RoomG (k : Nat) (A : Around) : Prop where
  room : Room k A
  gd : A.guards = some []
theorem RoomG.mono {j k : Nat} {A : Around} (r : RoomG k A) (h : j <= k) : RoomG j A := ⟨r.room.mono h, r.gd⟩
theorem RoomG.deeper {k : Nat} {A : Around} (r : RoomG (k + 1) A) (env : PySem.Env) : RoomG k (A.deeper env) := ⟨r.room.deeper env, r.gd⟩
structure FnG (cl : ClW) (P : Program) (w : World) (K : PySem.W.Frag) (mg : Str -> Option Value) (base : Heap) (k : Nat) (f : Addr) (fd : FuncData) (ps : List Str) (spd : SpD) : Prop where
  len : ∀ ds M Q E, spd ds M Q E -> ds.length = ps.length
  run : ∀ (A : Around) (outer : List PySem.Env) (s : Shared) (H : Hp) (args : Args) (us : List Value) (vs : List V) (Q : VK) (E : XK), RoomG k A -> Env0 P w K mg base A outer s H -> BindsTo s fd args (ps.zip us) -> Vals vs us -> lower K cl spd vs H Q E ->
    codeAny (model P w) A (.call (.ref f) args) (CR (L2.CX P w) outer P w H s Q E) s
theorem FnG.mono {cl : ClW} {P : Program} {w : World} {K : PySem.W.Frag} {mg : Str -> Option Value} {base : Heap} {j k : Nat} {f : Addr} {fd : FuncData} {ps : List Str} {spd : SpD} (F : FnG cl P w K mg base j f fd ps spd) (h : j <= k) : FnG cl P w K mg base k f fd ps spd :=
  ⟨F.len, fun A outer s H args us vs Q E hr => F.run A outer s H args us vs Q E (hr.mono h)⟩
theorem FnG.lenV {cl : ClW} {P : Program} {w : World} {K : PySem.W.Frag} {mg : Str -> Option Value} {base : Heap} {k : Nat} {f : Addr} {fd : FuncData} {ps : List Str} {spd : SpD} (F : FnG cl P w K mg base k f fd ps spd) {vs : List V} {H : Hp} {Q : VK} {E : XK} (h : lower K cl spd vs H Q E) : vs.length = ps.length := by
  obtain ⟨_, M, ds, Qd, Ed, _, r, q, _⟩ := h
  rw [r.length]
  exact F.len ds M Qd Ed q
structure Cap (X : Cx) (W : WX) (k : Nat) : Prop where
  tk : Takes X W
  hr : RoomG k X.A
  po : PassesOwn (model X.prog X.w) X.A X.env X.xe
  calm : X.calm = true
theorem Cap.blk {X : Cx} {W : WX} {k : Nat} (c : Cap X W k) {s : Shared} {H : Hp} {scope : Scope} {cenv : PySem.Env} {fp : List Addr} : Cap (X.blk s H scope cenv fp) W0 k := ⟨takes0, c.hr, PassesOwn.never, c.calm⟩
@[simp] def startD (N : List Str) (ds : List D) : Env := ds.map some ++ List.replicate (N.length - ds.length) none
theorem slots_start {K : PySem.W.Frag} {cl : ClW} {F : Hp} {vs : List V} {ds : List D} (N : List Str) (r : Reps K cl F vs ds) : Slots K cl F (L2.start N vs) (startD N ds) := by
  have hl := r.length
  refine ⟨by simp [L2.start, startD, hl], fun i d h => ?_⟩
  unfold startD at h
  unfold L2.start
  by_cases hi : i < ds.length
  · rw [List.getElem?_append_left (by simpa using hi)] at h
    rw [List.getElem?_append_left (by simp [hl]; exact hi)]
    rw [List.getElem?_map] at h
    cases e : ds[i]? with
    | none => rw [e] at h; cases h
    | some x =>
      rw [e] at h
      cases h
      obtain ⟨v, hv, rv⟩ := r.get e
      exact ⟨v, by rw [List.getElem?_map, hv]; rfl, rv⟩
  · rw [List.getElem?_append_right (by simpa using Nat.le_of_not_lt hi)] at h
    rw [List.getElem?_replicate] at h
    split at h <;> cases h
@[simp] def dEnds (Q : DV) (E : DEK) : DEnds := { nx := fun _ M => Q .non M, rt := Q, bk := fun _ _ => False, ct := fun _ _ => False, ex := fun c ns ds _ M => E c ns ds M }
theorem fn_d {cl : ClW} {P : Program} {w : World} {K : PySem.W.Frag} {mg : Str -> Option Value} {base : Heap} {k : Nat} {f : Addr} {x qual : Str} {params : Arguments} {body : List Stmt} {scope : Scope} {dvs : List V} {kws : List (Str × V)} {fd : FuncData} {N ps : List Str} {spd : SpD}
    (F : FunD K x qual params body scope dvs kws f fd) (S : FnScope N ps scope) (t : DTS)
    (hbody : ∀ (cdv : Value) (A : Around) (outer : List PySem.Env) (s : Shared) (H : Hp) (E : XK), Cap (cxOf (L2.CX P w) P w K mg base N qual scope f cdv A outer s H E) (fun cls d _ H => E cls d H) k ->
      DSs cl (cxOf (L2.CX P w) P w K mg base N qual scope f cdv A outer s H E) (fun cls d _ H => E cls d H) body t)
    (hsp : ∀ ds M Q E, spd ds M Q E -> ds.length = ps.length /\ t (dEnds Q E) (startD N ds) M) : FnG cl P w K mg base (k + 1) f fd ps spd := by
  refine ⟨fun ds M Q E h => (hsp ds M Q E h).1, fun A outer s H args us vs Q E hr e0 hb r hl => ?_⟩
  obtain ⟨oc, od, dV, kV, doc, pm, an, cdv, ct, osl, rfl, lk, hcd, _, _⟩ := F.ex
  have lenV : ∀ vs H Q E, lower K cl spd vs H Q E -> vs.length = ps.length := fun vs H Q E ⟨_, M, ds, Qd, Ed, _, r, q, _⟩ => by
    rw [r.length]
    exact (hsp ds M Qd Ed q).1
  have hr' := hr.deeper (PyProof.Rows.envOfC qual scope s.heap.objs.size f cdv)
  have KX : K.In s.heap := e0.mod.kin.keeps fun b o e => (e0.bs b o e).1
  have lim : s.heap.NoLimit := e0.mod.nolimit.keeps fun b o e => (e0.bs b o e).1
  have hkind : ∀ y ∈ ps.zip us, scope.names.lookup y.1 = some .local \/ (scope.names.lookup y.1 = some .cell /\ ((cellsFrom (s.heap.objs.size + 1) scope.names []).lookup y.1).isSome = true) := fun ⟨n, v⟩ hy => by
    rcases S.par n (List.of_mem_zip hy).1 with q | q
    · exact .inl q
    · exact .inr ⟨q, PySem.W.cellsFrom_some _ _ _ (.inl q)⟩
  refine codeAny_call_function hr.room.depth (KX _ _ lk) rfl S.co S.gen rfl (PySem.W.codeRec_of KX hcd) (hb _ _ _ _ ?_)
  refine wpAny_newFunctionEnv_cells S.kind hkind fun env he s1 x => ?_
  subst he
  refine ⟨lim.keeps x.toInCall.keep, codeAny_func ?_⟩
  have ht := hbody cdv A outer s H E ⟨takes_of rfl rfl rfl rfl, hr', passes_of rfl, rfl⟩
  have I : Inv (cxOf (L2.CX P w) P w K mg base N qual scope f cdv A outer s H E) [] (L2.start N vs) H s1 := inv_start S hr.room.hd e0 (lenV _ _ _ _ hl) r x
  obtain ⟨F0, M0, ds0, Qd, Ed, g0, r0, q0, p0, ep0⟩ := hl
  have hq : lowS K cl (fun cls d _ H => E cls d H) t { nx := fun _ H' => Q .non H', rt := Q } (L2.start N vs) H :=
    ⟨F0, startD N ds0, M0, dEnds Qd Ed, g0, slots_start N r0, (hsp ds0 M0 Qd Ed q0).2,
      ⟨fun σ' H' F' ρ' M' sm g' s' q' => p0 _ _ _ _ _ sm g' .non q', p0, fun _ _ _ _ _ _ _ _ q' => q', fun _ _ _ _ _ _ _ _ q' => q', fun c ns ds σ' H' F' ρ' M' dd sm g' s' ea q' => ep0 _ _ _ _ _ _ _ sm g' ea q'⟩⟩
  refine wpAny_mono (ht.pss.run [] s1 (L2.start N vs) H _ I hq) (fun fl s' hs => ?_) fun e s' hs => hs
  have fin : ∀ {σ' : St} {H' : Hp} {v : V} {u : Value}, Inv (cxOf (L2.CX P w) P w K mg base N qual scope f cdv A outer s H E) [] σ' H' s' -> RelV v u -> Q v H' -> CE outer P w H s Q u s' :=
    fun {σ' H' v u} J rv q => ⟨v, H', J.os, J.bare, J.base, J.hok, rv, q⟩
  cases fl with
  | ret u =>
    obtain ⟨v, σ', H', J, rv, q⟩ := hs
    exact fin J rv q
  | next =>
    obtain ⟨σ', H', J, q⟩ := hs
    exact fin (v := V.non) (u := Value.none) J rfl q
  | brk =>
    obtain ⟨_, _, _, q⟩ := hs
    exact False.elim q
  | cont =>
    obtain ⟨_, _, _, q⟩ := hs
    exact False.elim q
@[simp] def dCall (spd : SpD) (dds : List D) (α : DTA) : DTE := fun ρ M Q X => α ρ M (fun ds M1 => spd (ds ++ dds) M1 Q (fun c ns es M2 => X c ns es ρ M2)) X
section
variable {cl : ClW} {X : Cx} {W : WX} {k : Nat} {f C : Addr} {fd : FuncData} {ps : List Str} {spd : SpD} {dvs : List V} {ds : List Value} {dds : List D} {x m : Str} {p pos apos : Pos} {e o : Expr} {es : List Expr} {τ : DTE} {α : DTA}
theorem run_g {pins : List (Addr × Obj)} {σ : St} {H : Hp} {s : Shared} {Q : VK} {us : List Value} {vs : List V} (c : Cap X W k) (F : FnG cl X.prog X.w X.K X.mg X.base k f fd ps spd) (hb : Binds X.K fd ps ds) (hd : Vals dvs ds)
    (I : Inv X pins σ H s) (r : Vals vs us) (h : lower X.K cl spd (vs ++ dvs) H Q (WE W σ)) : wpAny (model X.prog X.w) X.A (call (.ref f) us) (EP X pins σ Q) X.xe s := by
  have r2 : Vals (vs ++ dvs) (us ++ ds) := r.append hd
  have hl : (us ++ ds).length = ps.length := by rw [<- r2.length]; exact F.lenV h
  refine wpAny_call (codeAny_mono (F.run X.A X.stack s H ⟨us, []⟩ (us ++ ds) (vs ++ dvs) Q _ c.hr I.env0 (hb s us I.kIn hl) r2 h) fun r s' hq => ?_)
  cases r with
  | error e => exact passAt c.tk σ pins H s e s' I hq
  | ok fl =>
    cases fl with
    | ret u => exact I.after hq
    | next => exact False.elim hq
    | brk => exact False.elim hq
    | cont => exact False.elim hq
theorem low_call {σ : St} {F : Hp} {ρ : Env} {M : Mem} {Qd : DV} {Xd : DX} {vs : List V} {es : List D} {H : Hp} {Q : VK} {K : PySem.W.Frag} (g : Good K cl F H M) (s : Slots K cl F σ ρ) (r : Reps K cl F vs es) (q : spd es M Qd (fun c ns es M2 => Xd c ns es ρ M2)) (p : Post K cl F Q Qd) (w : WOk K cl W F Xd) : lower K cl spd vs H Q (WE W σ) :=
  ⟨F, M, es, Qd, _, g, r, q, p, fun c ns ds H' F' M' dd sm g' ea q' => w c ns ds σ H' F' ρ M' dd sm g' (s.mono sm) ea q'⟩
theorem d_call (c : Cap X W k) (G : FnG cl X.prog X.w X.K X.mg X.base k f fd ps spd) (hg : Gl X x) (hm : X.mg x = some (.ref f)) (hk : PySem.W.keepIn X.K (.ref f) = true) (hb : Binds X.K fd ps ds) (hd : Vals dvs ds) (hdd : ∀ F, Reps X.K cl F dvs dds)
    (ha : DA cl X W (e :: es) α) (hdb : (x == ("__debug__" : Str)) = false := by decide) (he : starEach (e :: es) X.env = (false, eval e X.env) :: starEach es X.env := by rfl) (hpl : (backTo pos (starEach es X.env)).any (·.1) = false := by rfl) :
    DE cl X W (.Call (.Name x p) (e :: es) [] pos) (dCall spd dds α) := ⟨⟨fun pins s σ H Q I h => by
  obtain ⟨F, ρ, M, Qd, Xd, g, sl, q, p, w⟩ := h
  refine wpAny_Call_Name_kw (ld_glob I hg hm ?_ hdb)
  refine PySem.W.callWith_K (h₀ := X.base) I.ok.mod.kin hk (thn (ha.pa.run pos pins s σ H (fun vs H1 => lower X.K cl spd (vs ++ dvs) H1 Q (WE W σ)) I ⟨F, ρ, M, _, Xd, g, sl, q, fun vs H' F' ds M' sm g' r q' => ?_, w⟩) fun us s1 ⟨vs, H1, I1, r, q⟩ => ⟨I1.kIn, ?_⟩) he hpl
  · exact low_call g' (sl.mono sm) (r.append (hdd F')) q' (p.mono sm) (w.mono sm)
  · exact run_g c G hb hd I1 r q⟩⟩
end
end DL
set_option Elab.async false
set_option linter.all false
set_option maxRecDepth 100000
set_option maxHeartbeats 2000000
namespace DL
open PySem L2
mutual
def toPy : D -> Option PyData
  | .non => some .none
  | .bl b => some (.bool b)
  | .int i => some (.int i)
  | .str x => some (.str x)
  | .lst xs => (toPys xs).map .list
  | .tup xs => (toPys xs).map .tuple
  | _ => none
def toPys : List D -> Option (List PyData)
  | [] => some []
  | x :: xs => match toPy x, toPys xs with
    | some p, some ps => some (p :: ps)
    | _, _ => none
end
section
variable {K : PySem.W.Frag} {cl : ClW} {F H : Hp}
mutual
theorem dp_of (s : Same F H) : ∀ (d : D) (v : V) (p : PyData), Rep K cl F v d -> toPy d = some p -> Dp K H v p
  | .non, v, p, r, e => by simp only [toPy] at e; cases e; rw [r.toNon]; exact .non
  | .bl b, v, p, r, e => by simp only [toPy] at e; cases e; rw [r.toBl]; exact .bl b
  | .int i, v, p, r, e => by simp only [toPy] at e; cases e; rw [r.toInt]; exact .int i
  | .str x, v, p, r, e => by simp only [toPy] at e; cases e; rw [r.toStr]; exact .str x
  | .lst xs, v, p, r, e => by
    simp only [toPy] at e
    obtain ⟨a, vs, rfl, h1, h2⟩ := r.toLst
    cases q : toPys xs with
    | none => rw [q] at e; cases e
    | some ps => rw [q] at e; cases e; exact .lst (same_l s h1) (dps_of s xs vs ps h2 q)
  | .tup xs, v, p, r, e => by
    simp only [toPy] at e
    obtain ⟨a, vs, rfl, h1, h2⟩ := r.toTup
    cases q : toPys xs with
    | none => rw [q] at e; cases e
    | some ps => rw [q] at e; cases e; exact .tup (same_t s h1) (dps_of s xs vs ps h2 q)
  | .byt _, v, p, r, e => by simp only [toPy] at e; cases e
  | .ty _, v, p, r, e => by simp only [toPy] at e; cases e
  | .ref _, v, p, r, e => by simp only [toPy] at e; cases e
  | .dK _ _, v, p, r, e => by simp only [toPy] at e; cases e
  | .dT _ _ _, v, p, r, e => by simp only [toPy] at e; cases e
  | .obj _ _ _, v, p, r, e => by simp only [toPy] at e; cases e
  | .cls _, v, p, r, e => by simp only [toPy] at e; cases e
  | .exc _ _ _ _ _, v, p, r, e => by simp only [toPy] at e; cases e
  | .xob _ _ _, v, p, r, e => by simp only [toPy] at e; cases e
  | .thk _ _ _ _ _, v, p, r, e => by simp only [toPy] at e; cases e
  | .dN _ _ _, v, p, r, e => by simp only [toPy] at e; cases e
  | .fn _ _, v, p, r, e => by simp only [toPy] at e; cases e
  | .cel _ _, v, p, r, e => by simp only [toPy] at e; cases e
theorem dps_of (s : Same F H) : ∀ (ds : List D) (vs : List V) (ps : List PyData), Reps K cl F vs ds -> toPys ds = some ps -> DpAll K H vs ps
  | [], vs, ps, r, e => by simp only [toPys] at e; cases e; rw [r.inv0]; exact .nil
  | d :: ds, vs, ps, r, e => by
    obtain ⟨v, ws, rfl, r1, r2⟩ := r.inv
    simp only [toPys] at e
    cases q1 : toPy d with
    | none => rw [q1] at e; cases e
    | some p =>
      cases q2 : toPys ds with
      | none => rw [q1, q2] at e; cases e
      | some qs => rw [q1, q2] at e; cases e; exact .cons (dp_of s d v p r1 q1) (dps_of s ds ws qs r2 q2)
end
theorem dp_vw (s : Same F H) {v : V} {d : D} {p : PyData} (h : Vw K cl F H v d) (e : toPy d = some p) : Dp K H v p := by
  rcases h with h | ⟨a, rfl, h⟩
  · exact dp_of s d v p h e
  · cases d with
    | lst ds =>
      obtain ⟨vs, h1, h2⟩ := h
      simp only [toPy] at e
      cases q : toPys ds with
      | none => rw [q] at e; cases e
      | some ps => rw [q] at e; cases e; exact .lst (SqL.of h1) (dps_of s ds vs ps h2 q)
    | dK _ _ => simp only [toPy] at e; cases e
    | dT _ _ _ => simp only [toPy] at e; cases e
    | obj _ _ _ => simp only [toPy] at e; cases e
    | dN _ _ _ => simp only [toPy] at e; cases e
    | cel _ _ => simp only [toPy] at e; cases e
    | _ => exact h.elim
end
def eqP (d e : D) : Option Bool := match toPy d, toPy e with
  | some p, some q => if SeqAt.shaped p && SeqAt.shaped q then some (PyData.eqv p q) else none
  | _, _ => none
def eqB : D -> D -> Option Bool
  | .int i, .int j => some (i == j)
  | .str x, .str y => some (x == y)
  | .bl x, .bl y => some (x == y)
  | .byt x, .byt y => some (x == y)
  | .non, .non => some true
  | .non, .int _ => some false
  | .non, .str _ => some false
  | .int _, .non => some false
  | .str _, .non => some false
  | .int _, .str _ => some false
  | .str _, .int _ => some false
  | d, e => eqP d e
def eqD (d e : D) : Option D := (eqB d e).map D.bl
def neD (d e : D) : Option D := (eqB d e).map fun b => D.bl !b
section
variable {K : PySem.W.Frag} {cl : ClW} {X : Cx}
theorem eqP_inv {d e : D} {b : Bool} (h : eqP d e = some b) : ∃ p q, toPy d = some p /\ toPy e = some q /\ SeqAt.shaped p = true /\ SeqAt.shaped q = true /\ b = PyData.eqv p q := by
  unfold eqP at h
  cases e1 : toPy d with
  | none => rw [e1] at h; cases h
  | some p =>
    cases e2 : toPy e with
    | none => rw [e1, e2] at h; cases h
    | some q =>
      rw [e1, e2] at h
      simp only at h
      split at h
      · rename_i hs
        cases h
        obtain ⟨h1, h2⟩ := Bool.and_eq_true_iff.mp hs
        exact ⟨p, q, rfl, rfl, h1, h2, rfl⟩
      · cases h
def rEqA (K : PySem.W.Frag) : R2 := fun x y H Q => rEq x y H Q \/ rEqD K x y H Q
def rNeA (K : PySem.W.Frag) : R2 := fun x y H Q => rNe x y H Q \/ rNeD K x y H Q
theorem op_eqA (hu : X.A.units + 64 < cLine) : OpR X (compareOp .Eq) (rEqA X.K) := op_eq.or (op_eqD hu)
theorem op_neA (hu : X.A.units + 64 < cLine) : OpR X (compareOp .NotEq) (rNeA X.K) := op_ne.or (op_neD hu)
theorem eqB_at {F H : Hp} (s : Same F H) {x y : V} {d e : D} {b : Bool} (hx : Vw K cl F H x d) (hy : Vw K cl F H y e) (h : eqB d e = some b) :
    (scal x y = true /\ decide (x = y) = b) \/ ∃ p q, Dp K H x p /\ Dp K H y q /\ SeqAt.shaped p = true /\ SeqAt.shaped q = true /\ b = PyData.eqv p q := by
  unfold eqB at h
  split at h
  · cases h; rw [hx.int, hy.int]; exact .inl ⟨rfl, dec_int⟩
  · cases h; rw [hx.str, hy.str]; exact .inl ⟨rfl, dec_str⟩
  · cases h; rw [hx.bl, hy.bl]; exact .inl ⟨rfl, dec_bl⟩
  · cases h
    rw [hx.byt, hy.byt]
    refine .inl ⟨rfl, ?_⟩
    rename_i x1 y1
    by_cases e : x1 = y1
    · subst e; simp
    · rw [decide_eq_false (fun z => e (V.byt.inj z))]
      exact (beq_eq_false_iff_ne.mpr e).symm
  · cases h; rw [hx.non, hy.non]; exact .inl ⟨rfl, rfl⟩
  · cases h; rw [hx.non, hy.int]; exact .inl ⟨rfl, rfl⟩
  · cases h; rw [hx.non, hy.str]; exact .inl ⟨rfl, rfl⟩
  · cases h; rw [hx.int, hy.non]; exact .inl ⟨rfl, rfl⟩
  · cases h; rw [hx.str, hy.non]; exact .inl ⟨rfl, rfl⟩
  · cases h; rw [hx.int, hy.str]; exact .inl ⟨rfl, rfl⟩
  · cases h; rw [hx.str, hy.int]; exact .inl ⟨rfl, rfl⟩
  · obtain ⟨p, q, h1, h2, h3, h4, h5⟩ := eqP_inv h
    exact .inr ⟨p, q, dp_vw s hx h1, dp_vw s hy h2, h3, h4, h5⟩
theorem lop_eq : LOp K cl (rEqA K) eqD := by
  intro F H M x y d e z Q Qd g hx hy h p q
  unfold eqD at h
  cases e1 : eqB d e with
  | none => rw [e1] at h; cases h
  | some b =>
    rw [e1] at h
    cases h
    rcases eqB_at g.sub hx hy e1 with ⟨h1, h2⟩ | ⟨pd, pe, h1, h2, h3, h4, rfl⟩
    · exact .inl ⟨h1, by rw [h2]; exact p.val g (.bl _) q⟩
    · exact .inr ⟨pd, pe, h1, h2, h3, h4, p.val g (.bl _) q⟩
theorem lop_ne : LOp K cl (rNeA K) neD := by
  intro F H M x y d e z Q Qd g hx hy h p q
  unfold neD at h
  cases e1 : eqB d e with
  | none => rw [e1] at h; cases h
  | some b =>
    rw [e1] at h
    cases h
    rcases eqB_at g.sub hx hy e1 with ⟨h1, h2⟩ | ⟨pd, pe, h1, h2, h3, h4, rfl⟩
    · exact .inl ⟨h1, by rw [h2]; exact p.val g (.bl _) q⟩
    · exact .inr ⟨pd, pe, h1, h2, h3, h4, p.val g (.bl _) q⟩
def absF : List D -> Option D
  | [.int i] => some (.int (if i < 0 then -i else i))
  | _ => none
def intF : List D -> Option D
  | [.int i] => some (.int i)
  | [.bl b] => some (.int (if b then 1 else 0))
  | _ => none
def lenF : List D -> Option D
  | [.lst xs] => some (.int xs.length)
  | [.tup xs] => some (.int xs.length)
  | [.str x] => if x.length <= sizeLine then some (.int x.length) else none
  | [.byt x] => if x.size <= sizeLine then some (.int x.size) else none
  | _ => none
def intsOf : List D -> Option (List Int)
  | [] => some []
  | .int i :: r => (intsOf r).map (i :: ·)
  | _ :: _ => none
theorem intsOf_eq : ∀ {ds : List D} {ns : List Int}, intsOf ds = some ns -> ds = ns.map D.int
  | [], ns, h => by simp only [intsOf] at h; cases h; rfl
  | d :: ds, ns, h => by
    cases d with
    | int i =>
      simp only [intsOf] at h
      cases e : intsOf ds with
      | none => rw [e] at h; cases h
      | some ms => rw [e] at h; cases h; rw [intsOf_eq e]; rfl
    | _ => simp only [intsOf] at h; cases h
theorem intsOf_map (ns : List Int) : intsOf (ns.map D.int) = some ns := by
  induction ns with
  | nil => rfl
  | cons n ns ih => simp only [List.map_cons, intsOf, ih]; rfl
def minF : List D -> Option D
  | [.lst xs] => (intsOf xs).bind fun ns => ns.min?.map D.int
  | [.int i, .int j] => some (.int (if j < i then j else i))
  | _ => none
def maxF : List D -> Option D
  | [.lst xs] => (intsOf xs).bind fun ns => ns.max?.map D.int
  | [.int i, .int j] => some (.int (if j > i then j else i))
  | _ => none
def reprF : List D -> Option D
  | [d] => match toPy d with
    | some p => if p.showable && SeqAt.shaped p && decide (p.shown.length <= sizeLine) then some (.str p.shown) else none
    | none => none
  | _ => none
theorem reps1 {F : Hp} {M : Mem} {H : Hp} (g : Good K cl F H M) {xs : List V} {ds : List D} {d : D} (r : Reps K cl F xs ds) (e : ds.map (vw M) = [d]) : ∃ x, xs = [x] /\ Vw K cl F H x d := by
  cases ds with
  | nil => cases e
  | cons a t =>
    cases t with
    | nil =>
      obtain ⟨x, ws, rfl, r1, r2⟩ := r.inv
      obtain rfl := r2.inv0
      simp only [List.map_cons, List.map_nil, List.cons.injEq, and_true] at e
      exact ⟨x, rfl, e ▸ vw_ok g r1⟩
    | cons b t => simp at e
theorem reps2 {F : Hp} {M : Mem} {H : Hp} (g : Good K cl F H M) {xs : List V} {ds : List D} {d e' : D} (r : Reps K cl F xs ds) (e : ds.map (vw M) = [d, e']) : ∃ x y, xs = [x, y] /\ Vw K cl F H x d /\ Vw K cl F H y e' := by
  cases ds with
  | nil => cases e
  | cons a t =>
    cases t with
    | nil => simp at e
    | cons b t =>
      cases t with
      | nil =>
        obtain ⟨x, ws, rfl, r1, r2⟩ := r.inv
        obtain ⟨y, ws, rfl, r3, r4⟩ := r2.inv
        obtain rfl := r4.inv0
        simp only [List.map_cons, List.map_nil, List.cons.injEq, and_true] at e
        exact ⟨x, y, rfl, e.1 ▸ vw_ok g r1, e.2 ▸ vw_ok g r3⟩
      | cons c t => simp at e
theorem lc_abs : LCall K cl (fun xs H Q => ∃ i, xs = [.int i] /\ Q (.int (if i < 0 then -i else i)) H) absF := by
  intro F H M xs ds z Q Qd g r h p q
  generalize e : ds.map (vw M) = es at h
  unfold absF at h
  split at h
  · cases h
    obtain ⟨x, rfl, hv⟩ := reps1 g r e
    obtain rfl := hv.int
    exact ⟨_, rfl, p.val g (.int _) q⟩
  · cases h
theorem lc_int : LCall K cl (fun xs H Q => (∃ i, xs = [.int i] /\ Q (.int i) H) \/ ∃ k, xs = [.bl k] /\ Q (.int (if k then 1 else 0)) H) intF := by
  intro F H M xs ds z Q Qd g r h p q
  generalize e : ds.map (vw M) = es at h
  unfold intF at h
  split at h
  · cases h
    obtain ⟨x, rfl, hv⟩ := reps1 g r e
    obtain rfl := hv.int
    exact .inl ⟨_, rfl, p.val g (.int _) q⟩
  · cases h
    obtain ⟨x, rfl, hv⟩ := reps1 g r e
    obtain rfl := hv.bl
    exact .inr ⟨_, rfl, p.val g (.int _) q⟩
  · cases h
theorem lc_len : LCall K cl (fun xs H Q => ∃ x n, xs = [x] /\ LenV K x H n /\ Q (.int n) H) lenF := by
  intro F H M xs ds z Q Qd g r h p q
  generalize e : ds.map (vw M) = es at h
  unfold lenF at h
  split at h
  · cases h
    obtain ⟨x, rfl, hv⟩ := reps1 g r e
    obtain ⟨a, vs, rfl, h1, h2⟩ := hv.lst g.sub
    exact ⟨_, _, rfl, .inl ⟨vs, h1, rfl⟩, by rw [h2.length]; exact p.val g (.int _) q⟩
  · cases h
    obtain ⟨x, rfl, hv⟩ := reps1 g r e
    obtain ⟨a, vs, rfl, h1, h2⟩ := hv.tup g.sub
    exact ⟨_, _, rfl, .inr ⟨vs, h1, rfl⟩, by rw [h2.length]; exact p.val g (.int _) q⟩
  · split at h
    · cases h
      obtain ⟨x, rfl, hv⟩ := reps1 g r e
      obtain rfl := hv.str
      exact ⟨_, _, rfl, ⟨by assumption, rfl⟩, p.val g (.int _) q⟩
    · cases h
  · split at h
    · cases h
      obtain ⟨x, rfl, hv⟩ := reps1 g r e
      obtain rfl := hv.byt
      exact ⟨_, _, rfl, ⟨by assumption, rfl⟩, p.val g (.int _) q⟩
    · cases h
  · cases h
def rRepr (K : PySem.W.Frag) : List V -> Hp -> VK -> Prop := fun xs H Q => ∃ x p, xs = [x] /\ Dp K H x p /\ p.showable = true /\ SeqAt.shaped p = true /\ p.shown.length <= sizeLine /\ Q (.str p.shown) H
theorem call_repr {k : Nat} (hr : RoomG k X.A) : CallR X (.builtin "repr") (rRepr X.K) := by
  intro pins s σ H xs us Q I r h
  obtain ⟨x, p, rfl, hd, hs, hp, hz, q⟩ := h
  obtain ⟨u, rfl, ru⟩ := vals1 r
  obtain ⟨as, rd⟩ := Dp.reads I p x u hd ru
  have un := hr.room.un
  have dp := SeqAt.depth_of_shaped hp
  cases hd with
  | non => cases ru; exact PySem.P.repr_of_none ⟨.str _, H, I.tok _, ⟨_, rfl⟩, q⟩
  | bl b =>
    cases ru
    refine PySem.P.repr_of_bool ⟨.str _, H, I.tok _, ⟨_, rfl⟩, ?_⟩
    simpa [PyData.shown] using q
  | int i =>
    obtain ⟨t, rfl⟩ := ru
    refine PySem.P.repr_of_int (by simpa [PyData.showable] using hs) ⟨.str _, H, I.tok _, ⟨_, rfl⟩, ?_⟩
    simpa [PyData.shown] using q
  | str z =>
    obtain ⟨t, rfl⟩ := ru
    refine PySem.P.repr_of_str ⟨.str _, H, I.tok _, ⟨_, rfl⟩, ?_⟩ (by simpa [PyData.shown] using hz)
    simpa [PyData.shown] using q
  | lst h1 h2 =>
    cases ru
    exact PySem.repr_of_reads' rd hs (PyData.noDict_hsm (PyData.hasDict_of_canLay _ (SeqAt.canLay_of_shaped hp))) hr.gd (by omega) (fun _ _ e => e) (fun h' t tk kp => ⟨.str _, H, I.kept (t' := tk) kp, ⟨_, rfl⟩, q⟩) hz
  | tup h1 h2 =>
    cases ru
    exact PySem.repr_of_reads' rd hs (PyData.noDict_hsm (PyData.hasDict_of_canLay _ (SeqAt.canLay_of_shaped hp))) hr.gd (by omega) (fun _ _ e => e) (fun h' t tk kp => ⟨.str _, H, I.kept (t' := tk) kp, ⟨_, rfl⟩, q⟩) hz
theorem lc_repr : LCall K cl (rRepr K) reprF := by
  intro F H M xs ds z Q Qd g r h p q
  generalize e : ds.map (vw M) = es at h
  unfold reprF at h
  split at h
  · rename_i d
    obtain ⟨x, rfl, hv⟩ := reps1 g r e
    cases e2 : toPy d with
    | none => rw [e2] at h; cases h
    | some pd =>
      rw [e2] at h
      simp only at h
      split at h
      · rename_i hs
        cases h
        obtain ⟨h12, h3⟩ := Bool.and_eq_true_iff.mp hs
        obtain ⟨h1, h2⟩ := Bool.and_eq_true_iff.mp h12
        exact ⟨x, pd, rfl, dp_vw g.sub hv e2, h1, h2, of_decide_eq_true h3, p.val g (.str _) q⟩
      · cases h
  · cases h
def tyName : D -> Option String
  | .non => some "NoneType"
  | .bl _ => some "bool"
  | .int _ => some "int"
  | .str _ => some "str"
  | .byt _ => some "bytes"
  | .lst _ => some "list"
  | .tup _ => some "tuple"
  | .dK _ _ => some "dict"
  | _ => none
def tyNames : List String := ["NoneType", "bool", "int", "str", "bytes", "list", "tuple", "dict"]
def isTy (a b : String) : Bool := a == b || (a == "bool" && b == "int")
theorem isTy_kit : ∀ a ∈ tyNames, ∀ b ∈ tyNames, kitB a b = some (isTy a b) := by decide +kernel
theorem tyName_mem {d : D} {n : String} (h : tyName d = some n) : n ∈ tyNames := by
  cases d <;> simp only [tyName] at h <;> first | (cases h; decide) | cases h
theorem tyX_of {F H : Hp} (s : Same F H) {v : V} {d : D} {n : String} (h : Vw K cl F H v d) (e : tyName d = some n) : TyX K H v (.type n) := by
  cases d with
  | non => cases e; rw [h.non]; exact .base .non
  | bl b => cases e; rw [h.bl]; exact .base (.bl b)
  | int i => cases e; rw [h.int]; exact .base (.int i)
  | str x => cases e; rw [h.str]; exact .base (.str x)
  | byt b => cases e; rw [h.byt]; exact .byt b
  | lst ds =>
    cases e
    obtain ⟨a, vs, rfl, h1, h2⟩ := h.lst s
    rcases h1 with (h1 | ⟨o, h1⟩) | ⟨o, its, n, h1, h3, _⟩
    · exact .base (.lst h1)
    · exact .base (.frz h1)
    · exact .kList h1 h3
  | tup ds =>
    cases e
    obtain ⟨a, vs, rfl, h1, h2⟩ := h.tup s
    rcases h1 with (h1 | ⟨o, h1⟩) | ⟨o, its, n, h1, h3, _⟩
    · exact .base (.tup h1)
    · exact .fTuple h1
    · exact .kTuple h1 h3
  | dK ks ds =>
    cases e
    rcases h with h | ⟨a, rfl, vs, h1, _⟩
    · cases h with | dK h1 _ _ => exact .base (.dK (s _ _ h1))
    · exact .base (.dK h1)
  | _ => cases e
def isiF : List D -> Option D
  | [d, .ty n] => match tyName d with
    | some a => if n ∈ tyNames then some (.bl (isTy a n)) else none
    | none => none
  | [d, .tup ts] => match tyName d with
    | some a => if ts.all (fun t => match t with | .ty n => decide (n ∈ tyNames) | _ => false) then some (.bl (ts.any fun t => match t with | .ty n => isTy a n | _ => false)) else none
    | none => none
  | _ => none
theorem kitAny_of {a : String} (ha : a ∈ tyNames) : ∀ {F : Hp} {vs : List V} {ts : List D}, Reps K cl F vs ts -> ts.all (fun t => match t with | .ty n => decide (n ∈ tyNames) | _ => false) = true ->
    ∃ us, Paired ClsV vs us /\ PySem.W.kitAny K (.type a) us = some (ts.any fun t => match t with | .ty n => isTy a n | _ => false)
  | F, vs, [], r, _ => by
    obtain rfl := r.inv0
    exact ⟨[], .nil, kitAny_nil⟩
  | F, vs, t :: ts, r, h => by
    obtain ⟨v, ws, rfl, r1, r2⟩ := r.inv
    rw [List.all_cons] at h
    obtain ⟨h1, h2⟩ := Bool.and_eq_true_iff.mp h
    obtain ⟨us, hp, hk⟩ := kitAny_of ha r2 h2
    cases t with
    | ty n =>
      have hn : n ∈ tyNames := of_decide_eq_true h1
      rw [r1.toTy]
      refine ⟨.type n :: us, .cons (.ty n) hp, ?_⟩
      have k1 : PySem.W.kitOne K (.type a) (.type n) = some (isTy a n) := kit_ty (isTy_kit a ha n hn)
      rw [List.any_cons]
      refine kitAny_cons k1 (fun e => ?_) fun e => ?_
      · simp only [e, Bool.false_or]; exact hk
      · simp only [e, Bool.true_or]
    | _ => cases h1
theorem lc_isi : LCall K cl (fun xs H Q => rIsi K xs H Q \/ rIsiT K xs H Q \/ rIsiK K xs H Q) isiF := by
  intro F H M xs ds z Q Qd g r h p q
  generalize e : ds.map (vw M) = es at h
  unfold isiF at h
  split at h
  · rename_i d n
    obtain ⟨x, y, rfl, hv, hw⟩ := reps2 g r e
    cases e2 : tyName d with
    | none => rw [e2] at h; cases h
    | some a =>
      rw [e2] at h
      simp only at h
      split at h
      · rename_i hn
        cases h
        have hy : y = .ty n := by
          rcases hw with hw | ⟨_, _, hw⟩
          · exact hw.toTy
          · exact hw.elim
        subst hy
        exact .inl ⟨x, .ty n, .type a, .type n, _, rfl, .ty n, tyX_of g.sub hv e2, kit_ty (isTy_kit a (tyName_mem e2) n hn), p.val g (.bl _) q⟩
      · cases h
  · rename_i d ts
    obtain ⟨x, y, rfl, hv, hw⟩ := reps2 g r e
    cases e2 : tyName d with
    | none => rw [e2] at h; cases h
    | some a =>
      rw [e2] at h
      simp only at h
      split at h
      · rename_i hn
        cases h
        rcases hw with hw | ⟨_, _, hw⟩
        · obtain ⟨b, vs, rfl, h1, h2⟩ := hw.toTup1
          obtain ⟨us, hp, hk⟩ := kitAny_of (tyName_mem e2) h2 hn
          rcases h1 with h1 | ⟨⟨oc, od, dt, sl⟩, its, n, h1, h3, h4, h5, h6⟩
          · exact .inr (.inl ⟨x, b, vs, .type a, us, _, rfl, g.sub _ _ h1, hp, tyX_of g.sub hv e2, hk, p.val g (.bl _) q⟩)
          · simp only at h3 h4
            subst h3 h4
            have e3 := ClsV.all hp h6
            refine .inr (.inr ⟨x, b, od, us, n, sl, .type a, _, rfl, ?_, tyX_of g.sub hv e2, hk, p.val g (.bl _) q⟩)
            rw [<- e3]
            simpa using h1
        · exact hw.elim
      · cases h
  · cases h
end
end DL
set_option Elab.async false
set_option linter.all false
set_option autoImplicit false
set_option maxRecDepth 100000
set_option maxHeartbeats 2000000
namespace DL
open PySem L2 PySem.W PySem.Spec
def FnB (cl : ClW) (P : Program) (w : World) (K : Frag) (mg : Str -> Option Value) (base : Heap) (k : Nat) (x : Str) (ps : List Str) (spd : SpD) : Prop :=
  ∃ f fd, mg x = some (.ref f) /\ keepIn K (.ref f) = true /\ Binds K fd ps [] /\ FnG cl P w K mg base k f fd ps spd
section
variable {cl : ClW} {X : Cx} {W : WX} {j k : Nat} {ps : List Str} {spd : SpD} {x : Str} {p pos : Pos} {e : Expr} {es : List Expr} {α : DTA}
theorem d_fn (c : Cap X W k) (G : FnB cl X.prog X.w X.K X.mg X.base j x ps spd) (hj : j <= k) (hg : Gl X x) (ha : DA cl X W (e :: es) α)
    (hdb : (x == ("__debug__" : Str)) = false := by decide) (he : starEach (e :: es) X.env = (false, eval e X.env) :: starEach es X.env := by rfl) (hpl : (backTo pos (starEach es X.env)).any (·.1) = false := by rfl) :
    DE cl X W (.Call (.Name x p) (e :: es) [] pos) (dCall spd [] α) := by
  obtain ⟨f, fd, h1, h2, h3, h4⟩ := G
  exact d_call c (h4.mono hj) hg h1 h2 h3 .nil (fun _ => .nil) ha hdb he hpl
theorem d_bltn {v : V} {u : Value} {d : D} (hg : Gl X x) (hm : X.mg x = none) (hv : bootBuiltins x = some u) (r : RelV v u) (rd : ∀ F, Rep X.K cl F v d) (hn : x ≠ "__name__" := by decide) (hd : (x == ("__debug__" : Str)) = false := by decide) : DE cl X W (.Name x pos) (dC d) :=
  d_c (pe_bltn hg hm hv r hn hd) rd
theorem d_ty {n : String} (hg : Gl X x) (hm : X.mg x = none) (hv : bootBuiltins x = some (.type n)) (hn : x ≠ "__name__" := by decide) (hd : (x == ("__debug__" : Str)) = false := by decide) : DE cl X W (.Name x pos) (dC (.ty n)) :=
  d_bltn (v := .ty n) hg hm hv rfl (fun _ => .ty n) hn hd
end
end DL
set_option Elab.async false
set_option linter.all false
set_option autoImplicit false
namespace DL
open PySem L2
@[simp] theorem size_line : sizeLine = 16777216 := sizeLine_eq
@[simp] theorem and_flat (a b c : Prop) : ((a /\ b) /\ c) = (a /\ b /\ c) := propext and_assoc
section
variable {M : Mem} {i j : Int} {b : Bool} {x y : Str} {xs ys : List D} {d e : D} {a : Addr}
@[simp] theorem vw_non : vw M .non = .non := rfl
@[simp] theorem vw_bl : vw M (.bl b) = .bl b := rfl
@[simp] theorem vw_int : vw M (.int i) = .int i := rfl
@[simp] theorem vw_str : vw M (.str x) = .str x := rfl
@[simp] theorem vw_byt {z : Array UInt8} : vw M (.byt z) = .byt z := rfl
@[simp] theorem vw_ty {n : String} : vw M (.ty n) = .ty n := rfl
@[simp] theorem vw_lst : vw M (.lst xs) = .lst xs := rfl
@[simp] theorem vw_tup : vw M (.tup xs) = .tup xs := rfl
@[simp] theorem vw_dK {ks : List Key} : vw M (.dK ks xs) = .dK ks xs := rfl
@[simp] theorem vw_dT {ep : Nat} {ks : List (List (Option Key))} : vw M (.dT ep ks xs) = .dT ep ks xs := rfl
@[simp] theorem vw_obj {c : Nat} {ns : List Str} : vw M (.obj c ns xs) = .obj c ns xs := rfl
@[simp] theorem vw_cls {c : Nat} : vw M (.cls c) = .cls c := rfl
theorem vw_ref (h : M a = some d) : vw M (.ref a) = d := by show (M a).getD _ = d; rw [h]; rfl
@[simp] theorem addD_int : addD (.int i) (.int j) = some (.int (i + j)) := rfl
@[simp] theorem addD_lst (h : xs.length + ys.length <= 16777216) : addD (.lst xs) (.lst ys) = some (.lst (xs ++ ys)) := if_pos (by rw [sizeLine_eq]; exact h)
@[simp] theorem addD_tup (h : xs.length + ys.length <= 16777216) : addD (.tup xs) (.tup ys) = some (.tup (xs ++ ys)) := if_pos (by rw [sizeLine_eq]; exact h)
@[simp] theorem addD_str (h : x.length + y.length <= 16777216) : addD (.str x) (.str y) = some (.str (x ++ y)) := if_pos (by rw [sizeLine_eq]; exact h)
@[simp] theorem mulD_int (h : (-18446744073709551616 < i /\ i < 18446744073709551616) \/ (-18446744073709551616 < j /\ j < 18446744073709551616)) : mulD (.int i) (.int j) = some (.int (i * j)) := if_pos h
@[simp] theorem fdivD_int (h : 0 < j) (h2 : j < 1000000000000000000000000000000000000) : fdivD (.int i) (.int j) = some (.int (i / j)) := if_pos ⟨h, Int.lt_trans h2 (by decide)⟩
@[simp] theorem modD_int (h : 0 < j) : modD (.int i) (.int j) = some (.int (i % j)) := if_pos h
@[simp] theorem absF_int : absF [.int i] = some (.int (if i < 0 then -i else i)) := rfl
@[simp] theorem intF_int : intF [.int i] = some (.int i) := rfl
@[simp] theorem intF_bl : intF [.bl b] = some (.int (if b then 1 else 0)) := rfl
@[simp] theorem vw_upd : vw (updM M a d) (.ref a) = d := by show (updM M a d a).getD _ = d; rw [updM_same]; rfl
@[simp] theorem upd_at : updM M a d a = some d := updM_same
@[simp] theorem powD_int : powD (.int i) (.int j) = if 0 <= j /\ j <= 1000000 /\ i.natAbs < 2 ^ 64 then some (.int (i ^ j.toNat)) else none := rfl
@[simp] theorem ixD_lst : ixD (.lst xs) (.int i) = atI xs i := rfl
@[simp] theorem ixD_tup : ixD (.tup xs) (.int i) = atI xs i := rfl
@[simp] theorem slD_lst {lo hi : Option Int} : slD (.lst xs) lo hi = some (.lst (cutD xs lo hi)) := rfl
@[simp] theorem slD_tup {lo hi : Option Int} : slD (.tup xs) lo hi = some (.tup (cutD xs lo hi)) := rfl
@[simp] theorem lenF_lst : lenF [.lst xs] = some (.int xs.length) := rfl
@[simp] theorem lenF_tup : lenF [.tup xs] = some (.int xs.length) := rfl
@[simp] theorem minF_2 : minF [.int i, .int j] = some (.int (if j < i then j else i)) := rfl
@[simp] theorem maxF_2 : maxF [.int i, .int j] = some (.int (if j > i then j else i)) := rfl
@[simp] theorem minF_l : minF [.lst xs] = (intsOf xs).bind fun ns => ns.min?.map D.int := rfl
@[simp] theorem maxF_l : maxF [.lst xs] = (intsOf xs).bind fun ns => ns.max?.map D.int := rfl
@[simp] theorem intsOf_nil : intsOf [] = some [] := rfl
@[simp] theorem intsOf_cons : intsOf (.int i :: xs) = (intsOf xs).map (i :: ·) := rfl
@[simp] theorem intsOf_ints (ns : List Int) : intsOf (ns.map D.int) = some ns := intsOf_map ns
theorem atI_at {α : Type} {l : List α} {k : Int} (h0 : 0 <= k) (h1 : k < l.length) : atI l k = l[k.toNat]? := by
  obtain ⟨n, rfl⟩ := Int.eq_ofNat_of_zero_le h0
  have hn : n < l.length := by omega
  rw [Int.toNat_natCast, List.getElem?_eq_getElem hn]
  exact atI_nat (List.getElem?_eq_getElem hn)
@[simp] theorem atI_0 {α : Type} {u : α} {l : List α} : atI (u :: l) 0 = some u := atI_nat (j := 0) rfl
@[simp] theorem atI_1 {α : Type} {u v : α} {l : List α} : atI (u :: v :: l) 1 = some v := atI_nat (j := 1) rfl
@[simp] theorem atI_2 {α : Type} {u v w : α} {l : List α} : atI (u :: v :: w :: l) 2 = some w := atI_nat (j := 2) rfl
@[simp] theorem atI_3 {α : Type} {u v w z : α} {l : List α} : atI (u :: v :: w :: z :: l) 3 = some z := atI_nat (j := 3) rfl
@[simp] theorem atI_4 {α : Type} {u v w z y : α} {l : List α} : atI (u :: v :: w :: z :: y :: l) 4 = some y := atI_nat (j := 4) rfl
@[simp] theorem eqD_tup : eqD (.tup xs) (.tup ys) = (eqP (.tup xs) (.tup ys)).map D.bl := rfl
@[simp] theorem neD_tup : neD (.tup xs) (.tup ys) = (eqP (.tup xs) (.tup ys)).map fun b => D.bl !b := rfl
@[simp] theorem eqD_lst : eqD (.lst xs) (.lst ys) = (eqP (.lst xs) (.lst ys)).map D.bl := rfl
@[simp] theorem neD_lst : neD (.lst xs) (.lst ys) = (eqP (.lst xs) (.lst ys)).map fun b => D.bl !b := rfl
@[simp] theorem eqD_int : eqD (.int i) (.int j) = some (.bl (i == j)) := rfl
@[simp] theorem neD_int : neD (.int i) (.int j) = some (.bl (!(i == j))) := rfl
@[simp] theorem eqD_str : eqD (.str x) (.str y) = some (.bl (x == y)) := rfl
@[simp] theorem neD_str : neD (.str x) (.str y) = some (.bl (!(x == y))) := rfl
@[simp] theorem eqD_bl {c : Bool} : eqD (.bl b) (.bl c) = some (.bl (b == c)) := rfl
@[simp] theorem neD_bl {c : Bool} : neD (.bl b) (.bl c) = some (.bl (!(b == c))) := rfl
end
end DL
set_option Elab.async false
set_option linter.all false
set_option maxRecDepth 100000
set_option maxHeartbeats 2000000
set_option autoImplicit false
namespace DL
open PySem L2
def setN (f : Str) : List Str -> List Str
  | [] => [f]
  | g :: r => if g = f then g :: r else g :: setN f r
def setV {α : Type} (f : Str) (d : α) : List Str -> List α -> List α
  | g :: r, e :: es => if g = f then d :: es else e :: setV f d r es
  | _, _ => [d]
def lookN {α : Type} (f : Str) : List Str -> List α -> Option α
  | g :: r, e :: es => if g = f then some e else lookN f r es
  | _, _ => none
theorem lookN_zip {α : Type} (f : Str) : ∀ (ns : List Str) (vs : List α), (ns.zip vs).lookup f = lookN f ns vs
  | [], _ => by simp [lookN]
  | _ :: _, [] => by simp [lookN]
  | n :: ns, v :: vs => by
    show (match f == n with | true => some v | false => (ns.zip vs).lookup f) = if n = f then some v else lookN f ns vs
    rw [lookN_zip f ns vs]
    by_cases e : n = f
    · subst e; simp
    · rw [if_neg e, beq_eq_false_iff_ne.mpr (Ne.symm e)]
section
variable {K : PySem.W.Frag} {cl : ClW} {F : Hp}
theorem reps_lookN {f : Str} : ∀ {ns : List Str} {vs : List V} {ds : List D} {d : D}, Reps K cl F vs ds -> lookN f ns ds = some d -> ∃ v, lookN f ns vs = some v /\ Rep K cl F v d
  | [], vs, ds, d, r, h => by cases ds <;> simp [lookN] at h
  | n :: ns, _, _, d, .nil, h => by simp [lookN] at h
  | n :: ns, _, _, d, .cons (v := v) (d := e) r t, h => by
    have h : (if n = f then some e else lookN f ns _) = some d := h
    show ∃ w, (if n = f then some v else lookN f ns _) = some w /\ Rep K cl F w d
    by_cases q : n = f
    · simp only [if_pos q] at h ⊢
      cases h
      exact ⟨v, rfl, r⟩
    · simp only [if_neg q] at h ⊢
      exact reps_lookN t h
end
section
variable {cl : ClW} {X : Cx} {W : WX} {o e : Expr} {es : List Expr} {pos : Pos} {τ τo τv : DTE} {α : DTA} {f : Str} {cs : List Nat}
end
section
variable {cl : ClW} {X : Cx} {W : WX} {j k c : Nat} {ps : List Str} {spd : SpD} {x : Str} {p pos : Pos} {e : Expr} {es : List Expr} {α : DTA}
end
section
variable {cl : ClW} {X : Cx} {W : WX} {k : Nat} {m : Str} {p pos apos : Pos} {o e : Expr} {es : List Expr} {τ : DTE} {α : DTA} {tb : List (Nat × SpD)} {pl : Sem Bool}
end
end DL
set_option Elab.async false
set_option linter.all false
set_option maxRecDepth 100000
set_option maxHeartbeats 2000000
set_option autoImplicit false
namespace DL
open PySem L2
def blsOf : List D -> Option (List Bool)
  | [] => some []
  | .bl i :: r => (blsOf r).map (i :: ·)
  | _ :: _ => none
@[simp] theorem blsOf_map (ns : List Bool) : blsOf (ns.map D.bl) = some ns := by
  induction ns with
  | nil => rfl
  | cons n ns ih => simp only [List.map_cons, blsOf, ih]; rfl
def allF : List D -> Option D
  | [.lst xs] => (blsOf xs).map fun bs => .bl (bs.all id)
  | _ => none
def anyF : List D -> Option D
  | [.lst xs] => (blsOf xs).map fun bs => .bl (bs.any id)
  | _ => none
def tupF : List D -> Option D
  | [.lst xs] => some (.tup xs)
  | [.tup xs] => some (.tup xs)
  | _ => none
def lstF : List D -> Option D
  | [.lst xs] => some (.lst xs)
  | [.tup xs] => some (.lst xs)
  | _ => none
section
variable {K : PySem.W.Frag} {cl : ClW} {F : Hp}
theorem lc_tup : LCall K cl (fun xs H Q => ∃ p ys, xs = [.ref p] /\ ((SqL K H p ys /\ ∀ l, H l = none -> Q (.ref l) (upd H l (.tup ys))) \/ (SqT K H p ys /\ Q (.ref p) H))) tupF := by
  intro F H M xs ds z Q Qd g r h p q
  generalize e : ds.map (vw M) = es at h
  unfold tupF at h
  split at h
  · obtain ⟨x, rfl, hv⟩ := reps1 g r e
    obtain ⟨a, vs, rfl, h1, h2⟩ := hv.lst g.sub
    cases h
    exact ⟨a, vs, rfl, .inl ⟨h1, fun l hl => p.newT g h2 q hl⟩⟩
  · obtain ⟨x, rfl, hv⟩ := reps1 g r e
    rcases hv with hv | ⟨_, _, hv⟩
    · obtain ⟨a, vs, rfl, h1, h2⟩ := hv.toTup
      cases h
      exact ⟨a, vs, rfl, .inr ⟨same_t g.sub h1, p.val g hv q⟩⟩
    · exact hv.elim
  · cases h
end
section
variable {cl : ClW} {X : Cx} {W : WX} {e : Expr} {es : List Expr} {pos p : Pos} {α : DTA}
end
@[simp] def flatD : D -> Bool
  | .non => true
  | .bl _ => true
  | .int _ => true
  | .str _ => true
  | _ => false
@[simp] def eqFD : D -> D -> Bool
  | .non, .non => true
  | .bl a, .bl b => a == b
  | .bl a, .int b => (if a then 1 else 0) == b
  | .int a, .bl b => a == (if b then 1 else 0)
  | .int a, .int b => a == b
  | .str a, .str b => a == b
  | _, _ => false
def keyD : D -> Option Key
  | .int i => some (.inl i)
  | .str x => some (.inr x)
  | _ => none
def inStr (x z : Str) : Bool := match x with
  | ⟨⟨[c]⟩⟩ => decide (c ∈ z.cps.toList)
  | x => !(Builtin.Str.occurrences z x 0 z.length 1).isEmpty
def inB (x : D) : D -> Option Bool
  | .lst xs => if flatD x && xs.all flatD then some (xs.any fun y => eqFD y x) else none
  | .tup xs => if flatD x && xs.all flatD then some (xs.any fun y => eqFD y x) else none
  | .str z => match x with
    | .str i => some (inStr i z)
    | _ => none
  | .dK ks _ => (keyD x).map fun k => ks.any fun j => decide (j = k)
  | _ => none
def inD (x y : D) : Option D := (inB x y).map D.bl
def ninD (x y : D) : Option D := (inB x y).map fun b => D.bl !b
section
variable {K : PySem.W.Frag} {cl : ClW} {F H : Hp} {X : Cx}
theorem flat_of {v : V} {d : D} (h : Vw K cl F H v d) (f : flatD d = true) : flatV v = true /\ Rep K cl F v d := by
  cases d with
  | non => obtain rfl := h.non; exact ⟨rfl, .non⟩
  | bl b => obtain rfl := h.bl; exact ⟨rfl, .bl b⟩
  | int b => obtain rfl := h.int; exact ⟨rfl, .int b⟩
  | str b => obtain rfl := h.str; exact ⟨rfl, .str b⟩
  | _ => cases f
theorem eq_of {v u : V} {d e : D} (h : Rep K cl F v d) (k : Rep K cl F u e) (f : flatD d = true) (f' : flatD e = true) : eqV v u = eqFD d e := by
  cases d with
  | non => obtain rfl := h.toNon; cases e with
    | non => obtain rfl := k.toNon; rfl
    | bl b => obtain rfl := k.toBl; rfl
    | int b => obtain rfl := k.toInt; rfl
    | str b => obtain rfl := k.toStr; rfl
    | _ => cases f'
  | bl b => obtain rfl := h.toBl; cases e with
    | non => obtain rfl := k.toNon; rfl
    | bl b => obtain rfl := k.toBl; rfl
    | int b => obtain rfl := k.toInt; rfl
    | str b => obtain rfl := k.toStr; rfl
    | _ => cases f'
  | int b => obtain rfl := h.toInt; cases e with
    | non => obtain rfl := k.toNon; rfl
    | bl b => obtain rfl := k.toBl; rfl
    | int b => obtain rfl := k.toInt; rfl
    | str b => obtain rfl := k.toStr; rfl
    | _ => cases f'
  | str b => obtain rfl := h.toStr; cases e with
    | non => obtain rfl := k.toNon; rfl
    | bl b => obtain rfl := k.toBl; rfl
    | int b => obtain rfl := k.toInt; rfl
    | str b => obtain rfl := k.toStr; rfl
    | _ => cases f'
  | _ => cases f
theorem flats_of {x : V} {d : D} (hx : Rep K cl F x d) (fd : flatD d = true) : ∀ {vs : List V} {ds : List D}, Reps K cl F vs ds -> ds.all flatD = true -> vs.all flatV = true /\ inV x vs = ds.any fun y => eqFD y d
  | _, _, .nil, _ => ⟨rfl, rfl⟩
  | _, _, .cons (v := v) (d := e) r t, f => by
    rw [List.all_cons, Bool.and_eq_true] at f
    obtain ⟨h1, h2⟩ := flats_of hx fd t f.2
    refine ⟨by rw [List.all_cons, (flat_of (H := F) (.inl r) f.1).1, h1]; rfl, ?_⟩
    unfold inV at h2 ⊢
    rw [List.any_cons, List.any_cons, h2, eq_of r hx f.1 fd]
theorem key_rep {v : V} {d : D} {k : Key} (h : Vw K cl F H v d) (e : keyD d = some k) : v = kV k := by
  cases d with
  | int i => cases e; exact h.int
  | str i => cases e; exact h.str
  | _ => cases e
theorem Vw.dK {v : V} {ks : List Key} {ds : List D} (g : Same F H) (h : Vw K cl F H v (.dK ks ds)) : ∃ a vs, v = .ref a /\ H a = some (.dK (ks.zip vs)) /\ ks.length = vs.length /\ Reps K cl F vs ds := by
  rcases h with h | ⟨a, rfl, vs, h1, h2, h3⟩
  · cases h with
    | dK h1 h2 h3 => exact ⟨_, _, rfl, g _ _ h1, h2, h3⟩
  · exact ⟨a, vs, rfl, h1, h2, h3⟩
def atK {α β : Type} [DecidableEq β] (k : β) : List β -> List α -> Option α
  | j :: ks, d :: ds => if j = k then some d else atK k ks ds
  | _, _ => none
theorem valV_zip {β : Type} [DecidableEq β] (k : β) : ∀ (ks : List β) (vs : List V), valV (ks.zip vs) k = atK k ks vs
  | [], _ => by simp [atK, valV]
  | _ :: _, [] => by simp [atK, valV]
  | j :: ks, v :: vs => by
    rw [List.zip_cons_cons]
    unfold atK
    by_cases e : j = k
    · rw [valV_pos e, if_pos e]
    · rw [valV_neg e, if_neg e, valV_zip k ks vs]
theorem atK_some {α β : Type} [DecidableEq β] (k : β) : ∀ (ks : List β) (vs : List α), ks.length = vs.length -> (atK k ks vs).isSome = ks.any fun j => decide (j = k)
  | [], _, _ => by simp [atK]
  | _ :: _, [], h => by simp at h
  | j :: ks, v :: vs, h => by
    unfold atK
    by_cases e : j = k
    · rw [if_pos e]; simp [e]
    · rw [if_neg e, atK_some k ks vs (by simpa using h)]
      simp [e]
theorem reps_atK {β : Type} [DecidableEq β] {k : β} : ∀ {ks : List β} {vs : List V} {ds : List D} {d : D}, Reps K cl F vs ds -> atK k ks ds = some d -> ∃ v, atK k ks vs = some v /\ Rep K cl F v d
  | [], vs, ds, d, r, h => by cases ds <;> simp [atK] at h
  | _ :: _, _, _, d, .nil, h => by simp [atK] at h
  | j :: ks, _, _, d, .cons (v := v) (d := e) r t, h => by
    unfold atK at h ⊢
    by_cases q : j = k
    · simp only [if_pos q] at h ⊢
      cases h
      exact ⟨v, rfl, r⟩
    · simp only [if_neg q] at h ⊢
      exact reps_atK t h
def rDIn (b : Bool) : R2 := fun y x H Q => ∃ a o, x = .ref a /\ DGet H a y o /\ Q (.bl (if b then o.isSome else !o.isSome)) H
theorem op_dIn (hu : X.A.units + 1 < cLine) : OpR X (compareOp .In) (rDIn true) := by
  intro pins s σ H x y v u Q I rx ry h
  obtain ⟨a, o, rfl, g, q⟩ := h
  cases ry
  exact d_in hu I g rx fun s' I' => ⟨.bl _, H, I', rfl, q⟩
def rSgn (n : Bool) : R2 := fun x y H Q => ∃ (c : Nat) (z : Str), x = .str ⟨#[c]⟩ /\ y = .str z /\ Q (.bl (if n then !decide (c ∈ z.cps.toList) else decide (c ∈ z.cps.toList))) H
def rStrIn (n : Bool) : R2 := fun x y H Q => ∃ i j, x = .str i /\ y = .str j /\ Q (.bl (if n then !(!(Builtin.Str.occurrences j i 0 j.length 1).isEmpty) else (!(Builtin.Str.occurrences j i 0 j.length 1).isEmpty))) H
def rInAll (K : PySem.W.Frag) (n : Bool) : R2 := fun x y H Q => rIn K n x y H Q \/ rSgn n x y H Q \/ rStrIn n x y H Q \/ rDIn (!n) x y H Q
theorem op_inA (hu : X.A.units + 1 < cLine) : OpR X (compareOp .In) (rInAll X.K false) := op_in_seq.or (op_in_sign.or (op_in_str.or (op_dIn hu)))
theorem in_at (s : Same F H) {n : Bool} {x y : V} {d e : D} {b : Bool} {Q : VK} (hx : Vw K cl F H x d) (hy : Vw K cl F H y e) (h : inB d e = some b) (q : Q (.bl (if n then !b else b)) H) : rInAll K n x y H Q := by
  cases e with
  | lst ds =>
    simp only [inB] at h
    split at h
    · rename_i hf
      cases h
      rw [Bool.and_eq_true] at hf
      obtain ⟨a, vs, rfl, h1, h2⟩ := hy.lst s
      obtain ⟨f1, r1⟩ := flat_of hx hf.1
      obtain ⟨f2, e2⟩ := flats_of r1 hf.1 h2 hf.2
      exact .inl ⟨a, vs, rfl, .inl h1, f1, f2, by rw [e2]; exact q⟩
    · cases h
  | tup ds =>
    simp only [inB] at h
    split at h
    · rename_i hf
      cases h
      rw [Bool.and_eq_true] at hf
      obtain ⟨a, vs, rfl, h1, h2⟩ := hy.tup s
      obtain ⟨f1, r1⟩ := flat_of hx hf.1
      obtain ⟨f2, e2⟩ := flats_of r1 hf.1 h2 hf.2
      exact .inl ⟨a, vs, rfl, .inr h1, f1, f2, by rw [e2]; exact q⟩
    · cases h
  | str z =>
    cases d with
    | str i =>
      simp only [inB] at h
      cases h
      obtain rfl := hx.str
      obtain rfl := hy.str
      by_cases hc : ∃ c, i = ⟨⟨[c]⟩⟩
      · obtain ⟨c, rfl⟩ := hc
        exact .inr (.inl ⟨c, z, rfl, rfl, q⟩)
      · have e1 : inStr i z = !(Builtin.Str.occurrences z i 0 z.length 1).isEmpty := by
          unfold inStr
          split
          · exact absurd ⟨_, rfl⟩ hc
          · rfl
        rw [e1] at q
        exact .inr (.inr (.inl ⟨_, z, rfl, rfl, q⟩))
    | _ => cases h
  | dK ks ds =>
    simp only [inB] at h
    cases e1 : keyD d with
    | none => rw [e1] at h; cases h
    | some k =>
      rw [e1] at h
      cases h
      obtain ⟨a, vs, rfl, h1, h2, h3⟩ := hy.dK s
      refine .inr (.inr (.inr ⟨a, _, rfl, by rw [key_rep hx e1]; exact DGet.k h1, ?_⟩))
      rw [valV_zip, atK_some k ks vs h2]
      cases n <;> exact q
  | _ => cases h
theorem lop_in : LOp K cl (rInAll K false) inD := by
  intro F H M x y d e z Q Qd g hx hy h p q
  unfold inD at h
  cases e1 : inB d e with
  | none => rw [e1] at h; cases h
  | some b => rw [e1] at h; cases h; exact in_at g.sub hx hy e1 (p.val g (.bl _) q)
def ixA : D -> D -> Option D
  | .dK ks ds, k => (keyD k).bind fun k => atK k ks ds
  | d, e => ixD d e
def rDIx : R2 := fun x y H Q => ∃ a v, x = .ref a /\ DGet H a y (some v) /\ Q v H
theorem ix_dict (hu : X.A.units + 1 < cLine) : IxR X rDIx := by
  intro value slice pins s σ H x y v u Q I rx ry h hs
  obtain ⟨a, z, rfl, g, q⟩ := h
  cases rx
  exact PyProof.Rows.tail_any (dict_typeIs I g) PySem.F.slot_dict_getitem.lookup (d_getItem hu I g ry fun w' s3 I3 rw' => ⟨z, H, I3, rw', q⟩) hs
theorem lixA : LOp K cl (fun x y H Q => rIx K x y H Q \/ rDIx x y H Q) ixA := by
  intro F H M x y d e z Q Qd g hx hy h p q
  unfold ixA at h
  split at h
  · rename_i ks ds
    cases e1 : keyD e with
    | none => rw [e1] at h; cases h
    | some k =>
      rw [e1] at h
      obtain ⟨a, vs, rfl, h1, h2, h3⟩ := hx.dK g.sub
      obtain ⟨v, h4, h5⟩ := reps_atK h3 h
      exact .inr ⟨a, v, rfl, by rw [key_rep hy e1, <- h4, <- valV_zip]; exact DGet.k h1, p.val g h5 q⟩
  · exact .inl (lix F H M x y d e z Q Qd g hx hy h p q)
variable {W : WX} {a b : Expr} {pos : Pos} {τa τb : DTE}
theorem d_ixA (hu : X.A.units + 1 < cLine) (ha : DE cl X W a τa) (hb : DE cl X W b τb) (hs : PlainIx b := by exact fun _ _ => rfl) : DE cl X W (.Subscript a b pos) (dOp ixA τa τb) :=
  ⟨pe_imp (pe_ix (ix_seq.or (ix_dict hu)) ha.pe hb.pe hs) fun σ H Q ⟨F, ρ, M, Qd, Xd, g, s, t, p, w⟩ =>
    ⟨F, ρ, M, _, Xd, g, s, t, fun v H' F' d M' sm g' r' q => ⟨F', ρ, M', _, Xd, g', s.mono sm, q, fun u H2 F2 e M2 sm2 g2 r2 q2 => by
      obtain ⟨z, e1, e2⟩ := q2
      exact lixA F2 H2 M2 v u _ _ z Q Qd g2 (vw_ok g2 (r'.mono sm2)) (vw_ok g2 r2) e1 (p.mono (sm.trans sm2)) e2, w.mono sm⟩, w⟩⟩
end
end DL
set_option Elab.async false
set_option linter.all false
set_option maxRecDepth 100000
set_option maxHeartbeats 4000000
set_option autoImplicit false
namespace DL
open PySem L2
section
open PySem.Spec PyProof.Rows HT
variable {prog : Program} {w : World} {A : Around} {E : Value -> Shared -> Prop} {s : Shared}
end
section
open PySem.Spec PyProof.Rows HT
variable {X : Cx}
end
@[simp] def revD : D -> Option D
  | .lst xs => some (.lst xs.reverse)
  | .tup xs => some (.tup xs.reverse)
  | _ => none
section
variable {cl : ClW} {X : Cx} {W : WX} {e : Expr} {τ : DTE} {pos : Pos}
end
def tyD (T : String) : D -> Bool
  | .lst _ => T == "list"
  | .str _ => T == "str"
  | .dK _ _ => T == "dict"
  | _ => false
def LMt (K : PySem.W.Frag) (cl : ClW) (r : V -> List V -> Hp -> VK -> Prop) (φ : D -> List D -> Mem -> DV -> Prop) : Prop :=
  ∀ F H M x xs d ds Q Qd, Good K cl F H M -> Rep K cl F x d -> Reps K cl F xs ds -> φ d ds M Qd -> Post K cl F Q Qd -> r x xs H Q
def dBM (T : String) (φ : D -> List D -> Mem -> DV -> Prop) (τ : DTE) (α : DTA) : DTE := fun ρ M Q X => τ ρ M (fun o M1 => tyD T (vw M1 o) = true /\ α ρ M1 (fun ds M2 => φ o ds M2 Q) X) X
section
variable {K : PySem.W.Frag} {cl : ClW} {F H : Hp} {X : Cx} {W : WX}
theorem tyV_of {T : String} {v : V} {d : D} (s : Same F H) (h : Vw K cl F H v d) (e : tyD T d = true) : tyV K T v H := by
  cases d with
  | lst ds =>
    obtain ⟨a, vs, rfl, h1, h2⟩ := h.lst s
    exact .inl ⟨eq_of_beq e, vs, h1⟩
  | str z =>
    obtain rfl := h.str
    exact eq_of_beq e
  | dK ks ds =>
    obtain ⟨a, vs, rfl, h1, h2, h3⟩ := h.dK s
    exact .inr (.inr (.inl ⟨eq_of_beq e, .inl ⟨_, h1⟩⟩))
  | _ => cases e
variable {o e : Expr} {es : List Expr} {τ : DTE} {α : DTA} {name : Str} {apos cpos : Pos} {T id : String} {r : V -> List V -> Hp -> VK -> Prop} {φ : D -> List D -> Mem -> DV -> Prop}
theorem d_bm (pa : PlainAttrs T) (slot : Slot T name id) (hty : typeOf (.builtin id) = pure (.type "method_descriptor")) (hm : MtR X id r) (hl : LMt X.K cl r φ) (ho : DE cl X W o τ) (ha : DA cl X W (e :: es) α)
    (hbase : attributeBase o name X.env (eval o X.env) = eval o X.env := by rfl)
    (hfew : ((backTo cpos (starEach (e :: es) X.env)).all (fun x => !x.1) && (backToKw cpos (keywordEach [] X.env)).all (fun x => x.1.isSome)
      && decide ((e :: es).length + ([] : List Keyword).length + (if ([] : List Keyword).isEmpty then 0 else 1) < 30)) = true := by rfl)
    (hline : (apos.endLine == cpos.line) = true := by rfl) (hs : starEach (e :: es) X.env = (false, eval e X.env) :: starEach es X.env := by rfl) (hplain : (backTo cpos (starEach es X.env)).any (·.1) = false := by rfl) :
    DE cl X W (.Call (.Attribute o name apos) (e :: es) [] cpos) (dBM T φ τ α) :=
  ⟨pe_imp (pe_bm pa slot hty hm ho.pe ha.pa hbase hfew hline hs hplain) fun σ H Q ⟨F, ρ, M, Qd, Xd, g, s, t, p, w⟩ => ⟨F, ρ, M, _, Xd, g, s, t, fun v H' F' d M' sm g' r' ⟨e1, q⟩ =>
    ⟨tyV_of g'.sub (vw_ok g' r') e1, F', ρ, M', _, Xd, g', s.mono sm, q, fun vs H2 F2 ds M2 sm2 g2 r2 q2 => hl F2 H2 M2 v vs d ds Q Qd g2 (r'.mono sm2) r2 q2 (p.mono (sm.trans sm2)), w.mono sm⟩, w⟩⟩
def φApp : D -> List D -> Mem -> DV -> Prop := fun o ds M Q => ∃ a xs d, o = .ref a /\ ds = [d] /\ M a = some (.lst xs) /\ xs.length < sizeLine /\ Q .non (updM M a (.lst (xs ++ [d])))
theorem lm_app : LMt K cl rAppend φApp := by
  intro F H M x xs d ds Q Qd g rx rs h p
  obtain ⟨a, ys, y, rfl, rfl, h1, h2, q⟩ := h
  obtain rfl := rx.toRef
  obtain ⟨hF, vs, h3, h4⟩ := g.cell a _ h1
  obtain ⟨v, ws, rfl, r1, r2⟩ := rs.inv
  obtain rfl := r2.inv0
  exact ⟨a, vs, v, rfl, rfl, h3, by rw [h4.length]; exact h2, p _ _ F _ _ (Same.refl F) (g.put (d := .lst (ys ++ [y])) h1 ⟨vs ++ [v], upd_same, h4.append (.one r1)⟩) .non q⟩
def rExtS (K : PySem.W.Frag) : V -> List V -> Hp -> VK -> Prop := fun x vs H Q => ∃ l b xs zs, x = .ref l /\ vs = [.ref b] /\ H l = some (.lst xs) /\ SqL K H b zs /\ xs.length + zs.length <= sizeLine /\ Q .non (upd H l (.lst (xs ++ zs)))
end
end DL
set_option Elab.async false
set_option linter.all false
set_option maxRecDepth 100000
set_option maxHeartbeats 4000000
set_option autoImplicit false
namespace DL
open PySem L2
theorem RoomG.u1 {k : Nat} {A : Around} (r : RoomG k A) : A.units + 1 < cLine := Nat.lt_of_le_of_lt (by omega) r.room.units
theorem list_extendW (l b : Addr) (items items2 : Array Value) (n n2 : Nat) (sl2 : Array (Option Value)) (hc0 : ¬(!items.isEmpty && Builtin.List.listTooLong (items.size + items2.size)) = true) (hc1 : items.size <= sizeLine) (hs2 : items.size + items2.size <= sizeLine + 1) :
    Meets (Builtin.«list.extend» ⟨[.ref l, .ref b], []⟩) (fun _ R s => s.heap.get? l = some { cls := .type "list", dict := none, data := .seq items n, slots := #[] } /\ s.heap.get? b = some { cls := .type "list", dict := none, data := .seq items2 n2, slots := sl2 } /\ R (.ok (.ret Value.none)) { s with heap := s.heap.update l (Obj.mapSeq fun x => x ++ items2), toks := s.toks }) :=
  .of_wp fun prog w A R s h => by
    obtain ⟨hp, g, d, tk, os⟩ := s; obtain ⟨hl, hb, h⟩ := h; have f1 := AutoSeq1.idx_int; have f2 := AutoSeq1.sub_tuple_tuple; have f3 := AutoSeq1.sub_list_list; have f4 := AutoSeq1.sub_tuple_list; have f5 := AutoSeq1.sub_list_tuple
    have hz' : (items ++ items2).size <= sizeLine + 1 := by rw [Array.size_append]; exact hs2
    wp_walk using (wpAny_updateSeq hl rfl (hz := hc1) (_hz' := hz')), AutoSeq1.wpAny_loadPart' hl, AutoSeq1.wpAny_loadPart' hb; exact ⟨_, rfl, h⟩
section
open PySem.Spec PyProof.Rows
variable {X : Cx}
theorem mt_extS : MtR X "list.extend" (rExtS X.K) := by
  intro pins s σ H x vs v us Q I rx rv h
  obtain ⟨l, b, xs, zs, rfl, rfl, hH, hB, hz, q⟩ := h
  cases rx
  obtain ⟨u, rfl, ru⟩ := rv.one
  cases ru
  obtain ⟨z, its, n, r, hl, e⟩ := I.lstM hH
  obtain ⟨its2, r2, ⟨o2, n2, ho2, hc2, hd2, hs2⟩, z2⟩ := I.list hB
  obtain ⟨c2, d2, t2, sl2⟩ := o2
  simp only at hc2 hd2 hs2
  subst hc2 hd2 hs2
  have hl2 := r2.length
  have hsz : its.toArray.size + its2.toArray.size <= sizeLine := by rw [List.size_toArray, List.size_toArray]; omega
  have hlong : ¬ (!its.toArray.isEmpty && Builtin.List.listTooLong (its.toArray.size + its2.toArray.size)) = true := by
    rw [notLongL hsz, Bool.and_false]
    exact Bool.false_ne_true
  refine call_meets PySem.F.slot_list_extend ⟨_, e, rfl⟩ PySem.F.entry_list_extend (PySem.F.args_list_extend_2 _ _)
    (list_extendW l b its.toArray its2.toArray n n2 sl2 hlong (by rw [List.size_toArray]; omega) (by omega)) ⟨e, ho2, ?_⟩
  refine ⟨.non, _, I.lset (its' := its ++ its2) hH e (by simp) (r.append r2) ?_, rfl, q⟩
  rw [List.length_append]
  omega
end
def φExt : D -> List D -> Mem -> DV -> Prop := fun o ds M Q => ∃ a xs d ys, o = .ref a /\ ds = [d] /\ vw M d = .lst ys /\ M a = some (.lst xs) /\ xs.length + ys.length <= sizeLine /\ Q .non (updM M a (.lst (xs ++ ys)))
section
variable {K : PySem.W.Frag} {cl : ClW}
theorem lm_ext : LMt K cl (rExtS K) φExt := by
  intro F H M x xs d ds Q Qd g rx rs h p
  obtain ⟨a, ys, y, zs, rfl, rfl, hv, h1, h2, q⟩ := h
  obtain rfl := rx.toRef
  obtain ⟨hF, vs, h3, h4⟩ := g.cell a _ h1
  obtain ⟨v, ws, rfl, r1, r2⟩ := rs.inv
  obtain rfl := r2.inv0
  have k := vw_ok g r1
  rw [hv] at k
  obtain ⟨b, us, rfl, k1, k2⟩ := k.lst g.sub
  exact ⟨a, b, vs, us, rfl, rfl, h3, k1, by rw [h4.length, k2.length]; exact h2, p _ _ F _ _ (Same.refl F) (g.put (d := .lst (ys ++ zs)) h1 ⟨vs ++ us, upd_same, h4.append k2⟩) .non q⟩
end
@[simp] def iEn (τ : DTE) : DTI := fun ρ M R X => τ ρ M (fun d M1 => ∃ xs, d = .lst xs /\ R (xs.zipIdx.map fun p => D.tup [.int (p.2 : Nat), p.1]) M1) X
@[simp] def iZp (τ τ' : DTE) : DTI := fun ρ M R X => τ ρ M (fun d M1 => τ' ρ M1 (fun e M2 => ∃ xs ys, d = .lst xs /\ e = .lst ys /\ R ((xs.zip ys).map fun p => D.tup [p.1, p.2]) M2) X) X
section
variable {cl : ClW} {X : Cx} {W : WX} {a b : Expr} {pos : Pos} {τa τb : DTE}
end
end DL
set_option Elab.async false
set_option linter.all false
set_option maxRecDepth 100000
set_option maxHeartbeats 4000000
set_option autoImplicit false
namespace DL
open PySem L2
def FnC (cl : ClW) (P : Program) (w : World) (K : PySem.W.Frag) (mg : Str -> Option Value) (base : Heap) (k : Nat) (x qual : Str) (params : Arguments) (body : List Stmt) (scope : Scope) (f : Addr) (ps : List Str) (spd : SpD) : Prop :=
  ∃ fd, FunD K x qual params body scope [] [] f fd /\ FnG cl P w K mg base k f fd ps spd
section
variable {cl : ClW} {P : Program} {w : World} {K : PySem.W.Frag} {mg : Str -> Option Value} {base : Heap} {k : Nat} {x qual : Str} {params : Arguments} {body : List Stmt} {scope : Scope} {N ps ks : List Str} {spd : SpD} {f : Addr} {t : DTS} {c n : Nat} {ord : List Nat} {m : Str}
theorem fnC_of (F : ∃ fd, FunD K x qual params body scope [] [] f fd) (S : FnScope N ps scope)
    (hbody : ∀ (cdv : Value) (A : Around) (outer : List PySem.Env) (s : Shared) (H : Hp) (E : XK), Cap (cxOf (L2.CX P w) P w K mg base N qual scope f cdv A outer s H E) (fun cls d _ H => E cls d H) k ->
      DSs cl (cxOf (L2.CX P w) P w K mg base N qual scope f cdv A outer s H E) (fun cls d _ H => E cls d H) body t)
    (hsp : ∀ ds M Q E, spd ds M Q E -> ds.length = ps.length /\ t (dEnds Q E) (startD N ds) M) : FnC cl P w K mg base (k + 1) x qual params body scope f ps spd := by
  obtain ⟨fd, F⟩ := F
  exact ⟨fd, F, fn_d F S t hbody hsp⟩
abbrev HBind (x qual : Str) (params : Arguments) (body : List Stmt) (scope : Scope) (ps : List Str) : Prop := ∀ (kV doc pm : Value) (an : Option Addr) (cdv ct : Value) (us : List Value), us.length = ps.length -> bindArgs (PySem.W.fnOf x qual params body scope .none kV doc pm an cdv ct) ⟨us, []⟩ = pure (ps.zip us)
theorem FnC.fn (C : FnC cl P w K mg base k x qual params body scope f ps spd) {y : Str} (hm : mg y = some (.ref f)) (hb : HBind x qual params body scope ps) : FnB cl P w K mg base k y ps spd := by
  obtain ⟨fd, F, G⟩ := C
  exact ⟨f, fd, hm, F.kp, F.bindsN hb, G⟩
end
structure DK (cl : ClW) (X : Cx) (W : WX) (kws : List Keyword) (τ : DTA) : Prop where
  pk : PK X kws (lowA X.K cl W τ)
section
variable {cl : ClW} {X : Cx} {W : WX} {e o : Expr} {es : List Expr} {kws : List Keyword} {nm : Option Str} {kpos pos apos p : Pos} {τ : DTE} {α β : DTA} {x m : Str} {n k j c : Nat} {ks ps : List Str} {ord : List Nat} {spd : SpD} {f : Addr} {fd : FuncData} {pl : Sem Bool}
end
end DL
set_option Elab.async false
set_option linter.all false
set_option maxRecDepth 100000
set_option maxHeartbeats 4000000
set_option autoImplicit false
namespace DL
open PySem L2
theorem forD_run {γ : DTG} {t : DTS} {E : DEnds} (xs : List D) (P : List D -> Env -> Mem -> Prop)
    (step : ∀ (done : List D) (x : D) (rest : List D) (ρ : Env) (M : Mem) (Nx : Env -> Mem -> Prop), xs = done ++ x :: rest -> P done ρ M -> (∀ ρ' M', P (done ++ [x]) ρ' M' -> Nx ρ' M') ->
      γ x ρ M (fun ρ2 M2 => t { E with nx := Nx, ct := Nx, bk := E.nx } ρ2 M2) E.ex)
    (fin : ∀ ρ M, P xs ρ M -> E.nx ρ M) {ρ : Env} {M : Mem} (h0 : P [] ρ M) : forD γ t xs E ρ M := by
  have go : ∀ (rest done : List D) (ρ : Env) (M : Mem), xs = done ++ rest -> P done ρ M -> forD γ t rest E ρ M := by
    intro rest
    induction rest with
    | nil =>
      intro done ρ M e p
      rw [List.append_nil] at e
      subst e
      exact fin ρ M p
    | cons x rest ih =>
      intro done ρ M e p
      exact step done x rest ρ M (forD γ t rest E) e p fun ρ' M' p' => ih (done ++ [x]) ρ' M' (by rw [e]; simp) p'
  exact go xs [] ρ M rfl h0
theorem lcD_run {γ : DTG} {υ : DTT} {τ : DTE} {vs : List Nat} {a : Addr} {Q : DV} {ρ : Env} (xs : List D) (P : List D -> List D -> Mem -> Prop)
    (step : ∀ (done : List D) (x : D) (rest acc : List D) (M : Mem) (Nx : Mem -> Prop), xs = done ++ x :: rest -> M a = some (.lst acc) -> P done acc M -> (∀ acc' M', M' a = some (.lst acc') -> P (done ++ [x]) acc' M' -> Nx M') ->
      γ x (wipeD ρ vs) M (fun ρ2 M2 => υ ρ2 M2 (fun b M3 => if b = true then τ ρ2 M3 (fun d M4 => ∃ acc, M4 a = some (.lst acc) /\ acc.length < sizeLine /\ Nx (updM M4 a (.lst (acc ++ [d])))) noX else Nx M3) noX) noX)
    (fin : ∀ acc M, M a = some (.lst acc) -> P xs acc M -> Q (.lst acc) (delM M a)) {M : Mem} (h0 : P [] [] (updM M a (.lst []))) : lcD γ υ τ vs a xs ρ (updM M a (.lst [])) Q := by
  have go : ∀ (rest done acc : List D) (M : Mem), xs = done ++ rest -> M a = some (.lst acc) -> P done acc M -> lcD γ υ τ vs a rest ρ M Q := by
    intro rest
    induction rest with
    | nil =>
      intro done acc M e ha p
      rw [List.append_nil] at e
      subst e
      exact ⟨acc, ha, fin acc M ha p⟩
    | cons x rest ih =>
      intro done acc M e ha p
      exact step done x rest acc M (fun M' => lcD γ υ τ vs a rest ρ M' Q) e ha p fun acc' M' ha' p' => ih (done ++ [x]) acc' M' (by rw [e]; simp) ha' p'
  exact go xs [] [] _ rfl updM_same h0
section
variable {cl : ClW} {X : Cx} {W : WX} {x f : Str} {p pos : Pos} {c : Nat} {d : D}
end
section
variable {cl : ClW} {X : Cx} {W : WX} {kx vx tg iter : Expr} {ifs : List Expr} {scope : Scope} {own : List (Str × Nat)} {pos : Pos} {ι : DTI} {is : List Nat} {γ : DTG} {υ : DTT} {τk τv : DTE}
end
end DL
set_option Elab.async false
set_option linter.all false
set_option maxRecDepth 100000
set_option maxHeartbeats 4000000
set_option autoImplicit false
namespace DL
open PySem L2
section
open PySem.Spec PyProof.Rows
variable {X : Cx} {tg : Expr}
def iSeqV (K : PySem.W.Frag) (tl : TE) : TI := fun σ H R => tl σ H fun x H1 => (∃ a, x = .ref a /\ (∃ xs, SqL K H1 a xs) /\ R (Itl K a) H1) \/ (∃ a, x = .ref a /\ (∃ xs, SqT K H1 a xs) /\ R (Itt K a) H1) \/ (∃ z, x = .str z /\ R (Its z) H1) \/ (∃ z, x = .byt z /\ R (Itb z) H1)
theorem pi_seqV {l : Expr} {tl : TE} (hl : PE X l tl) : PI X tg l (iSeqV X.K tl) := by
  refine ⟨fun pins s σ H R I h => ?_⟩
  refine thn (hl.run pins s σ H _ I h) fun v s1 ⟨x, H1, I1, r1, q1⟩ => ?_
  rcases q1 with ⟨a, e, ⟨xs, hq⟩, q⟩ | ⟨a, e, ⟨xs, hq⟩, q⟩ | ⟨x, ex, q⟩ | ⟨x, ex, q⟩
  · subst e
    cases r1
    obtain ⟨its, rv, p, hz⟩ := I1.list hq
    refine wpAny_pyIter_list p.isList ?_
    refine ⟨s1.heap.objs.size, [s1.heap.objs.size], _, _, H1, rfl, I1.kept (t' := s1.toks) fun b o e => Heap.get?_push_of_some _ e, turn_list a _, ⟨_, Heap.get?_push_size _ rfl, rfl, rfl⟩, fun b hb => ?_, q⟩
    have e : b = s1.heap.objs.size := by simpa using hb
    subst e
    exact I1.fpOk (Nat.le_refl _) (I1.hok.fresh (Nat.le_refl _))
  · subst e
    cases r1
    obtain ⟨its, rv, p, hz⟩ := I1.tuple hq
    refine wpAny_pyIter_tuple (show s1.heap.IsTuple a its.toArray from p) ?_
    refine ⟨s1.heap.objs.size, [s1.heap.objs.size], _, _, H1, rfl, I1.kept (t' := s1.toks) fun b o e => Heap.get?_push_of_some _ e, turn_tuple a _, ⟨_, Heap.get?_push_size _ rfl, rfl, rfl⟩, fun b hb => ?_, q⟩
    have e : b = s1.heap.objs.size := by simpa using hb
    subst e
    exact I1.fpOk (Nat.le_refl _) (I1.hok.fresh (Nat.le_refl _))
  · subst ex
    obtain ⟨t, rfl⟩ := r1
    cases ha : x.cps.all (· < 128)
    · exact wpAny_pyIter_wide ha (pi_one (tk := s1.toks) I1 _ (turn_str _ x t "str_iterator" (.inr rfl)) ⟨_, Heap.get?_push_size _ rfl, rfl, rfl⟩ q)
    · exact wpAny_pyIter_ascii ha (pi_one (tk := s1.toks) I1 _ (turn_str _ x t "str_ascii_iterator" (.inl rfl)) ⟨_, Heap.get?_push_size _ rfl, rfl, rfl⟩ q)
  · subst ex
    obtain ⟨t, rfl⟩ := r1
    exact PySem.W.KBw.pyIter_bytes (pi_one (tk := s1.toks) I1 _ (turn_byt _ x t) ⟨_, Heap.get?_push_size _ rfl, rfl, rfl⟩ q)
end
@[simp] def itD : D -> Option (List D)
  | .lst xs => some xs
  | .tup xs => some xs
  | .str z => some (z.cps.toList.map fun c => D.str ⟨#[c]⟩)
  | .byt b => some (b.toList.map fun c => D.int ((c.toNat : Nat) : Int))
  | _ => none
@[simp] def iS (τ : DTE) : DTI := fun ρ M R X => τ ρ M (fun d M1 => ∃ xs, itD d = some xs /\ R xs M1) X
section
variable {cl : ClW} {X : Cx} {W : WX} {e : Expr} {τ : DTE}
theorem di_seq {tg : Expr} (h : DE cl X W e τ) : DI cl X W tg e (iS τ) := ⟨pi_imp (pi_seqV h.pe) fun σ H R ⟨F, ρ, M, Rd, Xd, g, s, q, p, w⟩ =>
  ⟨F, ρ, M, _, Xd, g, s, q, fun v H' F' d M' sm g' r ⟨xs, e1, q'⟩ => (by
    cases d with
    | lst ds =>
      cases e1
      obtain ⟨a, vs, rfl, h1, h2⟩ := r.toLst
      refine .inl ⟨a, rfl, ⟨vs, same_l g'.sub h1⟩, p _ _ F' xs M' sm g' (fun i F2 H2 M2 sm2 g2 => ⟨fun d hd => ?_, fun hl => ⟨vs, same_l (sm2.trans g2.sub) h1, by rw [h2.length]; exact hl⟩⟩) q'⟩
      obtain ⟨v, hv, rv⟩ := h2.get hd
      refine ⟨⟨vs, v, same_l (sm2.trans g2.sub) h1, hv⟩, fun x H3 ⟨e1, e2⟩ => ?_⟩
      subst e1
      have := e2 vs (same_l (sm2.trans g2.sub) h1)
      rw [hv] at this
      cases this
      exact ⟨F2, Same.refl F2, g2, rv.mono sm2⟩
    | tup ds =>
      cases e1
      obtain ⟨a, vs, rfl, h1, h2⟩ := r.toTup
      refine .inr (.inl ⟨a, rfl, ⟨vs, same_t g'.sub h1⟩, p _ _ F' xs M' sm g' (fun i F2 H2 M2 sm2 g2 => ⟨fun d hd => ?_, fun hl => ⟨vs, same_t (sm2.trans g2.sub) h1, by rw [h2.length]; exact hl⟩⟩) q'⟩)
      obtain ⟨v, hv, rv⟩ := h2.get hd
      refine ⟨⟨vs, v, same_t (sm2.trans g2.sub) h1, hv⟩, fun x H3 ⟨e1, e2⟩ => ?_⟩
      subst e1
      have := e2 vs (same_t (sm2.trans g2.sub) h1)
      rw [hv] at this
      cases this
      exact ⟨F2, Same.refl F2, g2, rv.mono sm2⟩
    | str z =>
      cases e1
      obtain rfl := r.toStr
      refine .inr (.inr (.inl ⟨z, rfl, p _ _ F' _ M' sm g' (fun i F2 H2 M2 sm2 g2 => ⟨fun d hd => ?_, fun hl => ?_⟩) q'⟩))
      · rw [List.getElem?_map] at hd
        obtain ⟨c, hc, rfl⟩ := Option.map_eq_some_iff.mp hd
        have hc' : z.cps[i]? = some c := by simpa using hc
        refine ⟨(Array.getElem?_eq_some_iff.mp hc').1, fun x H3 ⟨e1, c2, e2, e3⟩ => ?_⟩
        subst e1 e3
        rw [hc'] at e2
        cases e2
        exact ⟨F2, Same.refl F2, g2, .str _⟩
      · show z.cps.size <= i
        simpa using hl
    | byt z =>
      cases e1
      obtain rfl := r.toByt
      refine .inr (.inr (.inr ⟨z, rfl, p _ _ F' _ M' sm g' (fun i F2 H2 M2 sm2 g2 => ⟨fun d hd => ?_, fun hl => ?_⟩) q'⟩))
      · rw [List.getElem?_map] at hd
        obtain ⟨c, hc, rfl⟩ := Option.map_eq_some_iff.mp hd
        have hc' : z[i]? = some c := by simpa using hc
        refine ⟨(Array.getElem?_eq_some_iff.mp hc').1, fun x H3 ⟨e1, c2, e2, e3⟩ => ?_⟩
        subst e1 e3
        rw [hc'] at e2
        cases e2
        exact ⟨F2, Same.refl F2, g2, .int _⟩
      · show z.size <= i
        simpa using hl
    | _ => cases e1), w⟩⟩
end
end DL
set_option Elab.async false
set_option linter.all false
set_option maxRecDepth 100000
set_option maxHeartbeats 2000000
set_option autoImplicit false
namespace DL
open PySem L2
section
variable {M : Mem} {i j : Int} {b : Bool} {x y : Str} {xs ys : List D} {d e : D} {a : Addr} {ks : List Key}
@[simp] theorem ixA_lst : ixA (.lst xs) e = ixD (.lst xs) e := rfl
@[simp] theorem ixA_tup : ixA (.tup xs) e = ixD (.tup xs) e := rfl
@[simp] theorem ixA_str : ixA (.str x) e = ixD (.str x) e := rfl
@[simp] theorem ixA_dK : ixA (.dK ks xs) e = (keyD e).bind fun k => atK k ks xs := rfl
@[simp] theorem keyD_int : keyD (.int i) = some (.inl i) := rfl
@[simp] theorem keyD_str : keyD (.str x) = some (.inr x) := rfl
@[simp] theorem tupF_lst : tupF [.lst xs] = some (.tup xs) := rfl
@[simp] theorem tupF_tup : tupF [.tup xs] = some (.tup xs) := rfl
@[simp] theorem lstF_lst : lstF [.lst xs] = some (.lst xs) := rfl
@[simp] theorem lstF_tup : lstF [.tup xs] = some (.lst xs) := rfl
@[simp] theorem allF_lst : allF [.lst xs] = (blsOf xs).map fun bs => .bl (bs.all id) := rfl
@[simp] theorem anyF_lst : anyF [.lst xs] = (blsOf xs).map fun bs => .bl (bs.any id) := rfl
@[simp] theorem inD_def : inD d e = (inB d e).map D.bl := rfl
@[simp] theorem ninD_def : ninD d e = (inB d e).map fun b => D.bl !b := rfl
@[simp] theorem inB_lst : inB d (.lst xs) = if flatD d && xs.all flatD then some (xs.any fun y => eqFD y d) else none := rfl
@[simp] theorem inB_tup : inB d (.tup xs) = if flatD d && xs.all flatD then some (xs.any fun y => eqFD y d) else none := rfl
@[simp] theorem inB_dK : inB d (.dK ks xs) = (keyD d).map fun k => ks.any fun j => decide (j = k) := rfl
@[simp] theorem inB_str : inB (.str x) (.str y) = some (inStr x y) := rfl
@[simp] theorem tyD_lst : tyD "list" (.lst xs) = true := rfl
end
end DL
set_option Elab.async false
set_option linter.all false
set_option maxRecDepth 100000
set_option autoImplicit false
namespace DL
open PySem L2
end DL
set_option Elab.async false
set_option linter.all false
set_option maxRecDepth 100000
set_option autoImplicit false
namespace DL
open PySem L2
mutual
def plD : Nat -> D -> Bool
  | _, .non => true
  | _, .bl _ => true
  | _, .int _ => true
  | _, .str x => PyData.strOk x
  | n + 1, .lst xs => plDs n xs
  | n + 1, .tup xs => plDs n xs
  | _, _ => false
def plDs : Nat -> List D -> Bool
  | _, [] => true
  | n, x :: xs => plD n x && plDs n xs
end
mutual
def eqT : D -> D -> Bool
  | .non, .non => true
  | .bl a, .bl b => a == b
  | .bl a, .int j => (if a then 1 else 0) == j
  | .int i, .bl b => i == (if b then 1 else 0)
  | .int i, .int j => i == j
  | .str x, .str y => x == y
  | .lst xs, .lst ys => eqTs xs ys
  | .tup xs, .tup ys => eqTs xs ys
  | _, _ => false
def eqTs : List D -> List D -> Bool
  | [], [] => true
  | x :: xs, y :: ys => eqT x y && eqTs xs ys
  | _, _ => false
end
mutual
theorem plD_py : ∀ (n : Nat) (d : D), plD n d = true -> ∃ p, toPy d = some p /\ p.canLay0 = true /\ p.depth <= n
  | n, .non, _ => ⟨.none, rfl, rfl, by simp [PyData.depth]⟩
  | n, .bl b, _ => ⟨.bool b, rfl, rfl, by simp [PyData.depth]⟩
  | n, .int b, _ => ⟨.int b, rfl, rfl, by simp [PyData.depth]⟩
  | n, .str b, h => ⟨.str b, rfl, by simpa [PyData.canLay0, plD] using h, by simp [PyData.depth]⟩
  | n + 1, .lst xs, h => by
    obtain ⟨ps, h1, h2, h3⟩ := plDs_py n xs (by simpa [plD] using h)
    exact ⟨.list ps, by simp [toPy, h1], by simpa [PyData.canLay0] using h2, by simp [PyData.depth]; omega⟩
  | n + 1, .tup xs, h => by
    obtain ⟨ps, h1, h2, h3⟩ := plDs_py n xs (by simpa [plD] using h)
    exact ⟨.tuple ps, by simp [toPy, h1], by simpa [PyData.canLay0] using h2, by simp [PyData.depth]; omega⟩
  | 0, .lst _, h => by simp [plD] at h
  | 0, .tup _, h => by simp [plD] at h
  | _, .byt _, h => by simp [plD] at h
  | _, .ty _, h => by simp [plD] at h
  | _, .ref _, h => by simp [plD] at h
  | _, .dK _ _, h => by simp [plD] at h
  | _, .dT _ _ _, h => by simp [plD] at h
  | _, .obj _ _ _, h => by simp [plD] at h
  | _, .cls _, h => by simp [plD] at h
  | _, .exc _ _ _ _ _, h => by simp [plD] at h
  | _, .xob _ _ _, h => by simp [plD] at h
  | _, .thk _ _ _ _ _, h => by simp [plD] at h
  | _, .dN _ _ _, h => by simp [plD] at h
  | _, .fn _ _, h => by simp [plD] at h
  | _, .cel _ _, h => by simp [plD] at h
theorem plDs_py : ∀ (n : Nat) (ds : List D), plDs n ds = true -> ∃ ps, toPys ds = some ps /\ PyData.canLayAll0 ps = true /\ PyData.depthAll ps <= n
  | n, [], _ => ⟨[], rfl, rfl, by simp [PyData.depthAll]⟩
  | n, x :: xs, h => by
    simp only [plDs, Bool.and_eq_true] at h
    obtain ⟨p, h1, h2, h3⟩ := plD_py n x h.1
    obtain ⟨ps, k1, k2, k3⟩ := plDs_py n xs h.2
    exact ⟨p :: ps, by simp [toPys, h1, k1], by simp [PyData.canLayAll0, h2, k2], by simp [PyData.depthAll]; omega⟩
end
theorem toPy_inv {d : D} {p : PyData} (h : toPy d = some p) : (d = .non /\ p = .none) \/ (∃ b, d = .bl b /\ p = .bool b) \/ (∃ i, d = .int i /\ p = .int i) \/ (∃ x, d = .str x /\ p = .str x) \/ (∃ xs ps, d = .lst xs /\ p = .list ps /\ toPys xs = some ps) \/ (∃ xs ps, d = .tup xs /\ p = .tuple ps /\ toPys xs = some ps) := by
  cases d with
  | non => simp only [toPy] at h; cases h; exact .inl ⟨rfl, rfl⟩
  | bl b => simp only [toPy] at h; cases h; exact .inr (.inl ⟨b, rfl, rfl⟩)
  | int b => simp only [toPy] at h; cases h; exact .inr (.inr (.inl ⟨b, rfl, rfl⟩))
  | str b => simp only [toPy] at h; cases h; exact .inr (.inr (.inr (.inl ⟨b, rfl, rfl⟩)))
  | lst xs =>
    simp only [toPy] at h
    obtain ⟨ps, h1, rfl⟩ := Option.map_eq_some_iff.mp h
    exact .inr (.inr (.inr (.inr (.inl ⟨xs, ps, rfl, rfl, h1⟩))))
  | tup xs =>
    simp only [toPy] at h
    obtain ⟨ps, h1, rfl⟩ := Option.map_eq_some_iff.mp h
    exact .inr (.inr (.inr (.inr (.inr ⟨xs, ps, rfl, rfl, h1⟩))))
  | _ => simp only [toPy] at h; cases h
theorem toPys_cons {x : D} {xs : List D} {ps : List PyData} (h : toPys (x :: xs) = some ps) : ∃ p qs, ps = p :: qs /\ toPy x = some p /\ toPys xs = some qs := by
  simp only [toPys] at h
  cases e1 : toPy x with
  | none => rw [e1] at h; cases h
  | some p =>
    cases e2 : toPys xs with
    | none => rw [e1, e2] at h; cases h
    | some qs => rw [e1, e2] at h; cases h; exact ⟨p, qs, rfl, rfl, rfl⟩
mutual
theorem eqv_T : ∀ (d e : D) (p q : PyData), toPy d = some p -> toPy e = some q -> PyData.eqv p q = eqT d e
  | .non, e, p, q, h, k => by
    simp only [toPy] at h; cases h
    rcases toPy_inv k with ⟨rfl, rfl⟩ | ⟨b, rfl, rfl⟩ | ⟨b, rfl, rfl⟩ | ⟨b, rfl, rfl⟩ | ⟨xs, ps, rfl, rfl, _⟩ | ⟨xs, ps, rfl, rfl, _⟩ <;> rfl
  | .bl a, e, p, q, h, k => by
    simp only [toPy] at h; cases h
    rcases toPy_inv k with ⟨rfl, rfl⟩ | ⟨b, rfl, rfl⟩ | ⟨b, rfl, rfl⟩ | ⟨b, rfl, rfl⟩ | ⟨xs, ps, rfl, rfl, _⟩ | ⟨xs, ps, rfl, rfl, _⟩ <;> rfl
  | .int a, e, p, q, h, k => by
    simp only [toPy] at h; cases h
    rcases toPy_inv k with ⟨rfl, rfl⟩ | ⟨b, rfl, rfl⟩ | ⟨b, rfl, rfl⟩ | ⟨b, rfl, rfl⟩ | ⟨xs, ps, rfl, rfl, _⟩ | ⟨xs, ps, rfl, rfl, _⟩ <;> rfl
  | .str a, e, p, q, h, k => by
    simp only [toPy] at h; cases h
    rcases toPy_inv k with ⟨rfl, rfl⟩ | ⟨b, rfl, rfl⟩ | ⟨b, rfl, rfl⟩ | ⟨b, rfl, rfl⟩ | ⟨xs, ps, rfl, rfl, _⟩ | ⟨xs, ps, rfl, rfl, _⟩ <;> rfl
  | .lst xs, e, p, q, h, k => by
    simp only [toPy] at h
    obtain ⟨ps, h1, rfl⟩ := Option.map_eq_some_iff.mp h
    rcases toPy_inv k with ⟨rfl, rfl⟩ | ⟨b, rfl, rfl⟩ | ⟨b, rfl, rfl⟩ | ⟨b, rfl, rfl⟩ | ⟨ys, qs, rfl, rfl, k1⟩ | ⟨ys, qs, rfl, rfl, k1⟩
    · rfl
    · rfl
    · rfl
    · rfl
    · simp only [PyData.eqv, eqT]
      exact eqvs_T xs ys ps qs h1 k1
    · rfl
  | .tup xs, e, p, q, h, k => by
    simp only [toPy] at h
    obtain ⟨ps, h1, rfl⟩ := Option.map_eq_some_iff.mp h
    rcases toPy_inv k with ⟨rfl, rfl⟩ | ⟨b, rfl, rfl⟩ | ⟨b, rfl, rfl⟩ | ⟨b, rfl, rfl⟩ | ⟨ys, qs, rfl, rfl, k1⟩ | ⟨ys, qs, rfl, rfl, k1⟩
    · rfl
    · rfl
    · rfl
    · rfl
    · rfl
    · simp only [PyData.eqv, eqT]
      exact eqvs_T xs ys ps qs h1 k1
  | .byt _, _, _, _, h, _ => by simp only [toPy] at h; cases h
  | .ty _, _, _, _, h, _ => by simp only [toPy] at h; cases h
  | .ref _, _, _, _, h, _ => by simp only [toPy] at h; cases h
  | .dK _ _, _, _, _, h, _ => by simp only [toPy] at h; cases h
  | .dT _ _ _, _, _, _, h, _ => by simp only [toPy] at h; cases h
  | .obj _ _ _, _, _, _, h, _ => by simp only [toPy] at h; cases h
  | .cls _, _, _, _, h, _ => by simp only [toPy] at h; cases h
  | .exc _ _ _ _ _, _, _, _, h, _ => by simp only [toPy] at h; cases h
  | .xob _ _ _, _, _, _, h, _ => by simp only [toPy] at h; cases h
  | .thk _ _ _ _ _, _, _, _, h, _ => by simp only [toPy] at h; cases h
  | .dN _ _ _, _, _, _, h, _ => by simp only [toPy] at h; cases h
  | .fn _ _, _, _, _, h, _ => by simp only [toPy] at h; cases h
  | .cel _ _, _, _, _, h, _ => by simp only [toPy] at h; cases h
theorem eqvs_T : ∀ (ds es : List D) (ps qs : List PyData), toPys ds = some ps -> toPys es = some qs -> PyData.eqvAll ps qs = eqTs ds es
  | [], [], ps, qs, h, k => by simp only [toPys] at h k; cases h; cases k; simp only [PyData.eqvAll, eqTs]
  | [], e :: es, ps, qs, h, k => by
    obtain ⟨q, qs', rfl, _, _⟩ := toPys_cons k
    simp only [toPys] at h; cases h; simp only [PyData.eqvAll, eqTs]
  | d :: ds, [], ps, qs, h, k => by
    obtain ⟨q, qs', rfl, _, _⟩ := toPys_cons h
    simp only [toPys] at k; cases k; simp only [PyData.eqvAll, eqTs]
  | d :: ds, e :: es, ps, qs, h, k => by
    obtain ⟨p, ps', rfl, h1, h2⟩ := toPys_cons h
    obtain ⟨q, qs', rfl, k1, k2⟩ := toPys_cons k
    simp only [PyData.eqvAll, eqTs]
    rw [eqv_T d e p q h1 k1, eqvs_T ds es ps' qs' h2 k2]
end
theorem eqP_pl {n m : Nat} {d e : D} (hd : plD n d = true) (he : plD m e = true) (hn : n <= 64 := by decide) (hm : m <= 64 := by decide) : eqP d e = some (eqT d e) := by
  obtain ⟨p, h1, h2, h3⟩ := plD_py n d hd
  obtain ⟨q, k1, k2, k3⟩ := plD_py m e he
  unfold eqP
  rw [h1, k1]
  have s1 : SeqAt.shaped p = true := by unfold SeqAt.shaped; rw [h2, decide_eq_true (by omega)]; rfl
  have s2 : SeqAt.shaped q = true := by unfold SeqAt.shaped; rw [k2, decide_eq_true (by omega)]; rfl
  simp only [s1, s2, Bool.and_self, if_true]
  rw [eqv_T d e p q h1 k1]
theorem eqD_lst' {n m : Nat} {xs ys : List D} (hd : plDs n xs = true) (he : plDs m ys = true) (hn : n < 64 := by decide) (hm : m < 64 := by decide) : eqD (.lst xs) (.lst ys) = some (.bl (eqTs xs ys)) := by
  show (eqP _ _).map D.bl = _
  rw [eqP_pl (n := n + 1) (m := m + 1) (by simpa [plD] using hd) (by simpa [plD] using he) hn hm]
  simp only [Option.map_some, eqT]
theorem neD_lst' {n m : Nat} {xs ys : List D} (hd : plDs n xs = true) (he : plDs m ys = true) (hn : n < 64 := by decide) (hm : m < 64 := by decide) : neD (.lst xs) (.lst ys) = some (.bl !(eqTs xs ys)) := by
  show (eqP _ _).map (fun b => D.bl !b) = _
  rw [eqP_pl (n := n + 1) (m := m + 1) (by simpa [plD] using hd) (by simpa [plD] using he) hn hm]
  simp only [Option.map_some, eqT]
theorem eqD_tup' {n m : Nat} {xs ys : List D} (hd : plDs n xs = true) (he : plDs m ys = true) (hn : n < 64 := by decide) (hm : m < 64 := by decide) : eqD (.tup xs) (.tup ys) = some (.bl (eqTs xs ys)) := by
  show (eqP _ _).map D.bl = _
  rw [eqP_pl (n := n + 1) (m := m + 1) (by simpa [plD] using hd) (by simpa [plD] using he) hn hm]
  simp only [Option.map_some, eqT]
theorem neD_tup' {n m : Nat} {xs ys : List D} (hd : plDs n xs = true) (he : plDs m ys = true) (hn : n < 64 := by decide) (hm : m < 64 := by decide) : neD (.tup xs) (.tup ys) = some (.bl !(eqTs xs ys)) := by
  show (eqP _ _).map (fun b => D.bl !b) = _
  rw [eqP_pl (n := n + 1) (m := m + 1) (by simpa [plD] using hd) (by simpa [plD] using he) hn hm]
  simp only [Option.map_some, eqT]
@[simp] theorem plDs_nil {n : Nat} : plDs n [] = true := by simp [plDs]
@[simp] theorem eqTs_nilr {xs : List D} : eqTs xs [] = xs.isEmpty := by cases xs <;> simp [eqTs]
end DL
set_option Elab.async false
set_option linter.all false
set_option maxRecDepth 100000
set_option maxHeartbeats 1000000
namespace DL
open PySem L2
theorem toNat_inj {a b : Char} (h : a.toNat = b.toNat) : a = b := by
  have : a.val = b.val := UInt32.toNat_inj.mp h
  exact Char.ext this
@[simp] theorem ofStr_inj (a b : String) : (Str.ofString a = Str.ofString b) = (a = b) := by
  refine propext ⟨fun h => ?_, fun h => by rw [h]⟩
  rw [Str.ofString_eq_toList, Str.ofString_eq_toList] at h
  have h2 : a.toList.map Char.toNat = b.toList.map Char.toNat := by simpa using h
  have h3 : a.toList = b.toList := List.map_inj_right (fun x y e => toNat_inj e) |>.mp h2
  exact String.toList_inj.mp h3
@[simp] theorem ofStr_beq (a b : String) : (Str.ofString a == Str.ofString b) = (a == b) := by
  by_cases h : a = b
  · subst h; simp
  · have h1 : ¬ (Str.ofString a = Str.ofString b) := by rw [ofStr_inj]; exact h
    rw [beq_false_of_ne h1, beq_false_of_ne h]
def methAt (tb : List (Nat × SpD)) (m : Str) (o : D) (M : Mem) (R : SpD -> Prop) : Prop := ∃ c ns ds spd, vw M o = .obj c ns ds /\ tb.lookup c = some spd /\ m ∉ ns /\ R spd
theorem methAt_obj {tb : List (Nat × SpD)} {m : Str} {M : Mem} {R : SpD -> Prop} {c : Nat} {ns : List Str} {ds : List D} : methAt tb m (.obj c ns ds) M R ↔ ∃ spd, tb.lookup c = some spd /\ m ∉ ns /\ R spd := by
  constructor
  · rintro ⟨c', ns', ds', spd, h, h1, h2, h3⟩
    rw [vw_obj] at h
    cases h
    exact ⟨spd, h1, h2, h3⟩
  · rintro ⟨spd, h1, h2, h3⟩
    exact ⟨c, ns, ds, spd, rfl, h1, h2, h3⟩
end DL
set_option Elab.async false
set_option linter.all false
set_option maxRecDepth 100000
set_option maxHeartbeats 1000000
set_option autoImplicit false
namespace FL
open PySem L2 DL
def Keep (M M' : Mem) : Prop := ∀ b d, M b = some d -> M' b = some d
theorem Keep.refl (M : Mem) : Keep M M := fun _ _ h => h
theorem Keep.trans {M M1 M2 : Mem} (h : Keep M M1) (k : Keep M1 M2) : Keep M M2 := fun b d e => k b d (h b d e)
theorem Keep.new {M : Mem} {a : Addr} {d : D} (h : M a = none) : Keep M (updM M a d) := fun b e q => by
  rw [updM_ne (fun z => by rw [z, h] at q; cases q)]; exact q
def Well (M : Mem) (r : Addr) (n : Nat) : Prop := ∃ a b c : Int, M r = some (.lst [.int a, .int b, .int c]) /\ 0 <= b /\ b < 2147483629 /\ 0 <= c /\ c <= n
structure WTo (M M' : Mem) (r : Addr) (n : Nat) : Prop where
  ok : Well M' r n
  keep : ∀ b d, b ≠ r -> M b = some d -> M' b = some d
def isL (c : Nat) : Bool := decide (97 <= c) && decide (c <= 122)
def isS (c : Nat) : Bool := isL c || (decide (48 <= c) && decide (c <= 57))
def S (cs : List Nat) : Str := ⟨cs.toArray⟩
@[simp] theorem S_inj {a b : List Nat} : S a = S b ↔ a = b := by
  constructor
  · intro h
    have := congrArg (fun x : Str => x.cps.toList) h
    simpa [S] using this
  · rintro rfl; rfl
def NameOk (cs : List Nat) : Prop := ∃ c r, cs = c :: r /\ r.length <= 7 /\ isL c = true /\ ∀ e ∈ r, isS e = true
@[simp] theorem S_length (a : List Nat) : (S a).length = a.length := by simp [S, Str.length]
def dg (k : Nat) : List Nat := ((toString (k : Int) : String) : Str).cps.toList
structure Row where
  nm : List Nat
  va : Int
  lv : Int
def Row.d (r : Row) : D := .tup [.str (S r.nm), .int r.va, .int r.lv]
def LevOk (ls : List Int) : Prop := ∀ (i : Nat) (l : Int), ls[i]? = some l -> 0 <= l /\ (i = 0 -> l = 0) /\ ∀ k : Nat, i = k + 1 -> ∃ m : Int, ls[k]? = some m /\ l <= m + 1
structure RowsOk (rs : List Row) : Prop where
  len : rs.length <= 60
  names : ∀ r ∈ rs, NameOk r.nm
  vals : ∀ r ∈ rs, -(10 ^ 30) <= r.va /\ r.va <= 10 ^ 30
  nd : (rs.map Row.nm).Nodup
  lev : LevOk (rs.map Row.lv)
def anc (ls : List Int) : Nat -> Int -> List Nat
  | 0, _ => []
  | i + 1, lev => if ls.getD i 0 < lev then i :: anc ls i (ls.getD i 0) else anc ls i lev
def ancs (ls : List Int) (p : Nat) : List Nat := anc ls p (ls.getD p 0)
def line (ls : List Int) (p : Nat) : List Nat := p :: ancs ls p
end FL
set_option Elab.async false
set_option linter.all false
set_option maxRecDepth 100000
set_option maxHeartbeats 1000000
namespace FL
open PySem L2 DL
def strD (x : List Nat) : D := .str (S x)
theorem atI_lastF {α : Type} (l : List α) (x : α) : atI (l ++ [x]) (-1) = some x := by
  unfold atI ixN
  have h : (1 : Int) <= l.length + 1 := by omega
  have h2 : (-1 + ((l.length : Int) + 1)).toNat = l.length := by omega
  simp [h, h2]
def SeqOf (d : D) (xs : List D) : Prop := d = .lst xs \/ d = .tup xs
theorem SeqOf.vw {d : D} {xs : List D} (h : SeqOf d xs) (M : Mem) : vw M d = d := by rcases h with rfl | rfl <;> rfl
theorem SeqOf.ix {d : D} {xs : List D} (h : SeqOf d xs) (k : Int) : ixA d (.int k) = atI xs k := by rcases h with rfl | rfl <;> rfl
theorem SeqOf.len {d : D} {xs : List D} (h : SeqOf d xs) : lenF [d] = some (.int xs.length) := by rcases h with rfl | rfl <;> rfl
theorem sIx_nat (n d p : Nat) : HT.sIx n d (some (p : Int)) = min p n := by
  have h0 : ¬ ((p : Int) < 0) := by omega
  unfold HT.sIx
  simp [h0]
theorem cutD_to {xs : List D} {p : Nat} : cutD xs none (some (p : Int)) = xs.take p := by
  unfold cutD
  rw [sIx_nat]
  have e0 : HT.sIx xs.length 0 none = 0 := rfl
  rw [e0]
  simp only [List.drop_zero, Nat.sub_zero]
  by_cases h : p <= xs.length
  · rw [Nat.min_eq_left h]
  · rw [Nat.min_eq_right (by omega), List.take_of_length_le (Nat.le_refl _), List.take_of_length_le (by omega)]
theorem cutD_from {xs : List D} {p : Nat} : cutD xs (some (p : Int)) none = xs.drop p := by
  unfold cutD
  rw [sIx_nat]
  have e0 : HT.sIx xs.length xs.length none = xs.length := rfl
  rw [e0]
  by_cases h : p <= xs.length
  · rw [Nat.min_eq_left h]
    exact List.take_of_length_le (by simp)
  · rw [Nat.min_eq_right (by omega), List.drop_of_length_le (Nat.le_refl _), List.drop_of_length_le (by omega)]
    simp
def spotsK (rs : List Row) : List Key := rs.map fun r => .inr (S r.nm)
def places (n : Nat) : List D := (List.range n).map fun (i : Nat) => D.int (i : Int)
def FD (rs : List Row) : D := .obj 0 ["rows", "order", "spots"] [.tup (rs.map Row.d), .tup (rs.map fun r => strD r.nm), .dK (spotsK rs) (places rs.length)]
@[simp] theorem vw_FD {M : Mem} {rs : List Row} : vw M (FD rs) = FD rs := rfl
@[simp] theorem vw_strD {M : Mem} {x : List Nat} : vw M (strD x) = strD x := rfl
@[simp] theorem methAt_FD {tb : List (Nat × SpD)} {m : Str} {M : Mem} {R : SpD -> Prop} {rs : List Row} : methAt tb m (FD rs) M R ↔ ∃ spd, tb.lookup 0 = some spd /\ m ∉ (["rows", "order", "spots"] : List Str) /\ R spd := methAt_obj
def nmAt (rs : List Row) (i : Nat) : D := strD ((rs.map Row.nm).getD i [])
@[simp] theorem vw_nmAt {M : Mem} {rs : List Row} {i : Nat} : vw M (nmAt rs i) = nmAt rs i := rfl
def lvs (rs : List Row) : List Int := rs.map Row.lv
def optNm (rs : List Row) : Option Nat -> D
  | some i => nmAt rs i
  | none => .non
def optI : Option Nat -> D
  | some i => .int (i : Int)
  | none => .non
@[simp] theorem optI_some (i : Nat) : optI (some i) = .int (i : Int) := rfl
@[simp] theorem optI_none : optI none = .non := rfl
def intD (i : Nat) : D := .int (i : Int)
def keepIn (l : List Nat) : D -> Option D
  | .int i => if i.toNat ∈ l then some (.int i) else none
  | _ => none
@[simp] theorem vw_optNm {M : Mem} {rs : List Row} {o : Option Nat} : vw M (optNm rs o) = optNm rs o := by cases o <;> rfl
end FL
set_option Elab.async false
set_option linter.all false
set_option maxRecDepth 100000
set_option maxHeartbeats 4000000
set_option autoImplicit false
namespace DL
open PySem L2
section
variable {cl : ClW} {X : Cx} {W : WX} {k : Nat} {f : Addr} {fd : FuncData} {ps : List Str} {spd : SpD}
end
abbrev DB2 := D -> D -> DL.Env -> Mem -> DV -> DX -> Prop
def BinG (cl : ClW) (X : Cx) (W : WX) (op : Value -> Value -> Sem Value) (φ : DB2) : Prop :=
  ∀ (pins : List (Addr × Obj)) (s : Shared) (σ : St) (H F : Hp) (ρ : DL.Env) (M : Mem) (v u : Value) (x y : V) (d e : D) (Q : VK) (Qd : DV) (Xd : DX), Inv X pins σ H s -> RelV x v -> RelV y u -> Good X.K cl F H M -> Slots X.K cl F σ ρ -> Rep X.K cl F x d -> Rep X.K cl F y e ->
    φ d e ρ M Qd Xd -> Post X.K cl F Q Qd -> WOk X.K cl W F Xd -> wpAny (model X.prog X.w) X.A (op v u) (EP X pins σ Q) X.xe s
@[simp] def dBin (φ : DB2) (τa τb : DTE) : DTE := fun ρ M Q X => τa ρ M (fun d M1 => τb ρ M1 (fun e M2 => φ d e ρ M2 Q X) X) X
@[simp] def bOp (f : D -> D -> Option D) : DB2 := fun d e _ M Q _ => ∃ z, f (vw M d) (vw M e) = some z /\ Q z M
@[simp] def bOr (φ ψ : DB2) : DB2 := fun d e ρ M Q X => φ d e ρ M Q X \/ ψ d e ρ M Q X
section
variable {cl : ClW} {X : Cx} {W : WX} {pos : Pos} {a b : Expr} {τa τb : DTE}
theorem BinG.or {op : Value -> Value -> Sem Value} {φ ψ : DB2} (h : BinG cl X W op φ) (h' : BinG cl X W op ψ) : BinG cl X W op (bOr φ ψ) := fun pins s σ H F ρ M v u x y d e Q Qd Xd I rx ry g sl r1 r2 q p w => by
  rcases q with q | q
  · exact h pins s σ H F ρ M v u x y d e Q Qd Xd I rx ry g sl r1 r2 q p w
  · exact h' pins s σ H F ρ M v u x y d e Q Qd Xd I rx ry g sl r1 r2 q p w
theorem bin_low {σ : St} {H : Hp} {Q : VK} {φ : DB2} (h : lowE X.K cl W (dBin φ τa τb) σ H Q) : lowE X.K cl W τa σ H (fun x H1 => ∃ F ρ M d Qd Xd, Good X.K cl F H1 M /\ Slots X.K cl F σ ρ /\ Rep X.K cl F x d /\ τb ρ M (fun e M2 => φ d e ρ M2 Qd Xd) Xd /\ Post X.K cl F Q Qd /\ WOk X.K cl W F Xd) := by
  obtain ⟨F, ρ, M, Qd, Xd, g, s, q, p, w⟩ := h
  exact ⟨F, ρ, M, _, Xd, g, s, q, fun x H1 F1 d M1 sm g1 r q1 => ⟨F1, ρ, M1, d, Qd, Xd, g1, s.mono sm, r, q1, p.mono sm, w.mono sm⟩, w⟩
theorem run_bin {op : Value -> Value -> Sem Value} {φ : DB2} (ho : BinG cl X W op φ) (ha : DE cl X W a τa) (hb : DE cl X W b τb) {pins : List (Addr × Obj)} {s : Shared} {σ : St} {H : Hp} {Q : VK} (I : Inv X pins σ H s) (h : lowE X.K cl W (dBin φ τa τb) σ H Q) :
    wpAny (model X.prog X.w) X.A (eval a X.env) (fun v s1 => wpAny (model X.prog X.w) X.A (eval b X.env) (fun u s2 => wpAny (model X.prog X.w) X.A (op v u) (EP X pins σ Q) X.xe s2) X.xe s1) X.xe s := by
  refine thn (ha.pe.run pins s σ H _ I (bin_low h)) fun v s1 ⟨x, H1, I1, r1, F1, ρ, M1, d, Qd, Xd, g1, sl1, rd, q1, p1, w1⟩ => ?_
  refine thn (hb.pe.run pins s1 σ H1 (fun y H2 => ∃ F2 M2 e, Same F1 F2 /\ Good X.K cl F2 H2 M2 /\ Rep X.K cl F2 y e /\ φ d e ρ M2 Qd Xd) I1 ⟨F1, ρ, M1, _, Xd, g1, sl1, q1, fun y H2 F2 e M2 sm g2 r2 q2 => ⟨F2, M2, e, sm, g2, r2, q2⟩, w1⟩) fun u s2 ⟨y, H2, I2, r2, F2, M2, e, sm, g2, re, q2⟩ => ?_
  exact ho pins s2 σ H2 F2 ρ M2 v u x y d e Q Qd Xd I2 r1 r2 g2 (sl1.mono sm) (rd.mono sm) re q2 (p1.mono sm) (w1.mono sm)
theorem d_bin {op : Operator} {φ : DB2} (ho : BinG cl X W (binaryOp op) φ) (ha : DE cl X W a τa) (hb : DE cl X W b τb) : DE cl X W (.BinOp a op b pos) (dBin φ τa τb) := ⟨⟨fun pins s σ H Q I h => wpAny_BinOp (run_bin ho ha hb I h)⟩⟩
theorem d_tcmpG {op : CmpOp} {φ : DB2} (ho : BinG cl X W (compareOp op) φ) (ha : DE cl X W a τa) (hb : DE cl X W b τb) (hm : behindInMarks op b = false) : DT cl X W (.Compare a [op] [b] pos) (dTest (dBin φ τa τb)) := ⟨⟨fun pins s σ H Q I h => by
  obtain ⟨F, ρ, M, Qd, Xd, g, sl, q, p, w⟩ := h
  have h2 : lowE X.K cl W (dBin φ τa τb) σ H (fun x H' => ∃ k, x = .bl k /\ Q k H') := ⟨F, ρ, M, _, Xd, g, sl, q, p.test, w⟩
  refine wpAny_isTrue_Compare1 (thn (run_bin ho ha hb I h2) fun v s1 q1 => thn q1 fun u s2 q2 => thn q2 fun c s3 ⟨z, H3, I3, r3, k, e, q3⟩ => ?_) hm
  subst e
  cases r3
  exact wpAny_truthy_bool ⟨H3, I3, q3⟩⟩⟩
end
end DL
set_option Elab.async false
set_option linter.all false
set_option maxRecDepth 100000
set_option maxHeartbeats 4000000
set_option autoImplicit false
namespace DL
open PySem L2
@[simp] def kB : D -> Option D
  | .bl b => some (.bl b)
  | _ => none
@[simp] def kNB : D -> Option D
  | .bl b => some (.bl !b)
  | _ => none
@[simp] def kV : D -> Option D
  | .bl b => some (.bl b)
  | .obj c ns ds => some (.obj c ns ds)
  | _ => none
section
variable {cl : ClW} {X : Cx} {W : WX} {k : Nat} {tb : List (Nat × SpD)}
end
end DL
set_option Elab.async false
set_option linter.all false
set_option maxRecDepth 100000
set_option maxHeartbeats 4000000
set_option autoImplicit false
namespace DL
open PySem L2
section
variable {prog : Program} {w : World} {A : Around} {E : Value -> Shared -> Prop} {s : Shared} {K : PySem.W.Frag} {x C L f : Addr} {h₀ : Heap} {m : Str -> Option Value} {ox : Obj} {od : Option Obj} {b tb : Value}
end
section
variable {cl : ClW} {X : Cx} {W : WX} {k : Nat} {tb : List (Nat × SpD)}
structure TyC (K : PySem.W.Frag) (C : Addr) : Prop where
  cls : Cls K C
  ha : PySem.W.findIn K (.ref C) "__class__" = some (some (.builtin "object.__class__"))
  hn : PySem.W.specialIn K (.builtin "object.__class__") "__get__" = some (some (.builtin "getset_descriptor.__get__"))
  htk : PySem.W.takesIn K (.builtin "object.__class__") = some true
  hm : PySem.W.mroIn K C (.type "object") = some true
structure IsoOk (K : PySem.W.Frag) (cl : Nat -> Addr) (c : Nat) (yes no : List Nat) : Prop where
  y : ∀ j ∈ yes, TyC K (cl j) /\ PySem.W.kitOne K (.ref (cl j)) (.ref (cl c)) = some true
  n : ∀ j ∈ no, TyC K (cl j) /\ PySem.W.kitOne K (.ref (cl j)) (.ref (cl c)) = some false
  t : ∀ n ∈ tyNames, PySem.W.kitOne K (.type n) (.ref (cl c)) = some false
def isoF (c : Nat) (yes no : List Nat) : List D -> Option D
  | [.obj j _ _, .cls i] => if i = c then if j ∈ yes then some (.bl true) else if j ∈ no then some (.bl false) else none else none
  | [d, .cls i] => if i = c then if (tyName d).isSome then some (.bl false) else none else none
  | _ => none
end
end DL
set_option Elab.async false
set_option linter.all false
set_option maxRecDepth 100000
set_option maxHeartbeats 2000000
set_option autoImplicit false
namespace DL
open PySem L2
theorem Cap.mono {X : Cx} {W : WX} {j k : Nat} (c : Cap X W k) (h : j <= k) : Cap X W j := ⟨c.tk, c.hr.mono h, c.po, c.calm⟩
section
variable {K : PySem.W.Frag} {cl : ClW}
theorem and2 {a b : Bool} (h : (a && b) = true) : a = true /\ b = true := Bool.and_eq_true_iff.mp h
end
section
variable {cl : ClW} {X : Cx} {W : WX} {pos : Pos}
theorem d_dict0 : DE cl X W (.Dict [] [] pos) (dC (.dK [] [])) := ⟨pe_imp pe_dnewK fun σ H Q ⟨F, ρ, M, Qd, Xd, g, s, q, p, w⟩ a ha => p _ _ _ _ _ (same_new (g.freshF ha)) (g.new ha) (.dK upd_same rfl .nil) q⟩
end
@[simp] theorem isoF_obj {c j : Nat} {yes no : List Nat} {ns : List Str} {ds : List D} : isoF c yes no [.obj j ns ds, .cls c] = if j ∈ yes then some (.bl true) else if j ∈ no then some (.bl false) else none := by simp [isoF]
end DL
set_option Elab.async false
set_option linter.all false
set_option maxRecDepth 100000
set_option maxHeartbeats 4000000
set_option autoImplicit false
namespace DL
open PySem L2
def spX (C : Addr) (fs : List Str) : Sp := fun vs H Q _ => ∃ (a : Addr) (ws : List V), vs = .ref a :: ws /\ ws.length = fs.length /\ H a = some (exo a C none) /\
  ∀ (d : Addr) (H' : Hp), H d = none -> d ≠ a -> H' a = some (exo a C (some d)) -> H' d = some (exd d (fs.reverse.zip ws.reverse)) -> (∀ b, b ≠ a -> b ≠ d -> H' b = H b) -> Q .non H'
structure ExcK (P : Program) (w : World) (K : PySem.W.Frag) (mg : Str -> Option Value) (base : Heap) (x : Str) (C : Addr) (fs : List Str) : Prop where
  oex : OexC K C
  gl : mg x = some (.ref C)
  ini : ∃ fI fd ps, PySem.W.findIn K (.ref C) "__init__" = some (some (.ref fI)) /\ PySem.W.typeIn K (.ref fI) = some (.type "function") /\ FnOk P w K mg base (L2.CX P w) 1 fI fd ps (spX C fs) /\ Binds K fd ps []
section
variable {P : Program} {w : World} {K : PySem.W.Frag} {mg : Str -> Option Value} {base : Heap} {qual : Str} {params : Arguments} {scope : Scope} {f C : Addr} {fd : FuncData}
theorem xinit1 {p1 p2 p3 p4 : Pos} {g : Str} (T : OexC K C) (hno : PySem.W.findIn K (.ref C) g = some none) (F : FunD K "__init__" qual params [.Assign [.Attribute (.Name "self" p1) g p2] (.Name g p3) p4] scope [] [] f fd) (S : FnScope ["self", g] ["self", g] scope)
    (h0 : Vis scope "self" := by first | exact Or.inl rfl | exact Or.inr (Or.inl rfl)) (h1 : Vis scope g := by first | exact Or.inl rfl | exact Or.inr (Or.inl rfl)) (hd : (g == ("__debug__" : Str)) = false := by decide) (hcd : (g == ("__classdict__" : Str)) = false := by decide) : FnOk P w K mg base (L2.CX P w) 1 f fd ["self", g] (spX C [g]) := by
  refine F.ok S (fun vs H Q E ⟨a, ws, e, hl, _⟩ => by rw [e, List.length_cons, hl]; rfl) fun cdv A outer s H vs Q E hr ⟨a, ws, e, hl, ha, q⟩ => ?_
  obtain ⟨v, rfl⟩ : ∃ v, ws = [v] := by
    match ws, hl with
    | [v], _ => exact ⟨v, rfl⟩
  subst e
  refine ⟨_, pss_one (ps_ost (pe_var (i := 0) rfl h0 (by decide)) (pe_var (i := 1) rfl h1 hd hcd)), ?_⟩
  refine ⟨v, rfl, .ref a, rfl, a, C, rfl, T, hno, .inl ⟨ha, fun d hd hne => q d _ hd hne upd_same (by rw [upd_ne hne, upd_same]; rfl) (fun b h1 h2 => by rw [upd_ne h1, upd_ne h2])⟩⟩
end
def dRaise (c : Nat) (fs : List Str) (α : DTA) : DTS := fun E ρ M => α ρ M (fun ds M1 => ds.length = fs.length /\ E.ex c fs.reverse ds.reverse ρ M1) E.ex
section
variable {cl : ClW} {X : Cx} {W : WX} {k : Nat} {x : Str} {c : Nat} {fs : List Str} {e : Expr} {es : List Expr} {α : DTA} {p p2 pos : Pos}
theorem ds_raise (cp : Cap X W k) (hk : 2 <= k) (T : ExcK X.prog X.w X.K X.mg X.base x (cl c) fs) (hf : fs.length <= 900) (hg : Gl X x) (ha : DA cl X W (e :: es) α)
    (hdb : (x == ("__debug__" : Str)) = false := by decide) (he : starEach (e :: es) X.env = (false, eval e X.env) :: starEach es X.env := by rfl) (hpl : (backTo p2 (starEach es X.env)).any (·.1) = false := by rfl) :
    DS cl X W (.Raise (some (.Call (.Name x p) (e :: es) [] p2)) none pos) (dRaise c fs α) := by
  obtain ⟨fI, fd, ps, iC, tI, F1, hb⟩ := T.ini
  refine ⟨ps_imp (ps_raise cp.calm cp.tk (pmk_oex T.oex iC tI F1 (cp.hr.mono hk).room hb .nil (fun pins σ H s e s' I h => ?_) hg T.gl ha.pa hdb he hpl)) fun D σ H ⟨F, ρ, M, E, g, s, q, ok⟩ => ?_⟩
  · obtain ⟨_, _, _, _, _, _, _, _, _, _, _, _, h⟩ := h
    exact h.elim
  · refine ⟨F, ρ, M, _, E.ex, g, s, q, fun vs H1 F1 ds M1 sm g1 r1 ⟨hl, q1⟩ => ⟨by rw [r1.length, hl]; omega, fun a ha => ?_⟩, ok.ex⟩
    refine ⟨a, vs, by rw [List.append_nil], by rw [r1.length, hl], upd_same, fun d H' hd hne h1 h2 h3 => ⟨rfl, d, _, h1, h2, ?_, ?_⟩⟩
    · rw [upd_ne hne] at hd; exact hd
    · rw [upd_ne hne] at hd
      have eH : L2.upd (L2.del H' a) d (.xd (fs.reverse.zip vs.reverse)) = L2.upd H1 d (.xd (fs.reverse.zip vs.reverse)) := by
        funext b
        by_cases hb : b = d
        · rw [hb, upd_same, upd_same]
        · rw [upd_ne hb, upd_ne hb]
          by_cases hb2 : b = a
          · rw [hb2, del_same, ha]
          · rw [del_ne hb2, h3 b hb2 hb, upd_ne hb2]
      rw [eH]
      have sm2 : Same F1 (L2.upd F1 d (.xd (fs.reverse.zip vs.reverse))) := same_new (g1.freshF hd)
      exact ok.ex c _ _ σ _ _ ρ M1 (some d) (sm.trans sm2) (g1.new hd) (s.mono (sm.trans sm2)) (.inr ⟨d, vs.reverse, rfl, upd_same, by rw [List.length_reverse, List.length_reverse, r1.length, hl], (r1.mono sm2).reverse⟩) q1
end
end DL
set_option Elab.async false
set_option linter.all false
set_option maxRecDepth 100000
set_option maxHeartbeats 4000000
set_option autoImplicit false
namespace DL
open PySem L2
abbrev Clause := Value × Option Nat × (Addr -> Value -> Option Addr -> TS)
def endsAt (o : Option Nat) (Dn : Ends) : Ends := match o with
  | none => Dn
  | some i => { nx := fun σ H => Dn.nx (σ.set i none) H, rt := Dn.rt, bk := fun σ H => Dn.bk (σ.set i none) H, ct := fun σ H => Dn.ct (σ.set i none) H }
def setAt (o : Option Nat) (σ : St) (a : Addr) : St := match o with
  | none => σ
  | some i => σ.set i (some (.ref a))
def wMix (K : PySem.W.Frag) (Wo : WX) (Dn : Ends) : List Clause -> WX
  | [] => Wo
  | (c, o, ts) :: r => fun cl d σ H => ∃ b, PySem.W.exmOne K cl c = some b /\ (b = true -> ∀ a, H a = none -> ts a cl d (endsAt o Dn) (setAt o σ a) H) /\ (b = false -> wMix K Wo Dn r cl d σ H)
abbrev SuiteOk (X : Cx) (su : List Stmt) (ts : Addr -> Value -> Option Addr -> TS) : Prop := ∀ (a : Addr) (oe : Obj) (cl : Value) (d : Option Addr) (pn : List (Addr × Obj)), Zc cl d oe -> (∃ vs, oe.data = .fields vs) -> PSs (X.suite a ((a, oe) :: pn)) su (ts a cl d)
inductive Mix (X : Cx) : List ExceptHandler -> List Clause -> Prop
  | nil : Mix X [] []
  | only {x : Str} {c : Value} {ts : Addr -> Value -> Option Addr -> TS} {st : Stmt} {su : List Stmt} {np hp : Pos} {hs : List ExceptHandler} {l : List Clause} (hc : Names X x c) (h : SuiteOk X (st :: su) ts) (r : Mix X hs l) : Mix X (.ExceptHandler (some (.Name x np)) none (st :: su) hp :: hs) ((c, none, ts) :: l)
  | as {x n : Str} {i : Nat} {c : Value} {ts : Addr -> Value -> Option Addr -> TS} {st : Stmt} {su : List Stmt} {np hp : Pos} {hs : List ExceptHandler} {l : List Clause} (hN : X.N.Nodup) (hi : X.N[i]? = some n) (hn : X.env.kindOf n = some .local) (hc : Names X x c) (h : SuiteOk X (st :: su) ts) (r : Mix X hs l) :
      Mix X (.ExceptHandler (some (.Name x np)) (some n) (st :: su) hp :: hs) ((c, some i, ts) :: l)
section
variable {X : Cx} {body : List Stmt} {hd0 : ExceptHandler} {hds : List ExceptHandler} {l : List Clause} {pos : Pos} {tb : WX -> TS} {Wo : WX}
theorem sp_back {pins : List (Addr × Obj)} {pn : List (Addr × Obj)} {xe : Value -> Shared -> Prop} {Dn : Ends} {s0 : Shared} {σ0 : St} {H0 : Hp} (I0 : Inv X pins σ0 H0 s0) {fl : Flow} {s : Shared} (h : SP (X.tr pn xe) [] Dn fl s) (hp : pn = X.pn ++ pins) : SP X pins Dn fl s := by
  subst hp
  cases fl with
  | ret u => exact let ⟨v, σ, H, J, r, q⟩ := h; ⟨v, σ, H, J.ofTry I0.ok, r, q⟩
  | _ => exact let ⟨σ, H, J, q⟩ := h; ⟨σ, H, J.ofTry I0.ok, q⟩
theorem mix_go {pins : List (Addr × Obj)} {Dn : Ends} {a : Addr} {B h3 : Heap} {s1 sI : Shared} {σ1 : St} {H1 : Hp} {cl : Value} {d : Option Addr} (hst : X.stack = X.env :: X.outer) (hfr : X.env.frame = some X.env.locals) (tk : Takes X Wo)
    (J : Inv X pins σ1 H1 sI) (nb : ∀ b o, sI.heap.get? b = some o -> b ∉ frs X.stack -> B.get? b = some o) (up : sI.heap.UpToSlots h3) (fl : HandSPX.FlyingZ B (X.env :: X.outer) a (Zc cl d) h3) (na : H1 a = none) (os : s1.os = sI.os) (ag : PyProof.Rows.AllBare s1.gens)
    (hk : Mix X hds l) (w : wMix X.K Wo Dn l cl d σ1 H1) : wpAny (model X.prog X.w) X.A (handleBy (.ref a) X.env hds) (SP X pins Dn) X.xe { s1 with heap := h3 } := by
  have ok := J.ok
  have land : ∀ {h4 : Heap}, HandSPX.FlyingZ B (X.env :: X.outer) a (Zc cl d) h4 -> sI.heap.UpToSlots h4 -> ∃ oe, Zc cl d oe /\ (∃ vs, oe.data = .fields vs) /\ h4.get? a = some oe /\ Inv X pins σ1 H1 { s1 with heap := h4 } /\ Inv (X.suite a ((a, oe) :: (X.pn ++ pins))) [] σ1 H1 { s1 with heap := h4 } := fun {h4} fl4 up4 => by
    have J4 : Inv X pins σ1 H1 { s1 with heap := h4 } := J.landed nb fl4.1 up4 os ag
    obtain ⟨oe, vs, e1, e2, e3⟩ := fl4.there
    have out : a ∉ frs (X.env :: X.outer) := fun hm => by
      obtain ⟨_, o', e', no⟩ := fl4.2.2.1.mem hm
      rw [e1] at e'
      cases e'
      exact no vs e3
    have nL : a ≠ X.env.locals := fun z => out (List.mem_filterMap.mpr ⟨X.env, List.mem_cons_self, by rw [hfr, z]⟩)
    have nF : a ∉ X.fs := fun hm => by
      obtain ⟨e, he, q⟩ := List.mem_filterMap.mp hm
      exact out (List.mem_filterMap.mpr ⟨e, List.mem_cons_of_mem _ he, q⟩)
    exact ⟨oe, e2, ⟨vs, e3⟩, e1, J4, J4.suite e1 e3 na nL nF⟩
  have ask : ∀ {x : Str} {c : Value} {np : Pos} {b : Bool} {Q : Bool -> Shared -> Prop} {E : Value -> Shared -> Prop}, Names X x c -> PySem.W.exmOne X.K cl c = some b -> Q b { s1 with heap := h3 } ->
      wpAny (model X.prog X.w) (X.A.mark (some (.ref a))) (eval (.Name x np) X.env) (fun v s => wpAny (model X.prog X.w) (X.A.mark (some (.ref a))) (excMatches (.ref a) v) Q E s) E { s1 with heap := h3 } := fun {x c np b Q E} hc hb q => by
    obtain ⟨oe, z1, z2, z3, J3, S3⟩ := land fl up
    have LT : PySem.W.Looks (model X.prog X.w) h3 (typeOf (.ref a)) cl := fun A Q E s k q => wpAny_typeOf_ref (k _ _ z3) (by rw [z1.1]; exact q)
    have yes : wpAny (model X.prog X.w) (X.A.mark (some (.ref a))) (excMatches (.ref a) c) Q E { s1 with heap := h3 } := (PySem.W.exm_one (M := model X.prog X.w) J3.kIn LT hb).here q
    obtain ⟨hg, hdb, hm | ⟨hm, hv, hnn⟩⟩ := hc
    · exact ld_glob (X := X.suite a ((a, oe) :: (X.pn ++ pins))) S3 hg hm yes hdb
    · exact ld_blt (X := X.suite a ((a, oe) :: (X.pn ++ pins))) S3 hg hm hv yes hnn hdb
  induction hk with
  | nil =>
    refine wpAny_handleBy_nil ?_
    obtain ⟨_, _, _, oe, vs, T, oT, ts', he, hz, hd, h1, _⟩ := id fl
    have last : wpAny (model X.prog X.w) X.A (setFlight (.ref a) X.env.frame) (fun _ s4 => wpAny (model X.prog X.w) X.A (throw (.ref a) : Sem Flow) (SP X pins Dn) X.xe s4) X.xe { s1 with heap := h3 } := by
      rw [hfr]
      exact HandSPX.setFlight_upZ fl fun h4 held up4 => wpAny_throw (tk _ _ ⟨a, B, sI, pins, σ1, H1, cl, d, rfl, J, nb, up.trans up4, .inr (.inr (by rw [hst]; exact held)), na, os, ag, w⟩)
    unfold PySem.passOn
    refine wpAny_bind (wpAny_field he hd h1 ?_)
    rw [if_neg (by simp)]
    first | exact wpAny_bind (wpAny_pure (wpAny_bind last)) | exact wpAny_bind last
  | @only x c ts st su np hp hs l hc hsu r ih =>
    obtain ⟨b, hb, hyes, hno⟩ := w
    refine wpAny_handleBy_cons (codeAny_handlers_test ?_) (by intro q; cases q)
    refine ask hc hb ?_
    cases b with
    | false => exact ih (hno rfl)
    | true =>
      refine codeAny_handlers_suite (HandSPX.lands_againZ fl fun h4 fl4 up4 => ?_)
      obtain ⟨oe, z1, z2, z3, J4, S4⟩ := land fl4 (up.trans up4)
      refine wpAny_mono ((hsu a oe cl d (X.pn ++ pins) z1 z2).run [] _ _ H1 _ S4 (hyes rfl a na)) (fun f s6 hsp => ?_) (fun _ _ z => False.elim z)
      cases f with
      | ret u => exact let ⟨v, σ, H, S6, r6, q⟩ := hsp; ⟨v, σ, H, S6.unsuite ok, r6, q⟩
      | _ => exact let ⟨σ, H, S6, q⟩ := hsp; ⟨σ, H, S6.unsuite ok, q⟩
  | @as x n i c ts st su np hp hs l hN hi hn hc hsu r ih =>
    obtain ⟨b, hb, hyes, hno⟩ := w
    refine wpAny_handleBy_cons (codeAny_handlers_test ?_) (by intro q; cases q)
    refine ask hc hb ?_
    cases b with
    | false => exact ih (hno rfl)
    | true =>
      refine codeAny_handlers_suite_as (HandSPX.lands_againZ fl fun h4 fl4 up4 => ?_)
      obtain ⟨oe, z1, z2, z3, J4, S4⟩ := land fl4 (up.trans up4)
      refine store_ok (X := X.suite a ((a, oe) :: (X.pn ++ pins))) (v := .ref a) S4 hN hi (.inl hn) rfl (fun s5 S5 => ?_) (.inr hn)
      refine wpAny_mono ((hsu a oe cl d (X.pn ++ pins) z1 z2).run [] s5 _ H1 _ S5 (hyes rfl a na)) (fun f s6 hsp => ?_) (fun _ _ z => False.elim z)
      have off : ∀ {σ6 : St} {H6 : Hp} {Q : Shared -> Prop}, Inv (X.suite a ((a, oe) :: (X.pn ++ pins))) [] σ6 H6 s6 -> (∀ s7, Inv X pins (σ6.set i none) H6 s7 -> Q s7) ->
          wpAny (model X.prog X.w) X.A (do bindName X.env n .none; unbindBehindTheSuite X.env n hp) (fun _ s7 => Q s7) X.xe s6 := fun {σ6 H6 Q} S6 hq => gone_ok (S6.unsuite ok) hN hi hn hq
      cases f with
      | ret u => exact let ⟨v, σ, H, S6, r6, q⟩ := hsp; off S6 fun s7 J7 => ⟨v, _, H, J7, r6, q⟩
      | _ => exact let ⟨σ, H, S6, q⟩ := hsp; off S6 fun s7 J7 => ⟨_, H, J7, q⟩
theorem ps_try_mix (hst : X.stack = X.env :: X.outer) (hfr : X.env.frame = some X.env.locals) (tk : Takes X Wo)
    (hb : ∀ (W : WX) (pn : List (Addr × Obj)) (xe : Value -> Shared -> Prop), Takes (X.tr pn xe) W -> PassesOwn (model X.prog X.w) X.A X.env xe -> PSs (X.tr pn xe) body (tb W))
    (hk : Mix X (hd0 :: hds) l) : PS X (.Try body (hd0 :: hds) [] [] pos) (fun Dn σ H => tb (wMix X.K Wo Dn l) Dn σ H) := by
  refine ⟨fun pins s σ H Dn I h => wpAny_Try_except ?_⟩
  have frs_ : X.A.frames = some (X.env :: X.outer) := by rw [I.ok.frames, hst]
  refine wpAny_mono ((hb (wMix X.K Wo Dn l) (X.pn ++ pins) (fun e s₁ => wpAny (model X.prog X.w) X.A (noteFrame e X.env) (fun _ s₂ => wpAny (model X.prog X.w) X.A (setFlight e none) (fun _ s₃ =>
    wpAny (model X.prog X.w) X.A (handleBy e X.env (hd0 :: hds)) (SP X pins Dn) X.xe s₃) X.xe s₂) X.xe s₁) (fun u s1 xx => ?_) PassesOwn.looking).run [] s σ H Dn (I.toTry _) h) (fun f s1 hsp => ?_) (fun e s1 he => he)
  · obtain ⟨a, B, sI, pins', σ1, H1, cl, d, rfl, J', nb, up, sky, na, os, ag, w⟩ := xx
    have sky1 : Sky B (X.env :: X.outer) a (Zc cl d) X.env.locals s1.heap := by rw [<- hst]; exact sky
    show wpAny (model X.prog X.w) X.A (noteFrame (.ref a) X.env) _ _ _
    exact Sky.land Zc.steady frs_ hfr sky1 fun h3 fl3 up3 => mix_go hst hfr tk (J'.ofTry I.ok) nb (up.trans up3) fl3 na os ag hk w
  · have z := sp_back I hsp rfl
    cases f with
    | next => exact wpAny_execs_nil z
    | _ => exact z
end
end DL
set_option Elab.async false
set_option linter.all false
set_option maxRecDepth 100000
set_option maxHeartbeats 4000000
set_option autoImplicit false
namespace DL
open PySem L2
structure DClause where
  k : Nat
  slot : Option Nat
  su : D -> DTS
def endsD (o : Option Nat) (E : DEnds) : DEnds := match o with
  | none => { E with ex := noX }
  | some i => { nx := fun ρ M => E.nx (ρ.set i none) M, rt := E.rt, bk := fun ρ M => E.bk (ρ.set i none) M, ct := fun ρ M => E.ct (ρ.set i none) M, ex := noX }
def setD (o : Option Nat) (ρ : DL.Env) (x : D) : DL.Env := match o with
  | none => ρ
  | some i => ρ.set i (some x)
def mtT (tb : List ((Nat × Nat) × Bool)) (c k : Nat) : Option Bool := tb.lookup (c, k)
def dHandle (tb : List ((Nat × Nat) × Bool)) : List DClause -> DEnds -> DX
  | [], E => E.ex
  | q :: r, E => fun c ns ds ρ M => ∃ b, mtT tb c q.k = some b /\ (b = true -> ∀ a dd, M a = none -> q.su (.exc a dd c ns ds) (endsD q.slot E) (setD q.slot ρ (.exc a dd c ns ds)) M) /\ (b = false -> dHandle tb r E c ns ds ρ M)
def dTry (tb : List ((Nat × Nat) × Bool)) (t : DTS) (qs : List DClause) : DTS := fun E ρ M => t { E with ex := fun c ns ds ρ' M' => ns ≠ [] /\ dHandle tb qs E c ns ds ρ' M' } ρ M
def MtOk (K : PySem.W.Frag) (cl : Nat -> Addr) (tb : List ((Nat × Nat) × Bool)) : Prop := ∀ c k b, mtT tb c k = some b -> PySem.W.exmOne K (.ref (cl c)) (.ref (cl k)) = some b
def XOk (cl : ClW) (x : D) (a : Addr) (cls : Value) (d : Option Addr) : Prop := ∃ dd c ns ds, x = .exc a dd c ns ds /\ d = some dd /\ cls = .ref (cl c)
section
variable {cl : ClW} {X : Cx} {W : WX}
theorem pss_ex {α : Type} {p : α -> Prop} {st : List Stmt} {t : α -> TS} (h : ∀ x, p x -> PSs X st (t x)) : PSs X st (fun D σ H => ∃ x, p x /\ t x D σ H) := ⟨fun pins s σ H D I ⟨x, hx, q⟩ => (h x hx).run pins s σ H D I q⟩
inductive DMix (cl : ClW) (X : Cx) : List ExceptHandler -> List DClause -> Prop
  | nil : DMix cl X [] []
  | only {x : Str} {k : Nat} {su : D -> DTS} {st : Stmt} {ss : List Stmt} {np hp : Pos} {hs : List ExceptHandler} {l : List DClause} (hc : Names X x (.ref (cl k)))
      (h : ∀ (x : D) (a : Addr) (oe : Obj) (cls : Value) (d : Option Addr) (pn : List (Addr × Obj)), XOk cl x a cls d -> Zc cls d oe -> (∃ vs, oe.data = .fields vs) -> DSs cl (X.suite a ((a, oe) :: pn)) W0 (st :: ss) (su x)) (r : DMix cl X hs l) :
      DMix cl X (.ExceptHandler (some (.Name x np)) none (st :: ss) hp :: hs) (⟨k, none, su⟩ :: l)
  | as {x n : Str} {i k : Nat} {su : D -> DTS} {st : Stmt} {ss : List Stmt} {np hp : Pos} {hs : List ExceptHandler} {l : List DClause} (hN : X.N.Nodup) (hi : X.N[i]? = some n) (hn : X.env.kindOf n = some .local) (hc : Names X x (.ref (cl k)))
      (h : ∀ (x : D) (a : Addr) (oe : Obj) (cls : Value) (d : Option Addr) (pn : List (Addr × Obj)), XOk cl x a cls d -> Zc cls d oe -> (∃ vs, oe.data = .fields vs) -> DSs cl (X.suite a ((a, oe) :: pn)) W0 (st :: ss) (su x)) (r : DMix cl X hs l) :
      DMix cl X (.ExceptHandler (some (.Name x np)) (some n) (st :: ss) hp :: hs) (⟨k, some i, su⟩ :: l)
def tsOf (K : PySem.W.Frag) (cl : ClW) (su : D -> DTS) : Addr -> Value -> Option Addr -> TS := fun a cls d Dn σ H => ∃ x, XOk cl x a cls d /\ lowS K cl W0 (su x) Dn σ H
def clOf (K : PySem.W.Frag) (cl : ClW) (q : DClause) : Clause := (.ref (cl q.k), q.slot, tsOf K cl q.su)
theorem DMix.mix {hs : List ExceptHandler} {l : List DClause} (h : DMix cl X hs l) : Mix X hs (l.map (clOf X.K cl)) := by
  induction h with
  | nil => exact .nil
  | only hc h r ih => exact .only hc (fun a oe cls d pn hz hf => pss_ex (p := fun x => XOk cl x a cls d) fun x hx => (h x a oe cls d pn hx hz hf).pss) ih
  | as hN hi hn hc h r ih => exact .as hN hi hn hc (fun a oe cls d pn hz hf => pss_ex (p := fun x => XOk cl x a cls d) fun x hx => (h x a oe cls d pn hx hz hf).pss) ih
theorem ends_ok {F : Hp} {Dn : Ends} {E : DEnds} (o : Option Nat) (ok : EndsOk X.K cl W F Dn E) : EndsOk X.K cl W0 F (endsAt o Dn) (endsD o E) := by
  have wx : WOk X.K cl W0 F noX := wok0
  cases o with
  | none => exact ⟨ok.nx, ok.rt, ok.bk, ok.ct, wx⟩
  | some i => exact ⟨fun σ H F' ρ M sm g s q => ok.nx _ H F' _ M sm g (s.setN i) q, ok.rt, fun σ H F' ρ M sm g s q => ok.bk _ H F' _ M sm g (s.setN i) q, fun σ H F' ρ M sm g s q => ok.ct _ H F' _ M sm g (s.setN i) q, wx⟩
theorem mix_ok {tb : List ((Nat × Nat) × Bool)} (mt : MtOk X.K cl tb) {Dn : Ends} {E : DEnds} {F : Hp} (ok : EndsOk X.K cl W F Dn E) : ∀ (l : List DClause), WOk X.K cl (wMix X.K W Dn (l.map (clOf X.K cl))) F (fun c ns ds ρ M => ns ≠ [] /\ dHandle tb l E c ns ds ρ M)
  | [] => fun c ns ds σ H F' ρ M dd sm g s ea ⟨_, q⟩ => ok.ex c ns ds σ H F' ρ M dd sm g s ea q
  | q :: r => fun c ns ds σ H F' ρ M dd sm g s ea ⟨hn, b, e1, e2, e3⟩ => by
    refine ⟨b, mt _ _ _ e1, fun hb a ha => ?_, fun hb => mix_ok mt ok r c ns ds σ H F' ρ M dd sm g s ea ⟨hn, e3 hb⟩⟩
    rcases ea with ⟨_, z, _⟩ | ⟨d, vs, rfl, h1, h2, h3⟩
    · exact absurd z hn
    refine ⟨.exc a d c ns ds, ⟨d, c, ns, ds, rfl, rfl, rfl⟩, F', setD q.slot ρ (.exc a d c ns ds), M, endsD q.slot E, g, ?_, e2 hb a d (g.freshM ha), ends_ok q.slot (ok.mono sm)⟩
    cases ho : q.slot with
    | none => exact s
    | some i => exact s.set i (.exc h1 h2 h3)
theorem ds_try {tb : List ((Nat × Nat) × Bool)} {body : List Stmt} {hd0 : ExceptHandler} {hds : List ExceptHandler} {qs : List DClause} {t : DTS} {pos : Pos} {k : Nat} (cp : Cap X W k) (mt : MtOk X.K cl tb) (hst : X.stack = X.env :: X.outer) (hfr : X.env.frame = some X.env.locals)
    (hb : ∀ (W' : WX) (pn : List (Addr × Obj)) (xe : Value -> Shared -> Prop), Cap (X.tr pn xe) W' k -> DSs cl (X.tr pn xe) W' body t) (hk : DMix cl X (hd0 :: hds) qs) : DS cl X W (.Try body (hd0 :: hds) [] [] pos) (dTry tb t qs) :=
  ⟨ps_imp (ps_try_mix (tb := fun W' => lowS X.K cl W' t) hst hfr cp.tk (fun W' pn xe tk po => (hb W' pn xe ⟨tk, cp.hr, po, cp.calm⟩).pss) hk.mix) fun Dn σ H ⟨F, ρ, M, E, g, s, q, ok⟩ =>
    ⟨F, ρ, M, _, g, s, q, ⟨ok.nx, ok.rt, ok.bk, ok.ct, mix_ok mt ok qs⟩⟩⟩
end
end DL
set_option Elab.async false
set_option linter.all false
set_option maxRecDepth 100000
set_option maxHeartbeats 4000000
set_option autoImplicit false
namespace DL
open PySem L2
structure CapS (A : Around) : Prop where
  un : A.units + 200 < cLine
  gd : A.guards = some []
theorem Cap.suite {X : Cx} {W : WX} {k : Nat} (c : Cap X W k) (a : Addr) (pn : List (Addr × Obj)) : CapS (X.suite a pn).A := ⟨by have := c.hr.room.un; show X.A.units + 200 < cLine; omega, c.hr.gd⟩
section
variable {X : Cx}
theorem call_reprU (c : CapS X.A) : CallR X (.builtin "repr") (rRepr X.K) := by
  intro pins s σ H xs us Q I r ⟨x, p, e, hd, hs, hp, hz, q⟩
  subst e
  obtain ⟨u, rfl, ru⟩ := vals1 r
  obtain ⟨as, rd⟩ := Dp.reads I p x u hd ru
  have un := c.un
  have dp := SeqAt.depth_of_shaped hp
  cases hd with
  | non => cases ru; exact PySem.P.repr_of_none ⟨.str _, H, I.tok _, ⟨_, rfl⟩, q⟩
  | bl b => cases ru; exact PySem.P.repr_of_bool ⟨.str _, H, I.tok _, ⟨_, rfl⟩, by simpa [PyData.shown] using q⟩
  | int i => obtain ⟨t, rfl⟩ := ru; exact PySem.P.repr_of_int (by simpa [PyData.showable] using hs) ⟨.str _, H, I.tok _, ⟨_, rfl⟩, by simpa [PyData.shown] using q⟩
  | str z => obtain ⟨t, rfl⟩ := ru; exact PySem.P.repr_of_str ⟨.str _, H, I.tok _, ⟨_, rfl⟩, by simpa [PyData.shown] using q⟩ (by simpa [PyData.shown] using hz)
  | lst h1 h2 => cases ru; exact PySem.repr_of_reads' rd hs (PyData.noDict_hsm (PyData.hasDict_of_canLay _ (SeqAt.canLay_of_shaped hp))) c.gd (by omega) (fun _ _ e => e) (fun h' t tk kp => ⟨.str _, H, I.kept (t' := tk) kp, ⟨_, rfl⟩, q⟩) hz
  | tup h1 h2 => cases ru; exact PySem.repr_of_reads' rd hs (PyData.noDict_hsm (PyData.hasDict_of_canLay _ (SeqAt.canLay_of_shaped hp))) c.gd (by omega) (fun _ _ e => e) (fun h' t tk kp => ⟨.str _, H, I.kept (t' := tk) kp, ⟨_, rfl⟩, q⟩) hz
end
def excF (cs : List Nat) (f : Str) : D -> Option D
  | .exc _ _ c ns ds => if c ∈ cs then lookN f ns ds else none
  | _ => none
@[simp] def dXf (cs : List Nat) (f : Str) (x : D) (τ : DTE) : DTE := fun ρ M Q X => τ ρ M (fun d M1 => d = x /\ ∃ v, excF cs f x = some v /\ Q v M1) X
def XfOk (K : PySem.W.Frag) (cl : Nat -> Addr) (cs : List Nat) (f : Str) : Prop := ∀ c ∈ cs, XfC K (cl c) /\ PySem.W.findIn K (.ref (cl c)) f = some none
def xfOkB (K : PySem.W.Frag) (cl : Nat -> Addr) (cs : List Nat) (f : Str) : Bool := cs.all fun c => xfB K (cl c) && He.eqO (PySem.W.findIn K (.ref (cl c)) f) (some none)
theorem xfOkB_ok {K : PySem.W.Frag} {cl : Nat -> Addr} {cs : List Nat} {f : Str} (h : xfOkB K cl cs f = true) : XfOk K cl cs f := fun c hc => by
  obtain ⟨h1, h2⟩ := and2 (List.all_eq_true.mp h c hc)
  exact ⟨xfB_ok h1, He.eqO_ok h2⟩
section
variable {cl : ClW} {X : Cx} {a : Addr} {oe : Obj} {cls : Value} {d : Option Addr} {pn : List (Addr × Obj)} {x : D} {e : Expr} {τ : DTE} {f : Str} {cs : List Nat} {pos : Pos}
theorem d_xf (T : XfOk X.K cl cs f) (hx : XOk cl x a cls d) (hz : Zc cls d oe) (hf : ∃ vs, oe.data = .fields vs) (he : DE cl (X.suite a ((a, oe) :: pn)) W0 e τ) (hb : attributeBase e f X.env (eval e X.env) = eval e X.env := by rfl) :
    DE cl (X.suite a ((a, oe) :: pn)) W0 (.Attribute e f pos) (dXf cs f x τ) := by
  obtain ⟨dd, c, ns, ds, rfl, rfl, rfl⟩ := hx
  by_cases hc : c ∈ cs
  · obtain ⟨t1, t2⟩ := T c hc
    refine ⟨pe_imp (pe_xf t1 t2 hz hf he.pe hb) fun σ H Q ⟨F, ρ, M, Qd, Xd, g, s, q, p, w⟩ => ⟨F, ρ, M, _, Xd, g, s, q, fun v H1 F1 d1 M1 sm g1 r1 ⟨e1, v2, e2, q1⟩ => ?_, w⟩⟩
    subst e1
    cases r1 with
    | @exc _ _ _ _ vs _ h1 h2 h3 =>
      rw [excF, if_pos hc] at e2
      obtain ⟨y, y1, y2⟩ := reps_lookN h3 e2
      exact ⟨rfl, rfl, dd, _, y, rfl, g1.sub _ _ h1, by rw [lookN_zip]; exact y1, p _ _ _ _ _ sm g1 y2 q1⟩
  · refine ⟨⟨fun pins s σ H Q I ⟨F, ρ, M, Qd, Xd, g, sl, q, p, w⟩ => attr_of hb (thn (he.pe.run pins s σ H (fun _ _ => False) I ⟨F, ρ, M, _, Xd, g, sl, q, fun v H1 F1 d1 M1 sm g1 r1 ⟨e1, v2, e2, q1⟩ => ?_, w⟩) fun u s1 ⟨_, _, _, _, h⟩ => h.elim)⟩⟩
    rw [excF, if_neg hc] at e2
    cases e2
end
def oexB (K : PySem.W.Frag) (C : Addr) : Bool := (match K.lookup C with
  | some ⟨.type "type", _, .cls cd, sl⟩ => (match cd.mro, sl.toList with
    | .ref C' :: bm, [_, _, _, _, some (.builtin n), _] => decide (C' = C) && (decide (n = "ValueError.__new__") && (!cd.hasDel && (cd.hasDict && PySem.HandSPX.refsVE bm)))
    | _, _ => false)
  | _ => false) && (He.eqO (PySem.W.findIn K (.ref C) "__setattr__") (some (some (.builtin "object.__setattr__"))) && ((PySem.W.subIn K (.ref C) (.type "BaseException") == some true) && ((PySem.W.typeIn K (.ref C) == some (.type "type")) && PySem.W.keepIn K (.ref C))))
theorem oexB_ok {K : PySem.W.Frag} {C : Addr} (h : oexB K C = true) : OexC K C := by
  obtain ⟨h0, h⟩ := and2 h
  obtain ⟨h1, h⟩ := and2 h
  obtain ⟨h2, h⟩ := and2 h
  obtain ⟨h3, h4⟩ := and2 h
  refine ⟨?_, He.eqO_ok h1, beq_iff_eq.mp h2, beq_iff_eq.mp h3, h4⟩
  split at h0
  · rename_i dd cd sl ho
    split at h0
    · rename_i C' bm k0 k1 k2 k3 n k5 hm hs
      obtain ⟨g1, h0⟩ := and2 h0
      obtain ⟨g2, h0⟩ := and2 h0
      obtain ⟨g3, h0⟩ := and2 h0
      obtain ⟨g4, g5⟩ := and2 h0
      have e1 := of_decide_eq_true g1
      have e2 := of_decide_eq_true g2
      have e3 : cd.hasDel = false := by simpa using g3
      subst e1 e2
      obtain ⟨nm, bs, mro, ns, qn, hd, sn, sb, ab, col, del⟩ := cd
      dsimp only at hm e3 g4
      subst hm e3 g4
      have hsl : sl = #[k0, k1, k2, k3, some (.builtin "ValueError.__new__"), k5] := by
        cases sl
        dsimp only at hs
        rw [hs]
      subst hsl
      exact ⟨nm, qn, ns, bs, bm, sn, sb, ab, col, dd, k0, k1, k2, k3, k5, ho, g5⟩
    · cases h0
  · cases h0
def xnB (K : PySem.W.Frag) (C : Addr) (fI : Addr) (fs : List Str) : Bool := He.eqO (PySem.W.findIn K (.ref C) "__init__") (some (some (.ref fI))) && ((PySem.W.typeIn K (.ref fI) == some (.type "function")) && (fs.all fun f => He.eqO (PySem.W.findIn K (.ref C) f) (some none)))
theorem xnB_ok {K : PySem.W.Frag} {C fI : Addr} {fs : List Str} (h : xnB K C fI fs = true) : PySem.W.findIn K (.ref C) "__init__" = some (some (.ref fI)) /\ PySem.W.typeIn K (.ref fI) = some (.type "function") /\ ∀ f ∈ fs, PySem.W.findIn K (.ref C) f = some none := by
  obtain ⟨h1, h⟩ := and2 h
  obtain ⟨h2, h3⟩ := and2 h
  exact ⟨He.eqO_ok h1, beq_iff_eq.mp h2, fun f hf => He.eqO_ok (List.all_eq_true.mp h3 f hf)⟩
section
variable {K : PySem.W.Frag} {cl : ClW}
def mtB (K : PySem.W.Frag) (cl : Nat -> Addr) (tb : List ((Nat × Nat) × Bool)) : Bool := tb.all fun p => PySem.W.exmOne K (.ref (cl p.1.1)) (.ref (cl p.1.2)) == some p.2
theorem mtB_ok {cl : Nat -> Addr} {tb : List ((Nat × Nat) × Bool)} (h : mtB K cl tb = true) : MtOk K cl tb := by
  intro c k b e
  induction tb with
  | nil => cases e
  | cons p r ih =>
    obtain ⟨⟨c0, k0⟩, b0⟩ := p
    unfold mtB at h
    rw [List.all_cons] at h
    obtain ⟨h1, h2⟩ := and2 h
    by_cases hc : (c, k) = (c0, k0)
    · cases hc
      unfold mtT at e
      rw [List.lookup, beq_self_eq_true] at e
      cases e
      exact beq_iff_eq.mp h1
    · have : ((c, k) == (c0, k0)) = false := beq_false_of_ne hc
      unfold mtT at e ih
      rw [List.lookup, this] at e
      exact ih h2 e
end
end DL
set_option Elab.async false
set_option linter.all false
set_option maxRecDepth 100000
set_option maxHeartbeats 4000000
namespace DL
open PySem L2
section
variable {cl : ClW} {X : Cx} {W : WX} {elt tg iter : Expr} {ifs : List Expr} {scope : Scope} {own : List (Str × Nat)} {pos : Pos} {ι : DTI} {is : List Nat} {γ : DTG} {υ : DTT} {τ : DTE}
end
def dGhost (i : Nat) (t : DTS) : DTS := fun E ρ M => ∃ p d, ρ[i]? = some (some (.ref p)) /\ M p = some d /\ t E (ρ.set i (some d)) (delM M p)
section
variable {cl : ClW} {X : Cx} {W : WX} {st : Stmt} {t : DTS}
theorem slot_keep {K : PySem.W.Frag} {F : Hp} {σ : St} {ρ : DL.Env} {i : Nat} {d : D} {v : V} (s : Slots K cl F σ ρ) (h : σ[i]? = some (some v)) (r : Rep K cl F v d) : Slots K cl F σ (ρ.set i (some d)) := ⟨by rw [List.length_set]; exact s.len, fun j e q => by
  by_cases z : i = j
  · subst z
    have hi : i < ρ.length := by rw [<- s.len]; exact (List.getElem?_eq_some_iff.mp h).1
    rw [List.getElem?_set_self hi] at q
    cases q
    exact ⟨v, h, r⟩
  · rw [List.getElem?_set_ne z] at q
    exact s.get j e q⟩
theorem ds_ghost (i : Nat) (h : DS cl X W st t) : DS cl X W st (dGhost i t) := ⟨ps_imp h.ps fun Dn σ H ⟨F, ρ, M, E, g, s, ⟨p, d, e1, e2, q⟩, ok⟩ => by
  obtain ⟨F', sm, g', r⟩ := g.freeze e2
  obtain ⟨v, h1, h2⟩ := s.get i _ e1
  have hv := h2.toRef
  subst hv
  exact ⟨F', ρ.set i (some d), delM M p, E, g', slot_keep (s.mono sm) h1 r, q, ok.mono sm⟩⟩
end
end DL
set_option Elab.async false
set_option linter.all false
set_option maxRecDepth 100000
set_option maxHeartbeats 4000000
set_option autoImplicit false
namespace DL
open PySem L2
theorem meets_enum1 {v : Value} {o : Obj} {H : Heap -> Prop} (B : Begins v o H) :
    Meets (Builtin.«enumerate.__new__» ⟨[.type "enumerate", v], []⟩) (fun _ R s => H s.heap /\
      R (.ok (.ret (.ref (s.heap.push o).objs.size))) { s with heap := (s.heap.push o).push { cls := .type "enumerate", data := .fields #[.none, .bool false, .ref s.heap.objs.size, rawInt 0, .none, .none] } }) :=
  .of_wp fun prog w A R s ⟨h1, h⟩ => by
    obtain ⟨hp, g, d, tk, os⟩ := s
    have sb := sub_enumerate
    have q1 : ∀ {A' : Around} {E : Value -> Shared -> Prop} {Q : Value -> Shared -> Prop}, Q (.ref hp.objs.size) ⟨hp.push o, g, d, tk, os⟩ -> wpAny (model prog w) A' (pyIter v) Q E ⟨hp, g, d, tk, os⟩ :=
      fun q => B.iter prog w _ _ ⟨hp, g, d, tk, os⟩ _ h1 q
    wp_walk using q1
    refine wpAny_stack_any fun st => wpAny_pure ?_
    split
    · rename_i c _ _ _ _ _
      cases (c == Value.type "enumerate")
      · wp_walk using q1
        exact ⟨_, rfl, h⟩
      · wp_walk using q1
        exact ⟨_, rfl, h⟩
    · wp_walk using q1
      exact ⟨_, rfl, h⟩
section
variable {prog : Program} {w : World} {A : Around} {E : Value -> Shared -> Prop} {s : Shared}
theorem call_enum1 {v : Value} {o : Obj} {H : Heap -> Prop} {Q : Value -> Shared -> Prop} (B : Begins v o H) (h1 : H s.heap)
    (h : ∀ h', IsEnum h' (s.heap.objs.size + 1) s.heap.objs.size 0 .none -> h'.get? s.heap.objs.size = some o -> (∀ b o, s.heap.get? b = some o -> h'.get? b = some o) -> Q (.ref (s.heap.objs.size + 1)) { s with heap := h' }) :
    wpAny (model prog w) A (call (.type "enumerate") [v]) Q E s := by
  refine callType_new F.called_enumerate (by decide) (F.typeCall_enumerate_1 _) (F.newCall_enumerate_1 _) (fun obj => F.args_object_init_2 obj _) F.entry_enumerate_new (meets_enum1 B) ⟨h1, ?_⟩
  have hz : (s.heap.push o).objs.size = s.heap.objs.size + 1 := Heap.size_push ..
  show _ /\ _
  rw [hz]
  have at1 := Heap.get?_push_size (s.heap.push o) (o := { cls := .type "enumerate", data := .fields #[.none, .bool false, .ref s.heap.objs.size, rawInt 0, .none, .none] }) rfl
  rw [hz] at at1
  exact ⟨⟨_, at1, rfl⟩, h _ at1 (Heap.get?_push_of_some _ (Heap.get?_push_size _ B.free)) fun b o x => Heap.get?_push_of_some _ (Heap.get?_push_of_some _ x)⟩
end
def IteT (K : PySem.W.Frag) (a : Addr) : It :=
  ⟨fun i H => ∃ (xs : List V) (x : V), SqT K H a xs /\ xs[i]? = some x, fun i H v H' => ∃ T x, v = .ref T /\ H T = none /\ H' = upd H T (.tup [.int (i : Nat), x]) /\ ∀ xs, SqT K H a xs -> xs[i]? = some x, fun i H => ∃ xs : List V, SqT K H a xs /\ xs.length <= i⟩
theorem turn_enumT {P : Program} {w : World} {K : PySem.W.Frag} {elts : List Expr} {kk : Nat} {tpos : Pos} (a e it : Addr) :
    Turn P w K (.Tuple elts kk tpos) (IteT K a) [e, it] e (fun i h => (∃ old, IsEnum h e it ((i : Nat) : Int) old) /\ h.IsTupleIter it a i /\ e ≠ it) where
  mem := by simp
  obj := fun i h ⟨⟨old, he⟩, ⟨o, ho, hc, hd⟩, _⟩ b hb => by
    rcases List.mem_cons.mp hb with rfl | hb
    · exact ⟨_, he, fun v q => nomatch q⟩
    · rw [List.mem_singleton.mp hb]
      exact ⟨o, ho, fun v q => by rw [hd] at q; cases q⟩
  keep := fun i h h' ⟨⟨old, he⟩, hi, hne⟩ k => ⟨⟨old, k e (by simp) _ he⟩, hi.at fun o q => k it (by simp) o q, hne⟩
  item := by
    intro X hP hw hK hc i pins s σ H E I hf ⟨⟨old, he⟩, hit, hne⟩ ⟨xs, x, hq, hx⟩
    subst hP hw hK
    obtain ⟨its, rv, p, hz⟩ := I.tuple hq
    obtain ⟨u, hu, ru⟩ := rv.get hx
    have hel : e < s.heap.objs.size := Heap.lt_size he
    have hil : it < s.heap.objs.size := by obtain ⟨_, q, _⟩ := hit; exact Heap.lt_size q
    have nai : a ≠ it := fun z => by
      obtain ⟨o1, e1, c1, _⟩ := p
      obtain ⟨o2, e2, c2, _⟩ := hit
      rw [z, e2] at e1
      cases e1
      rw [c2] at c1
      exact absurd c1 (by simp)
    have nae : e ∉ [it, a] := fun hm => by
      rcases List.mem_cons.mp hm with z | hm
      · exact hne z
      · have z := List.mem_singleton.mp hm
        obtain ⟨o1, e1, c1, _⟩ := p
        rw [<- z, he] at e1
        cases e1
        exact absurd c1 (by simp)
    have hlt : i < its.toArray.size := by simpa using (List.getElem?_eq_some_iff.mp hu).1
    have hh : X.A.in1.handled = none := I.ok.hd hc
    refine wpAny_pyNext_enum_itemD (Draws.tuple hh it a nai its.toArray) he ⟨hit, p⟩ hlt hne nae fun y h' tk hy ho hst hT hsz hk => ?_
    have hyu : y = u := by
      have : its.toArray[i]? = some u := by simpa using hu
      rw [this] at hy
      exact (Option.some.inj hy).symm
    subst hyu
    refine ⟨_, rfl, wpAny_letOwnedTupleGo_enum (s := { s with heap := h', toks := tk + 1 }) ho fun h'' he' sb => ?_⟩
    have hT2 : h''.get? s.heap.objs.size = some { cls := .type "tuple", data := .seq #[.int i tk, y] } := (sb.2 _ (Nat.ne_of_gt hel)).trans hT
    have new : ObjOk X.prog X.w (upd H s.heap.objs.size (.tup [.int (i : Nat), x])) h'' s.heap.objs.size (.tup [.int (i : Nat), x]) :=
      ⟨by show 2 <= sizeLine; decide, [.int i tk, y], .cons ⟨_, rfl⟩ (.cons ru .nil), ⟨_, hT2, rfl, _, rfl⟩⟩
    have I1 : Inv X pins σ (upd H s.heap.objs.size (.tup [.int (i : Nat), x])) { s with heap := h'', toks := tk + 1 } :=
      I.turnedNew (ch := [e, it]) (fun b ob hb q => (sb.2 b (fun z => hb (by simp [z]))).trans (hk b ob (fun z => hb (by simp [z])) (fun z => hb (by simp [z])) q)) hf (Nat.le_refl _) new
    refine ⟨.ref s.heap.objs.size, _, I1, rfl, ⟨_, x, rfl, I.hok.fresh (Nat.le_refl _), rfl, fun ys hy => by rw [I.tuple_inj hy hq]; exact hx⟩, ⟨⟨y, ?_⟩, hst.1.at fun o q => (sb.2 it (Ne.symm hne)).trans q, hne⟩, fun b hb => ?_⟩
    · rw [show ((i + 1 : Nat) : Int) = (i : Int) + 1 by omega]
      exact he'
    · have hlt2 : b < s.heap.objs.size := by
        rcases List.mem_cons.mp hb with rfl | hb
        · exact hel
        · rw [List.mem_singleton.mp hb]; exact hil
      rw [upd_ne (Nat.ne_of_lt hlt2)]
      exact (hf b hb).1
  done := by
    intro X hP hw hK hc i pins s σ H E I hf ⟨⟨old, he⟩, hit, hne⟩ ⟨xs, hq, hx⟩
    subst hP hw hK
    obtain ⟨its, rv, p, hz⟩ := I.tuple hq
    have hl : xs.length = its.length := Paired.length rv
    have hh : X.A.in1.handled = none := I.ok.hd hc
    have D0 : Draws X.prog X.w X.A.in1 it [it, a] i (fun _ _ => True) (fun j h => j = i /\ h.IsTupleIter it a j /\ h.IsTuple a its.toArray) := {
      live := fun _ _ ⟨_, st, _⟩ => let ⟨o, ho, _⟩ := st; ⟨o, ho⟩
      frame := fun _ _ _ ⟨e, s1, s2⟩ hk => ⟨e, s1.at fun o e => hk it (by simp) o e, s2.at fun o e => hk a (by simp) o e⟩
      item := fun j s Q E hj ⟨e, _⟩ _ => absurd e (by omega)
      done := fun s Q E ⟨_, s1, s2⟩ hE => wpAny_nextOf_tuple_end hh s1 s2 (by simp; omega) hE }
    obtain ⟨f0, f1, f2, f3, f4, f5⟩ := hf it (by simp)
    exact wpAny_pyNext_enum_endD D0 he ⟨rfl, hit, p⟩ fun h' eb => ⟨rfl, I.turned (t' := s.toks) (fun b o hb q => eb b o hb q) f0 f1 f3 f4 f5⟩
  self := fun A i s Q E ⟨⟨_, he⟩, _⟩ h => wpAny_pyIter_enum he h
def iEnumT (K : PySem.W.Frag) (ta : TA) : TI := fun σ H R => ta σ H fun vs H1 => (∃ a xs, vs = [.ref a] /\ SqL K H1 a xs /\ R (Ite K a) H1) \/ ∃ a xs, vs = [.ref a] /\ SqT K H1 a xs /\ R (IteT K a) H1
theorem pi_enumT {X : Cx} {e : Expr} {ta : TA} {p pos tpos : Pos} {elts : List Expr} {kk : Nat} (hg : Gl X "enumerate") (hm : X.mg "enumerate" = none) (ha : PA X [e] ta) (hs : starEach [e] X.env = [(false, eval e X.env)] := by rfl) :
    PI X (.Tuple elts kk tpos) (.Call (.Name "enumerate" p) [e] [] pos) (iEnumT X.K ta) := by
  refine ⟨fun pins s σ H R I h => PyProof.Rows.Call_ (ld_blt I hg hm PyProof.Rows.boot_enumerate (PyProof.Rows.callWith_type1 (thn (ha.run pos pins s σ H _ I h) fun us s1 ⟨vs, H1, I1, r1, q1⟩ => ?_) hs rfl))⟩
  have fps : ∀ b ∈ [s1.heap.objs.size + 1, s1.heap.objs.size], FpOk X pins H1 b := fun b hb => by
    have hle : s1.heap.objs.size <= b := by
      rcases List.mem_cons.mp hb with z | hb
      · rw [z]; exact Nat.le_add_right _ _
      · rw [List.mem_singleton.mp hb]; exact Nat.le_refl _
    exact I1.fpOk hle (I1.hok.fresh hle)
  rcases q1 with ⟨a, xs, rfl, hq, q⟩ | ⟨a, xs, rfl, hq, q⟩
  · obtain ⟨u, rfl, ru⟩ := vals1 r1
    obtain rfl : u = Value.ref a := ru
    obtain ⟨its, rv, pl, hz⟩ := I1.list hq
    exact call_enumerate_list pl.isList fun h' e1 e2 hsz hk => wpAny_pyIter_enum e1 ⟨s1.heap.objs.size + 1, [s1.heap.objs.size + 1, s1.heap.objs.size], _, _, H1, rfl, I1.kept (t' := s1.toks) hk, turn_enum a _ _, ⟨⟨.none, e1⟩, e2, Nat.succ_ne_self _⟩, fps, q⟩
  · obtain ⟨u, rfl, ru⟩ := vals1 r1
    obtain rfl : u = Value.ref a := ru
    obtain ⟨its, rv, pl, hz⟩ := I1.tuple hq
    exact call_enum1 (begins_tuple a its.toArray) pl fun h' e1 e2 hk => wpAny_pyIter_enum e1 ⟨s1.heap.objs.size + 1, [s1.heap.objs.size + 1, s1.heap.objs.size], _, _, H1, rfl, I1.kept (t' := s1.toks) hk, turn_enumT a _ _, ⟨⟨.none, e1⟩, ⟨_, e2, rfl, rfl⟩, Nat.succ_ne_self _⟩, fps, q⟩
@[simp] def enD : D -> Option (List D)
  | .lst xs => some xs
  | .tup xs => some xs
  | _ => none
@[simp] def iEnT (τ : DTE) : DTI := fun ρ M R X => τ ρ M (fun d M1 => ∃ xs, enD d = some xs /\ R (xs.zipIdx.map fun p => D.tup [.int (p.2 : Nat), p.1]) M1) X
section
variable {cl : ClW} {X : Cx} {W : WX} {a : Expr} {pos : Pos} {τa : DTE}
theorem di_enumT {elts : List Expr} {kk : Nat} {tpos p : Pos} (hg : Gl X "enumerate") (hm : X.mg "enumerate" = none) (ha : DE cl X W a τa) (hs : starEach [a] X.env = [(false, eval a X.env)] := by rfl) :
    DI cl X W (.Tuple elts kk tpos) (.Call (.Name "enumerate" p) [a] [] pos) (iEnT τa) :=
  ⟨pi_imp (pi_enumT hg hm (da_cons (W := W) (cl := cl) ha da_nil hs).pa hs) fun σ H R ⟨F, ρ, M, Rd, Xd, g, s, q, p, w⟩ =>
    ⟨F, ρ, M, fun ds M1 => ∃ d xs, ds = [d] /\ enD d = some xs /\ Rd (xs.zipIdx.map fun p => D.tup [.int (p.2 : Nat), p.1]) M1, Xd, g, s, (by
      unfold iEnT at q
      unfold dCons dNil
      have same : (fun d M1 => ∃ xs, enD d = some xs /\ Rd (xs.zipIdx.map fun p => D.tup [.int (p.2 : Nat), p.1]) M1) = (fun d M1 => ∃ d' xs, [d] = [d'] /\ enD d' = some xs /\ Rd (xs.zipIdx.map fun p => D.tup [.int (p.2 : Nat), p.1]) M1) := by
        funext d M1
        simp
      rw [same] at q
      exact q), fun vs H' F' ds M' sm g' r ⟨d, xs, e1, e2, q'⟩ => (by
      subst e1
      obtain ⟨v, ws, rfl, r1, r2⟩ := r.inv
      obtain rfl := r2.inv0
      have item : ∀ (us : List V), Reps X.K cl F' us xs -> ∀ (i : Nat) (F2 H2 : Hp) (M2 : Mem), Same F' F2 -> Good X.K cl F2 H2 M2 -> ∀ d0, (xs.zipIdx.map fun p => D.tup [.int (p.2 : Nat), p.1])[i]? = some d0 ->
          ∃ v0, us[i]? = some v0 /\ ∀ (T : Addr) (x0 : V) (H3 : Hp), H2 T = none -> H3 = upd H2 T (.tup [.int (i : Nat), x0]) -> x0 = v0 -> ∃ F3, Same F2 F3 /\ Good X.K cl F3 H3 M2 /\ Rep X.K cl F3 (.ref T) d0 := fun us hu i F2 H2 M2 sm2 g2 d0 hd => by
        rw [List.getElem?_map, List.getElem?_zipIdx] at hd
        cases e3 : xs[i]? with
        | none => rw [e3] at hd; cases hd
        | some d1 =>
          rw [e3] at hd
          cases hd
          obtain ⟨v0, h3, h4⟩ := hu.get e3
          refine ⟨v0, h3, fun T x0 H3 hT eH ex => ?_⟩
          subst eH ex
          have sm3 : Same F2 (upd F2 T (.tup [.int (i : Nat), x0])) := same_new (g2.freshF hT)
          refine ⟨_, sm3, g2.new hT, .tup (SqT1.of upd_same) (.cons ?_ (.one (h4.mono (sm2.trans sm3))))⟩
          simpa using Rep.int (i : Int)
      cases d with
      | lst ys =>
        have ey : ys = xs := by simpa using e2
        subst ey
        obtain ⟨a, us, rfl, h1, h2⟩ := r1.toLst
        refine .inl ⟨a, us, rfl, same_l g'.sub h1, p _ _ F' _ M' sm g' (fun i F2 H2 M2 sm2 g2 => ⟨fun d0 hd => ?_, fun hl => ⟨us, same_l (sm2.trans g2.sub) h1, by rw [h2.length]; simpa using hl⟩⟩) q'⟩
        obtain ⟨v0, h3, h4⟩ := item us h2 i F2 H2 M2 sm2 g2 d0 hd
        refine ⟨⟨us, v0, same_l (sm2.trans g2.sub) h1, h3⟩, fun x H3 ⟨T, x0, ex, hT, eH, hy⟩ => ?_⟩
        subst ex
        have h5 := hy us (same_l (sm2.trans g2.sub) h1)
        rw [h3] at h5
        exact h4 T x0 H3 hT eH (Option.some.inj h5).symm
      | tup ys =>
        have ey : ys = xs := by simpa using e2
        subst ey
        obtain ⟨a, us, rfl, h1, h2⟩ := r1.toTup
        refine .inr ⟨a, us, rfl, same_t g'.sub h1, p _ _ F' _ M' sm g' (fun i F2 H2 M2 sm2 g2 => ⟨fun d0 hd => ?_, fun hl => ⟨us, same_t (sm2.trans g2.sub) h1, by rw [h2.length]; simpa using hl⟩⟩) q'⟩
        obtain ⟨v0, h3, h4⟩ := item us h2 i F2 H2 M2 sm2 g2 d0 hd
        refine ⟨⟨us, v0, same_t (sm2.trans g2.sub) h1, h3⟩, fun x H3 ⟨T, x0, ex, hT, eH, hy⟩ => ?_⟩
        subst ex
        have h5 := hy us (same_t (sm2.trans g2.sub) h1)
        rw [h3] at h5
        exact h4 T x0 H3 hT eH (Option.some.inj h5).symm
      | _ => cases e2), w⟩⟩
end
end DL
set_option Elab.async false
set_option linter.all false
set_option maxRecDepth 100000
set_option maxHeartbeats 4000000
set_option autoImplicit false
namespace DL
open PySem L2
section
variable {P : Program} {w : World} {A : Around} {E : Value -> Shared -> Prop} {s : Shared} {K : PySem.W.Frag} {x C : Addr} {ox od : Obj}
end
section
variable {cl : ClW} {X : Cx} {a : Addr} {oe : Obj} {cls : Value} {d : Option Addr} {pn : List (Addr × Obj)} {x : D} {tb : List ((Nat × Nat) × Bool)}
end
end DL
set_option Elab.async false
set_option linter.all false
set_option maxRecDepth 100000
set_option maxHeartbeats 4000000
set_option autoImplicit false
namespace DL
open PySem L2
@[simp] def kLen : D -> Option D
  | .int i => if 0 <= i /\ i < 2 ^ 62 then some (.int i) else none
  | _ => none
section
variable {cl : ClW} {X : Cx} {W : WX} {k : Nat} {tb : List (Nat × SpD)} {e : Expr} {τ : DTE} {p pos : Pos}
end
end DL
set_option Elab.async false
set_option linter.all false
set_option maxRecDepth 100000
set_option maxHeartbeats 1000000
set_option autoImplicit false
namespace FL
open PySem L2 DL
def Rn (M : Mem) (r : Addr) : Prop := ∃ a b c : Int, M r = some (.lst [.int a, .int b, .int c]) /\ 0 <= a /\ 0 <= b /\ b < 2147483629 /\ 0 <= c
structure RTo (M M' : Mem) (r : Addr) : Prop where
  ok : Rn M' r
  keep : ∀ b d, b ≠ r -> M b = some d -> M' b = some d
theorem Rn.keep {M M' : Mem} {r : Addr} (h : Rn M r) (k : Keep M M') : Rn M' r := by
  obtain ⟨a, b, c, h1, h2⟩ := h
  exact ⟨a, b, c, k _ _ h1, h2⟩
theorem Rn.ne {M : Mem} {r a : Addr} (h : Rn M r) (e : M a = none) : r ≠ a := fun z => by
  obtain ⟨x, y, w, h1, _⟩ := h
  rw [z, e] at h1; cases h1
theorem RTo.refl {M : Mem} {r : Addr} (h : Rn M r) : RTo M M r := ⟨h, fun _ _ _ q => q⟩
theorem RTo.trans {M M1 M2 : Mem} {r : Addr} (h : RTo M M1 r) (k : RTo M1 M2 r) : RTo M M2 r := ⟨k.ok, fun b d hb q => k.keep b d hb (h.keep b d hb q)⟩
theorem RTo.and {M M1 M2 : Mem} {r : Addr} (h : RTo M M1 r) (k : Keep M1 M2) : RTo M M2 r := ⟨h.ok.keep k, fun b d hb q => k b d (h.keep b d hb q)⟩
theorem RTo.keep1 {M M1 : Mem} {r a : Addr} {d : D} (h : RTo M M1 r) (e : M a = some d) (hne : a ≠ r) : M1 a = some d := h.keep a d hne e
theorem RTo.put {M : Mem} {r : Addr} {a b c : Int} (ha : 0 <= a) (hb : 0 <= b) (hb2 : b < 2147483629) (hc : 0 <= c) : RTo M (updM M r (.lst [.int a, .int b, .int c])) r :=
  ⟨⟨a, b, c, updM_same, ha, hb, hb2, hc⟩, fun x d hx q => by rw [updM_ne hx]; exact q⟩
theorem RTo.upd {M M1 : Mem} {r a : Addr} {d : D} (h : RTo M M1 r) (e : M a = none) (hne : a ≠ r) : RTo M (updM M1 a d) r := by
  refine ⟨?_, fun b c hb q => ?_⟩
  · obtain ⟨x, y, z, h1, h2⟩ := h.ok
    exact ⟨x, y, z, by rw [updM_ne (Ne.symm hne)]; exact h1, h2⟩
  · have : b ≠ a := fun w => by rw [w, e] at q; cases q
    rw [updM_ne this]; exact h.keep b c hb q
theorem RTo.del {M M1 : Mem} {r a : Addr} (h : RTo M M1 r) (e : M a = none) (hne : a ≠ r) : RTo M (delM M1 a) r := by
  refine ⟨?_, fun b c hb q => ?_⟩
  · obtain ⟨x, y, z, h1, h2⟩ := h.ok
    exact ⟨x, y, z, by rw [delM_ne (Ne.symm hne)]; exact h1, h2⟩
  · have : b ≠ a := fun w => by rw [w, e] at q; cases q
    rw [delM_ne this]; exact h.keep b c hb q
end FL
set_option Elab.async false
set_option linter.all false
set_option maxRecDepth 100000
set_option maxHeartbeats 1000000
set_option autoImplicit false
namespace FL
open PySem L2 DL
def clash (rs os : List Row) : Option (List Nat) := ((os.map Row.nm).filter fun x => decide (x ∈ rs.map Row.nm)).head?
def sumD (rs os : List Row) : D := match clash rs os with
  | some x => .tup [.str "twice", strD x]
  | none => if 60 < rs.length + os.length then .tup [.str "forest", .tup [.int (-1), .str "rows"]] else .tup [.str "rows", .tup ((rs ++ os).map Row.d)]
theorem sumD_tup (rs os : List Row) : ∃ xs, sumD rs os = .tup xs := by
  unfold sumD
  split
  · exact ⟨_, rfl⟩
  · split
    · exact ⟨_, rfl⟩
    · exact ⟨_, rfl⟩
@[simp] theorem vw_sumD {M : Mem} {rs os : List Row} : vw M (sumD rs os) = sumD rs os := by
  obtain ⟨xs, e⟩ := sumD_tup rs os
  rw [e]; rfl
theorem exc_fld {cs : List Nat} {f : Str} {a dd : Addr} {c : Nat} {ns : List Str} {ds : List D} {v : D} (h : c ∈ cs) (hv : lookN f ns ds = some v) : excF cs f (.exc a dd c ns ds) = some v := by simp [excF, h, hv]
def unS : D -> List Nat
  | .str z => z.cps.toList
  | _ => []
@[simp] theorem unS_strD (x : List Nat) : unS (strD x) = x := by simp [unS, strD, S]
end FL
set_option Elab.async false
set_option linter.all false
set_option maxRecDepth 100000
set_option maxHeartbeats 4000000
set_option autoImplicit false
namespace DL
open PySem L2
section
variable {K : PySem.W.Frag} {cl : ClW} {F H : Hp} {X : Cx}
def φIndex : D -> List D -> Mem -> DV -> Prop := fun o ds M Q => ∃ xs y j z, vw M o = .lst xs /\ ds = [y] /\ flatD y = true /\ xs.all flatD = true /\ xs[j]? = some z /\ eqFD z y = true /\ (∀ m z', m < j -> xs[m]? = some z' -> eqFD z' y = false) /\ Q (.int (j : Nat)) M
theorem lm_index : LMt K cl (rIndex K) φIndex := by
  intro F H M x xs d ds Q Qd g rx rs h p
  obtain ⟨ys, y, j, z, hv, rfl, fy, fys, hj, hz, hno, q⟩ := h
  have V := vw_ok g rx
  rw [hv] at V
  obtain ⟨a, vs, rfl, h1, h2⟩ := V.lst g.sub
  obtain ⟨u, ws, rfl, r1, r2⟩ := rs.inv
  obtain rfl := r2.inv0
  obtain ⟨f1, _⟩ := flats_of r1 fy h2 fys
  have fl : ∀ {m : Nat} {e : D}, ys[m]? = some e -> flatD e = true := fun {m e} he => List.all_eq_true.mp fys e (List.mem_of_getElem? he)
  obtain ⟨v, h5, h6⟩ := h2.get hj
  refine ⟨a, vs, u, j, v, rfl, rfl, h1, (flat_of (H := F) (.inl r1) fy).1, f1, h5, by rw [eq_of h6 r1 (fl hj) fy]; exact hz, fun m z' hm he => ?_, p _ _ F _ _ (Same.refl F) g (.int _) q⟩
  have hml : m < ys.length := by
    have := (List.getElem?_eq_some_iff.mp he).1
    rw [h2.length] at this; exact this
  have hy : ys[m]? = some ys[m] := List.getElem?_eq_getElem hml
  obtain ⟨v2, h7, h8⟩ := h2.get hy
  rw [h7] at he
  cases he
  rw [eq_of h8 r1 (fl hy) fy]
  exact hno m _ hm hy
end
@[simp] def dListRg (τ : DTE) : DTE := fun ρ M Q X => τ ρ M (fun d M1 => ∃ n : Int, d = .int n /\ 0 <= n /\ n <= 16777216 /\ Q (.lst ((List.range n.toNat).map fun (i : Nat) => D.int (i : Int))) M1) X
section
variable {cl : ClW} {X : Cx} {W : WX} {a : Expr} {τ : DTE} {p1 p2 p3 p4 : Pos}
end
end DL
set_option Elab.async false
set_option linter.all false
set_option maxRecDepth 100000
set_option maxHeartbeats 4000000
set_option autoImplicit false
namespace FL
open PySem L2 DL
def kids (ls : List Int) (p : Nat) : Nat := ((ls.drop (p + 1)).takeWhile fun l => decide (ls.getD p 0 < l)).length
section
variable {α : Type} {γ : DTG} {υ : DTT} {τ : DTE} {vs : List Nat} {a : Addr} {Q : DV} {R : Mem -> Prop} {ρ : DL.Env} {M : Mem}
end
end FL
set_option Elab.async false
set_option linter.all false
set_option maxRecDepth 100000
set_option maxHeartbeats 4000000
set_option autoImplicit false
namespace DL
open PySem L2
mutual
inductive Dv (M : Mem) : D -> D -> Prop
  | same (d : D) : Dv M d d
  | ref {a : Addr} {ds es : List D} : M a = some (.lst ds) -> Dvs M ds es -> Dv M (.ref a) (.lst es)
  | lst {ds es : List D} : Dvs M ds es -> Dv M (.lst ds) (.lst es)
  | tup {ds es : List D} : Dvs M ds es -> Dv M (.tup ds) (.tup es)
inductive Dvs (M : Mem) : List D -> List D -> Prop
  | nil : Dvs M [] []
  | cons {d e : D} {ds es : List D} : Dv M d e -> Dvs M ds es -> Dvs M (d :: ds) (e :: es)
end
section
variable {K : PySem.W.Frag} {cl : ClW} {F H : Hp} {M : Mem} {X : Cx} {W : WX}
@[simp] def bDeepEq : DB2 := fun d e _ M Q _ => ∃ d' e' b, Dv M d d' /\ Dv M e e' /\ eqP d' e' = some b /\ Q (.bl b) M
@[simp] def bDeepNe : DB2 := fun d e _ M Q _ => ∃ d' e' b, Dv M d d' /\ Dv M e e' /\ eqP d' e' = some b /\ Q (.bl !b) M
@[simp] def dRevM (τ : DTE) : DTE := fun ρ M Q X => τ ρ M (fun d M1 => ∃ xs, vw M1 d = .lst xs /\ ∀ a, M1 a = none -> Q (.ref a) (updM M1 a (.lst xs.reverse))) X
variable {e : Expr} {τ : DTE} {pos : Pos}
def truD : D -> Option Bool
  | .bl b => some b
  | .int i => some (i != 0)
  | .non => some false
  | .lst xs => some (!xs.isEmpty)
  | .tup xs => some (!xs.isEmpty)
  | _ => none
@[simp] def dOrT (τa τb : DTE) : DTE := fun ρ M Q X => τa ρ M (fun d M1 => ∃ k, truD (vw M1 d) = some k /\ if k = true then Q d M1 else τb ρ M1 Q X) X
variable {a b : Expr} {τa τb : DTE} {rest : List Expr}
end
end DL
set_option Elab.async false
set_option linter.all false
set_option maxRecDepth 100000
set_option maxHeartbeats 4000000
set_option autoImplicit false
namespace FL
open PySem L2 DL
def sibs (ls : List Int) (o : Option Nat) : List Nat := (List.range ls.length).filter fun j => decide ((ancs ls j).head? = o)
theorem in_ints (p : Nat) (l : List Nat) : inD (.int (p : Int)) (.lst (l.map intD)) = some (.bl (decide (p ∈ l))) := by
  have f2 : (l.map intD).all flatD = true := by simp [intD]
  rw [inD_def, inB_lst, show flatD (.int (p : Int)) = true from rfl, f2]
  simp only [Bool.and_self, if_true, Option.map_some]
  congr 2
  rw [Bool.eq_iff_iff]
  simp [intD]
  constructor
  · rintro ⟨x, h1, h2⟩
    have : x = p := by omega
    subst this; exact h1
  · exact fun h => ⟨p, h, rfl⟩
end FL
set_option Elab.async false
set_option linter.all false
set_option maxRecDepth 100000
set_option maxHeartbeats 4000000
namespace DL
open PySem L2
abbrev DTIg := DL.Env -> Mem -> ((Mem -> Prop) -> List D -> Mem -> Prop) -> DX -> Prop
def WalksG (K : PySem.W.Frag) (cl : ClW) (J : It) (F : Hp) (C : Mem -> Prop) (xs : List D) : Prop := ∀ i F' H' M', Same F F' -> Good K cl F' H' M' -> C M' ->
  (∀ d, xs[i]? = some d -> J.go i H' /\ ∀ x H3, J.yld i H' x H3 -> ∃ F3, Same F' F3 /\ Good K cl F3 H3 M' /\ Rep K cl F3 x d) /\ (xs.length <= i -> J.stop i H')
structure DIg (cl : ClW) (X : Cx) (W : WX) (tg iter : Expr) (ι : DTIg) : Prop where
  pi : PI X tg iter (fun σ H R => ∃ F ρ M Rd Xd, Good X.K cl F H M /\ Slots X.K cl F σ ρ /\ ι ρ M Rd Xd /\ (∀ J H' F' C xs M', Same F F' -> Good X.K cl F' H' M' -> WalksG X.K cl J F' C xs -> Rd C xs M' -> R J H') /\ WOk X.K cl W F Xd)
def endF (a : Addr) (Q : DV) : Mem -> Prop := fun M => ∃ ds, M a = some (.lst ds) /\ Q (.lst ds) (delM M a)
@[simp] def iSG (τ : DTE) : DTIg := fun ρ M R X => τ ρ M (fun d M1 => ∃ xs, itD (vw M1 d) = some xs /\ R (fun M => itD (vw M d) = some xs) xs M1) X
@[simp] def iEnG (τ : DTE) : DTIg := fun ρ M R X => τ ρ M (fun d M1 => ∃ xs, enD (vw M1 d) = some xs /\ R (fun M => enD (vw M d) = some xs) (xs.zipIdx.map fun p => D.tup [.int (p.2 : Nat), p.1]) M1) X
@[simp] def iG (ι : DTI) : DTIg := fun ρ M R X => ι ρ M (fun xs M1 => R (fun _ => True) xs M1) X
section
variable {K : PySem.W.Frag} {cl : ClW} {F H : Hp} {M : Mem}
end
section
variable {cl : ClW} {X : Cx} {W : WX} {e : Expr} {τ : DTE}
variable {elt tg iter kx vx : Expr} {ifs : List Expr} {scope : Scope} {own : List (Str × Nat)} {pos : Pos} {ι : DTIg} {is : List Nat} {γ : DTG} {υ : DTT} {τk τv : DTE} {sts : List Stmt} {t : DTS}
end
end DL
set_option Elab.async false
set_option linter.all false
set_option maxRecDepth 100000
set_option maxHeartbeats 4000000
namespace DL
open PySem L2
open PyProof.Rows (Compare_chain isTrue_chain chain_link chain_last test_link test_last ite_tt ite_ff)
section
variable {cl : ClW} {X : Cx} {a : Addr} {oe : Obj} {cls : Value} {d : Option Addr} {pn : List (Addr × Obj)} {x : D}
end
section
variable {cl : ClW} {X : Cx} {W : WX} {pos : Pos} {a b : Expr} {τa τb : DTE}
theorem Reps.rep {K : PySem.W.Frag} {F : Hp} {vs : List V} {ds : List D} (h : Reps K cl F vs ds) : ∀ n : Nat, Reps K cl F (List.replicate n vs).flatten (List.replicate n ds).flatten
  | 0 => .nil
  | n + 1 => by
    rw [List.replicate_succ, List.replicate_succ, List.flatten_cons, List.flatten_cons]
    exact h.append (Reps.rep h n)
theorem Good.drop {K : PySem.W.Frag} {F H : Hp} {M : Mem} (g : Good K cl F H M) (p : Addr) : Good K cl F H (delM M p) := ⟨g.sub, fun a d e => by
  by_cases h : a = p
  · subst h; rw [delM_same] at e; cases e
  · rw [delM_ne h] at e; exact g.cell a d e, g.tab, g.noT⟩
def bRepD : DB2 := fun d e _ M Q _ => ∃ p xs k, d = .ref p /\ M p = some (.lst xs) /\ e = .int k /\ -(2 ^ 63) <= k /\ k < 2 ^ 63 /\ xs.length * k.toNat <= sizeLine /\ Q (.lst (List.replicate k.toNat xs).flatten) (delM M p)
theorem bin_repD : BinG cl X W (binaryOp .Mult) bRepD := by
  intro pins s σ H F ρ M v u x y d e Q Qd Xd I rx ry g sl r1 r2 h p w
  obtain ⟨b, xs, k, rfl, hM, rfl, k1, k2, hl, q⟩ := h
  obtain rfl := r1.toRef
  obtain rfl := r2.toInt
  obtain ⟨hF, vs, h1, h2⟩ := g.cell b _ hM
  exact op_rep pins s σ H _ _ v u Q I rx ry ⟨b, k, vs, rfl, rfl, h1, k1, k2, by rw [h2.length]; exact hl, fun c hc => p.newL (g.drop b) (h2.rep _) q hc⟩
end
section
variable {X : Cx} {a b c d : Expr} {ta tb tc td : TE} {pos : Pos}
end
section
variable {cl : ClW} {X : Cx} {W : WX} {a b c d : Expr} {τa τb τc τd : DTE} {pos : Pos}
@[simp] def dChain3 (f f' f'' : D -> D -> Option D) (τa τb τc τd : DTE) : DTE := fun ρ M Q X => τa ρ M (fun d M1 => τb ρ M1 (fun e M2 => ∃ k, f (vw M2 d) (vw M2 e) = some (.bl k) /\
  if k = true then τc ρ M2 (fun h M3 => ∃ k, f' (vw M3 e) (vw M3 h) = some (.bl k) /\ if k = true then τd ρ M3 (fun j M4 => ∃ z, f'' (vw M4 h) (vw M4 j) = some z /\ Q z M4) X else Q (.bl false) M3) X else Q (.bl false) M2) X) X
end
end DL
set_option Elab.async false
set_option linter.all false
set_option maxRecDepth 100000
set_option maxHeartbeats 4000000
namespace DL
open PySem L2
open PySem.SeqAt
section
open AutoSeq1 (wpAny_loadPart')
variable {prog : Program} {w : World}
inductive EqL (prog : Program) (w : World) (A : Around) (s : Shared) : List (Value × Value) -> List Bool -> Prop
  | nil : EqL prog w A s [] []
  | cons {p : Value × Value} {b : Bool} {ps : List (Value × Value)} {bs : List Bool} : EqP prog w A s p.1 p.2 b -> EqL prog w A s ps bs -> EqL prog w A s (p :: ps) (b :: bs)
theorem tup_eq_pairs (l b : Addr) (us vs : Array Value) (n m : Nat) (dd de : Option Addr) (sl sm : Array (Option Value)) (bs : List Bool) :
    MeetsIn prog w (Builtin.«tuple.__eq__» ⟨[.ref l, .ref b], []⟩)
      (fun A R s => s.heap.get? l = some { cls := .type "tuple", dict := dd, data := .seq us n, slots := sl } /\ s.heap.get? b = some { cls := .type "tuple", dict := de, data := .seq vs m, slots := sm } /\
        EqL prog w A.in1 s (us.toList.zip vs.toList) bs /\ R (.ok (.ret (.bool (bs.all id && us.size == vs.size)))) s) :=
  .of_wp fun A R s0 h => by
    obtain ⟨h0, g0, d0, t0, o0⟩ := s0
    obtain ⟨hl, hb, he, hR⟩ := h
    have sub := AutoSeq1.sub_tuple_tuple
    wp_walk using wpAny_loadPart' hl, wpAny_loadPart' hb, wpAny_forIn_list _ (fun rest st s1 => st.1 = none /\ s1 = ⟨h0, g0, d0, t0, o0⟩ /\ ∃ cs, EqL prog w A.in1 ⟨h0, g0, d0, t0, o0⟩ rest cs /\ R (.ok (.ret (.bool (cs.all id && us.size == vs.size)))) ⟨h0, g0, d0, t0, o0⟩) _
    case turn =>
      rintro ⟨y, x⟩ rest st s1 ⟨e1, rfl, cs, ep, er⟩
      cases ep with
      | @cons _ c _ cs hp ep =>
        rw [List.all_cons] at er
        refine wpAny_bind (hp _ _ ?_)
        cases c with
        | true => wp_walk; exact ⟨rfl, rfl, cs, ep, by simpa using er⟩
        | false => wp_walk; exact ⟨_, rfl, by simpa using er⟩
    case fin =>
      rintro ⟨x1, x2⟩ s1 ⟨e1, rfl, cs, ep, er⟩
      simp only at e1
      subst e1
      cases ep
      wp_walk
      exact ⟨_, rfl, by simpa [Builtin.Tuple.tupleCompareSizes] using er⟩
    case h => exact ⟨rfl, rfl, bs, he, hR⟩
def RcP (prog : Program) (w : World) (A : Around) (s : Shared) (v u : Value) (k : Bool) : Prop := ∀ (E Q : Value -> Shared -> Prop), Q (.bool k) s -> wpAny (model prog w) A (richCompare .Eq v u) Q E s
theorem RcP.of {A : Around} {s : Shared} {v u : Value} {k : Bool} (h : RcAt A s v u k) : RcP prog w A s v u k := fun E Q q => h prog w E Q q
theorem rcp_tups {A : Around} {s : Shared} {l b : Addr} {us vs : Array Value} (bs : List Bool) (hl : s.heap.IsTuple l us) (hb : s.heap.IsTuple b vs) (hu : A.units < cLine)
    (he : EqL prog w A.in1 s (us.toList.zip vs.toList) bs) : RcP prog w A s (.ref l) (.ref b) (bs.all id && us.size == vs.size) := fun E Q q => by
  obtain ⟨⟨c1, d1, x1, s1⟩, ho, hc, n, hd⟩ := id hl
  obtain ⟨⟨c2, d2, x2, s2⟩, ho2, hc2, n2, hd2⟩ := id hb
  simp only at hc hd hc2 hd2
  subst hc hd hc2 hd2
  exact wpAny_richCompare_same_room (op := .Eq) ⟨_, ho, rfl⟩ ⟨_, ho2, rfl⟩ PySem.F.slot_tuple_eq (call_meetsIn PySem.F.slot_tuple_eq ⟨_, ho, rfl⟩ PySem.F.entry_tuple_eq (PySem.F.args_tuple_eq_2 _ _) (tup_eq_pairs l b us vs n n2 d1 d2 s1 s2 bs)
    ⟨ho, ho2, he, show Value.bool _ ≠ Value.notImplemented /\ Q (.bool _) s from ⟨(fun z => nomatch z), q⟩⟩) hu
theorem dict_no {A : Around} {s : Shared} {K : Type} [DecidableEq K] {knd : KeyKind prog w K} {a : Addr} {ka : List (K × Value)} {v : Value} {T : String} {E Q : Value -> Shared -> Prop} (da : s.heap.DictOf knd a ka) (hv : s.TypeIs v T) (hs : isSubtype (.type T) (.type "dict") = pure false) (q : Q .notImplemented s) :
    wpAny (model prog w) A (call (.builtin "dict.__eq__") [.ref a, v]) Q E s := by
  refine wpAny_call_entry PySem.F.slot_dict_eq da.typeIs PySem.F.entry_dict_eq ?_ (PySem.F.args_dict_eq_2 _ _)
  show wpAny _ _ (Builtin.Dict.dictSlotArgs "__eq__" ⟨[.ref a, v], []⟩ >>= _) _ _ s
  unfold Builtin.Dict.dictSlotArgs
  refine wpAny_bind (wpAny_bind (wpAny_notOrdered_dict da.typeIs ?_))
  refine wpAny_pure (wpAny_bind (wpAny_isInstance (T := T) hv hs ?_))
  simp only [Bool.not_false, if_true]
  exact wpAny_bind (wpAny_rule (wpAny_pure ⟨_, rfl, q⟩))
theorem int_no_dict (i : Int) (u : Tok) (l : Addr) (es : Array DictEntry) (ep : Nat) (dd : Option Addr) (sl : Array (Option Value)) :
    Meets (Builtin.«int.__eq__» ⟨[.int i u, .ref l], []⟩) (fun _ R s => s.heap.get? l = some { cls := .type "dict", dict := dd, data := .dict es ep, slots := sl } /\ R (.ok (.ret .notImplemented)) s) :=
  .of_wp fun prog w A R s q => by obtain ⟨h0, g0, d0, t0, o0⟩ := s; obtain ⟨hl, q⟩ := q; wp_walk using wpAny_loadPart' hl, wpAny_load hl; exact ⟨_, rfl, q⟩
theorem bool_no_dict (i : Bool) (l : Addr) (es : Array DictEntry) (ep : Nat) (dd : Option Addr) (sl : Array (Option Value)) :
    Meets (Builtin.«int.__eq__» ⟨[.bool i, .ref l], []⟩) (fun _ R s => s.heap.get? l = some { cls := .type "dict", dict := dd, data := .dict es ep, slots := sl } /\ R (.ok (.ret .notImplemented)) s) :=
  .of_wp fun prog w A R s q => by obtain ⟨h0, g0, d0, t0, o0⟩ := s; obtain ⟨hl, q⟩ := q; wp_walk using wpAny_loadPart' hl, wpAny_load hl; exact ⟨_, rfl, q⟩
theorem str_no_dict (i : Str) (u : Tok) (l : Addr) (es : Array DictEntry) (ep : Nat) (dd : Option Addr) (sl : Array (Option Value)) :
    Meets (Builtin.«str.__eq__» ⟨[.str i u, .ref l], []⟩) (fun _ R s => s.heap.get? l = some { cls := .type "dict", dict := dd, data := .dict es ep, slots := sl } /\ R (.ok (.ret .notImplemented)) s) :=
  .of_wp fun prog w A R s q => by obtain ⟨h0, g0, d0, t0, o0⟩ := s; obtain ⟨hl, q⟩ := q; wp_walk using wpAny_loadPart' hl, wpAny_load hl; exact ⟨_, rfl, q⟩
theorem list_no_dict (b : Addr) (us : Array Value) (n : Nat) (db : Option Addr) (sb : Array (Option Value)) (l : Addr) (es : Array DictEntry) (ep : Nat) (dd : Option Addr) (sl : Array (Option Value)) :
    Meets (Builtin.«list.__eq__» ⟨[.ref b, .ref l], []⟩) (fun _ R s => s.heap.get? b = some { cls := .type "list", dict := db, data := .seq us n, slots := sb } /\ s.heap.get? l = some { cls := .type "dict", dict := dd, data := .dict es ep, slots := sl } /\ R (.ok (.ret .notImplemented)) s) :=
  .of_wp fun prog w A R s q => by obtain ⟨h0, g0, d0, t0, o0⟩ := s; obtain ⟨hb, hl, q⟩ := q; have f := PySem.F.sub_dict_list; wp_walk using wpAny_loadPart' hb, wpAny_loadPart' hl, wpAny_load hl; exact ⟨_, rfl, q⟩
theorem tup_no_dict (b : Addr) (us : Array Value) (n : Nat) (db : Option Addr) (sb : Array (Option Value)) (l : Addr) (es : Array DictEntry) (ep : Nat) (dd : Option Addr) (sl : Array (Option Value)) :
    Meets (Builtin.«tuple.__eq__» ⟨[.ref b, .ref l], []⟩) (fun _ R s => s.heap.get? b = some { cls := .type "tuple", dict := db, data := .seq us n, slots := sb } /\ s.heap.get? l = some { cls := .type "dict", dict := dd, data := .dict es ep, slots := sl } /\ R (.ok (.ret .notImplemented)) s) :=
  .of_wp fun prog w A R s q => by obtain ⟨h0, g0, d0, t0, o0⟩ := s; obtain ⟨hb, hl, q⟩ := q; have f := PySem.F.sub_dict_tuple; wp_walk using wpAny_loadPart' hb, wpAny_loadPart' hl, wpAny_load hl; exact ⟨_, rfl, q⟩
def NoDict (prog : Program) (w : World) (s : Shared) (a : Addr) (v : Value) : Prop := ∃ T id, s.TypeIs v T /\ (Value.type "dict" != Value.type T) = true /\ (Value.type T != Value.type "dict") = true /\ isSubtype (.type T) (.type "dict") = pure false /\ isSubtype (.type "dict") (.type T) = pure false /\
  Slot T (cmpInfo .Eq).2.1 id /\ Slot T (cmpInfo .Eq).2.2 id /\ (∀ A (E Q : Value -> Shared -> Prop), Q .notImplemented s -> wpAny (model prog w) A (call (.builtin id) [v, .ref a]) Q E s) /\
  (∀ A E (R : Bool -> Shared -> Prop), R false s -> wpAny (model prog w) A (isSame (.ref a) v) R E s) /\ (∀ A E (R : Bool -> Shared -> Prop), R false s -> wpAny (model prog w) A (isSame v (.ref a)) R E s)
section
variable {K : Type} [DecidableEq K] {knd : KeyKind prog w K} {a : Addr} {ka : List (K × Value)} {A : Around} {s : Shared} {v : Value}
theorem rcp_dict_no (da : s.heap.DictOf knd a ka) (nd : NoDict prog w s a v) (hu : A.units < cLine) : RcP prog w A s (.ref a) v false := fun E Q q => by
  obtain ⟨T, id, h1, h2, h3, h4, h5, h6, h7, h8, h9, h10⟩ := nd
  exact rc_eq_decline_or (k := false) da.typeIs h1 h2 h4 PySem.F.slot_dict_eq h7 (fun _ z => dict_no da h1 h4 z) (fun _ z => h8 _ _ _ z) (fun _ z => h9 _ _ _ z) (.inr hu) q
theorem rcp_no_dict (da : s.heap.DictOf knd a ka) (nd : NoDict prog w s a v) (hu : A.units < cLine) : RcP prog w A s v (.ref a) false := fun E Q q => by
  obtain ⟨T, id, h1, h2, h3, h4, h5, h6, h7, h8, h9, h10⟩ := nd
  exact rc_eq_decline_or (k := false) h1 da.typeIs h3 h5 h6 PySem.F.slot_dict_eq_refl (fun _ z => h8 _ _ _ z) (fun _ z => dict_no da h1 h4 z) (fun _ z => h10 _ _ _ z) (.inr hu) q
theorem dict_obj (da : s.heap.DictOf knd a ka) : ∃ es ep, s.heap.get? a = some { cls := .type "dict", dict := none, data := .dict es ep, slots := #[] } := by
  obtain ⟨⟨c, d, x, sl⟩, es, ep, ho, ⟨hc, hd, hs⟩, hx, _⟩ := da
  simp only at hc hd hs hx
  subst hc hd hs hx
  exact ⟨es, ep, ho⟩
theorem nd_none (da : s.heap.DictOf knd a ka) : NoDict prog w s a .none :=
  ⟨"NoneType", _, rfl, by decide, by decide, PySem.F.sub_NoneType_dict, PySem.F.sub_dict_NoneType, PySem.F.slot_NoneType_eq, PySem.F.slot_NoneType_eq_refl, fun A E Q q => call_gives PySem.F.slot_NoneType_eq rfl PySem.F.entry_NoneType_eq (PySem.F.args_NoneType_eq_2 _ _) (NoneType___eq___none_ref_0 a) q,
    fun A E R r => wpAny_of_eq (rfl : isSame (.ref a) .none = pure false) r, fun A E R r => wpAny_of_eq (rfl : isSame .none (.ref a) = pure false) r⟩
theorem nd_bool (da : s.heap.DictOf knd a ka) (b : Bool) : NoDict prog w s a (.bool b) := by
  obtain ⟨es, ep, ho⟩ := dict_obj da
  exact ⟨"bool", _, rfl, by decide, by decide, PySem.F.sub_bool_dict, PySem.F.sub_dict_bool, PySem.F.slot_bool_eq, PySem.F.slot_bool_eq_refl, fun A E Q q => call_meets PySem.F.slot_bool_eq rfl PySem.F.entry_int_eq (PySem.F.args_int_eq_2 _ _) (bool_no_dict b a es ep _ _) ⟨ho, q⟩,
    fun A E R r => wpAny_of_eq (rfl : isSame (.ref a) (.bool b) = pure false) r, fun A E R r => wpAny_of_eq (rfl : isSame (.bool b) (.ref a) = pure false) r⟩
theorem nd_int (da : s.heap.DictOf knd a ka) (i : Int) (t : Tok) : NoDict prog w s a (.int i t) := by
  obtain ⟨es, ep, ho⟩ := dict_obj da
  exact ⟨"int", _, rfl, by decide, by decide, PySem.F.sub_int_dict, PySem.F.sub_dict_int, PySem.F.slot_int_eq, PySem.F.slot_int_eq_refl, fun A E Q q => call_meets PySem.F.slot_int_eq rfl PySem.F.entry_int_eq (PySem.F.args_int_eq_2 _ _) (int_no_dict i t a es ep _ _) ⟨ho, q⟩,
    fun A E R r => wpAny_of_eq (rfl : isSame (.ref a) (.int i t) = pure false) r, fun A E R r => wpAny_of_eq (rfl : isSame (.int i t) (.ref a) = pure false) r⟩
theorem nd_str (da : s.heap.DictOf knd a ka) (i : Str) (t : Tok) : NoDict prog w s a (.str i t) := by
  obtain ⟨es, ep, ho⟩ := dict_obj da
  exact ⟨"str", _, rfl, by decide, by decide, PySem.F.sub_str_dict, PySem.F.sub_dict_str, PySem.F.slot_str_eq, PySem.F.slot_str_eq_refl, fun A E Q q => call_meets PySem.F.slot_str_eq rfl PySem.F.entry_str_eq (PySem.F.args_str_eq_2 _ _) (str_no_dict i t a es ep _ _) ⟨ho, q⟩,
    fun A E R r => wpAny_of_eq (rfl : isSame (.ref a) (.str i t) = pure false) r, fun A E R r => wpAny_of_eq (rfl : isSame (.str i t) (.ref a) = pure false) r⟩
theorem nd_list (da : s.heap.DictOf knd a ka) {b : Addr} {us : Array Value} (hl : s.heap.IsList b us) : NoDict prog w s a (.ref b) := by
  obtain ⟨es, ep, ho⟩ := dict_obj da
  obtain ⟨⟨c1, d1, x1, s1⟩, hb, hc, n, hd⟩ := id hl
  simp only at hc hd
  subst hc hd
  have ne : a ≠ b := fun z => by subst z; rw [ho] at hb; exact absurd (congrArg (Option.map Obj.cls) hb) (by simp)
  exact ⟨"list", _, ⟨_, hb, rfl⟩, by decide, by decide, PySem.F.sub_list_dict, PySem.F.sub_dict_list, PySem.F.slot_list_eq, PySem.F.slot_list_eq_refl, fun A E Q q => call_meets PySem.F.slot_list_eq ⟨_, hb, rfl⟩ PySem.F.entry_list_eq (PySem.F.args_list_eq_2 _ _) (list_no_dict b us n _ _ a es ep _ _) ⟨hb, ho, q⟩,
    fun A E R r => wpAny_isSame_ref_other' ne ho hb (by simp) r, fun A E R r => wpAny_isSame_ref_other' ne.symm hb ho (by simp) r⟩
theorem nd_tup (da : s.heap.DictOf knd a ka) {b : Addr} {us : Array Value} (hl : s.heap.IsTuple b us) : NoDict prog w s a (.ref b) := by
  obtain ⟨es, ep, ho⟩ := dict_obj da
  obtain ⟨⟨c1, d1, x1, s1⟩, hb, hc, n, hd⟩ := id hl
  simp only at hc hd
  subst hc hd
  have ne : a ≠ b := fun z => by subst z; rw [ho] at hb; exact absurd (congrArg (Option.map Obj.cls) hb) (by simp)
  exact ⟨"tuple", _, ⟨_, hb, rfl⟩, by decide, by decide, PySem.F.sub_tuple_dict, PySem.F.sub_dict_tuple, PySem.F.slot_tuple_eq, PySem.F.slot_tuple_eq_refl, fun A E Q q => call_meets PySem.F.slot_tuple_eq ⟨_, hb, rfl⟩ PySem.F.entry_tuple_eq (PySem.F.args_tuple_eq_2 _ _) (tup_no_dict b us n _ _ a es ep _ _) ⟨hb, ho, q⟩,
    fun A E R r => wpAny_isSame_ref_other ne ho hb (by simp) r, fun A E R r => wpAny_isSame_ref_other' ne.symm hb ho (by simp) r⟩
end
end
mutual
def eqX : D -> D -> Bool
  | .non, .non => true
  | .bl a, .bl b => a == b
  | .bl a, .int j => (if a then 1 else 0) == j
  | .int i, .bl b => i == (if b then 1 else 0)
  | .int i, .int j => i == j
  | .str x, .str y => x == y
  | .lst xs, .lst ys => eqXs xs ys
  | .tup xs, .tup ys => eqXs xs ys
  | .dK ks ds, .dK ls es => ks.length == ls.length && eqKs ks ds ls es
  | _, _ => false
def eqXs : List D -> List D -> Bool
  | [], [] => true
  | x :: xs, y :: ys => eqX x y && eqXs xs ys
  | _, _ => false
def eqKs : List Key -> List D -> List Key -> List D -> Bool
  | k :: ks, d :: ds, ls, es => (match atK k ls es with
    | some e => eqX d e
    | none => false) && eqKs ks ds ls es
  | _, _, _, _ => true
end
mutual
def plX : Nat -> D -> Bool
  | _, .non => true
  | _, .bl _ => true
  | _, .int _ => true
  | _, .str _ => true
  | n + 1, .lst xs => plXs n xs
  | n + 1, .tup xs => plXs n xs
  | n + 1, .dK ks ds => decide ks.Nodup && ks.length == ds.length && plXs n ds
  | _, _ => false
def plXs : Nat -> List D -> Bool
  | _, [] => true
  | n, x :: xs => plX n x && plXs n xs
end
theorem plXs_all {n : Nat} : ∀ {ds : List D}, plXs n ds = true ↔ ∀ d ∈ ds, plX n d = true
  | [] => by simp [plXs]
  | d :: ds => by simp [plXs, plXs_all (ds := ds)]
theorem atK_self {ks : List Key} (nd : ks.Nodup) : ∀ {ds : List D}, ks.length = ds.length -> ∀ (i : Nat) (k : Key) (d : D), ks[i]? = some k -> ds[i]? = some d -> atK k ks ds = some d := by
  induction ks with
  | nil => intro ds _ i k d h; simp at h
  | cons j ks ih =>
    intro ds hl i k d h1 h2
    cases ds with
    | nil => simp at hl
    | cons d0 ds =>
      cases i with
      | zero =>
        simp at h1 h2
        subst h1 h2
        simp [atK]
      | succ i =>
        simp at h1 h2
        have hm : k ∈ ks := List.mem_of_getElem? h1
        have hne : j ≠ k := fun z => by subst z; exact (List.nodup_cons.mp nd).1 hm
        have := ih (List.nodup_cons.mp nd).2 (by simpa using hl) i k d h1 h2
        simp [atK, hne, this]
mutual
theorem eqX_refl : ∀ (n : Nat) (d : D), plX n d = true -> eqX d d = true
  | _, .non, _ => by simp [eqX]
  | _, .bl _, _ => by simp [eqX]
  | _, .int _, _ => by simp [eqX]
  | _, .str _, _ => by simp [eqX]
  | n + 1, .lst xs, h => by simp only [eqX]; exact eqXs_refl n xs (by simpa [plX] using h)
  | n + 1, .tup xs, h => by simp only [eqX]; exact eqXs_refl n xs (by simpa [plX] using h)
  | n + 1, .dK ks ds, h => by
    simp only [plX, Bool.and_eq_true, decide_eq_true_eq, beq_iff_eq] at h
    simp only [eqX, beq_self_eq_true, Bool.true_and]
    exact eqKs_refl n ds ks ds ks 0 h.2 (by simp) (by simp) h.1.1 h.1.2
  | 0, .lst _, h => by simp [plX] at h
  | 0, .tup _, h => by simp [plX] at h
  | 0, .dK _ _, h => by simp [plX] at h
  | _, .byt _, h => by simp [plX] at h
  | _, .ty _, h => by simp [plX] at h
  | _, .ref _, h => by simp [plX] at h
  | _, .dT _ _ _, h => by simp [plX] at h
  | _, .obj _ _ _, h => by simp [plX] at h
  | _, .cls _, h => by simp [plX] at h
  | _, .exc _ _ _ _ _, h => by simp [plX] at h
  | _, .xob _ _ _, h => by simp [plX] at h
  | _, .thk _ _ _ _ _, h => by simp [plX] at h
  | _, .dN _ _ _, h => by simp [plX] at h
  | _, .fn _ _, h => by simp [plX] at h
  | _, .cel _ _, h => by simp [plX] at h
theorem eqXs_refl : ∀ (n : Nat) (ds : List D), plXs n ds = true -> eqXs ds ds = true
  | _, [], _ => by simp [eqXs]
  | n, d :: ds, h => by
    simp only [plXs, Bool.and_eq_true] at h
    simp only [eqXs, Bool.and_eq_true]
    exact ⟨eqX_refl n d h.1, eqXs_refl n ds h.2⟩
theorem eqKs_refl : ∀ (n : Nat) (ds : List D) (ks : List Key) (es : List D) (ls : List Key) (i : Nat), plXs n ds = true -> ds = es.drop i -> ks = ls.drop i -> ls.Nodup -> ls.length = es.length -> eqKs ks ds ls es = true
  | _, [], ks, es, ls, i, _, _, _, _, _ => by cases ks <;> simp [eqKs]
  | n, d :: ds, [], es, ls, i, _, _, _, _, _ => by simp [eqKs]
  | n, d :: ds, k :: ks, es, ls, i, h, h1, h2, nd, hl => by
    simp only [plXs, Bool.and_eq_true] at h
    have e1 : es[i]? = some d := by have := congrArg List.head? h1; simpa [List.head?_drop] using this.symm
    have e2 : ls[i]? = some k := by have := congrArg List.head? h2; simpa [List.head?_drop] using this.symm
    have e3 := atK_self nd hl i k d e2 e1
    simp only [eqKs, e3, Bool.and_eq_true]
    exact ⟨eqX_refl n d h.1, eqKs_refl n ds ks es ls (i + 1) h.2 (by have := congrArg List.tail h1; simpa [List.tail_drop] using this) (by have := congrArg List.tail h2; simpa [List.tail_drop] using this) nd hl⟩
end
section
variable {X : Cx} {pins : List (Addr × Obj)} {σ : St} {H : Hp} {s : Shared} {cl : ClW}
inductive Side (X : Cx) (cl : ClW) (H : Hp) (s : Shared) : D -> Value -> Prop
  | non : Side X cl H s .non .none
  | bl (b : Bool) : Side X cl H s (.bl b) (.bool b)
  | int (i : Int) (t : Tok) : Side X cl H s (.int i) (.int i t)
  | str (x : Str) (t : Tok) : Side X cl H s (.str x) (.str x t)
  | lst {a : Addr} {us : List Value} {vs : List V} {ds : List D} : s.heap.IsList a us.toArray -> Vals vs us -> Reps X.K cl H vs ds -> Side X cl H s (.lst ds) (.ref a)
  | tup {a : Addr} {us : List Value} {vs : List V} {ds : List D} : s.heap.IsTuple a us.toArray -> Vals vs us -> Reps X.K cl H vs ds -> Side X cl H s (.tup ds) (.ref a)
  | dK {a : Addr} {ks : List Key} {us : List (Key × Value)} {vs : List V} {ds : List D} : (a == sysModules) = false -> s.heap.DictOf (mixKind X.prog X.w) a us -> KV (ks.zip vs) us -> ks.length = vs.length -> Reps X.K cl H vs ds -> Side X cl H s (.dK ks ds) (.ref a)
theorem side_of (I : Inv X pins σ H s) {n : Nat} {d : D} {x : V} {v : Value} (r : Rep X.K cl H x d) (p : plX n d = true) (rv : RelV x v) : Side X cl H s d v := by
  cases r with
  | non => cases (show v = Value.none from rv); exact .non
  | bl b => cases (show v = Value.bool b from rv); exact .bl b
  | int i => obtain ⟨t, rfl⟩ := rv; exact .int i t
  | str x => obtain ⟨t, rfl⟩ := rv; exact .str x t
  | lst h1 h2 =>
    cases (show v = Value.ref _ from rv)
    obtain ⟨us, r1, p1, _⟩ := I.list h1
    exact .lst p1.isList r1 h2
  | tup h1 h2 =>
    cases (show v = Value.ref _ from rv)
    obtain ⟨us, r1, p1, _⟩ := I.tuple h1.sq
    exact .tup p1 r1 h2
  | dK h1 h2 h3 =>
    cases (show v = Value.ref _ from rv)
    obtain ⟨_, y, us, r1, dd⟩ := (show ObjOk X.prog X.w H s.heap _ (.dK _) from I.hok _ _ h1)
    exact .dK y dd r1 h2 h3
  | _ => simp [plX] at p
theorem eqP_of_rcP {A : Around} {v u : Value} {k : Bool} {d : D} (hd : Side X cl H s d v) (h : RcP X.prog X.w A s v u k) (hs : v = u -> k = true) : EqP X.prog X.w A s v u k := fun E Q q => by
  unfold eqBool
  refine wpAny_holding (wpAny_ite_split (fun e => ?_) (fun _ => ?_))
  · have := hs (eq_of_beq e)
    subst this
    exact wpAny_bind (wpAny_rule (wpAny_pure q))
  · cases hd <;> exact wpAny_bind (h E _ (wpAny_truthy_bool q))
def eqZ : List D -> List D -> List Bool
  | x :: xs, y :: ys => eqX x y :: eqZ xs ys
  | _, _ => []
theorem eqXs_Z : ∀ xs ys : List D, eqXs xs ys = ((eqZ xs ys).all id && xs.length == ys.length)
  | [], [] => by simp [eqXs, eqZ]
  | [], _ :: _ => by simp [eqXs, eqZ]
  | _ :: _, [] => by simp [eqXs, eqZ]
  | x :: xs, y :: ys => by
    simp only [eqXs, eqZ, List.all_cons, id, List.length_cons]
    rw [eqXs_Z xs ys, Bool.and_assoc]
    congr 1
    congr 1
    rw [Bool.eq_iff_iff]
    simp
theorem eqZ_at : ∀ (xs ys : List D) (j : Nat), j < xs.length -> j < ys.length -> (eqZ xs ys)[j]? = some (eqX (xs.getD j .non) (ys.getD j .non))
  | [], _, j, h, _ => by simp at h
  | _ :: _, [], j, _, h => by simp at h
  | x :: xs, y :: ys, 0, _, _ => by simp [eqZ]
  | x :: xs, y :: ys, j + 1, h1, h2 => by simpa [eqZ] using eqZ_at xs ys j (by simpa using h1) (by simpa using h2)
theorem eqZ_len : ∀ (xs ys : List D), xs.length = ys.length -> (eqZ xs ys).length = xs.length
  | [], [], _ => rfl
  | [], _ :: _, h => by simp at h
  | _ :: _, [], h => by simp at h
  | x :: xs, y :: ys, h => by simp [eqZ, eqZ_len xs ys (by simpa using h)]
theorem range_all (bs : List Bool) (e : Nat -> Bool) (n : Nat) (hn : bs.length = n) (h : ∀ j < n, bs[j]? = some (e j)) : (List.range n).all e = bs.all id := by
  have : bs = (List.range n).map e := by
    refine List.ext_getElem? fun j => ?_
    by_cases hj : j < n
    · rw [h j hj]; simp [hj]
    · simp [hj]; omega
  rw [this, List.all_map]
  rfl
def unV : Value -> Option V
  | .none => some .non
  | .bool b => some (.bl b)
  | .int i _ => some (.int i)
  | .str x _ => some (.str x)
  | .bytes b _ => some (.byt b)
  | .float b _ => some (.flt b)
  | .ref a => some (.ref a)
  | .type n => some (.ty n)
  | _ => none
theorem unV_of {x : V} {v : Value} (h : RelV x v) : unV v = some x := by
  cases x <;> simp only [RelV] at h <;> first | (subst h; rfl) | (obtain ⟨t, rfl⟩ := h; rfl)
theorem relV_inj {x y : V} {v : Value} (h : RelV x v) (k : RelV y v) : x = y := Option.some.inj ((unV_of h).symm.trans (unV_of k))
theorem vals_inj {vs ws : List V} {us : List Value} (h : Vals vs us) (k : Vals ws us) : vs = ws := by
  induction h generalizing ws with
  | nil => cases k; rfl
  | cons a b ih =>
    cases k with
    | cons c d => rw [relV_inj a c, ih d]
theorem dict_ne_list {a b : Addr} {ka : List (Key × Value)} {us : Array Value} (da : s.heap.DictOf (mixKind X.prog X.w) a ka) (hl : s.heap.IsList b us) : a ≠ b := fun z => by
  obtain ⟨es, ep, ho⟩ := dict_obj da
  obtain ⟨o, hb, hc, n, hd⟩ := hl
  subst z
  rw [ho] at hb
  cases hb
  exact absurd hc (by simp)
theorem dict_ne_tup {a b : Addr} {ka : List (Key × Value)} {us : Array Value} (da : s.heap.DictOf (mixKind X.prog X.w) a ka) (hl : s.heap.IsTuple b us) : a ≠ b := fun z => by
  obtain ⟨es, ep, ho⟩ := dict_obj da
  obtain ⟨o, hb, hc, n, hd⟩ := hl
  subst z
  rw [ho] at hb
  cases hb
  exact absurd hc (by simp)
theorem list_same {a : Addr} {us vs : List Value} (h : s.heap.IsList a us.toArray) (k : s.heap.IsList a vs.toArray) : us = vs := by
  obtain ⟨o, h1, _, n, h2⟩ := h
  obtain ⟨o2, k1, _, m, k2⟩ := k
  rw [h1] at k1
  cases k1
  rw [h2] at k2
  cases k2
  rfl
theorem tup_same {a : Addr} {us vs : List Value} (h : s.heap.IsTuple a us.toArray) (k : s.heap.IsTuple a vs.toArray) : us = vs := by
  obtain ⟨o, h1, _, n, h2⟩ := h
  obtain ⟨o2, k1, _, m, k2⟩ := k
  rw [h1] at k1
  cases k1
  rw [h2] at k2
  cases k2
  rfl
theorem pairs_inj {es : List DictEntry} {us vs : List (Key × Value)} (h : Pairs (mixKind X.prog X.w) es us) (k : Pairs (mixKind X.prog X.w) es vs) : us = vs := by
  induction h generalizing vs with
  | nil => cases k; rfl
  | cons a b c ih =>
    cases k with
    | cons a' b' c' => rw [ih c', Prod.ext ((mixKind X.prog X.w).inj _ _ _ a a') (b.symm.trans b')]
theorem kv_same {a : Addr} {us vs : List (Key × Value)} (h : s.heap.DictOf (mixKind X.prog X.w) a us) (k : s.heap.DictOf (mixKind X.prog X.w) a vs) : us = vs := by
  obtain ⟨o, es, ep, h1, _, h2, _, h3, _⟩ := h
  obtain ⟨o2, es2, ep2, k1, _, k2, _, k3, _⟩ := k
  rw [h1] at k1
  cases k1
  rw [h2] at k2
  cases k2
  exact pairs_inj h3 k3
theorem kv_inj {ks ls : List Key} {vs ws : List V} {us : List (Key × Value)} (h : KV (ks.zip vs) us) (hl : ks.length = vs.length) (k : KV (ls.zip ws) us) (kl : ls.length = ws.length) : ks = ls /\ vs = ws := by
  induction us generalizing ks ls vs ws with
  | nil =>
    have e1 : (ks.zip vs).length = 0 := by rw [KV.length h]; rfl
    have e2 : (ls.zip ws).length = 0 := by rw [KV.length k]; rfl
    rw [List.length_zip] at e1 e2
    have a1 : ks = [] := List.length_eq_zero_iff.mp (by omega)
    have a2 : vs = [] := List.length_eq_zero_iff.mp (by omega)
    have a3 : ls = [] := List.length_eq_zero_iff.mp (by omega)
    have a4 : ws = [] := List.length_eq_zero_iff.mp (by omega)
    simp [a1, a2, a3, a4]
  | cons u us ih =>
    match ks, vs, ls, ws, h, k, hl, kl with
    | k1 :: ks, v1 :: vs, l1 :: ls, w1 :: ws, .cons a b, .cons c d, hl, kl =>
      obtain ⟨e1, e2⟩ := ih (ks := ks) (vs := vs) (ls := ls) (ws := ws) b (by simpa using hl) d (by simpa using kl)
      have e3 : k1 = l1 := a.1.trans c.1.symm
      have e4 : v1 = w1 := relV_inj a.2 c.2
      simp [e1, e2, e3, e4]
theorem kv_vals {ks : List Key} {vs : List V} {us : List (Key × Value)} (h : KV (ks.zip vs) us) (hl : ks.length = vs.length) : ∃ ws, Vals vs ws := by
  induction us generalizing ks vs with
  | nil =>
    have e1 : (ks.zip vs).length = 0 := by rw [KV.length h]; rfl
    rw [List.length_zip] at e1
    have a2 : vs = [] := List.length_eq_zero_iff.mp (by omega)
    exact ⟨[], by rw [a2]; exact .nil⟩
  | cons u us ih =>
    match ks, vs, h, hl with
    | k1 :: ks, v1 :: vs, .cons a b, hl =>
      obtain ⟨ws, h⟩ := ih (ks := ks) (vs := vs) b (by simpa using hl)
      exact ⟨u.2 :: ws, .cons a.2 h⟩
theorem side_reps (I : Inv X pins σ H s) {n : Nat} (ih : ∀ (d e : D) (v : Value), Side X cl H s d v -> Side X cl H s e v -> plX n d = true -> plX n e = true -> d = e) : ∀ {vs : List V} {us : List Value} {ds es : List D}, Vals vs us -> Reps X.K cl H vs ds -> Reps X.K cl H vs es -> plXs n ds = true -> plXs n es = true -> ds = es
  | [], _, _, _, _, r, q, _, _ => by cases r; cases q; rfl
  | v :: vs, _, _, _, .cons a b, .cons r1 r2, .cons q1 q2, h, k => by
    simp only [plXs, Bool.and_eq_true] at h k
    rw [ih _ _ _ (side_of I r1 h.1 a) (side_of I q1 k.1 a) h.1 k.1, side_reps I ih b r2 q2 h.2 k.2]
theorem side_inj (I : Inv X pins σ H s) : ∀ (n : Nat) (d e : D) (v : Value), Side X cl H s d v -> Side X cl H s e v -> plX n d = true -> plX n e = true -> d = e
  | n, _, _, _, .non, .non, _, _ => rfl
  | n, _, _, _, .bl _, .bl _, _, _ => rfl
  | n, _, _, _, .int _ _, .int _ _, _, _ => rfl
  | n, _, _, _, .str _ _, .str _ _, _, _ => rfl
  | n + 1, _, _, _, .lst h1 h2 h3, .lst k1 k2 k3, p, q => by
    have e := list_same h1 k1
    subst e
    have e := vals_inj h2 k2
    subst e
    rw [side_reps I (side_inj I n) h2 h3 k3 (by simpa [plX] using p) (by simpa [plX] using q)]
  | n + 1, _, _, _, .tup h1 h2 h3, .tup k1 k2 k3, p, q => by
    have e := tup_same h1 k1
    subst e
    have e := vals_inj h2 k2
    subst e
    rw [side_reps I (side_inj I n) h2 h3 k3 (by simpa [plX] using p) (by simpa [plX] using q)]
  | n + 1, _, _, _, .dK h0 h1 h2 h3 h4, .dK k0 k1 k2 k3 k4, p, q => by
    have e := kv_same h1 k1
    subst e
    obtain ⟨rfl, rfl⟩ := kv_inj h2 h3 k2 k3
    simp only [plX, Bool.and_eq_true] at p q
    obtain ⟨us, hv⟩ : ∃ us, Vals _ us := kv_vals h2 h3
    rw [side_reps I (side_inj I n) hv h4 k4 p.2 q.2]
  | n, _, _, _, .lst h1 _ _, .tup k1 _ _, _, _ => absurd rfl (ne_of_list_tuple h1 k1)
  | n, _, _, _, .tup h1 _ _, .lst k1 _ _, _, _ => absurd rfl (ne_of_list_tuple k1 h1)
  | n, _, _, _, .lst h1 _ _, .dK _ k1 _ _ _, _, _ => absurd rfl (dict_ne_list k1 h1)
  | n, _, _, _, .dK _ h1 _ _ _, .lst k1 _ _, _, _ => absurd rfl (dict_ne_list h1 k1)
  | n, _, _, _, .tup h1 _ _, .dK _ k1 _ _ _, _, _ => absurd rfl (dict_ne_tup k1 h1)
  | n, _, _, _, .dK _ h1 _ _ _, .tup k1 _ _, _, _ => absurd rfl (dict_ne_tup h1 k1)
  | 0, _, _, _, .lst _ _ _, .lst _ _ _, p, _ => by simp [plX] at p
  | 0, _, _, _, .tup _ _ _, .tup _ _ _, p, _ => by simp [plX] at p
  | 0, _, _, _, .dK _ _ _ _ _, .dK _ _ _ _ _, p, _ => by simp [plX] at p
theorem eqX_at {A : Around} (I : Inv X pins σ H s) {n : Nat} {d e : D} {v u : Value} (h : RcP X.prog X.w A s v u (eqX d e)) (sd : Side X cl H s d v) (se : Side X cl H s e u) (pd : plX n d = true) (pe : plX n e = true) : EqP X.prog X.w A s v u (eqX d e) :=
  eqP_of_rcP sd h fun z => by
    subst z
    rw [side_inj I n d e _ sd se pd pe]
    exact eqX_refl n e pe
theorem atK_mem {β : Type} [DecidableEq β] {k : β} {e : D} : ∀ {ls : List β} {es : List D}, atK k ls es = some e -> e ∈ es
  | [], _, h => by simp [atK] at h
  | _ :: _, [], h => by simp [atK] at h
  | l :: ls, x :: es, h => by
    by_cases c : l = k
    · simp [atK, c] at h; simp [h]
    · simp [atK, c] at h; exact List.mem_cons_of_mem _ (atK_mem h)
theorem keq_hits {A : Around} {n : Nat} (I : Inv X pins σ H s) (ih : ∀ (d e : D) (v u : Value), Side X cl H s d v -> Side X cl H s e u -> plX n d = true -> plX n e = true -> EqP X.prog X.w A s v u (eqX d e)) {ls : List Key} {ws : List V} {ub : List (Key × Value)} {es : List D} (rb : KV (ls.zip ws) ub) (rl : ls.length = ws.length) (re : Reps X.K cl H ws es) (pe : plXs n es = true) :
    ∀ {ks : List Key} {vs : List V} {ua : List (Key × Value)} {ds : List D}, KV (ks.zip vs) ua -> ks.length = vs.length -> Reps X.K cl H vs ds -> plXs n ds = true -> PySem.W.KeqHitsP X.prog X.w A s ub ua (eqKs ks ds ls es)
  | [], [], _, _, .nil, _, rd, _ => by cases rd; simp only [eqKs]; exact .nil
  | k :: ks, v :: vs, (k', u) :: ua, d :: ds, .cons a b, hl, .cons r1 r2, pd => by
    simp only [plXs, Bool.and_eq_true] at pd
    have rest := keq_hits I ih rb rl re pe b (by simpa using hl) r2 pd.2
    have rv := rb.val k
    rw [valV_zip] at rv
    obtain ⟨e0, ru⟩ : k = k' /\ RelV v u := a
    subst e0
    simp only [eqKs]
    cases hm : atK k ls es with
    | none =>
      have e1 : (atK k ls ws).isSome = (atK k ls es).isSome := by rw [atK_some k ls ws rl, atK_some k ls es (rl.trans re.length)]
      rw [hm] at e1
      cases hw : atK k ls ws with
      | some x => rw [hw] at e1; cases e1
      | none =>
        rw [hw] at rv
        cases hu : valueAt ub k with
        | some x => rw [hu] at rv; exact rv.elim
        | none => simp only [Bool.false_and]; exact .miss hu
    | some e =>
      obtain ⟨w', hw, re'⟩ := reps_atK re hm
      rw [hw] at rv
      have pe' : plX n e = true := plXs_all.mp pe e (atK_mem hm)
      cases hu : valueAt ub k with
      | none => rw [hu] at rv; exact rv.elim
      | some y =>
        rw [hu] at rv
        exact .hit hu (ih d e u y (side_of I r1 pd.1 ru) (side_of I re' pe' rv) pd.1 pe') rest
theorem eqL_of {A : Around} {n : Nat} (I : Inv X pins σ H s) (ih : ∀ (d e : D) (v u : Value), Side X cl H s d v -> Side X cl H s e u -> plX n d = true -> plX n e = true -> EqP X.prog X.w A s v u (eqX d e)) :
    ∀ {vs ws : List V} {us ts : List Value} {ds es : List D}, Vals vs us -> Reps X.K cl H vs ds -> Vals ws ts -> Reps X.K cl H ws es -> plXs n ds = true -> plXs n es = true -> EqL X.prog X.w A s (us.zip ts) (eqZ ds es)
  | _, _, _, _, _, _, .nil, .nil, _, _, _, _ => by simp only [eqZ, List.zip_nil_left]; exact .nil
  | _, _, _, _, _, _, .cons _ _, .cons _ _, .nil, .nil, _, _ => by simp only [eqZ, List.zip_nil_right]; exact .nil
  | _, _, _, _, _, _, .cons a b, .cons r1 r2, .cons c d, .cons q1 q2, p, q => by
    simp only [plXs, Bool.and_eq_true] at p q
    simp only [eqZ, List.zip_cons_cons]
    exact .cons (ih _ _ _ _ (side_of I r1 p.1 a) (side_of I q1 q.1 c) p.1 q.1) (eqL_of I ih b r2 d q2 p.2 q.2)
theorem eqL_at {prog : Program} {w : World} {A : Around} {s : Shared} {ps : List (Value × Value)} {bs : List Bool} (h : EqL prog w A s ps bs) : ∀ (j : Nat) (p : Value × Value), ps[j]? = some p -> ∃ b, bs[j]? = some b /\ EqP prog w A s p.1 p.2 b := by
  induction h with
  | nil => intro j p e; simp at e
  | cons a b ih =>
    intro j p e
    cases j with
    | zero => simp at e; subst e; exact ⟨_, rfl, a⟩
    | succ j => simpa using ih j p (by simpa using e)
theorem rc_flat {A : Around} {d e : D} {v u : Value} (sd : Side X cl H s d v) (se : Side X cl H s e u) (pd : plX 0 d = true) (pe : plX 0 e = true) : RcP X.prog X.w A s v u (eqX d e) := by
  cases sd with
  | non =>
    cases se with
    | non => simp only [eqX]; exact .of .none_none
    | bl bb => simp only [eqX]; exact .of (.none_bool bb)
    | int bi bt => simp only [eqX]; exact .of (.none_int bi bt)
    | str bx bt => simp only [eqX]; exact .of (.none_str bx bt)
    | lst => simp [plX] at pe
    | tup => simp [plX] at pe
    | dK => simp [plX] at pe
  | bl pb =>
    cases se with
    | non => simp only [eqX]; exact .of (.bool_none pb)
    | bl bb => simp only [eqX]; exact .of (.bool_bool pb bb)
    | int bi bt => simp only [eqX]; exact .of (.bool_int pb bi bt)
    | str bx bt => simp only [eqX]; exact .of (.bool_str pb bx bt)
    | lst => simp [plX] at pe
    | tup => simp [plX] at pe
    | dK => simp [plX] at pe
  | int pi pt =>
    cases se with
    | non => simp only [eqX]; exact .of (.int_none pi pt)
    | bl bb => simp only [eqX]; exact .of (.int_bool pi pt bb)
    | int bi bt => simp only [eqX]; exact .of (.int_int pi pt bi bt)
    | str bx bt => simp only [eqX]; exact .of (.int_str pi pt bx bt)
    | lst => simp [plX] at pe
    | tup => simp [plX] at pe
    | dK => simp [plX] at pe
  | str px pt =>
    cases se with
    | non => simp only [eqX]; exact .of (.str_none px pt)
    | bl bb => simp only [eqX]; exact .of (.str_bool px pt bb)
    | int bi bt => simp only [eqX]; exact .of (.str_int px pt bi bt)
    | str bx bt => simp only [eqX]; exact .of (.str_str px pt bx bt)
    | lst => simp [plX] at pe
    | tup => simp [plX] at pe
    | dK => simp [plX] at pe
  | lst => simp [plX] at pd
  | tup => simp [plX] at pd
  | dK => simp [plX] at pd
theorem rc_lsts {A : Around} {n : Nat} (I : Inv X pins σ H s) (ihE : ∀ (d e : D) (v u : Value), Side X cl H s d v -> Side X cl H s e u -> plX n d = true -> plX n e = true -> EqP X.prog X.w A.in1 s v u (eqX d e)) {a b : Addr} {us ts : List Value} {vs ws : List V} {ds es : List D}
    (h1 : s.heap.IsList a us.toArray) (h2 : Vals vs us) (h3 : Reps X.K cl H vs ds) (k1 : s.heap.IsList b ts.toArray) (k2 : Vals ws ts) (k3 : Reps X.K cl H ws es) (p : plXs n ds = true) (q : plXs n es = true) (hA : A.units < cLine) : RcP X.prog X.w A s (.ref a) (.ref b) (eqXs ds es) := by
  have l1 := h2.length
  have l2 := k2.length
  have l3 := h3.length
  have l4 := k3.length
  rw [eqXs_Z]
  by_cases hl : ds.length = es.length
  · have L := eqL_of I ihE h2 h3 k2 k3 p q
    have hz := eqZ_len ds es hl
    intro E Q r
    refine SeqAt.rcP_lists (e := fun j => eqX (ds.getD j .non) (es.getD j .non)) h1 k1 (by simp; omega) hA (fun j j1 j2 => ?_) E Q ?_
    · simp at j1 j2
      obtain ⟨b', e1, e2⟩ := eqL_at L j (us[j], ts[j]) (by simp [List.getElem?_zip_eq_some, j1, j2])
      rw [eqZ_at ds es j (by omega) (by omega)] at e1
      cases e1
      simpa using e2
    · rw [range_all (eqZ ds es) _ us.toArray.size (by simp; omega) (fun j hj => eqZ_at ds es j (by simp at hj; omega) (by simp at hj; omega))]
      simpa [hl] using r
  · have e : ((eqZ ds es).all id && ds.length == es.length) = false := by simp [hl]
    rw [e]
    exact .of (.lists_lengths h1 k1 (by simp; omega) hA)
theorem rcX (I : Inv X pins σ H s) : ∀ (n : Nat) (A : Around), A.units + n < cLine -> ∀ (d e : D) (v u : Value), Side X cl H s d v -> Side X cl H s e u -> plX n d = true -> plX n e = true -> RcP X.prog X.w A s v u (eqX d e) := by
  intro n
  induction n with
  | zero =>
    intro A hu d e v u sd se pd pe
    exact rc_flat sd se pd pe
  | succ n ih =>
    intro A hu d e v u sd se pd pe
    have hA : A.units < cLine := by omega
    have ihE : ∀ (d e : D) (v u : Value), Side X cl H s d v -> Side X cl H s e u -> plX n d = true -> plX n e = true -> EqP X.prog X.w A.in1 s v u (eqX d e) := fun d e v u sd se pd pe => eqX_at I (ih A.in1 (by show A.units + 1 + n < cLine; omega) d e v u sd se pd pe) sd se pd pe
    cases sd with
    | non =>
      cases se with
      | non => exact rc_flat (cl := cl) (H := H) (.non) (.non) rfl rfl
      | bl bb => exact rc_flat (cl := cl) (H := H) (.non) (.bl bb) rfl rfl
      | int bi bt => exact rc_flat (cl := cl) (H := H) (.non) (.int bi bt) rfl rfl
      | str bx bt => exact rc_flat (cl := cl) (H := H) (.non) (.str bx bt) rfl rfl
      | lst h1 h2 h3 => simp only [eqX]; exact .of (.none_list h1 hA)
      | tup h1 h2 h3 => simp only [eqX]; exact .of (.none_tuple h1 hA)
      | dK h0 h1 h2 h3 h4 => simp only [eqX]; exact rcp_no_dict h1 (nd_none h1) hA
    | bl pb =>
      cases se with
      | non => exact rc_flat (cl := cl) (H := H) (.bl pb) (.non) rfl rfl
      | bl bb => exact rc_flat (cl := cl) (H := H) (.bl pb) (.bl bb) rfl rfl
      | int bi bt => exact rc_flat (cl := cl) (H := H) (.bl pb) (.int bi bt) rfl rfl
      | str bx bt => exact rc_flat (cl := cl) (H := H) (.bl pb) (.str bx bt) rfl rfl
      | lst h1 h2 h3 => simp only [eqX]; exact .of (.bool_list pb h1 hA)
      | tup h1 h2 h3 => simp only [eqX]; exact .of (.bool_tuple pb h1 hA)
      | dK h0 h1 h2 h3 h4 => simp only [eqX]; exact rcp_no_dict h1 (nd_bool h1 pb) hA
    | int pi pt =>
      cases se with
      | non => exact rc_flat (cl := cl) (H := H) (.int pi pt) (.non) rfl rfl
      | bl bb => exact rc_flat (cl := cl) (H := H) (.int pi pt) (.bl bb) rfl rfl
      | int bi bt => exact rc_flat (cl := cl) (H := H) (.int pi pt) (.int bi bt) rfl rfl
      | str bx bt => exact rc_flat (cl := cl) (H := H) (.int pi pt) (.str bx bt) rfl rfl
      | lst h1 h2 h3 => simp only [eqX]; exact .of (.int_list pi pt h1 hA)
      | tup h1 h2 h3 => simp only [eqX]; exact .of (.int_tuple pi pt h1 hA)
      | dK h0 h1 h2 h3 h4 => simp only [eqX]; exact rcp_no_dict h1 (nd_int h1 pi pt) hA
    | str px pt =>
      cases se with
      | non => exact rc_flat (cl := cl) (H := H) (.str px pt) (.non) rfl rfl
      | bl bb => exact rc_flat (cl := cl) (H := H) (.str px pt) (.bl bb) rfl rfl
      | int bi bt => exact rc_flat (cl := cl) (H := H) (.str px pt) (.int bi bt) rfl rfl
      | str bx bt => exact rc_flat (cl := cl) (H := H) (.str px pt) (.str bx bt) rfl rfl
      | lst h1 h2 h3 => simp only [eqX]; exact .of (.str_list px pt h1 hA)
      | tup h1 h2 h3 => simp only [eqX]; exact .of (.str_tuple px pt h1 hA)
      | dK h0 h1 h2 h3 h4 => simp only [eqX]; exact rcp_no_dict h1 (nd_str h1 px pt) hA
    | lst h1 h2 h3 =>
      cases se with
      | non => simp only [eqX]; exact .of (.list_none h1 hA)
      | bl bb => simp only [eqX]; exact .of (.list_bool bb h1 hA)
      | int bi bt => simp only [eqX]; exact .of (.list_int bi bt h1 hA)
      | str bx bt => simp only [eqX]; exact .of (.list_str bx bt h1 hA)
      | lst k1 k2 k3 =>
        simp only [eqX]
        have p := by simpa [plX] using pd
        have q := by simpa [plX] using pe
        exact rc_lsts I ihE h1 h2 h3 k1 k2 k3 p q hA
      | tup k1 k2 k3 => simp only [eqX]; exact .of (.list_tuple h1 k1 hA)
      | dK k0 k1 k2 k3 k4 => simp only [eqX]; exact rcp_no_dict k1 (nd_list k1 h1) hA
    | tup h1 h2 h3 =>
      cases se with
      | non => simp only [eqX]; exact .of (.tuple_none h1 hA)
      | bl bb => simp only [eqX]; exact .of (.tuple_bool bb h1 hA)
      | int bi bt => simp only [eqX]; exact .of (.tuple_int bi bt h1 hA)
      | str bx bt => simp only [eqX]; exact .of (.tuple_str bx bt h1 hA)
      | lst k1 k2 k3 => simp only [eqX]; exact .of (.tuple_list h1 k1 hA)
      | tup k1 k2 k3 =>
        simp only [eqX]
        have p := by simpa [plX] using pd
        have q := by simpa [plX] using pe
        have r := rcp_tups (A := A) (eqZ _ _) h1 k1 hA (eqL_of I ihE h2 h3 k2 k3 p q)
        rw [eqXs_Z]
        have l1 := h2.length
        have l2 := k2.length
        have l3 := h3.length
        have l4 := k3.length
        simp only [List.size_toArray] at r
        rw [<- l1, <- l2, l3, l4] at r
        exact r
      | dK k0 k1 k2 k3 k4 => simp only [eqX]; exact rcp_no_dict k1 (nd_tup k1 h1) hA
    | dK h0 h1 h2 h3 h4 =>
      cases se with
      | non => simp only [eqX]; exact rcp_dict_no h1 (nd_none h1) hA
      | bl bb => simp only [eqX]; exact rcp_dict_no h1 (nd_bool h1 bb) hA
      | int bi bt => simp only [eqX]; exact rcp_dict_no h1 (nd_int h1 bi bt) hA
      | str bx bt => simp only [eqX]; exact rcp_dict_no h1 (nd_str h1 bx bt) hA
      | lst k1 k2 k3 => simp only [eqX]; exact rcp_dict_no h1 (nd_list h1 k1) hA
      | tup k1 k2 k3 => simp only [eqX]; exact rcp_dict_no h1 (nd_tup h1 k1) hA
      | dK k0 k1 k2 k3 k4 =>
        simp only [eqX]
        simp only [plX, Bool.and_eq_true] at pd pe
        have e1 := KV.length h2
        have e2 := KV.length k2
        rw [List.length_zip, <- h3, Nat.min_self] at e1
        rw [List.length_zip, <- k3, Nat.min_self] at e2
        rw [e1, e2]
        exact fun E Q q => PySem.W.rcP_dicts h0 k0 h1 k1 hA (fun _ => keq_hits I ihE k2 k3 k4 pe.2 h2 h3 h4 pd.2) E Q q
end
end DL
set_option Elab.async false
set_option linter.all false
set_option maxRecDepth 100000
set_option maxHeartbeats 4000000
namespace DL
open PySem L2
open PySem.SeqAt
section
open AutoSeq1 (wpAny_loadPart')
open MeetsSeq MeetsSeq2 MeetsSeq3 SeqRoads2
variable {prog : Program} {w : World}
theorem lst_ne_turns (l b : Addr) (us vs : Array Value) (n m : Nat) (da db : Option Addr) (sa sb : Array (Option Value)) (hz : us.size = vs.size) (k : Nat) : ∀ (i : Nat) (bs : List Bool), us.size - i = k ->
    MeetsIn prog w (Builtin.«list.__eq__.loop» ⟨[.ref l, .ref b, rawInt i, rawInt 3], []⟩)
      (fun A R s => s.heap.get? l = some { cls := .type "list", dict := da, data := .seq us n, slots := sa } /\ s.heap.get? b = some { cls := .type "list", dict := db, data := .seq vs m, slots := sb } /\
        EqL prog w A.in1 s ((us.toList.zip vs.toList).drop i) bs /\ R (.ok (.ret (.bool (!bs.all id)))) s) := by
  have hlen : (us.toList.zip vs.toList).length = us.size := by simp [hz]
  induction k with
  | zero =>
    intro i bs hk A R s0 q
    obtain ⟨h0, g0, d0, t0, o0⟩ := s0
    obtain ⟨ga, gb, he, q⟩ := q
    rw [List.drop_of_length_le (by omega)] at he
    cases he
    have na : us[((i : Nat) : Int).toNat]? = none := by simp; omega
    have nb : vs[((i : Nat) : Int).toNat]? = none := by simp; omega
    wp_walk using wpAny_loadPart' ga, wpAny_loadPart' gb
    rw [na, nb]
    wp_walk using wpAny_loadPart' ga, wpAny_loadPart' gb
    show R (.ok (.ret (.bool (us.size != vs.size)))) _
    simpa [hz] using q
  | succ k ih =>
    intro i bs hk A R s0 q
    obtain ⟨h0, g0, d0, t0, o0⟩ := s0
    obtain ⟨ga, gb, he, q⟩ := q
    have ia : i < us.size := by omega
    have ib : i < vs.size := by omega
    rw [List.drop_eq_getElem_cons (by omega)] at he
    cases he with
    | @cons _ c _ cs hp he =>
      have na : us[((i : Nat) : Int).toNat]? = some us[i] := by simp [ia]
      have nb : vs[((i : Nat) : Int).toNat]? = some vs[i] := by simp [ib]
      have nx : ((i : Int) + 1) = ((i + 1 : Nat) : Int) := by simp
      have hp' : EqP prog w A.in1 ⟨h0, g0, d0, t0, o0⟩ us[i] vs[i] c := by simpa using hp
      wp_walk using wpAny_loadPart' ga, wpAny_loadPart' gb
      rw [na, nb]
      refine wpAny_bind (hp' _ _ ?_)
      cases c with
      | true =>
        wp_walk
        rw [nx]
        refine ⟨plainId_quiet plain_eq_loop _, codeAny_builtin entry_eq_loop ?_⟩
        rw [Around.under_plainId plain_eq_loop _]
        exact ih (i + 1) cs (by omega) A R _ ⟨ga, gb, he, by simpa using q⟩
      | false =>
        wp_walk using wpAny_loadPart' ga, wpAny_loadPart' gb
        rw [na, nb]
        wp_walk
        simpa using q
theorem lst_ne (l b : Addr) (us vs : Array Value) (n m : Nat) (da db : Option Addr) (sa sb : Array (Option Value)) (hz : us.size = vs.size) (bs : List Bool) :
    MeetsIn prog w (Builtin.«list.__ne__» ⟨[.ref l, .ref b], []⟩)
      (fun A R s => s.heap.get? l = some { cls := .type "list", dict := da, data := .seq us n, slots := sa } /\ s.heap.get? b = some { cls := .type "list", dict := db, data := .seq vs m, slots := sb } /\
        EqL prog w A.in1 s (us.toList.zip vs.toList) bs /\ R (.ok (.ret (.bool (!bs.all id)))) s) := by
  intro A R s0 q
  obtain ⟨h0, g0, d0, t0, o0⟩ := s0
  obtain ⟨ga, gb, he, q⟩ := q
  have sub := AutoSeq1.sub_list_list
  have same : ¬ (us.size != vs.size) = true := by simp [hz]
  wp_walk using wpAny_loadPart' ga, wpAny_loadPart' gb
  refine ⟨plainId_quiet plain_eq_loop _, codeAny_builtin entry_eq_loop ?_⟩
  rw [Around.under_plainId plain_eq_loop _]
  exact lst_ne_turns l b us vs n m da db sa sb hz _ 0 bs rfl A R _ ⟨ga, gb, he, q⟩
end
section
variable {X : Cx} {pins : List (Addr × Obj)} {σ : St} {H : Hp} {s : Shared} {cl : ClW}
end
section
variable {K : PySem.W.Frag} {cl : ClW} {F H : Hp} {M : Mem} {X : Cx} {W : WX}
mutual
theorem rep_deep (g : Good K cl F H M) {d e : D} (t : Dv M d e) {v : V} (r : Rep K cl F v d) : Rep K cl H v e := by
  cases t with
  | same => exact r.mono g.sub
  | ref ha ts =>
    obtain rfl := r.toRef
    obtain ⟨hF, vs, h3, h4⟩ := g.cell _ _ ha
    exact .lst (SqL.of h3) (reps_deep g ts h4)
  | lst ts =>
    obtain ⟨a, vs, rfl, h1, h2⟩ := r.toLst
    exact .lst (same_l g.sub h1) (reps_deep g ts h2)
  | tup ts =>
    obtain ⟨a, vs, rfl, h1, h2⟩ := r.toTup1
    exact .tup (h1.mono g.sub) (reps_deep g ts h2)
theorem reps_deep (g : Good K cl F H M) {ds es : List D} (t : Dvs M ds es) {vs : List V} (r : Reps K cl F vs ds) : Reps K cl H vs es := by
  cases t with
  | nil =>
    obtain rfl := r.inv0
    exact .nil
  | cons t1 t2 =>
    obtain ⟨v, ws, rfl, r1, r2⟩ := r.inv
    exact .cons (rep_deep g t1 r1) (reps_deep g t2 r2)
end
@[simp] def bEqX : DB2 := fun d e _ M Q _ => ∃ d' e' n, Dv M d d' /\ Dv M e e' /\ n <= 60 /\ plX n d' = true /\ plX n e' = true /\ Q (.bl (eqX d' e')) M
@[simp] def bNeX : DB2 := fun d e _ M Q _ => ∃ xs ys n, Dv M d (.lst xs) /\ Dv M e (.lst ys) /\ n <= 60 /\ plXs n xs = true /\ plXs n ys = true /\ Q (.bl (!eqXs xs ys)) M
end
end DL
set_option Elab.async false
set_option linter.all false
set_option maxRecDepth 100000
set_option maxHeartbeats 4000000
namespace DL
open PySem L2
end DL
set_option Elab.async false
set_option linter.all false
set_option maxRecDepth 100000
set_option maxHeartbeats 4000000
namespace FL
open PySem L2 DL
def seqs : D -> Option (List D)
  | .lst xs => some xs
  | .tup xs => some xs
  | _ => none
theorem seqs_en {d : D} {xs : List D} (h : seqs d = some xs) : enD d = some xs := by cases d <;> first | exact h | cases h
def nameC : List Nat -> Bool
  | [] => false
  | c :: r => decide (r.length <= 7) && (isL c && r.all isS)
def nameB : D -> Bool
  | .str z => nameC z.cps.toList
  | _ => false
def valB : D -> Bool
  | .int i => decide (-(10 ^ 30) <= i) && decide (i <= 10 ^ 30)
  | _ => false
structure Pl (d : D) : Prop where
  ty : ∃ n, tyName d = some n
  st : ∀ z, d = .str z -> z.length <= 1000 /\ ∀ c ∈ z.cps.toList, c < 1114112
structure PlRow (y : D) : Prop where
  pl : Pl y
  it : ∀ l, seqs y = some l -> ∀ c ∈ l, Pl c
structure Handed (M : Mem) (d : D) : Prop where
  ty : ∃ n, tyName (vw M d) = some n
  rows : ∀ xs, seqs (vw M d) = some xs -> xs.length <= 60 -> ∀ y ∈ xs, PlRow (vw M y)
end FL
set_option Elab.async false
set_option linter.all false
set_option maxRecDepth 100000
set_option maxHeartbeats 4000000
namespace DL
open PySem L2
section
variable {X : Cx} {cl : ClW}
end
section
variable {X : Cx} {cl : ClW} {W : WX} {pos : Pos}
structure DPs (cl : ClW) (X : Cx) (W : WX) (pos : Pos) (keys : List (Option Expr)) (values : List Expr) (prs : List (DTE × DTE)) : Prop where
  pps : PPs X pos keys values (prs.map fun q => (lowE X.K cl W q.1, lowE X.K cl W q.2))
inductive Pairs2 (K : PySem.W.Frag) (cl : ClW) (F : Hp) : List (V × V) -> List (D × D) -> Prop
  | nil : Pairs2 K cl F [] []
  | cons {x y : V} {d e : D} {ps : List (V × V)} {qs : List (D × D)} : Rep K cl F x d -> Rep K cl F y e -> Pairs2 K cl F ps qs -> Pairs2 K cl F ((x, y) :: ps) ((d, e) :: qs)
end
end DL
set_option Elab.async false
set_option linter.all false
set_option maxRecDepth 100000
set_option maxHeartbeats 4000000
namespace DL
open PySem L2
section
variable {cl : ClW} {X : Cx} {W : WX} {elt tg iter tg1 iter1 : Expr} {ifs ifs1 : List Expr} {scope : Scope} {own : List (Str × Nat)} {vs1 : List Nat} {pos : Pos} {ι ι1 : DTIg} {is is1 : List Nat} {γ γ1 : DTG} {υ υ1 : DTT} {τ : DTE}
end
end DL
set_option Elab.async false
set_option linter.all false
set_option maxRecDepth 100000
set_option maxHeartbeats 4000000
namespace DL
open PySem L2
def cmpX (k : Int -> Int -> Bool) (f : Ordering -> Bool) : D -> D -> Option D
  | .byt x, .byt y => some (.bl (f (Builtin.Bytes.order x.toList y.toList)))
  | d, e => cmpD k d e
section
variable {K : PySem.W.Frag} {cl : ClW}
end
section
variable {X : Cx}
end
def is8 (ns : List Int) : Bool := ns.all fun n => decide (0 <= n) && decide (n < 256)
theorem is8_iff {ns : List Int} : is8 ns = true ↔ ∀ n ∈ ns, 0 <= n /\ n < 256 := by simp [is8, List.all_eq_true]
def bytesF : List D -> Option D
  | [.lst xs] => (intsOf xs).bind fun ns => if is8 ns = true then some (.byt (byteArr ns)) else none
  | [.tup xs] => (intsOf xs).bind fun ns => if is8 ns = true then some (.byt (byteArr ns)) else none
  | [.byt b] => some (.byt b)
  | _ => none
theorem intsSome {xs : List D} {z : D} {f : List Int -> D} (h : ((intsOf xs).bind fun ns => if is8 ns = true then some (f ns) else none) = some z) : ∃ ns, xs = ns.map D.int /\ (∀ n ∈ ns, 0 <= n /\ n < 256) /\ z = f ns := by
  cases e : intsOf xs with
  | none => rw [e] at h; cases h
  | some ns =>
    rw [e] at h
    simp only [Option.bind_some] at h
    by_cases k : is8 ns = true
    · rw [if_pos k] at h
      cases h
      exact ⟨ns, intsOf_eq e, is8_iff.mp k, rfl⟩
    · rw [if_neg k] at h; cases h
section
variable {K : PySem.W.Frag} {cl : ClW} {X : Cx}
def rBytes (K : PySem.W.Frag) : List V -> Hp -> VK -> Prop := fun xs H Q => r1 (kByts K) xs H Q \/ ∃ p ns, xs = [.ref p] /\ SqT K H p (ns.map V.int) /\ B8 ns /\ Q (.byt (byteArr ns)) H
theorem call_bytesA (hc : X.calm = true) : CallR X (.type "bytes") (rBytes X.K) := by
  intro pins s σ H xs us Q I r h
  rcases h with h | h
  · exact call_r1 (rl_bytes hc) pins s σ H xs us Q I r h
  · exact call_bytes_tup hc pins s σ H xs us Q I r h
theorem lc_bytes : LCall K cl (rBytes K) bytesF := by
  intro F H M xs ds z Q Qd g r h p q
  generalize e : ds.map (vw M) = es at h
  unfold bytesF at h
  split at h
  · obtain ⟨x, rfl, hv⟩ := reps1 g r e
    obtain ⟨a, vs, rfl, h1, h2⟩ := hv.lst g.sub
    obtain ⟨ns, rfl, h8, rfl⟩ := intsSome (f := fun ns => D.byt (byteArr ns)) h
    rw [h2.ints] at h1
    exact .inl (.inr ⟨a, ns, rfl, h1, h8, p.val g (.byt _) q⟩)
  · obtain ⟨x, rfl, hv⟩ := reps1 g r e
    obtain ⟨a, vs, rfl, h1, h2⟩ := hv.tup g.sub
    obtain ⟨ns, rfl, h8, rfl⟩ := intsSome (f := fun ns => D.byt (byteArr ns)) h
    rw [h2.ints] at h1
    exact .inr ⟨a, ns, rfl, h1, h8, p.val g (.byt _) q⟩
  · cases h
    obtain ⟨x, rfl, hv⟩ := reps1 g r e
    obtain rfl := hv.byt
    exact .inl (.inl ⟨_, rfl, p.val g (.byt _) q⟩)
  · cases h
def slB : D -> Option Int -> Option Int -> Option D
  | .byt b, lo, hi => if b.size <= 16777216 then some (.byt (PySem.W.KBy.picked b lo hi)) else none
  | _, _, _ => none
theorem d_sliceB {W : WX} {e : Expr} {τ : DTE} {lo hi : Option Expr} {τl τh : DTO} {p2 pos : Pos} (he : DE cl X W e τ) (hl : DO cl X W lo τl) (hu : DO cl X W hi τh) : DE cl X W (.Subscript e (.Slice lo hi none p2) pos) (dSl slB τ τl τh) :=
  ⟨pe_imp (pe_slice sl_byt he.pe hl.po hu.po) fun σ H Q ⟨F, ρ, M, Qd, Xd, g, s, t, p, w⟩ =>
    ⟨F, ρ, M, _, Xd, g, s, t, fun v H1 F1 d M1 sm1 g1 r1 q1 => ⟨F1, ρ, M1, _, Xd, g1, s.mono sm1, q1, fun l H2 F2 M2 sm2 g2 q2 => ⟨F2, ρ, M2, _, Xd, g2, s.mono (sm1.trans sm2), q2, fun h H3 F3 M3 sm3 g3 q3 => (by
      obtain ⟨z, e1, e2⟩ := q3
      have hv := vw_ok g3 (r1.mono (sm2.trans sm3))
      have p' := p.mono ((sm1.trans sm2).trans sm3)
      cases hd : vw M3 d with
      | byt b =>
        rw [hd] at hv e1
        simp only [slB] at e1
        split at e1
        · cases e1
          obtain rfl := hv.byt
          exact ⟨b, rfl, by assumption, p'.val g3 (.byt _) e2⟩
        · cases e1
      | _ => rw [hd] at e1; cases e1), w.mono (sm1.trans sm2)⟩, w.mono sm1⟩, w⟩⟩
def rIxB : R2 := fun x y H Q => ∃ (b : Array UInt8) (i : Int) (k : Nat) (c : UInt8), x = .byt b /\ y = .int i /\ b.size <= 16777216 /\ seqIndex? i b.size = some k /\ b[k]? = some c /\ Q (.int (c.toNat : Nat)) H
theorem ix_byt : IxR X rIxB := by
  intro value slice pins s σ H x y v u Q I rx ry h hs
  obtain ⟨b, i, k, c, rfl, rfl, hz, hk, hc, q⟩ := h
  obtain ⟨t, rfl⟩ := rx
  obtain ⟨t', rfl⟩ := ry
  refine PyProof.Rows.tail_any (PySem.W.typeIs_bytes s b t) PySem.W.FB.slot_bytes_getitem.lookup (PySem.getItem_gives (PySem.W.typeIs_bytes s _ t) (by decide) PySem.W.FB.slot_bytes_getitem PySem.W.FB.entry_bytes_getitem (PySem.W.FB.args_bytes_getitem_2 _ _) (PySem.W.gives_bytes_getitem _ i t t' c ?_ ?_) ⟨.int (c.toNat : Nat), H, I.tok _, ⟨_, rfl⟩, q⟩) hs
  · unfold seqIndex? at hk
    simp only [Builtin.Bytes.fitsIndex, Bool.and_eq_true, decide_eq_true_eq]
    dsimp only at hk
    split at hk <;> split at hk <;> simp_all <;> omega
  · rw [hk]; simpa using hc
def ixB : D -> D -> Option D
  | .byt b, .int i => if b.size <= 16777216 then (seqIndex? i b.size).bind fun k => (b[k]?).map fun c => .int (c.toNat : Nat) else none
  | _, _ => none
theorem lixB : LOp K cl rIxB ixB := by
  intro F H M x y d e z Q Qd g hx hy h p q
  unfold ixB at h
  split at h
  · rename_i b i
    obtain rfl := hx.byt; obtain rfl := hy.int
    split at h
    · cases e1 : seqIndex? i b.size with
      | none => rw [e1] at h; cases h
      | some k =>
        rw [e1] at h
        simp only [Option.bind_some] at h
        cases e2 : b[k]? with
        | none => rw [e2] at h; cases h
        | some c =>
          rw [e2] at h
          cases h
          exact ⟨b, i, k, c, rfl, rfl, by assumption, e1, e2, p.val g (.int _) q⟩
    · cases h
  · cases h
theorem d_ixB {W : WX} {a b : Expr} {pos : Pos} {τa τb : DTE} (ha : DE cl X W a τa) (hb : DE cl X W b τb) (hs : PlainIx b := by exact fun _ _ => rfl) : DE cl X W (.Subscript a b pos) (dOp ixB τa τb) :=
  ⟨pe_imp (pe_ix ix_byt ha.pe hb.pe hs) fun σ H Q ⟨F, ρ, M, Qd, Xd, g, s, t, p, w⟩ =>
    ⟨F, ρ, M, _, Xd, g, s, t, fun v H' F' d M' sm g' r' q => ⟨F', ρ, M', _, Xd, g', s.mono sm, q, fun u H2 F2 e M2 sm2 g2 r2 q2 => by
      obtain ⟨z, e1, e2⟩ := q2
      exact lixB F2 H2 M2 v u _ _ z Q Qd g2 (vw_ok g2 (r'.mono sm2)) (vw_ok g2 r2) e1 (p.mono (sm.trans sm2)) e2, w.mono sm⟩, w⟩⟩
end
end DL
set_option Elab.async false
set_option linter.all false
set_option maxRecDepth 100000
set_option maxHeartbeats 4000000
set_option autoImplicit false
namespace FL
open PySem L2 DL
def Lad : Int -> List Int -> Prop
  | _, [] => True
  | m, l :: r => 0 <= l /\ l <= m + 1 /\ Lad l r
def up (c : Int) (r : Row) : Row := ⟨r.nm, r.va, r.lv + c⟩
def subT (rs : List Row) (p : Nat) : List Row := (rs.drop p).take (1 + kids (lvs rs) p)
def blk (rs : List Row) : Option Nat -> List Row
  | none => rs
  | some p => (rs.drop (p + 1)).take (kids (lvs rs) p)
end FL
set_option Elab.async false
set_option linter.all false
set_option maxRecDepth 100000
set_option maxHeartbeats 4000000
set_option autoImplicit false
namespace FL
open PySem L2 DL
def RV (r : Row) : Prop := NameOk r.nm /\ -(10 ^ 30) <= r.va /\ r.va <= 10 ^ 30
def treesR (rs : List Row) (o : Option Nat) : List (List Row) := (sibs (lvs rs) o).map fun c => (subT rs c).map (up (-((lvs rs).getD c 0)))
def withT (rs : List Row) : Option Nat -> List (List Row) -> List Row
  | none, ts => ts.flatten
  | some p, ts => rs.take (p + 1) ++ ts.flatten.map (up ((lvs rs).getD p 0 + 1)) ++ rs.drop (p + 1 + kids (lvs rs) p)
def cutR (rs : List Row) (p : Nat) : List Row := rs.take p ++ rs.drop (p + 1 + kids (lvs rs) p)
def liftR (rs : List Row) (p : Nat) : List Row := rs.take p ++ ((rs.drop (p + 1)).take (kids (lvs rs) p)).map (up (-1)) ++ rs.drop (p + 1 + kids (lvs rs) p)
def subR (rs : List Row) (p : Nat) : List Row := (subT rs p).map (up (-((lvs rs).getD p 0)))
structure TrOk (t : List Row) : Prop where
  lad : Lad (-1) (lvs t)
  rv : ∀ r ∈ t, RV r
section
variable {rs : List Row}
end
end FL
set_option Elab.async false
set_option linter.all false
set_option maxRecDepth 100000
set_option maxHeartbeats 4000000
set_option autoImplicit false
namespace DL
open PySem L2
section
variable {cl : ClW} {X : Cx} {W : WX} {x : Str} {pos : Pos}
end
end DL
set_option Elab.async false
set_option linter.all false
set_option maxRecDepth 100000
set_option maxHeartbeats 4000000
set_option autoImplicit false
namespace FL
open PySem L2 DL
def hasN (rs : List Row) : D -> Bool
  | .str z => decide (z.cps.toList ∈ rs.map Row.nm)
  | _ => false
def nmOf : D -> List Nat
  | .str z => z.cps.toList
  | _ => []
def ixOf (rs : List Row) (d : D) : Nat := (rs.map Row.nm).idxOf (nmOf d)
end FL
set_option Elab.async false
set_option linter.all false
set_option maxRecDepth 100000
set_option maxHeartbeats 4000000
set_option autoImplicit false
namespace DL
open PySem L2 PySem.SeqAt
section
variable {A : Around} {s : Shared}
end
def bulky : D -> Bool
  | .lst _ => true
  | .tup _ => true
  | .dK _ _ => true
  | _ => false
@[simp] def bInX (neg : Bool) : DB2 := fun d e _ M Q _ => ∃ (d' : D) (n : Nat) (zs : List Str), Dv M d d' /\ plX n d' = true /\ bulky d' = true /\ vw M e = .lst (zs.map D.str) /\ Q (.bl neg) M
section
variable {cl : ClW} {X : Cx} {W : WX} {pins : List (Addr × Obj)} {σ : St} {H : Hp} {s : Shared}
end
end DL
set_option Elab.async false
set_option linter.all false
set_option maxRecDepth 100000
set_option autoImplicit false
namespace DL
open PySem L2
theorem opt_pair {α β γ : Type} {o : Option α} {f : α -> β} {g : α -> γ} {a : β} {b : γ} (h1 : o.map f = some a) (h2 : o.map g = some b) : ∃ s, o = some s /\ f s = a /\ g s = b := by
  cases o with
  | none => cases h1
  | some s => exact ⟨s, rfl, Option.some.inj h1, Option.some.inj h2⟩
end DL
set_option Elab.async false
set_option linter.all false
set_option maxRecDepth 100000
set_option maxHeartbeats 4000000
namespace DL
open PySem L2
section
variable {cl : ClW} {X : Cx} {W : WX} {e : Expr} {τ : DTE} {pos : Pos}
end
@[simp] def bEqE : DB2 := fun d e _ M Q _ => ∃ xs ys, vw M d = .lst xs /\ vw M e = .lst ys /\ (xs = [] \/ ys = []) /\ Q (.bl (xs.isEmpty && ys.isEmpty)) M
@[simp] def bNeE : DB2 := fun d e _ M Q _ => ∃ xs ys, vw M d = .lst xs /\ vw M e = .lst ys /\ (xs = [] \/ ys = []) /\ Q (.bl (!(xs.isEmpty && ys.isEmpty))) M
section
open PySem.SeqAt
variable {cl : ClW} {X : Cx} {W : WX}
end
end DL
set_option Elab.async false
set_option linter.all false
set_option maxRecDepth 100000
set_option maxHeartbeats 4000000
namespace DL
open PySem L2
end DL
set_option Elab.async false
set_option linter.all false
set_option maxRecDepth 100000
set_option maxHeartbeats 4000000
namespace DL
open PySem L2
mutual
def toPyX : D -> Option PyData
  | .non => some .none
  | .bl b => some (.bool b)
  | .int i => some (.int i)
  | .str x => some (.str x)
  | .lst xs => (toPyXs xs).map .list
  | .tup xs => (toPyXs xs).map .tuple
  | .dK [] [] => some (.dict [])
  | _ => none
def toPyXs : List D -> Option (List PyData)
  | [] => some []
  | d :: ds => (toPyX d).bind fun p => (toPyXs ds).map fun ps => p :: ps
end
def SmOk (K : PySem.W.Frag) : Prop := ∃ o, K.lookup sysModules = some o /\ o.cls = .type "dict"
def smB (K : PySem.W.Frag) : Bool := match K.lookup sysModules with
  | some o => o.cls == .type "dict"
  | none => false
theorem smB_ok {K : PySem.W.Frag} (h : smB K = true) : SmOk K := by
  unfold smB at h
  split at h
  · exact ⟨_, by assumption, beq_iff_eq.mp h⟩
  · cases h
section
variable {X : Cx} {cl : ClW} {pins : List (Addr × Obj)} {σ : St} {H : Hp} {s : Shared}
theorem sm_ne (I : Inv X pins σ H s) (sm : SmOk X.K) {a : Addr} {o : Obj} (h : s.heap.get? a = some o) (hc : o.cls = .type "list") : sysModules ≠ a := fun e => by
  obtain ⟨o', h1, h2⟩ := sm
  have := I.kIn _ _ h1
  rw [e, h] at this
  have e2 := Option.some.inj this
  rw [<- e2, hc] at h2
  exact absurd h2 (by decide)
mutual
theorem reads_of (I : Inv X pins σ H s) (sm : SmOk X.K) : ∀ {x : V} {d : D}, Rep X.K cl H x d -> ∀ {u : Value} {p : PyData}, RelV x u -> toPyX d = some p -> ∃ as, Reads s.heap u p as /\ sysModules ∉ as
  | _, _, .non, u, p, r, e => by cases (show u = Value.none from r); cases e; exact ⟨[], .none, by simp⟩
  | _, _, .bl b, u, p, r, e => by cases (show u = Value.bool b from r); cases e; exact ⟨[], .bool b, by simp⟩
  | _, _, .int i, u, p, r, e => by obtain ⟨t, rfl⟩ := r; cases e; exact ⟨[], .int i t, by simp⟩
  | _, _, .str z, u, p, r, e => by obtain ⟨t, rfl⟩ := r; cases e; exact ⟨[], .str z t, by simp⟩
  | _, _, .lst h1 h2, u, p, r, e => by
    cases (show u = Value.ref _ from r)
    obtain ⟨us, r1, p1, _⟩ := I.list h1
    obtain ⟨o, ho, hc, n, hd⟩ := p1.isList
    simp only [toPyX] at e
    obtain ⟨ps, e1, rfl⟩ := Option.map_eq_some_iff.mp e
    obtain ⟨as, q1, q2⟩ := readss_of I sm h2 r1 e1
    refine ⟨_, .list ho hc hd q1, ?_⟩
    intro z
    rcases List.mem_cons.mp z with z | z
    · exact sm_ne I sm ho hc z
    · exact q2 z
  | _, _, .tup h1 h2, u, p, r, e => by
    cases (show u = Value.ref _ from r)
    obtain ⟨us, r1, p1, _⟩ := I.tuple h1.sq
    obtain ⟨o, ho, hc, n, hd⟩ := p1
    simp only [toPyX] at e
    obtain ⟨ps, e1, rfl⟩ := Option.map_eq_some_iff.mp e
    obtain ⟨as, q1, q2⟩ := readss_of I sm h2 r1 e1
    exact ⟨_, .tuple ho hc hd q1, q2⟩
  | _, _, .dK (a := a) (ks := ks) (ds := ds) h1 h2 h3, u, p, r, e => by
    cases (show u = Value.ref _ from r)
    obtain ⟨_, y, us, r1, dd⟩ := (show ObjOk X.prog X.w H s.heap _ (.dK _) from I.hok _ _ h1)
    cases ks with
    | cons k ks => simp [toPyX] at e
    | nil =>
      cases ds with
      | cons d ds => simp [toPyX] at e
      | nil =>
        cases e
        have hu : us = [] := by
          have := KV.length r1
          simp at this
          exact List.eq_nil_of_length_eq_zero this.symm
        subst hu
        obtain ⟨o, es, ep, ho, hx, hd, _, hp, _⟩ := dd
        have he : es.toList = [] := List.eq_nil_of_length_eq_zero (by rw [hp.length]; rfl)
        refine ⟨a :: [] ++ [], .dict ho hx.1 hd (kvs := []) (by rw [he]; exact .nil) (by rw [he]; exact .nil), ?_⟩
        simp only [List.append_nil, List.mem_singleton]
        intro z
        rw [<- z] at y
        cases y
  | _, _, .byt b, u, p, r, e => by simp [toPyX] at e
  | _, _, .ty b, u, p, r, e => by simp [toPyX] at e
  | _, _, .ref b, u, p, r, e => by simp [toPyX] at e
  | _, _, .cls b, u, p, r, e => by simp [toPyX] at e
  | _, _, .dT _ _ _ _, u, p, r, e => by simp [toPyX] at e
  | _, _, .obj _ _ _, u, p, r, e => by simp [toPyX] at e
  | _, _, .exc _ _ _, u, p, r, e => by simp [toPyX] at e
  | _, _, .xob _ _ _, u, p, r, e => by simp [toPyX] at e
  | _, _, .thk _ _, u, p, r, e => by simp [toPyX] at e
  | _, _, .dN _ _ _, u, p, r, e => by simp [toPyX] at e
  | _, _, .fn _ _ _ _, u, p, r, e => by simp [toPyX] at e
  | _, _, .cel _ _ _ _, u, p, r, e => by simp [toPyX] at e
theorem readss_of (I : Inv X pins σ H s) (sm : SmOk X.K) : ∀ {xs : List V} {ds : List D}, Reps X.K cl H xs ds -> ∀ {us : List Value} {ps : List PyData}, Vals xs us -> toPyXs ds = some ps -> ∃ as, ReadsAll s.heap us ps as /\ sysModules ∉ as
  | _, _, .nil, us, ps, r, e => by cases r; cases e; exact ⟨[], .nil, by simp⟩
  | _, _, .cons h t, us, ps, r, e => by
    cases r with
    | cons r1 r2 =>
      simp only [toPyXs] at e
      obtain ⟨p, e1, e2⟩ := Option.bind_eq_some_iff.mp e
      obtain ⟨ps, e3, rfl⟩ := Option.map_eq_some_iff.mp e2
      obtain ⟨as, a1, a2⟩ := reads_of I sm h r1 e1
      obtain ⟨bs, b1, b2⟩ := readss_of I sm t r2 e3
      exact ⟨_, .cons a1 b1, fun z => (List.mem_append.mp z).elim a2 b2⟩
end
end
section
variable {K : PySem.W.Frag} {cl : ClW} {X : Cx}
end
end DL
set_option Elab.async false
set_option linter.all false
set_option maxRecDepth 100000
set_option maxHeartbeats 4000000
set_option autoImplicit false
namespace DL
open PySem L2 PyProof.Rows
structure KeyS (x : Str) (scope : Scope) : Prop where
  kind : scope.kind = .function
  co : scope.isCoroutine = false
  gen : scope.isGenerator = false
  own : scope.names.lookup x = some .local
  nc : ∀ y ∈ scope.names, y.2 ≠ .cell
  nf : ∀ y ∈ scope.names, y.2 ≠ .free
section
variable {P : Program} {w : World} {A : Around} {s : Shared}
end
theorem Good.extN {K : PySem.W.Frag} {cl : ClW} {F H H2 : Hp} {M : Mem} (g : Good K cl F H M) (e : LamX.ExtN H H2) (t : LamX.Tabs (tabsOf cl) H2) : Good K cl F H2 M :=
  ⟨fun a u h => e a u (g.sub a u h) fun ps z => g.noT a ps (by rw [h, z]), fun a d h => by
    obtain ⟨h1, h2⟩ := g.cell a d h
    obtain ⟨o, k1, k2, _⟩ := h2.plain
    refine ⟨h1, h2.mono (Same.refl F) fun u hu => e a u hu ?_⟩
    rw [k1] at hu
    rw [<- Option.some.inj hu]
    exact k2, t, g.noT⟩
section
variable {cl : ClW} {X : Cx} {W : WX} {e : Expr} {α : DTA} {p p1 p2 p3 pos lpos kpos : Pos} {k i j : Nat} {cc P : Addr} {x : Str} {params : Arguments} {scope : Scope}
end
end DL
set_option Elab.async false
set_option linter.all false
set_option maxRecDepth 100000
set_option maxHeartbeats 4000000
set_option autoImplicit false
namespace DL
open PySem L2
section
variable {K : PySem.W.Frag} {cl : ClW}
end
inductive DJ (cl : ClW) (X : Cx) (W : WX) : List Expr -> List DTE -> Prop where
  | nil : DJ cl X W [] []
  | cons {e : Expr} {τ : DTE} {es : List Expr} {ts : List DTE} (h : DE cl X W e τ) (r : DJ cl X W es ts) : DJ cl X W (e :: es) (τ :: ts)
section
variable {cl : ClW} {X : Cx} {W : WX} {e e1 e2 o : Expr} {es : List Expr} {ts : List DTE} {pos tpos : Pos} {τ τo τv : DTE} {f : Str} {cs : List Nat}
end
end DL
set_option Elab.async false
set_option linter.all false
set_option maxRecDepth 100000
set_option maxHeartbeats 4000000
set_option autoImplicit false
namespace DL
open PySem L2
section
variable {cl : ClW} {X : Cx} {W : WX} {j k c : Nat} {ps : List Str} {spd : SpD} {x : Str} {p sp_ pos : Pos} {e : Expr} {τ : DTE}
end
section
variable {K : PySem.W.Frag} {cl : ClW}
end
end DL
set_option Elab.async false
set_option linter.all false
set_option autoImplicit false
set_option maxRecDepth 100000
set_option maxHeartbeats 2000000
namespace DL
open PySem L2 PySem.W PySem.Spec
structure TabsAt (K : Frag) (h : Heap) (cs : List (Addr × Addr)) : Prop where
  at_ : ∀ p ∈ cs, h.get? p.2 = some { cls := .none, data := .fields #[] }
  off : ∀ p ∈ cs, K.lookup p.2 = none
  code : ∀ p ∈ cs, CodeHd h p.1 p.2
theorem law_endT {cl : ClW} {P : Program} {w : World} {K : Frag} {mg mb : Str -> Option Value} {k : Nat} {fa a : Addr} {x : Str} {spd : SpD} {s0 : Shared} {vs : List Value} {ns : List Int} {cs : List (Addr × Addr)} {F0 : Hp}
    (KX : K.In s0.heap) (hns : s0.heap.Ns mainGlobals mg) (hb : s0.heap.Ns builtinsNs mb) (hbb : ∀ x : Str, x ≠ "__name__" -> mb x = bootBuiltins x) (hlim : s0.heap.NoLimit) (hg : s0.gens = #[]) (T : TabsAt K s0.heap cs)
    (hbm : ∃ (bm : Addr) (ob : Obj), mg "__builtins__" = some (.ref bm) /\ bm ≠ builtinsNs /\ s0.heap.get? bm = some ob /\ ob.cls = .type "module" /\ ob.dict = some builtinsNs /\ ob.data = .plain)
    (ha : s0.heap.get? a = some { cls := .type "list", data := .seq vs.toArray }) (hr : RoomG k callerA)
    (F : ∀ base : Heap, K.In base -> base.Ns mainGlobals mg -> (∀ p ∈ cs, LamX.TabB base mg p.1 p.2) -> ∃ fd, Binds K fd [x] [] /\ FnG cl P w K mg base k fa fd [x] spd)
    (hF : ∀ b, F0 b = none \/ ∃ o xs, F0 b = some (.frz o (.lst xs))) (hS : SqL K F0 a (ns.map V.int)) (hFa : ∀ b, F0 b ≠ none -> b = a) (hok : HOk P w (fun b => if b ∈ cs.map (·.2) then some (.tbl #[]) else F0 b) s0.heap) (hK : F0 a ≠ none -> K.lookup a = none)
    (hT : ∀ q ∈ tabsOf cl, q.1 ∈ cs.map (·.2)) (hsp : ∀ (M : Mem) (Qd : DV) (Ed : DEK), (∀ M', Qd (.bl true) M') -> spd [.lst (ns.map D.int)] M Qd Ed) :
    codeAny (model P w) callerA (.call (.ref fa) ⟨[.ref a], []⟩) (fun r s' => r = .ok (.ret (.bool true)) /\ OldK s0.heap s'.heap /\ s'.os = s0.os /\ PyProof.Rows.AllBare s'.gens) s0 := by
  have isT : ∀ b ∈ cs.map (·.2), s0.heap.get? b = some { cls := .none, data := .fields #[] } := fun b hbm => by
    obtain ⟨p, hp, rfl⟩ := List.mem_map.mp hbm
    exact T.at_ p hp
  have aT : a ∉ cs.map (·.2) := fun z => by
    have e := isT a z
    rw [ha] at e
    cases congrArg Obj.data (Option.some.inj e)
  generalize hH : (fun b => if b ∈ cs.map (·.2) then some (.tbl #[]) else F0 b : Hp) = H at hok
  have Ht : ∀ {b}, b ∈ cs.map (·.2) -> H b = some (.tbl #[]) := fun h => by rw [<- hH]; exact if_pos h
  have Hn : ∀ {b}, b ∉ cs.map (·.2) -> H b = F0 b := fun h => by rw [<- hH]; exact if_neg h
  have dom : ∀ {b}, H b ≠ none -> b = a \/ b ∈ cs.map (·.2) := fun {b} h => by
    by_cases hm : b ∈ cs.map (·.2)
    · exact .inr hm
    · rw [Hn hm] at h
      exact .inl (hFa b h)
  -- what is neither a list nor an empty table is not tracked
  have free : ∀ {b : Addr} {o : Obj}, s0.heap.get? b = some o -> (∀ xs n, o.data ≠ .seq xs n) -> o.data ≠ .fields #[] -> H b = none := fun {b o} e h1 h2 => by
    cases q : H b with
    | none => rfl
    | some u =>
      rcases dom (b := b) (by rw [q]; exact nofun) with z | z
      · subst z
        rw [ha] at e
        cases e
        exact (h1 _ _ rfl).elim
      · rw [isT b z] at e
        cases e
        exact (h2 rfl).elim
  have freeD : ∀ {b : Addr} {o : Obj} {es ep}, s0.heap.get? b = some o -> o.data = Data.dict es ep -> H b = none := fun e d =>
    free e (fun _ _ z => by rw [d] at z; cases z) (fun z => by rw [d] at z; cases z)
  have ns2 : ∀ {b m}, s0.heap.Ns b m -> (hidT s0.heap H).Ns b m := by
    rintro b m ⟨o, es, ep, e1, e2, r⟩
    exact ⟨o, es, ep, hidT_get e1 (freeD e1 e2), e2, r⟩
  have kin : K.In (hidT s0.heap H) := fun b o e => hidT_get (KX b o e) (by
    cases q : H b with
    | none => rfl
    | some u =>
      rcases dom (b := b) (by rw [q]; exact nofun) with z | z
      · subst z
        rw [Hn aT] at q
        rw [hK (by rw [q]; exact nofun)] at e
        cases e
      · obtain ⟨p, hp, rfl⟩ := List.mem_map.mp z
        rw [T.off p hp] at e
        cases e)
  have TB : ∀ p ∈ cs, LamX.TabB (hidT s0.heap H) mg p.1 p.2 := fun p hp => by
    have hTp := T.at_ p hp
    refine ⟨?_, ?_, fun z => ?_⟩
    · obtain ⟨o, us, file, tf, flags, tg, inF, text, tt, e1, r1, r2, r3, rest⟩ := T.code p hp
      exact ⟨o, us, file, tf, flags, tg, inF, text, tt, hidT_get e1 (free e1 (fun _ _ z => by rw [r2] at z; cases z) fun z => by rw [r2] at z; cases z; simp at r3), r1, r2, r3, rest⟩
    · obtain ⟨bm, ob, b1, b2, b3, b4, b5, b6⟩ := hbm
      have nG : bm ≠ mainGlobals := fun q => by
        obtain ⟨o, es, ep, e, hd, _⟩ := hns
        rw [q, e] at b3
        cases b3
        rw [hd] at b6
        cases b6
      have nP : bm ≠ p.2 := fun q => by
        rw [q, hTp] at b3
        cases b3
        cases b6
      exact ⟨bm, ob, b1, b2, nG, nP, hidT_get b3 (free b3 (fun _ _ z => by rw [b6] at z; cases z) fun z => by rw [b6] at z; cases z), b4, b5, b6⟩
    · obtain ⟨o, es, ep, e, hd, _⟩ := hns
      rw [z, hTp] at e
      cases e
      cases hd
  obtain ⟨mc, l1, l2⟩ := hlim
  have md : Mod K mg (hidT s0.heap H) := ⟨kin, ns2 hns, ⟨mb, ns2 hb, hbb⟩, mc, ns2 l1, l2⟩
  have env : Env0 P w K mg (hidT s0.heap H) callerA [] s0 H := ⟨rfl, md, fun _ _ e => of_hidT e, Nat.le_of_eq (hidT_size _ _), trivial, fun b z => (by cases z), hok, .of_eq hg⟩
  have noTbl : ∀ b ps, F0 b ≠ some (.tbl ps) := fun b ps z => by
    rcases hF b with e | ⟨o, xs, e⟩ <;> rw [e] at z <;> cases z
  have offT : ∀ {b u}, F0 b = some u -> b ∉ cs.map (·.2) := fun {b u} e z => by
    have := hFa b (by rw [e]; exact nofun)
    subst this
    exact aT z
  have good : Good K cl F0 H (fun _ => none) := ⟨fun b o e => by rw [Hn (offT e)]; exact e, (fun _ _ e => by cases e), fun q hq => LamX.TabS.nil (Ht (hT q hq)), noTbl⟩
  have low : lower K cl spd [.ref a] H (fun v _ => v = .bl true) (fun _ _ _ => False) :=
    ⟨F0, fun _ => none, [.lst (ns.map D.int)], fun d _ => d = .bl true, fun _ _ _ _ => False, good, .one (.lst hS (.of_ints ns)), hsp _ _ _ fun _ => rfl, fun v _ _ d _ _ _ r e => by subst e; exact r.toBl, fun _ _ _ _ _ _ _ _ _ _ z => z⟩
  obtain ⟨fd, hbd, G⟩ := F _ kin (ns2 hns) TB
  refine codeAny_mono (G.run callerA [] s0 H _ [.ref a] [.ref a] _ _ hr env (hbd s0 [.ref a] KX rfl) (.cons rfl .nil) low) fun r s' h => ?_
  cases r with
  | error e =>
    obtain ⟨_, _, _, _, _, _, _, _, _, _, _, _, z⟩ := (show L2.CX P w [] H s0 (fun _ _ _ => False) e s' from h)
    exact z.elim
  | ok fl =>
    cases fl with
    | ret u =>
      obtain ⟨v, H', os, bare, un, hok', rv, q⟩ := (show CE [] P w H s0 (fun v _ => v = .bl true) u s' from h)
      subst q
      cases rv
      have same : ∀ b o, b ∉ cs.map (·.2) -> s0.heap.get? b = some o -> s'.heap.get? b = some o := fun b o nb e => by
        rcases hF b with z | ⟨ob, xs, z⟩
        · exact un.keep b o e (by rw [Hn nb]; exact z) (fun y => by cases y) (fun y => by cases y)
        · rw [<- Hn nb] at z
          have h1 := (hok b _ z).1
          have h2 := (hok' b _ (un.frzs b ob _ z)).1
          rw [e] at h1
          cases h1
          exact h2
      have grown : ∀ p ∈ cs, ∃ more : Array Value, s'.heap.get? p.2 = some { cls := .none, data := .fields more } := fun p hp => by
        obtain ⟨more, z⟩ := un.tbls p.2 #[] (Ht (List.mem_map_of_mem hp))
        exact ⟨_, hok' p.2 _ z⟩
      refine ⟨rfl, ⟨fun b o e => ?_, fun b o e => ?_⟩, os, bare⟩
      · by_cases hm : b ∈ cs.map (·.2)
        · obtain ⟨p, hp, rfl⟩ := List.mem_map.mp hm
          obtain ⟨more, hmo⟩ := grown p hp
          rw [T.at_ p hp] at e
          cases e
          exact .inr (.inl ⟨((T.code p hp).tab (T.at_ p hp)).isCodeTable, rfl, #[], more, rfl, by rw [Array.empty_append]; exact hmo⟩)
        · exact .inl (same b o hm e)
      · by_cases hm : b ∈ cs.map (·.2)
        · obtain ⟨p, hp, rfl⟩ := List.mem_map.mp hm
          obtain ⟨more, hmo⟩ := grown p hp
          exact ⟨_, hmo⟩
        · exact ⟨o, same b o hm e⟩
    | next => exact False.elim h
    | brk => exact False.elim h
    | cont => exact False.elim h
theorem law_callDT {cl : ClW} {P : Program} {w : World} {K : Frag} {mg mb : Str -> Option Value} {k : Nat} {fa a : Addr} {x : Str} {spd : SpD} {s0 : Shared} {vs : List Value} {ns : List Int} {cs : List (Addr × Addr)}
    (KX : K.In s0.heap) (hns : s0.heap.Ns mainGlobals mg) (hb : s0.heap.Ns builtinsNs mb) (hbb : ∀ x : Str, x ≠ "__name__" -> mb x = bootBuiltins x) (hlim : s0.heap.NoLimit) (hg : s0.gens = #[]) (T : TabsAt K s0.heap cs)
    (hbm : ∃ (bm : Addr) (ob : Obj), mg "__builtins__" = some (.ref bm) /\ bm ≠ builtinsNs /\ s0.heap.get? bm = some ob /\ ob.cls = .type "module" /\ ob.dict = some builtinsNs /\ ob.data = .plain)
    (ha : s0.heap.get? a = some { cls := .type "list", data := .seq vs.toArray }) (hi : PyProof.Rows.IntsAre vs ns) (hl : ns.length <= sizeLine) (hr : RoomG k callerA)
    (F : ∀ base : Heap, K.In base -> base.Ns mainGlobals mg -> (∀ p ∈ cs, LamX.TabB base mg p.1 p.2) -> ∃ fd, Binds K fd [x] [] /\ FnG cl P w K mg base k fa fd [x] spd)
    (hsp : ∀ (M : Mem) (Qd : DV) (Ed : DEK), (∀ M', Qd (.bl true) M') -> spd [.lst (ns.map D.int)] M Qd Ed) (hT : ∀ q ∈ tabsOf cl, q.1 ∈ cs.map (·.2)) :
    codeAny (model P w) callerA (.call (.ref fa) ⟨[.ref a], []⟩) (fun r s' => r = .ok (.ret (.bool true)) /\ OldK s0.heap s'.heap /\ s'.os = s0.os /\ PyProof.Rows.AllBare s'.gens) s0 := by
  have hv := vals_ints hi
  have hle : vs.length <= sizeLine := by rw [hi.length]; exact hl
  have tblOk : ∀ {b}, b ∈ cs.map (·.2) -> s0.heap.get? b = some { cls := .none, data := .fields #[] } := fun {b} h => by
    obtain ⟨p, hp, rfl⟩ := List.mem_map.mp h
    exact T.at_ p hp
  cases hk : K.lookup a with
  | some o =>
    have e := KX a o hk
    rw [ha] at e
    cases e
    refine law_endT (F0 := fun _ => none) KX hns hb hbb hlim hg T hbm ha hr F (fun _ => .inl rfl) (.inr ⟨_, vs.toArray, _, hk, rfl, rfl, rfl, by simpa using hle, by simpa using hv⟩) (fun _ z => (z rfl).elim) (fun b u z => ?_) (fun z => (z rfl).elim) hT hsp
    simp only at z
    by_cases h : b ∈ cs.map (·.2)
    · rw [if_pos h] at z
      cases z
      exact tblOk h
    · rw [if_neg h] at z
      cases z
  | none =>
    let o : Obj := { cls := .type "list", data := .seq vs.toArray }
    have at_ : upd (fun _ => none) a (.frz o (.lst (ns.map V.int))) a = some (.frz o (.lst (ns.map V.int))) := upd_same
    have off : ∀ {b}, b ≠ a -> upd (fun _ => none) a (.frz o (.lst (ns.map V.int))) b = none := fun h => upd_ne h
    refine law_endT (F0 := upd (fun _ => none) a (.frz o (.lst (ns.map V.int)))) KX hns hb hbb hlim hg T hbm ha hr F (fun b => ?_) (.inl (.inr ⟨o, at_⟩)) (fun b z => ?_) (fun b u z => ?_) (fun _ => hk) hT hsp
    · by_cases h : b = a
      · subst h; exact .inr ⟨_, _, at_⟩
      · exact .inl (off h)
    · by_cases h : b = a
      · exact h
      · exact (z (off h)).elim
    · simp only at z
      by_cases hm : b ∈ cs.map (·.2)
      · rw [if_pos hm] at z
        cases z
        exact tblOk hm
      · rw [if_neg hm] at z
        by_cases h : b = a
        · subst h
          rw [at_] at z
          cases z
          exact ⟨ha, by rw [List.length_map]; exact hl, vs, _, hv, ha⟩
        · rw [off h] at z
          cases z
theorem walk_DT {l : OpenLaw} {n k : Nat} {q : Program} {loose : List Str} {XP : (Str -> Option Value) -> Heap -> Prop} {YP : World -> Heap -> Prop} {d : DefRec} {x : Str}
    (hn : l.most = some n) (hn2 : n <= sizeLine) (hdf : d.params.defaults = []) (hr : RoomG k callerA)
    (F : ∀ (w : World) (mg : Str -> Option Value) (fa : Addr) (h : Heap), YP w h -> h.Ns mainGlobals mg -> mg d.name = some (.ref fa) ->
      ∃ (cl : ClW) (K : Frag) (spd : SpD) (cs : List (Addr × Addr)), (∀ q ∈ tabsOf cl, q.1 ∈ cs.map (·.2)) /\ K.In h /\ TabsAt K h cs /\
        (∀ (ns : List Int) (M : Mem) (Qd : DV) (Ed : DEK), ns.length <= n -> (∀ M', Qd (.bl true) M') -> spd [.lst (ns.map D.int)] M Qd Ed) /\
        ∀ base : Heap, K.In base -> base.Ns mainGlobals mg -> (∀ p ∈ cs, LamX.TabB base mg p.1 p.2) -> ∃ fd, Binds K fd [x] [] /\ FnG cl l.prog w K mg base k fa fd [x] spd) :
    WalkO q loose XP YP l.row.toRowW d [] (fun f vs => PySem.call f vs) := by
  refine Att.attach_callB hn hdf fun w s₀ s₁ mg mb fa o pm cd doc a vs ns G Y ho hd hcd hmg hobj hints hlen hbits hg => ?_
  obtain ⟨cl, K, spd, cs, hT, KX, T, hsp, hF⟩ := F w mg fa _ Y G.T.g hmg
  exact law_callDT KX G.T.g G.T.b G.T.builtins G.T.nolimit hg T G.T.bmain hobj hints (Nat.le_trans hlen hn2) hr hF (fun M Qd Ed h => hsp ns M Qd Ed hlen h) hT
end DL
set_option Elab.async false
set_option linter.all false
set_option maxRecDepth 100000
set_option maxHeartbeats 2000000
set_option autoImplicit false
namespace DL
open PySem L2
def codeF (K : PySem.W.Frag) (f : Addr) : Addr := match K.lookup f with
  | some o => match o.data with
    | .func fd => match fd.code with
      | .ref c => c
      | _ => 0
    | _ => 0
  | none => 0
def tabF (K : PySem.W.Frag) (c : Addr) : Addr := match K.lookup c with
  | some o => match o.data with
    | .fields vs => match vs[11]? with
      | some (Value.ref p) => p
      | _ => 0
    | _ => 0
  | none => 0
def tabD (K : PySem.W.Frag) (d : Str × Option Str) : Addr := tabF K (codeF K (He.fAd K d))
def cutTab (K : PySem.W.Frag) (ds : List (Str × Option Str)) : PySem.W.Frag := K.filter fun p => !(ds.map (tabD K)).contains p.1
def emptyT (o : Obj) : Bool := match o with
  | ⟨.none, none, .fields vs, sl⟩ => vs.isEmpty && sl.isEmpty
  | _ => false
def tabOk (K0 : PySem.W.Frag) (K : PySem.W.Frag) (d : Str × Option Str) : Bool :=
  PySem.W.codeHdIn K (codeF K (He.fAd K d)) (tabD K d) && ((match K0.lookup (tabD K d) with | some o => emptyT o | none => false) && ((K.lookup (tabD K d)).isNone && (!(mainGlobals == tabD K d) && (!(tabD K d == 0) &&
    match K.lookup (He.fAd K d) with
    | some o => (match o.data with | .func fd => (match fd.code with | .ref _ => true | _ => false) | _ => false)
    | none => false))))
def obsT (n : Nat) (ts : List (Str × Option Str)) (fa : List He.Fa) (fn : List He.DefD) (ex : PySem.W.Frag -> Bool) (g : Addr -> Option Obj) : He.AlD × (Bool × Bool) :=
  (He.obsD fa fn (cutTab (He.frG g (List.range n)) ts), ex (cutTab (He.frG g (List.range n)) ts), ts.all (tabOk (He.frG g (List.range n)) (cutTab (He.frG g (List.range n)) ts)))
def hookT (n : Nat) (ts : List (Str × Option Str)) (fa : List He.Fa) (fn : List He.DefD) (ex : PySem.W.Frag -> Bool) : PySem.W.Hook where
  α := He.AlD × (Bool × Bool)
  obs := fun s => obsT n ts fa fn ex s.heap.get?
  val := fun _ => (He.valD fn, true, true)
  says := fun _ h => ∃ K0 : PySem.W.Frag, K0.In h /\ He.SaysD fa fn (cutTab K0 ts) /\ ex (cutTab K0 ts) = true /\ ts.all (tabOk K0 (cutTab K0 ts)) = true
  of := fun _ _ e => ⟨_, He.frG_in, congrArg Prod.fst e, congrArg (fun z => z.2.1) e, congrArg (fun z => z.2.2) e⟩
  keeps := fun _ _ _ ⟨K0, hK, c⟩ k => ⟨K0, PySem.W.Frag.In.keeps hK k, c⟩
theorem obsT_eq {n : Nat} {ts : List (Str × Option Str)} {fa : List He.Fa} {fn : List He.DefD} {ex : PySem.W.Frag -> Bool} {g : Addr -> Option Obj} {s : Shared} (h : ∀ a, g a = s.heap.get? a) : obsT n ts fa fn ex g = (hookT n ts fa fn ex).obs s := by
  have e : g = s.heap.get? := funext h
  rw [e] <;> rfl
theorem lookup_filter {K : PySem.W.Frag} {q : Addr × Obj -> Bool} {b : Addr} {o : Obj} (hq : ∀ o o' : Obj, q (b, o) = q (b, o')) (h : (K.filter q).lookup b = some o) : K.lookup b = some o := by
  induction K with
  | nil => cases h
  | cons p r ih =>
    obtain ⟨c, u⟩ := p
    by_cases e : b = c
    · subst e
      by_cases hp : q (b, u) = true
      · rw [List.filter_cons_of_pos hp, List.lookup_cons_self] at h
        rw [List.lookup_cons_self]
        exact h
      · rw [List.filter_cons_of_neg hp] at h
        have : ∀ r : PySem.W.Frag, (r.filter q).lookup b = none := fun r => by
          induction r with
          | nil => rfl
          | cons p2 r2 ih2 =>
            obtain ⟨c2, u2⟩ := p2
            by_cases hp2 : q (c2, u2) = true
            · rw [List.filter_cons_of_pos hp2]
              by_cases e2 : b = c2
              · subst e2
                rw [hq u u2] at hp
                exact absurd hp2 hp
              · rw [List.lookup_cons, show (b == c2) = false by simpa using e2]
                exact ih2
            · rw [List.filter_cons_of_neg hp2]
              exact ih2
        rw [this r] at h
        cases h
    · rw [List.lookup_cons, show (b == c) = false by simpa using e]
      by_cases hp : q (c, u) = true
      · rw [List.filter_cons_of_pos hp, List.lookup_cons, show (b == c) = false by simpa using e] at h
        exact ih h
      · rw [List.filter_cons_of_neg hp] at h
        exact ih h
theorem cut_in {K : PySem.W.Frag} {ts : List (Str × Option Str)} {h : Heap} (k : K.In h) : (cutTab K ts).In h := fun b o e => k b o (lookup_filter (fun _ _ => rfl) e)
theorem emptyT_eq {o : Obj} (h : emptyT o = true) : o = { cls := .none, data := .fields #[] } := by
  obtain ⟨c, d, t, sl⟩ := o
  unfold emptyT at h
  split at h
  · rename_i vs sl' e
    cases e
    simp only [Bool.and_eq_true, Array.isEmpty_iff] at h
    obtain ⟨h1, h2⟩ := h
    subst h1 h2
    rfl
  · cases h
structure TabK (h : Heap) (K : PySem.W.Frag) (d : Str × Option Str) : Prop where
  hd : PySem.W.codeHdIn K (codeF K (He.fAd K d)) (tabD K d) = true
  at_ : h.get? (tabD K d) = some { cls := .none, data := .fields #[] }
  off : K.lookup (tabD K d) = none
  gl : mainGlobals ≠ tabD K d
  nz : tabD K d ≠ 0
  code : ∀ fd o, K.lookup (He.fAd K d) = some o -> o.data = .func fd -> fd.code = .ref (codeF K (He.fAd K d))
theorem tabK_of {h : Heap} {K0 K : PySem.W.Frag} {d : Str × Option Str} (k : K0.In h) (e : tabOk K0 K d = true) : TabK h K d := by
  unfold tabOk at e
  simp only [Bool.and_eq_true] at e
  obtain ⟨e1, e2, e3, e4, e6, e5⟩ := e
  refine ⟨e1, ?_, by simpa using e3, fun z => by rw [z] at e4; simp at e4, fun z => by rw [z] at e6; simp at e6, fun fd o h1 h2 => ?_⟩
  · cases q : K0.lookup (tabD K d) with
    | none => rw [q] at e2; cases e2
    | some o =>
      rw [q] at e2
      have := k _ _ q
      rw [emptyT_eq e2] at this
      exact this
  · rw [h1] at e5
    simp only [h2] at e5
    cases hc : fd.code with
    | ref c =>
      have : codeF K (He.fAd K d) = c := by unfold codeF; rw [h1]; simp only [h2, hc]
      rw [this]
    | _ => rw [hc] at e5; cases e5
def csOf (K : PySem.W.Frag) (ts : List (Str × Option Str)) : List (Addr × Addr) := ts.map fun d => (codeF K (He.fAd K d), tabD K d)
theorem tabs_at {h : Heap} {K : PySem.W.Frag} {ts : List (Str × Option Str)} (X : K.In h) (t : ∀ d ∈ ts, TabK h K d) : TabsAt K h (csOf K ts) := by
  refine ⟨fun p hp => ?_, fun p hp => ?_, fun p hp => ?_⟩ <;> obtain ⟨d, hd, rfl⟩ := List.mem_map.mp hp
  · exact (t d hd).at_
  · exact (t d hd).off
  · exact PySem.W.codeHd_of_K X (t d hd).hd
open PySem.W PySem.Calls PyProof.Rows HandSHeadRun in
theorem runT_of {r : OpenRow} {q : Program} {n : Nat} {ts : List (Str × Option Str)} {fa : List He.Fa} {fn : List He.DefD} {ex : PySem.W.Frag -> Bool} {M : Nat} {loose : List PySem.Str} {w : World}
    (h1 : ∀ os, (HandSHeadRun.endF (stepQ (denQ tabQ) r.prog w) M r.prog w os).map (fun s => (looksF r.prog (boot_heap w.params) s.abs, seenQ q loose (importedModules r.prog.main.body) (fun s => xlAt q [] s && recOk r.toRowW.records s) s.abs)) = some (true, openGood q loose))
    (h2 : ∀ os, (HandSHeadRun.endF (stepQ (denQ tabQ) r.prog w) M r.prog w os).map (fun s => fa.all fun f => f.ok (cutTab (He.frG (getT s) (List.range n)) ts)) = some true)
    (h3 : ∀ os, (HandSHeadRun.endF (stepQ (denQ tabQ) r.prog w) M r.prog w os).map (fun s => (fn.all fun d => d.ok (cutTab (He.frG (getT s) (List.range n)) ts), fn.map fun d => He.fnW (cutTab (He.frG (getT s) (List.range n)) ts) d.at_)) = some (true, fn.map He.DefD.val))
    (h4 : ∀ os, (HandSHeadRun.endF (stepQ (denQ tabQ) r.prog w) M r.prog w os).map (fun s => (ex (cutTab (He.frG (getT s) (List.range n)) ts), ts.all (tabOk (He.frG (getT s) (List.range n)) (cutTab (He.frG (getT s) (List.range n)) ts)))) = some (true, true)) :
    RunEq r q (hookT n ts fa fn ex) (fun s => obsT n ts fa fn ex (getT s)) M loose w := by
  intro os
  obtain ⟨s, e, a1, a2⟩ := opt_pair (h1 os) (h2 os)
  have b3 := h3 os
  have b4 := h4 os
  rw [e] at b3 b4 ⊢
  have b3 := Option.some.inj b3
  have b4 := Option.some.inj b4
  have c1 := congrArg Prod.fst a1
  have c2 := congrArg Prod.snd a1
  have d1 := congrArg Prod.fst b3
  have d2 := congrArg Prod.snd b3
  have f1 := congrArg Prod.fst b4
  have f2 := congrArg Prod.snd b4
  simp only at c1 c2 d1 d2 f1 f2 a2
  show some (looksF r.prog (boot_heap w.params) s.abs, seenQ q loose (importedModules r.prog.main.body) (fun s => xlAt q [] s && recOk r.toRowW.records s) s.abs, ((((fa.all fun f => f.ok (cutTab (He.frG (getT s) (List.range n)) ts)) && fn.all fun d => d.ok (cutTab (He.frG (getT s) (List.range n)) ts)), fn.map fun d => He.fnW (cutTab (He.frG (getT s) (List.range n)) ts) d.at_), (ex (cutTab (He.frG (getT s) (List.range n)) ts), ts.all (tabOk (He.frG (getT s) (List.range n)) (cutTab (He.frG (getT s) (List.range n)) ts))))) = _
  rw [c1, c2, a2, d1, d2, f1, f2]
  rfl
theorem fnD_code {K : PySem.W.Frag} {h : Heap} {d : Str × Option Str} {x qual : Str} {params : Arguments} {body : List Stmt} {scope : Scope} {dvs : List V} {kws : List (Str × V)} {fd : FuncData} (T : TabK h K d) (F : FunD K x qual params body scope dvs kws (He.fAd K d) fd) : fd.code = .ref (codeF K (He.fAd K d)) := by
  obtain ⟨oc, od, dV, kV, doc, pm, an, cdv, ct, osl, rfl, lk, _⟩ := F.ex
  exact T.code _ _ lk rfl
end DL
set_option Elab.async false
set_option linter.all false
set_option maxRecDepth 100000
set_option maxHeartbeats 2000000
set_option autoImplicit false
namespace DL
open PySem L2
theorem fn_dC {cl : ClW} {P : Program} {w : World} {K : PySem.W.Frag} {mg : Str -> Option Value} {base : Heap} {k : Nat} {f : Addr} {x qual : Str} {params : Arguments} {body : List Stmt} {scope : Scope} {dvs : List V} {kws : List (Str × V)} {fd : FuncData} {N ps : List Str} {spd : SpD}
    (F : FunD K x qual params body scope dvs kws f fd) (S : FnScope N ps scope) (t : DTS)
    (hbody : ∀ (cdv : Value), fd.code = cdv -> ∀ (A : Around) (outer : List PySem.Env) (s : Shared) (H : Hp) (E : XK), Cap (cxOf (L2.CX P w) P w K mg base N qual scope f cdv A outer s H E) (fun cls d _ H => E cls d H) k ->
      DSs cl (cxOf (L2.CX P w) P w K mg base N qual scope f cdv A outer s H E) (fun cls d _ H => E cls d H) body t)
    (hsp : ∀ ds M Q E, spd ds M Q E -> ds.length = ps.length /\ t (dEnds Q E) (startD N ds) M) : FnG cl P w K mg base (k + 1) f fd ps spd := by
  refine ⟨fun ds M Q E h => (hsp ds M Q E h).1, fun A outer s H args us vs Q E hr e0 hb r hl => ?_⟩
  obtain ⟨oc, od, dV, kV, doc, pm, an, cdv, ct, osl, rfl, lk, hcd, _, _⟩ := F.ex
  have lenV : ∀ vs H Q E, lower K cl spd vs H Q E -> vs.length = ps.length := fun vs H Q E ⟨_, M, ds, Qd, Ed, _, r, q, _⟩ => by
    rw [r.length]
    exact (hsp ds M Qd Ed q).1
  have hr' := hr.deeper (PyProof.Rows.envOfC qual scope s.heap.objs.size f cdv)
  have KX : K.In s.heap := e0.mod.kin.keeps fun b o e => (e0.bs b o e).1
  have lim : s.heap.NoLimit := e0.mod.nolimit.keeps fun b o e => (e0.bs b o e).1
  have hkind : ∀ y ∈ ps.zip us, scope.names.lookup y.1 = some .local \/ (scope.names.lookup y.1 = some .cell /\ ((cellsFrom (s.heap.objs.size + 1) scope.names []).lookup y.1).isSome = true) := fun ⟨n, v⟩ hy => by
    rcases S.par n (List.of_mem_zip hy).1 with q | q
    · exact .inl q
    · exact .inr ⟨q, PySem.W.cellsFrom_some _ _ _ (.inl q)⟩
  refine codeAny_call_function hr.room.depth (KX _ _ lk) rfl S.co S.gen rfl (PySem.W.codeRec_of KX hcd) (hb _ _ _ _ ?_)
  refine wpAny_newFunctionEnv_cells S.kind hkind fun env he s1 x => ?_
  subst he
  refine ⟨lim.keeps x.toInCall.keep, codeAny_func ?_⟩
  have ht := hbody cdv rfl A outer s H E ⟨takes_of rfl rfl rfl rfl, hr', passes_of rfl, rfl⟩
  have I : Inv (cxOf (L2.CX P w) P w K mg base N qual scope f cdv A outer s H E) [] (L2.start N vs) H s1 := inv_start S hr.room.hd e0 (lenV _ _ _ _ hl) r x
  obtain ⟨F0, M0, ds0, Qd, Ed, g0, r0, q0, p0, ep0⟩ := hl
  have hq : lowS K cl (fun cls d _ H => E cls d H) t { nx := fun _ H' => Q .non H', rt := Q } (L2.start N vs) H :=
    ⟨F0, startD N ds0, M0, dEnds Qd Ed, g0, slots_start N r0, (hsp ds0 M0 Qd Ed q0).2,
      ⟨fun σ' H' F' ρ' M' sm g' s' q' => p0 _ _ _ _ _ sm g' .non q', p0, fun _ _ _ _ _ _ _ _ q' => q', fun _ _ _ _ _ _ _ _ q' => q', fun c ns ds σ' H' F' ρ' M' dd sm g' s' ea q' => ep0 _ _ _ _ _ _ _ sm g' ea q'⟩⟩
  refine wpAny_mono (ht.pss.run [] s1 (L2.start N vs) H _ I hq) (fun fl s' hs => ?_) fun e s' hs => hs
  have fin : ∀ {σ' : St} {H' : Hp} {v : V} {u : Value}, Inv (cxOf (L2.CX P w) P w K mg base N qual scope f cdv A outer s H E) [] σ' H' s' -> RelV v u -> Q v H' -> CE outer P w H s Q u s' :=
    fun {σ' H' v u} J rv q => ⟨v, H', J.os, J.bare, J.base, J.hok, rv, q⟩
  cases fl with
  | ret u =>
    obtain ⟨v, σ', H', J, rv, q⟩ := hs
    exact fin J rv q
  | next =>
    obtain ⟨σ', H', J, q⟩ := hs
    exact fin (v := V.non) (u := Value.none) J rfl q
  | brk =>
    obtain ⟨_, _, _, q⟩ := hs
    exact False.elim q
  | cont =>
    obtain ⟨_, _, _, q⟩ := hs
    exact False.elim q
section
variable {cl : ClW} {P : Program} {w : World} {K : PySem.W.Frag} {mg : Str -> Option Value} {base h : Heap} {k : Nat} {x qual : Str} {params : Arguments} {body : List Stmt} {scope : Scope} {N ps : List Str} {spd : SpD} {d : Str × Option Str} {t : DTS}
theorem fnC_ofT (T : TabK h K d) (F : ∃ fd, FunD K x qual params body scope [] [] (He.fAd K d) fd) (S : FnScope N ps scope)
    (hbody : ∀ (A : Around) (outer : List PySem.Env) (s : Shared) (H : Hp) (E : XK), Cap (cxOf (L2.CX P w) P w K mg base N qual scope (He.fAd K d) (.ref (codeF K (He.fAd K d))) A outer s H E) (fun cls d _ H => E cls d H) k ->
      DSs cl (cxOf (L2.CX P w) P w K mg base N qual scope (He.fAd K d) (.ref (codeF K (He.fAd K d))) A outer s H E) (fun cls d _ H => E cls d H) body t)
    (hsp : ∀ ds M Q E, spd ds M Q E -> ds.length = ps.length /\ t (dEnds Q E) (startD N ds) M) : FnC cl P w K mg base (k + 1) x qual params body scope (He.fAd K d) ps spd := by
  obtain ⟨fd, F⟩ := F
  refine ⟨fd, F, fn_dC F S t (fun cdv hc A outer s H E c => ?_) hsp⟩
  rw [fnD_code T F] at hc
  subst hc
  exact hbody A outer s H E c
end
end DL
set_option Elab.async false
set_option linter.all false
set_option maxRecDepth 100000
set_option maxHeartbeats 2000000
set_option autoImplicit false
namespace DL
open PySem L2
section
variable {X : Cx} {o e : Expr} {to ta : TE} {apos cpos : Pos}
end
section
variable {cl : ClW} {X : Cx} {W : WX} {o e : Expr} {τo τ : DTE} {apos cpos : Pos}
end
end DL
set_option Elab.async false
set_option linter.all false
set_option maxRecDepth 100000
set_option maxHeartbeats 4000000
set_option autoImplicit false
namespace DLB
open PySem PySem.W
theorem owner_bi : Manifest.owners.lookup (String.ofList ['r', 'o', 't', 'a', 'r', 'e', 't', 'i', '_', 's', 'e', 't', 'y', 'b'].reverse) = some Manifest.sig_bytes_iterator := by kernel_rfl
theorem slot_bi_next : Slot "bytes_iterator" "__next__" "bytes_iterator.__next__" :=
  .of (owner := "bytes_iterator") (n := "__next__") (by rw [typeLookup_type, builtinLookup_eq_fast]; kernel_rfl) (by decide +kernel) (by decide +kernel) (by decide +kernel)
    (by first | exact .inl (by decide +kernel) | exact .inr (by decide +kernel)) (by rw [isSubtype_type]; kernel_rfl)
theorem entry_bi_next : entryFor table "bytes_iterator.__next__" = some Builtin.«bytes_iterator.__next__» := entryFor_of_tree (by kernel_rfl)
theorem args_bi_next_1 (a : Value) : argsOk "bytes_iterator.__next__" ⟨[a], []⟩ := by
  unfold argsOk; rw [signature?_of (id := "bytes_iterator.__next__") (n := ['_', '_', 't', 'x', 'e', 'n', '_', '_']) (o := ['r', 'o', 't', 'a', 'r', 'e', 't', 'i', '_', 's', 'e', 't', 'y', 'b']) (by kernel_rfl) owner_bi]; kernel_rfl
def IsBi (h : Heap) (it : Addr) (b : Array UInt8) (t : Tok) (i : Nat) : Prop := ∃ o, h.get? it = some o /\ o.cls = .type "bytes_iterator" /\ o.data = .fields #[.bytes b t, .int i 0]
section
variable {prog : Program} {w : World} {A : Around} {E : Value -> Shared -> Prop} {s : Shared} {it : Addr} {b : Array UInt8} {t : Tok} {i : Nat}
theorem IsBi.typeIs (h : IsBi s.heap it b t i) : s.TypeIs (.ref it) "bytes_iterator" := by
  obtain ⟨o, ho, hc, _⟩ := h
  exact ⟨o, ho, hc⟩
theorem nextOf_bi_item {c : UInt8} {Q : Value -> Shared -> Prop} (hit : IsBi s.heap it b t i) (hx : b[i]? = some c)
    (hQ : ∀ h', IsBi h' it b t (i + 1) -> Heap.SameBut it s.heap h' -> Q (.int (c.toNat : Nat) s.toks) { s with heap := h', toks := s.toks + 1 }) :
    wpAny (model prog w) A (Builtin.SmallTypes.nextOf (.ref it)) Q E s := by
  obtain ⟨o, ho, hc, hd⟩ := id hit
  unfold Builtin.SmallTypes.nextOf
  refine wpAny_bind (wpAny_callSpecial?_slot (name := Str.ofString "__next__") hit.typeIs slot_bi_next
    (wpAny_call_entry slot_bi_next hit.typeIs entry_bi_next ?_ (args_bi_next_1 _)))
  show wpAny _ _ (field (.ref it) 0 >>= _) _ _ s
  refine wpAny_bind (wpAny_field ho hd (x := .bytes b t) rfl ?_)
  show wpAny _ _ (if (Value.bytes b t == Value.none) = true then _ else _) _ _ s
  rw [if_neg (show ¬ ((Value.bytes b t == Value.none) = true) from Bool.false_ne_true)]
  show wpAny _ _ (field (.ref it) 1 >>= _) _ _ s
  refine wpAny_bind (wpAny_field ho hd (x := .int i 0) rfl ?_)
  refine wpAny_bind (wpAny_of_eq (a := b) rfl ?_)
  simp only [Int.toNat_natCast, hx]
  refine wpAny_bind (wpAny_setField ho hd (by simp) (wpAny_bind (wpAny_mkInt (wpAny_pure ⟨_, rfl, wpAny_pure (hQ _ ?_ (Heap.SameBut.update ..))⟩))))
  exact ⟨_, Heap.get?_update_self _ ho (Obj.isFreed_of_fields (Obj.data_mapFields hd _)), (Obj.cls_mapFields ..).trans hc, by
    rw [Obj.data_mapFields hd]; simp [rawInt]⟩
theorem nextOf_bi_end {Q : Value -> Shared -> Prop} (hh : A.handled = none) (hit : IsBi s.heap it b t i) (hx : b[i]? = none)
    (hE : ∀ h' e, Heap.ExtBut it s.heap h' -> (∃ o, h'.get? e = some o /\ o.cls = .type "StopIteration") -> E (.ref e) { s with heap := h' }) :
    wpAny (model prog w) A (Builtin.SmallTypes.nextOf (.ref it)) Q E s := by
  obtain ⟨o, ho, hc, hd⟩ := id hit
  unfold Builtin.SmallTypes.nextOf
  refine wpAny_bind (wpAny_callSpecial?_slot (name := Str.ofString "__next__") hit.typeIs slot_bi_next
    (wpAny_call_entry slot_bi_next hit.typeIs entry_bi_next ?_ (args_bi_next_1 _)))
  show wpAny _ _ (field (.ref it) 0 >>= _) _ _ s
  refine wpAny_bind (wpAny_field ho hd (x := .bytes b t) rfl ?_)
  show wpAny _ _ (if (Value.bytes b t == Value.none) = true then _ else _) _ _ s
  rw [if_neg (show ¬ ((Value.bytes b t == Value.none) = true) from Bool.false_ne_true)]
  show wpAny _ _ (field (.ref it) 1 >>= _) _ _ s
  refine wpAny_bind (wpAny_field ho hd (x := .int i 0) rfl ?_)
  refine wpAny_bind (wpAny_of_eq (a := b) rfl ?_)
  simp only [Int.toNat_natCast, hx]
  refine wpAny_bind (wpAny_rule (wpAny_bind (wpAny_setField ho hd (by simp) ?_)))
  show wpAny _ _ (newExc (.type "StopIteration") [] >>= _) _ _ _
  refine wpAny_bind ?_
  simp only [newExc, newTuple]
  refine wpAny_bind (wpAny_newObj_type ?_ (by size_fits))
  refine wpAny_bind (m := firstArgMember _ _) (wpAny_of_eq (a := Value.none) (by first | rfl | (simp only [firstArgMember]; rfl)) ?_)
  refine wpAny_newObj_type ?_ (by size_fits)
  simp only [raiseNew]
  refine wpAny_bind (wpAny_handled ?_)
  first | rw [show A.in1.handled = none from hh] | rw [hh]
  refine wpAny_bind (wpAny_pure (wpAny_throw ?_))
  exact hE _ _ (((Heap.SameBut.update ..).extBut.push _).push _) ⟨_, Heap.get?_push_size _ rfl, rfl⟩
theorem pyIter_bytes {Q : Value -> Shared -> Prop} (hQ : Q (.ref s.heap.objs.size) { s with heap := s.heap.push { cls := .type "bytes_iterator", data := .fields #[.bytes b t, .int 0 0] } }) : wpAny (model prog w) A (pyIter (.bytes b t)) Q E s := by
  refine wpAny_pyIter_slot (typeIs_bytes s b t) FB.slot_bytes_iter (wpAny_call_entry FB.slot_bytes_iter (typeIs_bytes s b t) FB.entry_bytes_iter ?_ (FB.args_bytes_iter_1 _))
  show wpAny _ _ (do ret (<- newFields "bytes_iterator" [.bytes b t, rawInt 0])) _ _ s
  exact wpAny_bind (wpAny_newObj_type (wpAny_pure ⟨_, rfl, "bytes_iterator", _, ⟨_, Heap.get?_push_size _ rfl, rfl⟩, slot_bi_next.lookup, hQ⟩))
end
theorem draws_bytes {prog : Program} {w : World} {A : Around} (hh : A.handled = none) (it : Addr) (b : Array UInt8) (t : Tok) :
    Draws prog w A it [it] b.size (fun i v => ∃ c u, b[i]? = some c /\ v = .int (c.toNat : Nat) u) (fun i h => IsBi h it b t i) where
  live := fun _ _ st => let ⟨o, ho, _⟩ := st; ⟨o, ho⟩
  frame := fun _ _ _ st hk => let ⟨o, ho, r⟩ := st; ⟨o, hk it (by simp) o ho, r⟩
  item := fun i s Q E hi st hQ => by
    refine nextOf_bi_item st (c := b[i]) (by simp [hi]) fun h' hit' hs' => ?_
    exact hQ _ h' (s.toks + 1) ⟨_, _, by simp [hi], rfl⟩ hit' hs'
  done := fun s Q E st hE => nextOf_bi_end hh st (by simp) hE
theorem begins_bytes (b : Array UInt8) (t : Tok) : Begins (.bytes b t) { cls := .type "bytes_iterator", data := .fields #[.bytes b t, .int 0 0] } fun _ => True where
  iter := fun prog w A E s Q _ h => pyIter_bytes h
  keeps := fun _ _ _ _ => trivial
  free := rfl
end DLB
set_option Elab.async false
set_option linter.all false
set_option maxRecDepth 100000
set_option maxHeartbeats 4000000
set_option autoImplicit false
namespace DLC
open PySem PySem.W Builtin PyProof.Rows SeqAt
theorem slot_bytes_eq_refl : Slot "bytes" (cmpInfo .Eq).2.2 "bytes.__eq__" :=
  .of (owner := "bytes") (n := "__eq__") (by rw [typeLookup_type, builtinLookup_eq_fast]; kernel_rfl) (by decide +kernel) (by decide +kernel) (by decide +kernel)
    (by first | exact .inl (by decide +kernel) | exact .inr (by decide +kernel)) (by rw [isSubtype_type]; kernel_rfl)
theorem slot_bytes_ne_refl : Slot "bytes" (cmpInfo .NotEq).2.2 "bytes.__ne__" :=
  .of (owner := "bytes") (n := "__ne__") (by rw [typeLookup_type, builtinLookup_eq_fast]; kernel_rfl) (by decide +kernel) (by decide +kernel) (by decide +kernel)
    (by first | exact .inl (by decide +kernel) | exact .inr (by decide +kernel)) (by rw [isSubtype_type]; kernel_rfl)
theorem bytes_eq_none (b : Array UInt8) (t : Tok) : Gives («bytes.__eq__» ⟨[.bytes b t, .none], []⟩) (.val (Value.notImplemented)) := .of_wp fun M A E s Q hq => by
  show wpAny M A (isInstance .none (.type "bytes") >>= fun r => _) _ E s
  refine wpAny_bind (wpAny_isInstance (T := "NoneType") rfl F.sub_NoneType_bytes ?_)
  refine wpAny_bind (wpAny_isInstance (T := "NoneType") rfl F.sub_NoneType_bytes ?_)
  simp only [Bool.not_false, if_true]
  exact wpAny_bind (wpAny_rule (wpAny_pure ⟨_, rfl, hq⟩))
theorem bytes_ne_none (b : Array UInt8) (t : Tok) : Gives («bytes.__ne__» ⟨[.bytes b t, .none], []⟩) (.val (Value.notImplemented)) := .of_wp fun M A E s Q hq => by
  show wpAny M A (isInstance .none (.type "bytes") >>= fun r => _) _ E s
  refine wpAny_bind (wpAny_isInstance (T := "NoneType") rfl F.sub_NoneType_bytes ?_)
  refine wpAny_bind (wpAny_isInstance (T := "NoneType") rfl F.sub_NoneType_bytes ?_)
  simp only [Bool.not_false, if_true]
  exact wpAny_bind (wpAny_rule (wpAny_pure ⟨_, rfl, hq⟩))
theorem none_eq_bytes (b : Array UInt8) (t : Tok) : Gives (Builtin.«NoneType.__eq__» ⟨[.none, .bytes b t], []⟩) (.val (Value.notImplemented)) :=
  .of_wp fun M A E s Q h => by obtain ⟨hp, g, d, tk, os⟩ := s; wp_walk; exact ⟨_, rfl, h⟩
theorem none_ne_bytes (b : Array UInt8) (t : Tok) : Gives (Builtin.«NoneType.__ne__» ⟨[.none, .bytes b t], []⟩) (.val (Value.notImplemented)) :=
  .of_wp fun M A E s Q h => by obtain ⟨hp, g, d, tk, os⟩ := s; wp_walk; exact ⟨_, rfl, h⟩
section
variable {prog : Program} {w : World} {A : Around} {E Q : Value -> Shared -> Prop} {s : Shared} {b c : Array UInt8} {t u : Tok}
theorem rc_bytes (hu : A.units < cLine) (q : Q (.bool (b == c)) s) : wpAny (model prog w) A (richCompare .Eq (.bytes b t) (.bytes c u)) Q E s := by
  refine wpAny_richCompare_same_room (op := .Eq) (typeIs_bytes s b t) (typeIs_bytes s c u) FB.slot_bytes_eq (call_gives FB.slot_bytes_eq (typeIs_bytes s b t) FB.entry_bytes_eq (FB.args_bytes_eq_2 _ _) (gives_bytes_eq b c t u) ⟨(fun z => nomatch z), ?_⟩) hu
  have e : (b.toList == c.toList) = (b == c) := by
    rw [Bool.eq_iff_iff]; simp [Array.toList_inj]
  rw [e]; exact q
theorem rcn_bytes (hu : A.units < cLine) (q : Q (.bool (b != c)) s) : wpAny (model prog w) A (richCompare .NotEq (.bytes b t) (.bytes c u)) Q E s := by
  refine wpAny_richCompare_same_room (op := .NotEq) (typeIs_bytes s b t) (typeIs_bytes s c u) FB.slot_bytes_ne (call_gives FB.slot_bytes_ne (typeIs_bytes s b t) FB.entry_bytes_ne (FB.args_bytes_ne_2 _ _) (gives_bytes_ne b c t u) ⟨(fun z => nomatch z), ?_⟩) hu
  have e : (b.toList != c.toList) = (b != c) := by
    rw [Bool.eq_iff_iff]; simp [bne, Array.toList_inj]
  rw [e]; exact q
theorem rc_bytes_none (q : Q (.bool false) s) : wpAny (model prog w) A (richCompare .Eq (.bytes b t) .none) Q E s :=
  rc_eq_decline_or (k := false) (typeIs_bytes s b t) (Tb := "NoneType") rfl (by decide) F.sub_NoneType_bytes FB.slot_bytes_eq PySem.F.slot_NoneType_eq_refl
    (fun _ z => call_gives FB.slot_bytes_eq (typeIs_bytes s b t) FB.entry_bytes_eq (FB.args_bytes_eq_2 _ _) (bytes_eq_none b t) z)
    (fun _ z => call_gives PySem.F.slot_NoneType_eq_refl rfl PySem.F.entry_NoneType_eq (PySem.F.args_NoneType_eq_2 _ _) (none_eq_bytes b t) z)
    (fun _ z => wpAny_of_eq (rfl : isSame (.bytes b t) .none = pure false) z) (.inl rfl) q
theorem rc_none_bytes (q : Q (.bool false) s) : wpAny (model prog w) A (richCompare .Eq .none (.bytes b t)) Q E s :=
  rc_eq_decline_or (k := false) (Ta := "NoneType") rfl (typeIs_bytes s b t) (by decide) F.sub_bytes_NoneType PySem.F.slot_NoneType_eq slot_bytes_eq_refl
    (fun _ z => call_gives PySem.F.slot_NoneType_eq rfl PySem.F.entry_NoneType_eq (PySem.F.args_NoneType_eq_2 _ _) (none_eq_bytes b t) z)
    (fun _ z => call_gives slot_bytes_eq_refl (typeIs_bytes s b t) FB.entry_bytes_eq (FB.args_bytes_eq_2 _ _) (bytes_eq_none b t) z)
    (fun _ z => wpAny_of_eq (rfl : isSame .none (.bytes b t) = pure false) z) (.inl rfl) q
theorem rcn_bytes_none (q : Q (.bool true) s) : wpAny (model prog w) A (richCompare .NotEq (.bytes b t) .none) Q E s :=
  rc_ne_decline_or (k := false) (typeIs_bytes s b t) (Tb := "NoneType") rfl (by decide) F.sub_NoneType_bytes FB.slot_bytes_ne PySem.F.slot_NoneType_ne_refl
    (fun _ z => call_gives FB.slot_bytes_ne (typeIs_bytes s b t) FB.entry_bytes_ne (FB.args_bytes_ne_2 _ _) (bytes_ne_none b t) z)
    (fun _ z => call_gives PySem.F.slot_NoneType_ne_refl rfl PySem.F.entry_NoneType_ne (PySem.F.args_NoneType_ne_2 _ _) (none_ne_bytes b t) z)
    (fun _ z => wpAny_of_eq (rfl : isSame (.bytes b t) .none = pure false) z) (.inl rfl) q
theorem rcn_none_bytes (q : Q (.bool true) s) : wpAny (model prog w) A (richCompare .NotEq .none (.bytes b t)) Q E s :=
  rc_ne_decline_or (k := false) (Ta := "NoneType") rfl (typeIs_bytes s b t) (by decide) F.sub_bytes_NoneType PySem.F.slot_NoneType_ne slot_bytes_ne_refl
    (fun _ z => call_gives PySem.F.slot_NoneType_ne rfl PySem.F.entry_NoneType_ne (PySem.F.args_NoneType_ne_2 _ _) (none_ne_bytes b t) z)
    (fun _ z => call_gives slot_bytes_ne_refl (typeIs_bytes s b t) FB.entry_bytes_ne (FB.args_bytes_ne_2 _ _) (bytes_ne_none b t) z)
    (fun _ z => wpAny_of_eq (rfl : isSame .none (.bytes b t) = pure false) z) (.inl rfl) q
end
end DLC
set_option Elab.async false
set_option linter.all false
set_option maxRecDepth 100000
set_option maxHeartbeats 4000000
set_option autoImplicit false
namespace DL
open PySem L2
inductive Wkd where
  | txt (z : Str)
  | byt (b : Array UInt8)
  | lst (a : Addr)
  | tup (a : Addr)
namespace Wkd
def v : Wkd -> V
  | .txt z => .str z
  | .byt b => .byt b
  | .lst a => .ref a
  | .tup a => .ref a
def val (t : Tok) : Wkd -> Value
  | .txt z => .str z t
  | .byt b => .bytes b t
  | .lst a => .ref a
  | .tup a => .ref a
def has (K : PySem.W.Frag) (H : Hp) : Wkd -> List V -> Prop
  | .txt z, xs => xs = z.cps.toList.map fun c => V.str ⟨#[c]⟩
  | .byt b, xs => xs = b.toList.map fun c => V.int (c.toNat : Nat)
  | .lst a, xs => SqL K H a xs
  | .tup a, xs => SqT K H a xs
def st (t : Tok) (it : Addr) (i : Nat) (h : Heap) : Wkd -> Prop
  | .txt z => h.IsStrIter it (strIterType z) z t i
  | .byt b => DLB.IsBi h it b t i
  | .lst a => h.IsListIter it a i
  | .tup a => h.IsTupleIter it a i
def ads : Wkd -> List Addr
  | .txt _ => []
  | .byt _ => []
  | .lst a => [a]
  | .tup a => [a]
def mk (t : Tok) : Wkd -> Obj
  | .txt z => { cls := .type (strIterType z), data := .fields #[.str z t, .int 0 0] }
  | .byt b => { cls := .type "bytes_iterator", data := .fields #[.bytes b t, .int 0 0] }
  | .lst a => { cls := .type "list_iterator", data := .fields #[.ref a, .int 0 0] }
  | .tup a => { cls := .type "tuple_iterator", data := .fields #[.ref a, .int 0 0] }
variable {k : Wkd} {t : Tok} {it : Addr} {i : Nat} {h h' : Heap}
theorem st_obj (s : k.st t it i h) : ∃ o, h.get? it = some o /\ ∀ v, o.data ≠ .cell v := by
  cases k <;> exact let ⟨o, e, _, d⟩ := s; ⟨o, e, fun v z => by rw [d] at z; cases z⟩
theorem st_keep (s : k.st t it i h) (e : ∀ o, h.get? it = some o -> h'.get? it = some o) : k.st t it i h' := by
  cases k <;> exact let ⟨o, ho, r⟩ := s; ⟨o, e o ho, r⟩
theorem st_mk (e : h.get? it = some (k.mk t)) : k.st t it 0 h := by
  cases k <;> exact ⟨_, e, rfl, rfl⟩
theorem rel {u : Value} (r : RelV k.v u) : ∃ t, u = k.val t := by
  cases k with
  | txt z => exact r
  | byt b => exact r
  | lst a => exact ⟨0, r⟩
  | tup a => exact ⟨0, r⟩
variable {X : Cx} {pins : List (Addr × Obj)} {σ : St} {H : Hp} {s : Shared} {xs ys : List V}
theorem inj (I : Inv X pins σ H s) (q : k.has X.K H xs) (q' : k.has X.K H ys) : ys = xs := by
  cases k with
  | txt z => exact q'.trans q.symm
  | byt b => exact q'.trans q.symm
  | lst a => exact I.list_inj q' q
  | tup a => exact I.tuple_inj q' q
theorem lt (I : Inv X pins σ H s) (q : k.has X.K H xs) : ∀ a ∈ k.ads, a < s.heap.objs.size := by
  intro a ha
  cases k with
  | txt z => cases ha
  | byt b => cases ha
  | lst b =>
    obtain rfl := List.mem_singleton.mp ha
    obtain ⟨its, rv, p, _⟩ := I.list q
    obtain ⟨o, e, _⟩ := p.isList
    exact Heap.lt_size e
  | tup b =>
    obtain rfl := List.mem_singleton.mp ha
    obtain ⟨its, rv, p, _⟩ := I.tuple q
    obtain ⟨o, e, _⟩ := p
    exact Heap.lt_size e
theorem begins (I : Inv X pins σ H s) (q : k.has X.K H xs) (t : Tok) : ∃ G : Heap -> Prop, Begins (k.val t) (k.mk t) G /\ G s.heap := by
  cases k with
  | txt z => exact ⟨_, begins_text z t, trivial⟩
  | byt b => exact ⟨_, DLB.begins_bytes b t, trivial⟩
  | lst b =>
    obtain ⟨its, rv, p, _⟩ := I.list q
    exact ⟨_, begins_list b its.toArray, p.isList⟩
  | tup b =>
    obtain ⟨its, rv, p, _⟩ := I.tuple q
    exact ⟨_, begins_tuple b its.toArray, p⟩
theorem weak {P : Program} {w : World} {A : Around} {fp : List Addr} {n : Nat} {φ ψ : Nat -> Value -> Prop} {S : Nat -> Heap -> Prop} (D : Draws P w A it fp n φ S) (h : ∀ i v, φ i v -> ψ i v) : Draws P w A it fp n ψ S :=
  ⟨D.live, D.frame, fun i s Q E hi hs hQ => D.item i s Q E hi hs fun x h' tk hp => hQ x h' tk (h _ _ hp), D.done⟩
theorem seqD {its : List Value} (r : Vals xs its) (i : Nat) (v : Value) (e : its.toArray[i]? = some v) : ∃ x, xs[i]? = some x /\ RelV x v := by
  have e' : its[i]? = some v := by simpa using e
  have hl : xs.length = its.length := Paired.length r
  have hi : i < xs.length := by rw [hl]; exact (List.getElem?_eq_some_iff.mp e').1
  obtain ⟨u, hu, ru⟩ := r.get (List.getElem?_eq_getElem hi)
  rw [e'] at hu
  cases hu
  exact ⟨_, List.getElem?_eq_getElem hi, ru⟩
theorem draws (I : Inv X pins σ H s) (q : k.has X.K H xs) {A : Around} (hh : A.handled = none) (ne : it ∉ k.ads) (t : Tok) :
    ∃ S : Nat -> Heap -> Prop, Draws X.prog X.w A it (it :: k.ads) xs.length (fun i v => ∃ x, xs[i]? = some x /\ RelV x v) S /\ (∀ i, k.st t it i s.heap -> S i s.heap) /\ ∀ i h, S i h -> k.st t it i h := by
  cases k with
  | txt z =>
    have hn : xs.length = z.cps.size := by rw [show xs = _ from q]; simp
    rw [hn]
    refine ⟨fun i h => h.IsStrIter it (strIterType z) z t i, weak (Draws.text hh it z t) fun i v ⟨c, u, hc, ev⟩ => ⟨.str ⟨#[c]⟩, ?_, u, ev⟩, fun i h => h, fun i h s => s⟩
    rw [show xs = _ from q, List.getElem?_map]
    have : z.cps.toList[i]? = some c := by simpa using hc
    rw [this]
    rfl
  | byt b =>
    have hn : xs.length = b.size := by rw [show xs = _ from q]; simp
    rw [hn]
    refine ⟨fun i h => DLB.IsBi h it b t i, weak (DLB.draws_bytes hh it b t) fun i v ⟨c, u, hc, ev⟩ => ⟨.int (c.toNat : Nat), ?_, u, ev⟩, fun i h => h, fun i h s => s⟩
    rw [show xs = _ from q, List.getElem?_map]
    have : b.toList[i]? = some c := by simpa using hc
    rw [this]
    rfl
  | lst b =>
    obtain ⟨its, rv, p, _⟩ := I.list q
    have hn : xs.length = its.toArray.size := by simpa using Paired.length rv
    rw [hn]
    refine ⟨fun i h => h.IsListIter it b i /\ h.IsList b its.toArray, weak (Draws.list hh it b (fun e => ne (by rw [e]; exact List.mem_singleton.mpr rfl)) its.toArray) fun i v e => seqD rv i v e, fun i h => ⟨h, p.isList⟩, fun i h s => s.1⟩
  | tup b =>
    obtain ⟨its, rv, p, _⟩ := I.tuple q
    have hn : xs.length = its.toArray.size := by simpa using Paired.length rv
    rw [hn]
    refine ⟨fun i h => h.IsTupleIter it b i /\ h.IsTuple b its.toArray, weak (Draws.tuple hh it b (fun e => ne (by rw [e]; exact List.mem_singleton.mpr rfl)) its.toArray) fun i v e => seqD rv i v e, fun i h => ⟨h, p⟩, fun i h s => s.1⟩
end Wkd
structure Five (k1 k2 : Wkd) (z TI TO i1 i2 : Addr) : Prop where
  nd : [z, TI, TO, i1, i2].Nodup
  f1 : ∀ a ∈ k1.ads, a ∉ [z, TI, TO, i1, i2]
  f2 : ∀ a ∈ k2.ads, a ∉ [z, TI, TO, i1, i2]
end DL
set_option Elab.async false
set_option linter.all false
set_option maxRecDepth 100000
set_option maxHeartbeats 4000000
set_option autoImplicit false
namespace DL
open PySem L2
theorem Wkd.shift {P : Program} {w : World} {A : Around} {it : Addr} {fp : List Addr} {n : Nat} {φ : Nat -> Value -> Prop} {S : Nat -> Heap -> Prop} (D : Draws P w A it fp n φ S) (c : Nat) : Draws P w A it fp (n + c) (fun i v => φ (i - c) v) (fun i h => c <= i /\ S (i - c) h) where
  live := fun i h s => D.live _ h s.2
  frame := fun i h h' s k => ⟨s.1, D.frame _ h h' s.2 k⟩
  item := fun i s Q E hi hs hQ => D.item (i - c) s Q E (by omega) hs.2 fun x h' tk hp s' sb => hQ x h' tk hp ⟨by omega, by rw [show i + 1 - c = i - c + 1 by omega]; exact s'⟩ sb
  done := fun s Q E hs hE => D.done s Q E (by have h2 := hs.2; rw [Nat.add_sub_cancel] at h2; exact h2) hE
def IteG (K : PySem.W.Frag) (k : Wkd) (n c : Nat) : It where
  go := fun i H => ∃ xs x, k.has K H xs /\ xs.length = n /\ xs[i]? = some x
  yld := fun i H v H' => ∃ T x, v = .ref T /\ H T = none /\ H' = upd H T (.tup [.int ((i + c : Nat)), x]) /\ ∀ xs, k.has K H xs -> xs[i]? = some x
  stop := fun i H => ∃ xs, k.has K H xs /\ xs.length = n /\ n <= i
theorem turn_enumG {P : Program} {w : World} {K : PySem.W.Frag} {elts : List Expr} {kk : Nat} {tpos : Pos} {k : Wkd} {n c : Nat} {t : Tok} {e it : Addr} (hne : e ≠ it) (h1 : ∀ a ∈ k.ads, a ≠ e /\ a ≠ it) :
    Turn P w K (.Tuple elts kk tpos) (IteG K k n c) [e, it] e (fun i h => (∃ old, IsEnum h e it ((i + c : Nat) : Int) old) /\ k.st t it i h /\ i <= n) where
  mem := List.mem_cons_self
  obj := fun i h ⟨⟨old, he⟩, s1, _⟩ b hb => by
    rcases List.mem_cons.mp hb with z | hb
    · rw [z]; exact ⟨_, he, fun v q => nomatch q⟩
    · rw [List.mem_singleton.mp hb]; exact Wkd.st_obj s1
  keep := fun i h h' ⟨⟨old, he⟩, s1, l⟩ kp => ⟨⟨old, kp e (by simp) _ he⟩, Wkd.st_keep s1 fun o q => kp it (by simp) o q, l⟩
  item := by
    intro X hP hw hK hc i pins s σ H E I hf ⟨⟨old, he⟩, s1, l⟩ ⟨xs, x, q1, e1, hx⟩
    subst hP hw hK
    have hh : X.A.in1.handled = none := I.ok.hd hc
    obtain ⟨S, D, to_, of_⟩ := k.draws I q1 hh (it := it) (fun hm => (h1 _ hm).2 rfl) t
    have hi : i < xs.length := (List.getElem?_eq_some_iff.mp hx).1
    have hel : e < s.heap.objs.size := Heap.lt_size he
    refine wpAny_pyNext_enum_itemD (Wkd.shift D c) he ⟨Nat.le_add_left c i, by rw [Nat.add_sub_cancel]; exact to_ _ s1⟩ (by omega) hne (fun hm => (List.mem_cons.mp hm).elim hne fun hm => (h1 _ hm).1 rfl) fun v h' tk hv ho hst hT hsz hk => ?_
    rw [Nat.add_sub_cancel] at hv
    obtain ⟨x', hx', rx⟩ := hv
    obtain rfl := Option.some.inj (hx.symm.trans hx')
    refine ⟨_, rfl, wpAny_letOwnedTupleGo_enum (s := { s with heap := h', toks := tk + 1 }) ho fun h'' he' sb => ?_⟩
    have hT2 : h''.get? s.heap.objs.size = some { cls := .type "tuple", data := .seq #[.int ((i + c : Nat) : Int) tk, v] } := (sb.2 _ (Nat.ne_of_gt hel)).trans hT
    have new : ObjOk X.prog X.w (upd H s.heap.objs.size (.tup [.int ((i + c : Nat)), x])) h'' s.heap.objs.size (.tup [.int ((i + c : Nat)), x]) :=
      ⟨by show 2 <= sizeLine; decide, [.int ((i + c : Nat) : Int) tk, v], .cons ⟨_, rfl⟩ (.cons rx .nil), ⟨_, hT2, rfl, _, rfl⟩⟩
    have I1 : Inv X pins σ (upd H s.heap.objs.size (.tup [.int ((i + c : Nat)), x])) { s with heap := h'', toks := tk + 1 } :=
      I.turnedNew (ch := [e, it]) (fun b ob hb q => (sb.2 b (fun z => hb (by simp [z]))).trans (hk b ob (fun z => hb (by simp [z])) (fun z => hb (by simp [z])) q)) hf (Nat.le_refl _) new
    refine ⟨.ref s.heap.objs.size, _, I1, rfl, ⟨_, x, rfl, I.hok.fresh (Nat.le_refl _), rfl, fun ys hy => by rw [k.inj I q1 hy]; exact hx⟩, ⟨⟨v, ?_⟩, ?_, by omega⟩, fun b hb => ?_⟩
    · rw [show ((i + 1 + c : Nat) : Int) = ((i + c : Nat) : Int) + 1 by omega]
      exact he'
    · have h2 := hst.2
      rw [show i + c + 1 - c = i + 1 by omega] at h2
      exact Wkd.st_keep (of_ _ _ h2) fun o q => (sb.2 it (Ne.symm hne)).trans q
    · have hlt2 : b < s.heap.objs.size := by
        rcases List.mem_cons.mp hb with z | hb
        · rw [z]; exact hel
        · rw [List.mem_singleton.mp hb]; obtain ⟨o, q, _⟩ := Wkd.st_obj s1; exact Heap.lt_size q
      rw [upd_ne (Nat.ne_of_lt hlt2)]
      exact (hf b hb).1
  done := by
    intro X hP hw hK hc i pins s σ H E I hf ⟨⟨old, he⟩, s1, l⟩ ⟨xs, q1, e1, hend⟩
    subst hP hw hK e1
    have hh : X.A.in1.handled = none := I.ok.hd hc
    obtain ⟨S, D, to_, of_⟩ := k.draws I q1 hh (it := it) (fun hm => (h1 _ hm).2 rfl) t
    obtain rfl : i = xs.length := by omega
    obtain ⟨f0, f1, f2, f3, f4, f5⟩ := hf it (by simp)
    exact wpAny_pyNext_enum_endD D he (to_ _ s1) fun h' eb => ⟨rfl, I.turned (t' := s.toks) (fun b o hb q => eb b o hb q) f0 f1 f3 f4 f5⟩
  self := fun A i s Q E ⟨⟨_, he⟩, _⟩ h => wpAny_pyIter_enum he h
def iEnW (K : PySem.W.Frag) (c : Nat) (ta : TA) : TI := fun σ H R => ta σ H fun vs H1 => ∃ (k : Wkd) (xs : List V), vs = [k.v] /\ k.has K H1 xs /\ R (IteG K k xs.length c) H1
theorem enum_pie {X : Cx} {pins : List (Addr × Obj)} {σ : St} {H1 : Hp} {s1 : Shared} {h' : Heap} {R : It -> Hp -> Prop} {k : Wkd} {xs : List V} {c : Nat} {t : Tok} {p tpos : Pos} {elts : List Expr} {kk : Nat} (I1 : Inv X pins σ H1 s1) (q1 : k.has X.K H1 xs) (q : R (IteG X.K k xs.length c) H1)
    (he : IsEnum h' (s1.heap.objs.size + 1) s1.heap.objs.size ((c : Nat) : Int) .none) (ho : h'.get? s1.heap.objs.size = some (k.mk t)) (hk : ∀ b o, s1.heap.get? b = some o -> h'.get? b = some o) :
    PIE X pins σ (.Tuple elts kk tpos) R (.ref (s1.heap.objs.size + 1)) { s1 with heap := h' } := by
  have two : ∀ b ∈ [s1.heap.objs.size + 1, s1.heap.objs.size], s1.heap.objs.size <= b := fun b hb => by
    rcases List.mem_cons.mp hb with z | hb
    · rw [z]; exact Nat.le_add_right _ _
    · rw [List.mem_singleton.mp hb]; exact Nat.le_refl _
  refine ⟨_, [s1.heap.objs.size + 1, s1.heap.objs.size], _, _, H1, rfl, I1.kept (t' := s1.toks) hk, turn_enumG (k := k) (n := xs.length) (c := c) (t := t) (Nat.succ_ne_self _) (fun a ha => ?_), ⟨⟨.none, by rw [Nat.zero_add]; exact he⟩, Wkd.st_mk ho, Nat.zero_le _⟩, fun b hb => I1.fpOk (two b hb) (I1.hok.fresh (two b hb)), q⟩
  have hl := k.lt I1 q1 a ha
  exact ⟨Nat.ne_of_lt (Nat.lt_succ_of_lt hl), Nat.ne_of_lt hl⟩
theorem pi_enumG {X : Cx} {e : Expr} {ta : TA} {p pos tpos : Pos} {elts : List Expr} {kk : Nat} (hg : Gl X "enumerate") (hm : X.mg "enumerate" = none) (ha : PA X [e] ta) (hs : starEach [e] X.env = [(false, eval e X.env)] := by rfl) :
    PI X (.Tuple elts kk tpos) (.Call (.Name "enumerate" p) [e] [] pos) (iEnW X.K 0 ta) := by
  refine ⟨fun pins s σ H R I h => PyProof.Rows.Call_ (ld_blt I hg hm PyProof.Rows.boot_enumerate (PyProof.Rows.callWith_type1 (thn (ha.run pos pins s σ H _ I h) fun us s1 ⟨vs, H1, I1, r1, k, xs, ev, q1, q⟩ => ?_) hs rfl))⟩
  subst ev
  obtain ⟨u, rfl, ru⟩ := vals1 r1
  obtain ⟨t, rfl⟩ := Wkd.rel ru
  obtain ⟨G, B, g⟩ := k.begins I1 q1 t
  exact call_enum1 B g fun h' he ho hk => wpAny_pyIter_enum he (enum_pie (p := p) I1 q1 q he ho hk)
@[simp] def wkD : D -> Option (List D)
  | .lst xs => some xs
  | .tup xs => some xs
  | .str z => some (z.cps.toList.map fun c => D.str ⟨#[c]⟩)
  | .byt b => some (b.toList.map fun c => D.int (c.toNat : Nat))
  | _ => none
theorem Rep.wkd {K : PySem.W.Frag} {cl : ClW} {F : Hp} {v : V} {d : D} {xs : List D} (r : Rep K cl F v d) (e : wkD d = some xs) : ∃ (k : Wkd) (us : List V), v = k.v /\ k.has K F us /\ Reps K cl F us xs := by
  cases d with
  | lst ys =>
    cases e
    obtain ⟨a, us, rfl, h1, h2⟩ := r.toLst
    exact ⟨.lst a, us, rfl, h1, h2⟩
  | tup ys =>
    cases e
    obtain ⟨a, us, rfl, h1, h2⟩ := r.toTup
    exact ⟨.tup a, us, rfl, h1, h2⟩
  | str z =>
    cases e
    obtain rfl := r.toStr
    refine ⟨.txt z, _, rfl, rfl, ?_⟩
    induction z.cps.toList with
    | nil => exact .nil
    | cons c l ih => exact .cons (.str _) ih
  | byt b =>
    cases e
    obtain rfl := r.toByt
    refine ⟨.byt b, _, rfl, rfl, ?_⟩
    induction b.toList with
    | nil => exact .nil
    | cons c l ih => exact .cons (.int _) ih
  | _ => cases e
theorem Wkd.same' {K : PySem.W.Frag} {k : Wkd} {H H' : Hp} {us : List V} (h : k.has K H us) (s : Same H H') : k.has K H' us := by
  cases k with
  | txt z => exact h
  | byt b => exact h
  | lst a => exact same_l s h
  | tup a => exact same_t s h
@[simp] def iZpW (τ τ' : DTE) : DTI := fun ρ M R X => τ ρ M (fun d M1 => τ' ρ M1 (fun e M2 => ∃ xs ys, wkD d = some xs /\ wkD e = some ys /\ R ((xs.zip ys).map fun p => D.tup [p.1, p.2]) M2) X) X
@[simp] def iEnN (c : Nat) (τ : DTE) : DTI := fun ρ M R X => τ ρ M (fun d M1 => ∃ xs, wkD d = some xs /\ R (xs.zipIdx.map fun p => D.tup [.int ((p.2 + c : Nat)), p.1]) M1) X
section
variable {cl : ClW} {X : Cx} {W : WX} {a b : Expr} {pos : Pos} {τa τb : DTE}
theorem enum_low {tg it : Expr} {c : Nat} (h : PI X tg it (iEnW X.K c (lowA X.K cl W (dCons τa dNil)))) : DI cl X W tg it (iEnN c τa) :=
  ⟨pi_imp h fun σ H R ⟨F, ρ, M, Rd, Xd, g, s, q, p, w⟩ =>
    ⟨F, ρ, M, fun ds M1 => ∃ d xs, ds = [d] /\ wkD d = some xs /\ Rd (xs.zipIdx.map fun p => D.tup [.int ((p.2 + c : Nat)), p.1]) M1, Xd, g, s, (by
      unfold iEnN at q
      unfold dCons dNil
      have same : (fun d M1 => ∃ xs, wkD d = some xs /\ Rd (xs.zipIdx.map fun p => D.tup [.int ((p.2 + c : Nat)), p.1]) M1) = (fun d M1 => ∃ d' xs, [d] = [d'] /\ wkD d' = some xs /\ Rd (xs.zipIdx.map fun p => D.tup [.int ((p.2 + c : Nat)), p.1]) M1) := by
        funext d M1
        simp
      rw [same] at q
      exact q), fun vs H' F' ds M' sm g' r ⟨d, xs, e1, e2, q'⟩ => (by
      subst e1
      obtain ⟨v, ws, rfl, r1, r2⟩ := r.inv
      obtain rfl := r2.inv0
      obtain ⟨k, us, rfl, h1, h2⟩ := r1.wkd e2
      refine ⟨k, us, rfl, Wkd.same' h1 g'.sub, p _ _ F' _ M' sm g' (fun i F2 H2 M2 sm2 g2 => ⟨fun d0 hd => ?_, fun hl => ⟨us, Wkd.same' h1 (sm2.trans g2.sub), rfl, by rw [h2.length]; simpa using hl⟩⟩) q'⟩
      rw [List.getElem?_map, List.getElem?_zipIdx] at hd
      cases e3 : xs[i]? with
      | none => rw [e3] at hd; cases hd
      | some d1 =>
        rw [e3] at hd
        cases hd
        obtain ⟨v0, h3, h4⟩ := h2.get e3
        refine ⟨⟨us, v0, Wkd.same' h1 (sm2.trans g2.sub), rfl, h3⟩, fun x H3 ⟨T, x0, ex, hT, eH, hy⟩ => ?_⟩
        subst ex eH
        obtain rfl := Option.some.inj (h3.symm.trans (hy us (Wkd.same' h1 (sm2.trans g2.sub))))
        have sm3 : Same F2 (upd F2 T (.tup [.int ((i + c : Nat)), v0])) := same_new (g2.freshF hT)
        refine ⟨_, sm3, g2.new hT, .tup (SqT1.of upd_same) (.cons ?_ (.one (h4.mono (sm2.trans sm3))))⟩
        simpa using Rep.int ((i + c : Nat) : Int)), w⟩⟩
theorem di_enumW {elts : List Expr} {kk : Nat} {tpos p : Pos} (hg : Gl X "enumerate") (hm : X.mg "enumerate" = none) (ha : DE cl X W a τa) (hs : starEach [a] X.env = [(false, eval a X.env)] := by rfl) :
    DI cl X W (.Tuple elts kk tpos) (.Call (.Name "enumerate" p) [a] [] pos) (iEnN 0 τa) := enum_low (pi_enumG hg hm (da_cons (W := W) (cl := cl) ha da_nil hs).pa hs)
end
end DL
set_option Elab.async false
set_option linter.all false
set_option maxRecDepth 100000
set_option maxHeartbeats 4000000
set_option autoImplicit false
namespace DL
open PySem L2
structure KTab (K : PySem.W.Frag) (w : World) (d : Addr) (tb : List (Str × Str)) : Prop where
  kd : ∃ es n, KDict K w d es n
  get : ∀ z : Str, match tb.lookup z with
    | some v => ∃ t, PySem.W.nsIn K d z = some (some (.str v t))
    | none => PySem.W.nsIn K d z = some none
section
variable {cl : ClW} {X : Cx} {W : WX} {x : Str} {d : Addr} {tb : List (Str × Str)} {a : Expr} {τ : DTE} {p pos : Pos}
end
end DL
set_option Elab.async false
set_option linter.all false
set_option maxRecDepth 100000
set_option maxHeartbeats 4000000
set_option autoImplicit false
namespace DL
open PySem L2
section
variable {K : PySem.W.Frag} {cl : ClW}
end
section
variable {K : PySem.W.Frag} {cl : ClW}
end
end DL
set_option Elab.async false
set_option linter.all false
set_option maxRecDepth 100000
set_option maxHeartbeats 4000000
set_option autoImplicit false
namespace DL
open PySem L2
def shG (d : D) : Option D := match toPyX d with
  | some p => if p.showable && decide (p.depth <= 100) && decide (p.shown.length <= sizeLine) then some (.str p.shown) else none
  | none => none
section
variable {K : PySem.W.Frag} {cl : ClW} {X : Cx}
theorem shG_some {d z : D} (h : shG d = some z) : ∃ p, toPyX d = some p /\ p.showable = true /\ p.depth <= 100 /\ p.shown.length <= sizeLine /\ z = .str p.shown := by
  unfold shG at h
  split at h
  · rename_i p hp
    split at h
    · rename_i hc
      simp only [Bool.and_eq_true, decide_eq_true_eq] at hc
      cases h
      exact ⟨p, hp, hc.1.1, hc.1.2, hc.2, rfl⟩
    · cases h
  · cases h
end
end DL
set_option Elab.async false
set_option linter.all false
set_option maxRecDepth 100000
set_option maxHeartbeats 4000000
set_option autoImplicit false
namespace DL
open PySem L2
section
variable {X : Cx} {e : Expr} {es : List Expr} {ta : TA} {p pos : Pos}
end
section
variable {cl : ClW} {X : Cx} {W : WX} {k : Nat} {x : Str} {c : Nat} {fs : List Str} {e : Expr} {es : List Expr} {α : DTA} {p pos : Pos}
end
def xoF (cs : List Nat) (f : Str) : D -> Option D
  | .xob c ns ds => if c ∈ cs then lookN f ns ds else none
  | _ => none
@[simp] def dXo (cs : List Nat) (f : Str) (τ : DTE) : DTE := fun ρ M Q X => τ ρ M (fun d M1 => ∃ v, xoF cs f d = some v /\ Q v M1) X
section
variable {P : Program} {w : World} {A : Around} {E : Value -> Shared -> Prop} {s : Shared} {K : PySem.W.Frag} {x C f : Addr} {ox : Obj} {od : Option Obj} {m : Str}
end
structure MethX (cl : ClW) (P : Program) (w : World) (K : PySem.W.Frag) (mg : Str -> Option Value) (base : Heap) (k c : Nat) (m : Str) (spd : SpD) : Prop where
  xf : XfC K (cl c)
  ex : ∃ f fd ps, PySem.W.findIn K (.ref (cl c)) m = some (some (.ref f)) /\ PySem.W.typeIn K (.ref f) = some (.type "function") /\ PySem.W.keepIn K (.ref f) = true /\ Binds K fd ps [] /\ FnG cl P w K mg base k f fd ps spd
section
variable {cl : ClW} {X : Cx} {W : WX} {k : Nat} {m : Str} {o : Expr} {τ : DTE} {apos pos : Pos}
end
end DL
set_option Elab.async false
set_option linter.all false
set_option maxRecDepth 100000
set_option maxHeartbeats 4000000
set_option autoImplicit false
namespace DLC
open PySem PySem.W Builtin PyProof.Rows SeqAt
@[reducible] def bytKind : PyProof.Rows.KeyKind where
  α := List Nat
  blt a b := decide (a < b)
  irrefl a := by simpa using List.lt_irrefl a
  trans a b c h1 h2 := by simp only [decide_eq_true_eq] at *; exact List.lt_trans h1 h2
  negTrans a b c h := by
    simp only [decide_eq_true_eq] at *
    by_cases hab : a < b
    · exact .inl hab
    · exact .inr (List.lt_of_le_of_lt (List.not_lt.mp hab) h)
  total a b h1 h2 := by simp only [decide_eq_false_iff_not] at *; exact List.le_antisymm (List.not_lt.mp h2) (List.not_lt.mp h1)
  keyOf v := match v with | .bytes x _ => some (x.toList.map UInt8.toNat) | _ => none
  dflt := []
section
variable {prog : Program} {w : World} {A : Around} {E : Value -> Shared -> Prop} {s : Shared}
end
end DLC
set_option Elab.async false
set_option linter.all false
set_option maxRecDepth 100000
set_option maxHeartbeats 4000000
set_option autoImplicit false
namespace DL
open PySem L2 PyProof.Rows
def keyB : D -> List Nat
  | .byt x => x.toList.map UInt8.toNat
  | _ => []
def leByt (a b : D) : Bool := !decide (keyB b < keyB a)
inductive SortBy : List D -> (D -> D -> Bool) -> Prop where
  | byt (bs : List (Array UInt8)) : SortBy (bs.map D.byt) leByt
  | py (xs : List D) (enc : D -> PyData) : (∀ x ∈ xs, toPyX x = some (enc x)) -> PySem.W.AllAlike (xs.map enc) -> PySem.W.Sortable (xs.map enc) -> (∀ x ∈ xs, (enc x).depth <= 32) -> SortBy xs (PySem.W.dataLe false enc)
section
variable {cl : ClW} {X : Cx} {W : WX} {e : Expr} {τ : DTE} {p pos : Pos} {k : Nat}
end
end DL
set_option Elab.async false
set_option linter.all false
set_option maxRecDepth 100000
set_option maxHeartbeats 4000000
set_option autoImplicit false
namespace DL
open PySem L2
open PySem.SeqAt
mutual
def eqY : Nat -> D -> D -> Option Bool
  | _, .byt a, .byt b => some (a == b)
  | _, .byt _, .non => some false
  | _, .non, .byt _ => some false
  | n + 1, .lst xs, .lst ys => if xs.length = ys.length then eqYs n xs ys else some false
  | n + 1, .tup xs, .tup ys => eqYs n xs ys
  | n, d, e => if plX n d && plX n e then some (eqX d e) else none
def eqYs : Nat -> List D -> List D -> Option Bool
  | _, [], [] => some true
  | n, x :: xs, y :: ys => match eqY n x y, eqYs n xs ys with
    | some a, some b => some (a && b)
    | _, _ => none
  | _, [], _ :: _ => some false
  | _, _ :: _, [] => some false
end
theorem eqYs_cons {n : Nat} {x y : D} {xs ys : List D} {b : Bool} (h : eqYs n (x :: xs) (y :: ys) = some b) : ∃ c e, eqY n x y = some c /\ eqYs n xs ys = some e /\ b = (c && e) := by
  rw [eqYs] at h
  cases h1 : eqY n x y with
  | none => rw [h1] at h; simp at h
  | some c =>
    cases h2 : eqYs n xs ys with
    | none => rw [h1, h2] at h; simp at h
    | some e => rw [h1, h2] at h; simp at h; exact ⟨c, e, rfl, rfl, h.symm⟩
theorem eqY_cases {n : Nat} {d e : D} {b : Bool} (h : eqY n d e = some b) :
    (∃ x y, d = .byt x /\ e = .byt y /\ b = (x == y)) \/ (∃ x, d = .byt x /\ e = .non /\ b = false) \/ (∃ x, d = .non /\ e = .byt x /\ b = false) \/
    (∃ m xs ys, n = m + 1 /\ d = .lst xs /\ e = .lst ys /\ ((xs.length = ys.length /\ eqYs m xs ys = some b) \/ (xs.length ≠ ys.length /\ b = false))) \/
    (∃ m xs ys, n = m + 1 /\ d = .tup xs /\ e = .tup ys /\ eqYs m xs ys = some b) \/ (plX n d = true /\ plX n e = true /\ b = eqX d e) := by
  rw [eqY.eq_def] at h
  split at h
  · cases h; exact .inl ⟨_, _, rfl, rfl, rfl⟩
  · cases h; exact .inr (.inl ⟨_, rfl, rfl, rfl⟩)
  · cases h; exact .inr (.inr (.inl ⟨_, rfl, rfl, rfl⟩))
  · refine .inr (.inr (.inr (.inl ⟨_, _, _, rfl, rfl, rfl, ?_⟩)))
    split at h
    · exact .inl ⟨by assumption, h⟩
    · cases h; exact .inr ⟨by assumption, rfl⟩
  · exact .inr (.inr (.inr (.inr (.inl ⟨_, _, _, rfl, rfl, rfl, h⟩))))
  · split at h
    · rename_i hp
      rw [Bool.and_eq_true] at hp
      cases h
      exact .inr (.inr (.inr (.inr (.inr ⟨hp.1, hp.2, rfl⟩))))
    · cases h
section
variable {X : Cx} {pins : List (Addr × Obj)} {σ : St} {H : Hp} {s : Shared} {cl : ClW}
theorem sameY (I : Inv X pins σ H s) : ∀ (n : Nat) (d e : D) (x : V) (v : Value) (b : Bool), RelV x v -> Rep X.K cl H x d -> Rep X.K cl H x e -> eqY n d e = some b -> b = true := by
  intro n
  induction n with
  | zero =>
    intro d e x v b rv r1 r2 h
    rcases eqY_cases h with ⟨a, c, rfl, rfl, rfl⟩ | ⟨a, rfl, rfl, rfl⟩ | ⟨a, rfl, rfl, rfl⟩ | ⟨m, _, _, hm, _⟩ | ⟨m, _, _, hm, _⟩ | ⟨p1, p2, rfl⟩
    · have := r1.toByt; rw [r2.toByt] at this; cases this; simp
    · have := r1.toByt; rw [r2.toNon] at this; cases this
    · have := r1.toNon; rw [r2.toByt] at this; cases this
    · cases hm
    · cases hm
    · rw [side_inj I 0 d e v (side_of I r1 p1 rv) (side_of I r2 p2 rv) p1 p2]
      exact eqX_refl 0 e p2
  | succ n ih =>
    intro d e x v b rv r1 r2 h
    rcases eqY_cases h with ⟨a, c, rfl, rfl, rfl⟩ | ⟨a, rfl, rfl, rfl⟩ | ⟨a, rfl, rfl, rfl⟩ | ⟨m, xs, ys, hm, rfl, rfl, h2⟩ | ⟨m, xs, ys, hm, rfl, rfl, h2⟩ | ⟨p1, p2, rfl⟩
    · have := r1.toByt; rw [r2.toByt] at this; cases this; simp
    · have := r1.toByt; rw [r2.toNon] at this; cases this
    · have := r1.toNon; rw [r2.toByt] at this; cases this
    · cases hm
      obtain ⟨a, vs, rfl, h3, h4⟩ := r1.toLst
      obtain ⟨a', vs', e1, h5, h6⟩ := r2.toLst
      cases e1
      obtain rfl := I.list_inj h3 h5
      rcases h2 with ⟨_, h2⟩ | ⟨hn, _⟩
      · obtain ⟨its, rv2, _, _⟩ := I.list h3
        have : ∀ {vs : List V} {us : List Value} {ds es : List D} {b : Bool}, Vals vs us -> Reps X.K cl H vs ds -> Reps X.K cl H vs es -> eqYs n ds es = some b -> b = true := by
          intro vs
          induction vs with
          | nil => intro us ds es b _ r q h; cases r; cases q; rw [eqYs] at h; cases h; rfl
          | cons v vs ihv =>
            intro us ds es b rr r q h
            cases rr with
            | cons rr1 rr2 =>
              cases r with
              | cons r1 r2 =>
                cases q with
                | cons q1 q2 =>
                  obtain ⟨c, f, k1, k2, rfl⟩ := eqYs_cons h
                  rw [ih _ _ _ _ _ rr1 r1 q1 k1, ihv rr2 r2 q2 k2]; rfl
        exact this rv2 h4 h6 h2
      · exact absurd (h4.length.symm.trans h6.length) hn
    · cases hm
      obtain ⟨a, vs, rfl, h3, h4⟩ := r1.toTup
      obtain ⟨a', vs', e1, h5, h6⟩ := r2.toTup
      cases e1
      obtain rfl := I.tuple_inj h3 h5
      obtain ⟨its, rv2, _, _⟩ := I.tuple h3
      have : ∀ {vs : List V} {us : List Value} {ds es : List D} {b : Bool}, Vals vs us -> Reps X.K cl H vs ds -> Reps X.K cl H vs es -> eqYs n ds es = some b -> b = true := by
        intro vs
        induction vs with
        | nil => intro us ds es b _ r q h; cases r; cases q; rw [eqYs] at h; cases h; rfl
        | cons v vs ihv =>
          intro us ds es b rr r q h
          cases rr with
          | cons rr1 rr2 =>
            cases r with
            | cons r1 r2 =>
              cases q with
              | cons q1 q2 =>
                obtain ⟨c, f, k1, k2, rfl⟩ := eqYs_cons h
                rw [ih _ _ _ _ _ rr1 r1 q1 k1, ihv rr2 r2 q2 k2]; rfl
      exact this rv2 h4 h6 h2
    · rw [side_inj I (n + 1) d e v (side_of I r1 p1 rv) (side_of I r2 p2 rv) p1 p2]
      exact eqX_refl (n + 1) e p2
theorem eqP_of_rcY {A : Around} {v u : Value} {x : V} {k : Bool} {d : D} (rv : RelV x v) (rd : Rep X.K cl H x d) (h : RcP X.prog X.w A s v u k) (hs : v = u -> k = true) : EqP X.prog X.w A s v u k := fun E Q q => by
  unfold eqBool
  refine wpAny_holding (wpAny_ite_split (fun e => ?_) (fun _ => ?_))
  · have hv : v = u := by
      first
        | exact eq_of_beq e
        | skip
    have := hs hv
    subst this
    exact wpAny_bind (wpAny_rule (wpAny_pure q))
  · cases rd with
    | non => obtain rfl := (show v = Value.none from rv); exact wpAny_bind (h E _ (wpAny_truthy_bool q))
    | bl b => obtain rfl := (show v = Value.bool b from rv); exact wpAny_bind (h E _ (wpAny_truthy_bool q))
    | int i => obtain ⟨t, rfl⟩ := rv; exact wpAny_bind (h E _ (wpAny_truthy_bool q))
    | str i => obtain ⟨t, rfl⟩ := rv; exact wpAny_bind (h E _ (wpAny_truthy_bool q))
    | byt i => obtain ⟨t, rfl⟩ := rv; exact wpAny_bind (h E _ (wpAny_truthy_bool q))
    | ty n => obtain rfl := (show v = Value.type n from rv); exact wpAny_bind (h E _ (wpAny_truthy_bool q))
    | _ => obtain rfl := (show v = Value.ref _ from rv); exact wpAny_bind (h E _ (wpAny_truthy_bool q))
theorem eqL_Y {A : Around} {n : Nat} (ih : ∀ (d e : D) (x y : V) (v u : Value) (b : Bool), Rep X.K cl H x d -> Rep X.K cl H y e -> RelV x v -> RelV y u -> eqY n d e = some b -> EqP X.prog X.w A s v u b) :
    ∀ {vs ws : List V} {us ts : List Value} {ds es : List D} {b : Bool}, Vals vs us -> Reps X.K cl H vs ds -> Vals ws ts -> Reps X.K cl H ws es -> eqYs n ds es = some b -> ∃ bs : List Bool, EqL X.prog X.w A s (us.zip ts) bs /\ bs.length = min ds.length es.length /\ b = (bs.all id && ds.length == es.length)
  | _, _, _, _, _, _, b, .nil, .nil, .nil, .nil, h => by rw [eqYs] at h; cases h; exact ⟨[], .nil, rfl, rfl⟩
  | _, _, _, _, _, _, b, .nil, .nil, .cons _ _, .cons _ _, h => by rw [eqYs] at h; cases h; exact ⟨[], .nil, by simp, by simp⟩
  | _, _, _, _, _, _, b, .cons _ _, .cons _ _, .nil, .nil, h => by rw [eqYs] at h; cases h; exact ⟨[], by first | exact .nil | (rw [List.zip_nil_right]; exact .nil), by simp, by simp⟩
  | _, _, _, _, _, _, b, .cons a1 a2, .cons r1 r2, .cons c1 c2, .cons q1 q2, h => by
    obtain ⟨c, f, h1, h2, rfl⟩ := eqYs_cons h
    obtain ⟨bs, k1, k2, rfl⟩ := eqL_Y ih a2 r2 c2 q2 h2
    refine ⟨c :: bs, ?_, by simp [k2], ?_⟩
    · rw [List.zip_cons_cons]
      exact .cons (ih _ _ _ _ _ _ _ r1 q1 a1 c1 h1) k1
    · simp only [List.all_cons, id, Bool.and_assoc, List.length_cons]
      congr 2
      rw [Bool.eq_iff_iff]; simp
theorem rc_lstsY {A : Around} {a b : Addr} {us ts : List Value} {bs : List Bool} (h1 : s.heap.IsList a us.toArray) (k1 : s.heap.IsList b ts.toArray) (hl : us.length = ts.length) (L : EqL X.prog X.w A.in1 s (us.zip ts) bs) (hz : bs.length = us.length) (hA : A.units < cLine) : RcP X.prog X.w A s (.ref a) (.ref b) (bs.all id) := fun E Q r => by
  refine SeqAt.rcP_lists (e := fun j => bs.getD j false) h1 k1 (by simp; omega) hA (fun j j1 j2 => ?_) E Q ?_
  · simp at j1 j2
    obtain ⟨b', e1, e2⟩ := eqL_at L j (us[j], ts[j]) (by simp [List.getElem?_zip_eq_some, j1, j2])
    have : bs.getD j false = b' := by simp [List.getD, e1]
    simp only [this]
    simpa using e2
  · rw [range_all bs _ us.toArray.size (by simp; omega) (fun j hj => by simp at hj; rw [List.getElem?_eq_getElem (by omega)]; simp [List.getD, List.getElem?_eq_getElem (show j < bs.length by omega)])]
    exact r
theorem rcY (I : Inv X pins σ H s) : ∀ (n : Nat) (A : Around), A.units + n < cLine -> ∀ (d e : D) (x y : V) (v u : Value) (b : Bool), Rep X.K cl H x d -> Rep X.K cl H y e -> RelV x v -> RelV y u -> eqY n d e = some b -> RcP X.prog X.w A s v u b := by
  intro n
  induction n with
  | zero =>
    intro A hu d e x y v u b r1 r2 rv ru h
    have hA : A.units < cLine := by omega
    rcases eqY_cases h with ⟨a, c, rfl, rfl, rfl⟩ | ⟨a, rfl, rfl, rfl⟩ | ⟨a, rfl, rfl, rfl⟩ | ⟨m, _, _, hm, _⟩ | ⟨m, _, _, hm, _⟩ | ⟨p1, p2, rfl⟩
    · obtain rfl := r1.toByt; obtain rfl := r2.toByt
      obtain ⟨t, rfl⟩ := rv; obtain ⟨t2, rfl⟩ := ru
      exact fun E Q q => DLC.rc_bytes hA q
    · obtain rfl := r1.toByt; obtain rfl := r2.toNon
      obtain ⟨t, rfl⟩ := rv; cases (show u = Value.none from ru)
      exact fun E Q q => DLC.rc_bytes_none q
    · obtain rfl := r1.toNon; obtain rfl := r2.toByt
      obtain ⟨t, rfl⟩ := ru; cases (show v = Value.none from rv)
      exact fun E Q q => DLC.rc_none_bytes q
    · cases hm
    · cases hm
    · exact rcX I 0 A hu d e v u (side_of I r1 p1 rv) (side_of I r2 p2 ru) p1 p2
  | succ n ih =>
    intro A hu d e x y v u b r1 r2 rv ru h
    have hA : A.units < cLine := by omega
    have ihE : ∀ (d e : D) (x y : V) (v u : Value) (b : Bool), Rep X.K cl H x d -> Rep X.K cl H y e -> RelV x v -> RelV y u -> eqY n d e = some b -> EqP X.prog X.w A.in1 s v u b := fun d e x y v u b r1 r2 rv ru h =>
      eqP_of_rcY rv r1 (ih A.in1 (by show A.units + 1 + n < cLine; omega) d e x y v u b r1 r2 rv ru h) fun z => by
        subst z
        obtain rfl := relV_inj rv ru
        exact sameY I n d e x v b rv r1 r2 h
    rcases eqY_cases h with ⟨a, c, rfl, rfl, rfl⟩ | ⟨a, rfl, rfl, rfl⟩ | ⟨a, rfl, rfl, rfl⟩ | ⟨m, xs, ys, hm, rfl, rfl, h2⟩ | ⟨m, xs, ys, hm, rfl, rfl, h2⟩ | ⟨p1, p2, rfl⟩
    · obtain rfl := r1.toByt; obtain rfl := r2.toByt
      obtain ⟨t, rfl⟩ := rv; obtain ⟨t2, rfl⟩ := ru
      exact fun E Q q => DLC.rc_bytes hA q
    · obtain rfl := r1.toByt; obtain rfl := r2.toNon
      obtain ⟨t, rfl⟩ := rv; cases (show u = Value.none from ru)
      exact fun E Q q => DLC.rc_bytes_none q
    · obtain rfl := r1.toNon; obtain rfl := r2.toByt
      obtain ⟨t, rfl⟩ := ru; cases (show v = Value.none from rv)
      exact fun E Q q => DLC.rc_none_bytes q
    · cases hm
      obtain ⟨a, vs, rfl, h3, h4⟩ := r1.toLst
      obtain ⟨a', ws, rfl, h5, h6⟩ := r2.toLst
      cases (show v = Value.ref a from rv)
      cases (show u = Value.ref a' from ru)
      obtain ⟨us, r3, p3, _⟩ := I.list h3
      obtain ⟨ts, r4, p4, _⟩ := I.list h5
      have l1 := r3.length
      have l2 := r4.length
      have l3 := h4.length
      have l4 := h6.length
      rcases h2 with ⟨hl, h2⟩ | ⟨hn, rfl⟩
      · obtain ⟨bs, L, hz, rfl⟩ := eqL_Y ihE r3 h4 r4 h6 h2
        have e : (bs.all id && xs.length == ys.length) = bs.all id := by simp [hl]
        rw [e]
        exact rc_lstsY p3.isList p4.isList (by omega) L (by omega) hA
      · exact .of (.lists_lengths p3.isList p4.isList (by simp; omega) hA)
    · cases hm
      obtain ⟨a, vs, rfl, h3, h4⟩ := r1.toTup
      obtain ⟨a', ws, rfl, h5, h6⟩ := r2.toTup
      cases (show v = Value.ref a from rv)
      cases (show u = Value.ref a' from ru)
      obtain ⟨us, r3, p3, _⟩ := I.tuple h3
      obtain ⟨ts, r4, p4, _⟩ := I.tuple h5
      have l1 := r3.length
      have l2 := r4.length
      have l3 := h4.length
      have l4 := h6.length
      obtain ⟨bs, L, hz, rfl⟩ := eqL_Y ihE r3 h4 r4 h6 h2
      have r := rcp_tups (A := A) bs p3 p4 hA L
      simp only [List.size_toArray] at r
      rw [<- l1, <- l2, l3, l4] at r
      exact r
    · exact rcX I (n + 1) A hu d e v u (side_of I r1 p1 rv) (side_of I r2 p2 ru) p1 p2
@[simp] def bEqY : DB2 := fun d e _ M Q _ => ∃ d' e' n b, Dv M d d' /\ Dv M e e' /\ n <= 60 /\ eqY n d' e' = some b /\ Q (.bl b) M
@[simp] def bNeY : DB2 := fun d e _ M Q _ => ∃ d' e', Dv M d d' /\ Dv M e e' /\ ((∃ a b, d' = .byt a /\ e' = .byt b /\ Q (.bl (a != b)) M) \/ (∃ a, d' = .byt a /\ e' = .non /\ Q (.bl true) M) \/ (∃ a, d' = .non /\ e' = .byt a /\ Q (.bl true) M) \/
  ∃ xs ys n b, d' = .lst xs /\ e' = .lst ys /\ n <= 60 /\ eqY (n + 1) d' e' = some b /\ Q (.bl (!b)) M)
theorem bin_neY {W : WX} (hu : X.A.units + 64 < cLine) : BinG cl X W (compareOp .NotEq) bNeY := fun pins s σ H F ρ M v u x y d e Q Qd Xd I rx ry g sl r1 r2 q p w => by
  obtain ⟨d', e', t1, t2, q⟩ := q
  have r1 := rep_deep g t1 r1
  have r2 := rep_deep g t2 r2
  have hA : X.A.units < cLine := by omega
  rcases q with ⟨a, b, rfl, rfl, q⟩ | ⟨a, rfl, rfl, q⟩ | ⟨a, rfl, rfl, q⟩ | ⟨xs, ys, n, b, rfl, rfl, hn, h, q⟩
  · obtain rfl := r1.toByt; obtain rfl := r2.toByt
    obtain ⟨t, rfl⟩ := rx; obtain ⟨t2, rfl⟩ := ry
    exact DLC.rcn_bytes hA ⟨.bl _, H, I, rfl, p.val g (.bl _) q⟩
  · obtain rfl := r1.toByt; obtain rfl := r2.toNon
    obtain ⟨t, rfl⟩ := rx; cases (show u = Value.none from ry)
    exact DLC.rcn_bytes_none ⟨.bl _, H, I, rfl, p.val g (.bl _) q⟩
  · obtain rfl := r1.toNon; obtain rfl := r2.toByt
    obtain ⟨t, rfl⟩ := ry; cases (show v = Value.none from rx)
    exact DLC.rcn_none_bytes ⟨.bl _, H, I, rfl, p.val g (.bl _) q⟩
  · obtain ⟨a, vs, rfl, h3, h4⟩ := r1.toLst
    obtain ⟨a', ws, rfl, h5, h6⟩ := r2.toLst
    cases (show v = Value.ref a from rx)
    cases (show u = Value.ref a' from ry)
    obtain ⟨us, r3, p3, _⟩ := I.list h3
    obtain ⟨ts, r4, p4, _⟩ := I.list h5
    have l1 := r3.length
    have l2 := r4.length
    have l3 := h4.length
    have l4 := h6.length
    have fin : EP X pins σ Q (.bool (!b)) s := ⟨.bl _, H, I, rfl, p.val g (.bl _) q⟩
    have ihE : ∀ (d e : D) (x y : V) (v u : Value) (b : Bool), Rep X.K cl H x d -> Rep X.K cl H y e -> RelV x v -> RelV y u -> eqY n d e = some b -> EqP X.prog X.w X.A.in1 s v u b := fun d e x y v u b r1 r2 rv ru h =>
      eqP_of_rcY rv r1 (rcY I n X.A.in1 (by show X.A.units + 1 + n < cLine; omega) d e x y v u b r1 r2 rv ru h) fun z => by
        subst z
        obtain rfl := relV_inj rv ru
        exact sameY I n d e x v b rv r1 r2 h
    by_cases hl : xs.length = ys.length
    · have h2 : eqYs n xs ys = some b := by rw [eqY, if_pos hl] at h; exact h
      obtain ⟨bs, L, hz, rfl⟩ := eqL_Y ihE r3 h4 r4 h6 h2
      have e : (bs.all id && xs.length == ys.length) = bs.all id := by simp [hl]
      rw [e] at fin
      obtain ⟨⟨c1, d1, x1, s1⟩, ho, hc, m1, hd⟩ := id p3.isList
      obtain ⟨⟨c2, d2, x2, s2⟩, ho2, hc2, m2, hd2⟩ := id p4.isList
      simp only at hc hd hc2 hd2
      subst hc hd hc2 hd2
      exact wpAny_richCompare_same_room (op := .NotEq) ⟨_, ho, rfl⟩ ⟨_, ho2, rfl⟩ PySem.F.slot_list_ne (call_meetsIn PySem.F.slot_list_ne ⟨_, ho, rfl⟩ PySem.F.entry_list_ne (PySem.F.args_list_ne_2 _ _) (lst_ne a a' us.toArray ts.toArray m1 m2 d1 d2 s1 s2 (by simp; omega) bs)
        ⟨ho, ho2, L, show Value.bool _ ≠ Value.notImplemented /\ EP X pins σ Q (.bool _) s from ⟨(fun z => nomatch z), fin⟩⟩) hA
    · have e : b = false := by rw [eqY, if_neg hl] at h; exact (Option.some.inj h).symm
      subst e
      exact RcNeAt.lists_lengths p3.isList p4.isList (by simp; omega) hA _ _ _ _ fin
end
end DL
set_option Elab.async false
set_option linter.all false
set_option maxRecDepth 100000
set_option maxHeartbeats 4000000
set_option autoImplicit false
namespace DL
open PySem L2 PyProof.Rows
section
variable {X : Cx} {a b c : Expr} {ta : TA} {p1 p2 p3 p4 : Pos}
end
def rgD (a c : Int) (n : Nat) : List D := (List.range n).map fun i => D.int (a + (i : Nat) * c)
@[simp] def dListRg3 (α : DTA) : DTE := fun ρ M Q X => α ρ M (fun ds M1 => ∃ (i j k : Int) (n : Nat), ds = [.int i, .int j, .int k] /\ RgC i j k n /\ n <= 2 ^ 24 /\ Q (.lst (rgD i k n)) M1) X
@[simp] def iR3 (α : DTA) : DTI := fun ρ M R X => α ρ M (fun ds M1 => ∃ (i j k : Int) (n : Nat), ds = [.int i, .int j, .int k] /\ RgC i j k n /\ R (rgD i k n) M1) X
section
variable {cl : ClW} {X : Cx} {W : WX} {a b c : Expr} {α : DTA} {p1 p2 p3 p4 p pos : Pos}
end
end DL
set_option Elab.async false
set_option linter.all false
set_option maxRecDepth 100000
set_option maxHeartbeats 4000000
set_option autoImplicit false
namespace FL
open PySem L2 DL
def bA (l : List Nat) : Array UInt8 := (l.map UInt8.ofNat).toArray
def bD (l : List Nat) : D := .byt (bA l)
def N8 (l : List Nat) : Prop := ∀ n ∈ l, n < 256
theorem N8.cons {a : Nat} {l : List Nat} : N8 (a :: l) ↔ a < 256 /\ N8 l := by simp [N8]
theorem N8.nil : N8 [] := fun _ h => nomatch h
theorem N8.app {l m : List Nat} : N8 (l ++ m) ↔ N8 l /\ N8 m := by
  constructor
  · intro h; exact ⟨fun n hn => h n (List.mem_append_left _ hn), fun n hn => h n (List.mem_append_right _ hn)⟩
  · rintro ⟨h1, h2⟩ n hn
    rcases List.mem_append.mp hn with z | z
    · exact h1 n z
    · exact h2 n z
theorem N8.one {a : Nat} (h : a < 256) : N8 [a] := N8.cons.mpr ⟨h, N8.nil⟩
@[simp] theorem bA_size (l : List Nat) : (bA l).size = l.length := by simp [bA]
theorem u8_nat {n : Nat} (h : n < 256) : (UInt8.ofNat n).toNat = n := by rw [UInt8.toNat_ofNat']; exact Nat.mod_eq_of_lt h
theorem bA_nat {l : List Nat} (h : N8 l) : (bA l).toList.map UInt8.toNat = l := by
  unfold bA
  simp only [List.map_map]
  induction l with
  | nil => rfl
  | cons a l ih =>
    obtain ⟨h1, h2⟩ := N8.cons.mp h
    rw [List.map_cons, ih h2]
    congr 1
    exact u8_nat h1
theorem byteArr_bA (l : List Nat) : byteArr (l.map fun (n : Nat) => (n : Int)) = bA l := by
  unfold byteArr bA
  rw [List.map_map]
  rfl
theorem pk_toN (l : List Nat) (k : Nat) : PySem.W.KBy.picked (bA l) none (some (k : Int)) = bA (l.take k) := by
  rw [PySem.W.KBc.picked_eq]
  show (((bA l).toList.drop 0).take (clipAt (bA l).size (k : Int) - 0)).toArray = bA (l.take k)
  rw [clipAt_nat, bA_size]
  unfold bA
  simp only [List.drop_zero, Nat.sub_zero, <- List.map_take]
  congr 2
  rw [List.take_eq_take_iff]
  omega
theorem pk_midN {l : List Nat} {i j : Nat} (hi : i <= l.length) (hj : j <= l.length) : PySem.W.KBy.picked (bA l) (some (i : Int)) (some (j : Int)) = bA ((l.drop i).take (j - i)) := by
  unfold bA
  rw [L2.pk_mid (by simpa using hi) (by simpa using hj)]
  simp only [<- List.map_drop, <- List.map_take]
theorem slB_mid {l : List Nat} {i j : Nat} (hi : i <= l.length) (hj : j <= l.length) (h : l.length <= 16777216) : slB (bD l) (some (i : Int)) (some (j : Int)) = some (bD ((l.drop i).take (j - i))) := by
  show (if (bA l).size <= 16777216 then _ else _) = _
  rw [if_pos (by simpa using h), pk_midN hi hj]; rfl
theorem bA_get {l : List Nat} {i a : Nat} (h : l[i]? = some a) : (bA l)[i]? = some (UInt8.ofNat a) := by simp [bA, h]
theorem ixB_last {l : List Nat} {a : Nat} (h : l.getLast? = some a) (k : N8 l) (hl : l.length <= 16777216) : ixB (bD l) (.int (-1)) = some (.int (a : Int)) := by
  rw [List.getLast?_eq_getElem?] at h
  have hi : l.length - 1 < l.length := (List.getElem?_eq_some_iff.mp h).1
  have e : seqIndex? (-1) (bA l).size = some (l.length - 1) := by
    have h0 : (-1 : Int) < 0 := by decide
    have h1 : 0 <= (-1 : Int) + (l.length : Int) := by omega
    have h2 : (-1 : Int) + (l.length : Int) < (l.length : Int) := by omega
    simp only [seqIndex?, bA_size, if_pos h0, h1, h2, decide_true, Bool.and_self, if_true]
    congr 1
    omega
  show (if (bA l).size <= 16777216 then _ else _) = _
  rw [if_pos (by simpa using hl), e]
  simp only [Option.bind_some, bA_get h, Option.map_some]
  rw [u8_nat (k a (List.mem_of_getElem? h))]
theorem wkD_bD {l : List Nat} (h : N8 l) : wkD (bD l) = some (l.map fun (n : Nat) => D.int (n : Int)) := by
  show some ((bA l).toList.map fun c => D.int (c.toNat : Nat)) = _
  have e := bA_nat h
  rw [show ((bA l).toList.map fun c => D.int (c.toNat : Nat)) = ((bA l).toList.map UInt8.toNat).map fun (n : Nat) => D.int (n : Int) by rw [List.map_map]; rfl, e]
theorem lenF_bD {l : List Nat} (h : l.length <= 16777216) : lenF [bD l] = some (.int l.length) := by
  show (if (bA l).size <= sizeLine then _ else _) = _
  rw [if_pos (by rw [sizeLine_eq]; simpa using h), bA_size]
def Lab (l : List Nat) : Prop := ∃ p e, l = p ++ [e] /\ (∀ x ∈ p, x % 2 = 1 /\ x < 256) /\ e % 2 = 0 /\ 0 < e /\ e < 256
theorem Lab.n8 {l : List Nat} (h : Lab l) : N8 l := by
  obtain ⟨p, e, rfl, h1, h2, h3, h4⟩ := h
  exact N8.app.mpr ⟨fun n hn => (h1 n hn).2, N8.one h4⟩
abbrev Op := Option (List Nat)
structure Pair (low high : Op) : Prop where
  lo : ∀ l, low = some l -> Lab l
  hi : ∀ h, high = some h -> Lab h
  lt : ∀ l h, low = some l -> high = some h -> l < h
end FL
set_option Elab.async false
set_option linter.all false
set_option maxRecDepth 100000
set_option maxHeartbeats 4000000
set_option autoImplicit false
namespace DL
open PySem L2 PyProof.Rows
section
variable {X : Cx} {a b : Expr} {ta : TA} {p1 p2 p3 p4 : Pos}
end
@[simp] def dListRg2 (α : DTA) : DTE := fun ρ M Q X => α ρ M (fun ds M1 => ∃ (i j : Int) (n : Nat), ds = [.int i, .int j] /\ RgC i j 1 n /\ n <= 2 ^ 24 /\ Q (.lst (rgD i 1 n)) M1) X
section
variable {cl : ClW} {X : Cx} {W : WX} {a b : Expr} {α : DTA} {p1 p2 p3 p4 p pos : Pos}
end
end DL
set_option Elab.async false
set_option linter.all false
set_option maxRecDepth 100000
set_option maxHeartbeats 4000000
set_option autoImplicit false
namespace DL
open PySem L2 PySem.W
end DL
set_option Elab.async false
set_option linter.all false
set_option maxRecDepth 100000
set_option maxHeartbeats 4000000
set_option autoImplicit false
namespace DL
open PySem PySem.Spec PyProof.Rows L2 LamX
abbrev lamFd (q : Str) (params : Arguments) (body : Expr) (scope : Scope) (clo : List (Str × Addr)) (dV doc pm cv ctv : Value) : FuncData := PySem.W.kdv_fn "<lambda>" q params (.expr body) scope clo dV doc pm cv ctv
inductive LamDf (params : Arguments) (body : Expr) (scope : Scope) (env : PySem.Env) : Prop
  | no : defaultsOf params env = ([], []) -> (∀ (q : Str) (cl : List (Str × Addr)) (pm cv ctv : Value), bindArgs (lamFd q params body scope cl .none .none pm cv ctv) ⟨[], []⟩ = pure []) -> LamDf params body scope env
  | one (y : Str) (i : Int) (j : Nat) (p : Pos) : defaultsOf params env = ([eval (.Constant (.int i) j p) env], []) -> scope.names.lookup y = some .local ->
      (∀ (q : Str) (cl : List (Str × Addr)) (doc pm cv ctv : Value) (T : Addr) (t : Tok), ∃ k, bindArgs (lamFd q params body scope cl (.ref T) doc pm cv ctv) ⟨[], []⟩ = seqItems? (.ref T) >>= k /\ k (some #[.int i t]) = pure [(y, .int i t)]) -> LamDf params body scope env
def KpO (fs : List Addr) (H : Hp) (s s2 : Shared) : Prop := ∀ b o, s.heap.get? b = some o -> H b = none -> b ∉ fs -> s2.heap.get? b = some o
def BindsL (fs : List Addr) (H : Hp) (s : Shared) (scope : Scope) (fd : FuncData) : Prop := ∀ s2, KpO fs H s s2 -> ∃ bs : List (Str × Value), (∀ b ∈ bs, scope.names.lookup b.1 = some .local) /\
  ∀ (M : Model) (A : Around) (E : Value -> Shared -> Prop) (R : List (Str × Value) -> Shared -> Prop), R bs s2 -> wpAny M A (bindArgs fd ⟨[], []⟩) R E s2
section
variable {X : Cx} {pins : List (Addr × Obj)} {σ : L2.St} {H : Hp} {s : Shared}
theorem lam_makeD {T : List (Addr × Str)} {c P : Addr} {params : Arguments} {body : Expr} {scope : Scope} {pos : Pos} {Q : Value -> Shared -> Prop} (I : Inv X pins σ H s) (TB : TabB X.base X.mg c P) (hcode : X.env.code = .ref c)
    (hm : (P, X.env.qual ++ "<lambda>") ∈ T) (hu : ∀ p ∈ T, p.1 = P -> p.2 = X.env.qual ++ "<lambda>") (hT : Tabs T H) (df : LamDf params body scope X.env) (hfree : ∀ y ∈ scope.names, y.2 = .free -> ∃ c, X.env.cells.lookup y.1 = some c)
    (h : ∀ (f c' : Addr) (dV doc pm ctv : Value) (H1 : Hp) (s' : Shared), Inv X pins σ H1 s' -> ExtN H H1 -> Tabs T H1 ->
      s'.heap.get? f = some { cls := .type "function", data := .func (lamFd (X.env.qual ++ "<lambda>") params body scope (cloFrom X.env.cells scope.names []) dV doc pm (.ref c') ctv) } -> H1 f = none -> f ∉ frs X.stack -> H1 c' = some (CodeO c' (X.env.qual ++ "<lambda>")) ->
      BindsL (frs X.stack) H1 s' scope (lamFd (X.env.qual ++ "<lambda>") params body scope (cloFrom X.env.cells scope.names []) dV doc pm (.ref c') ctv) -> Q (.ref f) s') :
    wpAny (model X.prog X.w) X.A (eval (.Lambda params body scope pos) X.env) Q X.xe s := by
  cases df with
  | no hdef hb =>
    refine lam_make2 I TB hcode hm hu hT hdef hfree fun f c' pm ctv H1 s' I1 e t hf hn hfr hc => h f c' .none .none pm ctv H1 s' I1 e t hf hn hfr hc fun s2 _ => ⟨[], (fun _ z => nomatch z), fun M A E R r => ?_⟩
    rw [hb]
    exact wpAny_pure r
  | one y i j p hdef hy hb =>
    obtain ⟨ps, hP0, ht, ha⟩ := hT _ hm
    rw [PySem.arm_eval_Lambda, hdef]
    show wpAny _ _ (do let dv <- evalAll [eval (.Constant (.int i) j p) X.env]; let kdv <- holding dv (evalAllOpt []); makeFunction "<lambda>" (X.env.qual ++ "<lambda>") params (.expr body) scope X.env dv kdv [] pos pos.line) _ _ s
    refine wpAny_bind (wpAny_evalAll_cons (thn ((pe_int (X := X) (i := i) (j := j) (pos := p)).run pins s σ H (fun v H' => v = .int i /\ H' = H) I ⟨rfl, rfl⟩) fun u s0 ⟨v, H', I0, r0, ev, eH⟩ => wpAny_evalAll_nil ?_))
    subst ev eH
    obtain ⟨t, rfl⟩ := r0
    refine wpAny_bind (wpAny_holding (wpAny_pure ?_))
    rw [PySem.makeFunction_eq]
    simp only [List.zip_nil_right, List.filterMap_nil, List.isEmpty_nil, List.isEmpty_cons, if_true, pure_bind, Bool.false_eq_true, if_false]
    refine wpAny_bind (wpAny_newTextTuple ?_)
    have IT : Inv X pins σ H' { s0 with heap := s0.heap.push { cls := .type "tuple", data := .seq [Value.int i t].toArray } } := I0.kept (t' := s0.toks) fun b o e => Heap.get?_push_of_some _ e
    have bP : (s0.heap.push { cls := .type "tuple", data := .seq [Value.int i t].toArray }).BuiltinsAt X.mg P := TB.bm.keeps IT.bk
    have hP' := IT.hok P _ hP0
    have tT : (s0.heap.push { cls := .type "tuple", data := .seq [Value.int i t].toArray }).get? s0.heap.objs.size = some { cls := .type "tuple", data := .seq [Value.int i t].toArray } := Heap.get?_push_size _ rfl
    have nT : H' s0.heap.objs.size = none := I0.hok.fresh (Nat.le_refl _)
    have nofr0 : ∀ f, s0.heap.objs.size <= f -> f ∉ frs X.stack := fun f hf z => by
      rcases List.mem_cons.mp (I0.stkSub _ z) with e | e
      · have h1 := I0.lt
        rw [<- e] at h1
        exact Nat.lt_irrefl _ (Nat.lt_of_lt_of_le h1 hf)
      · exact I0.nofs hf e
    have sz0 : s0.heap.objs.size <= (s0.heap.push { cls := .type "tuple", data := .seq [Value.int i t].toArray }).objs.size := by rw [Heap.size_push]; omega
    have bind : ∀ {H1 : Hp} {s1 : Shared} {cl : List (Str × Addr)} {doc pm cv ctv : Value}, H1 s0.heap.objs.size = none -> s1.heap.get? s0.heap.objs.size = some { cls := .type "tuple", data := .seq [Value.int i t].toArray } ->
        BindsL (frs X.stack) H1 s1 scope (lamFd (X.env.qual ++ "<lambda>") params body scope cl (.ref s0.heap.objs.size) doc pm cv ctv) := fun {H1 s1 cl doc pm cv ctv} n1 g1 s2 kp => by
      refine ⟨[(y, .int i t)], fun b hb => by rw [List.mem_singleton.mp hb]; exact hy, fun M A E R r => ?_⟩
      obtain ⟨k, e1, e2⟩ := hb (X.env.qual ++ "<lambda>") cl doc pm cv ctv s0.heap.objs.size t
      rw [e1]
      refine wpAny_bind (wpAny_seqItems (kp _ _ g1 n1 (nofr0 _ (Nat.le_refl _))) rfl ?_)
      show wpAny _ _ (k (some #[.int i t])) _ _ _
      rw [e2]
      exact wpAny_pure r
    cases hc : codeAmong pos ps.toList with
    | none =>
      refine PySem.W.kdv_makeTail (mg := X.mg) (c := c) (P := P) (ps := ps) (closure_ok hfree) IT.ok.glob (IT.mod.glob.keeps IT.bk) hcode (TB.code.keeps IT.bk) hP' ht hc TB.gP bP fun c' ctv doc h' tk hx hge hlt hrec htb => ?_
      obtain ⟨c2, oc, vs, t2, e2, hoc, hd, hv⟩ := hrec
      cases e2
      have hsz : s0.heap.objs.size <= h'.objs.size := Nat.le_trans sz0 (Nat.le_trans hge (Nat.le_of_lt hlt))
      have nC : H' c' = none := IT.hok.fresh hge
      have I1 := inv_table (q := X.env.qual ++ "<lambda>") (t' := tk) (more := #[rawInt pos.line, rawInt pos.col, .ref c']) (h' := h'.push (PySem.W.kdv_obj "<lambda>" (X.env.qual ++ "<lambda>") params (.expr body) scope (cloFrom X.env.cells scope.names []) (.ref s0.heap.objs.size) doc ((X.mg "__name__").getD .none) c' ctv)) IT hP0
        (fun b o hb e => Heap.get?_push_of_some _ (hx b o hb e)) (Heap.get?_push_of_some _ htb) hge ⟨oc, vs, t2, Heap.get?_push_of_some _ hoc, hd, hv⟩
      have hE : ExtN H' (upd (upd H' P (.tbl (ps ++ #[rawInt pos.line, rawInt pos.col, .ref c']))) c' (CodeO c' (X.env.qual ++ "<lambda>"))) := fun b o e n => by
        rw [upd_ne (ne_of_none e nC), upd_ne (fun z => n ps (Option.some.inj (e.symm.trans (by rw [z]; exact hP0))))]
        exact e
      have eL : (ps ++ #[rawInt pos.line, rawInt pos.col, .ref c']).toList = ps.toList ++ [rawInt pos.line, rawInt pos.col, .ref c'] := by simp
      have nP : s0.heap.objs.size ≠ P := fun z => by rw [z, hP0] at nT; cases nT
      have n0 : s0.heap.objs.size ≠ c' := Nat.ne_of_lt (Nat.lt_of_lt_of_le (by rw [Heap.size_push]; omega) hge)
      refine h h'.objs.size c' (.ref s0.heap.objs.size) doc ((X.mg "__name__").getD .none) ctv _ _ I1 hE (fun p hp => ?_) (Heap.get?_push_size _ rfl) ?_ (nofr0 _ hsz) upd_same (bind (by rw [upd_ne n0, upd_ne nP]; exact nT) (Heap.get?_push_of_some _ (hx _ _ nP tT)))
      · by_cases hb : p.1 = P
        · rw [hu p hp hb, hb]
          refine ⟨_, by rw [upd_ne (ne_of_none hP0 nC), upd_same], by rw [eL]; exact PySem.TriplesOk_snoc _ _ _ _ ht, fun p' cv hcv => ?_⟩
          rw [eL] at hcv
          rcases among_app _ ht hcv with z | z
          · obtain ⟨c0, e1, e2⟩ := ha p' cv z
            exact ⟨c0, e1, hE _ _ e2 codeO_ne⟩
          · exact ⟨c', z, upd_same⟩
        · obtain ⟨ps', a1, a2, a3⟩ := hT p hp
          refine ⟨ps', by rw [upd_ne (ne_of_none a1 nC), upd_ne hb]; exact a1, a2, fun p' cv hcv => ?_⟩
          obtain ⟨c0, e1, e2⟩ := a3 p' cv hcv
          exact ⟨c0, e1, hE _ _ e2 codeO_ne⟩
      · have n1 : h'.objs.size ≠ c' := Nat.ne_of_gt hlt
        have n2 : h'.objs.size ≠ P := Nat.ne_of_gt (Nat.lt_of_lt_of_le (Heap.lt_size hP') (Nat.le_trans hge (Nat.le_of_lt hlt)))
        rw [upd_ne n1, upd_ne n2]
        exact I0.hok.fresh hsz
    | some cv =>
      obtain ⟨c', e, hco⟩ := ha pos cv hc
      subst e
      refine PySem.W.kdv_makeTailHit (mg := X.mg) (c := c) (P := P) (ps := ps) (closure_ok hfree) IT.ok.glob (IT.mod.glob.keeps IT.bk) hcode (TB.code.keeps IT.bk) hP' ht hc bP fun ctv doc h' tk hx hsz => ?_
      have I1 : Inv X pins σ H' { s0 with heap := h'.push (PySem.W.kdv_obj "<lambda>" (X.env.qual ++ "<lambda>") params (.expr body) scope (cloFrom X.env.cells scope.names []) (.ref s0.heap.objs.size) doc ((X.mg "__name__").getD .none) c' ctv), toks := tk } := IT.kept (t' := tk) fun b o e => Heap.get?_push_of_some _ (hx b o e)
      exact h h'.objs.size c' (.ref s0.heap.objs.size) doc ((X.mg "__name__").getD .none) ctv H' _ I1 (ExtN.refl H') hT (Heap.get?_push_size _ rfl) (I0.hok.fresh (Nat.le_trans sz0 hsz)) (nofr0 _ (Nat.le_trans sz0 hsz)) hco (bind nT (Heap.get?_push_of_some _ (hx _ _ tT)))
end
structure LamS2 (N : List Str) (sc scope : Scope) : Prop where
  kind : scope.kind = .function
  co : scope.isCoroutine = false
  gen : scope.isGenerator = false
  own : ∀ y ∈ scope.names, y.2 ≠ .cell /\ (y.2 = .local -> y.1 ∉ N)
  free : ∀ y ∈ scope.names, y.2 = .free -> sc.names.lookup y.1 = some .cell \/ sc.names.lookup y.1 = some .free
def lamSB2 (N : List Str) (sc scope : Scope) : Bool :=
  decide (scope.kind = .function) && !scope.isCoroutine && !scope.isGenerator && scope.names.all fun y => !decide (y.2 = .cell) && (!decide (y.2 = .local) || !decide (y.1 ∈ N)) && (!decide (y.2 = .free) || decide (sc.names.lookup y.1 = some .cell) || decide (sc.names.lookup y.1 = some .free))
theorem lamS2_by {N : List Str} {sc scope : Scope} (h : lamSB2 N sc scope = true) : LamS2 N sc scope := by
  unfold lamSB2 at h
  simp only [Bool.and_eq_true, Bool.or_eq_true, Bool.not_eq_true', decide_eq_true_eq, decide_eq_false_iff_not, List.all_eq_true] at h
  obtain ⟨⟨⟨h1, h2⟩, h3⟩, h4⟩ := h
  refine ⟨h1, h2, h3, fun y hy => ⟨(h4 y hy).1.1, fun e => ?_⟩, fun y hy e => ?_⟩
  · rcases (h4 y hy).1.2 with z | z
    · exact absurd e z
    · exact z
  · rcases (h4 y hy).2 with (z | z) | z
    · exact absurd e z
    · exact .inl z
    · exact .inr z
theorem LamS2.has {X : Cx} {scope : Scope} (L : LamS2 X.N X.env.scope scope) (ok : X.Ok) : ∀ y ∈ scope.names, y.2 = .free -> ∃ c, X.env.cells.lookup y.1 = some c := fun y hy e => by
  rcases L.free y hy e with k | k
  · exact ok.has _ (.inl k)
  · exact ok.has _ (.inr k)
section
variable {X : Cx} {pins : List (Addr × Obj)} {σ : L2.St} {H HZ : Hp} {s s1 : Shared}
theorem lam_startD {A : Around} {outer : List PySem.Env} {E : XK} {scope : Scope} {f c' : Addr} {h₁ : Heap} {tk : Nat} {mm : Str -> Option Value} (I : Inv X pins σ H s) (L : LamS2 X.N X.env.scope scope) (e0 : Env0 X.prog X.w X.K X.mg X.base A outer s1 HZ) (hd : A.handled = none)
    (un : Un (frs X.stack) [] H HZ s.heap s1.heap) (hns : h₁.Ns s1.heap.objs.size mm) (kp : ∀ b o, s1.heap.get? b = some o -> h₁.get? b = some o) :
    Inv (lamCx X A outer s1 HZ E scope f c') [] σ HZ { s1 with heap := h₁, toks := tk } := by
  have hfree := L.has I.ok
  have cm : ∀ {y c}, (cloFrom X.env.cells scope.names []).lookup y = some c -> X.env.cells.lookup y = some c := fun {y c} e => by
    rcases cloFrom_mem (PySem.mem_of_lookup e) with hm | ⟨h1, h2⟩
    · cases hm
    · obtain ⟨c1, hc⟩ := hfree _ h1 rfl
      have hc : X.env.cells.lookup y = some c1 := hc
      have e2 : c = c1 := by
        rw [h2, hc] <;> rfl
      rw [e2]
      exact hc
  have look : ∀ {y}, scope.names.lookup y = some .free -> ∃ c, (cloFrom X.env.cells scope.names []).lookup y = some c := fun {y} hl => by
    have hy : (y, NameKind.free) ∈ scope.names := PySem.mem_of_lookup hl
    exact mem_lookup (cloFrom_has (cells := X.env.cells) (acc := []) hy)
  have cellK : ∀ {c : Addr} {v : Option Value}, H c = none -> s.heap.IsCell c v -> h₁.IsCell c v := fun {c v} n ⟨o, ho, hd⟩ => by
    obtain ⟨sl, q⟩ := un.any ho n (by simp)
    exact ⟨_, kp _ _ q, hd⟩
  have noA : ∀ b : Addr, b ∉ (lamCx X A outer s1 HZ E scope f c').ex := fun b z => absurd (show b ∈ ([] : List Addr) from z) (by simp)
  refine ⟨⟨e0.mod, L.kind, rfl, rfl, Nat.le_refl _, fun y z c e1 e2 => I.ok.inj y z c (cm e1) (cm e2), fun y hy => ?_, fun y c z _ => ?_, fun _ => hd, Around.frames_deeper e0.frames, .inr ⟨rfl, rfl⟩, fun b z => absurd z (noA b), e0.bs, e0.bsz, fun b _ _ => noA b,
      fun b z => absurd z (noA b), e0.funs, e0.frf⟩,
    rfl, e0.bare, Un.kept kp, ⟨_, hns, fun i y v e1 e2 e3 => ?_⟩, fun y c e => ?_, e0.hok.fresh (Nat.le_refl _), fun y c e => ?_, fun q hq => absurd (show q ∈ ([] : List (Addr × Obj)) ++ [] from hq) (by simp), e0.hok.kept kp, I.len⟩
  · have hy : scope.names.lookup y = some .cell \/ scope.names.lookup y = some .free := hy
    rcases hy with hy | hy
    · exact absurd rfl (L.own _ (PySem.mem_of_lookup hy)).1
    · exact look hy
  · have z : false = true := z
    cases z
  · have e3 : Vis scope y := e3
    rcases e3 with k | k | k
    · exact absurd (List.mem_of_getElem? (show X.N[i]? = some y from e1)) ((L.own _ (PySem.mem_of_lookup k)).2 rfl)
    · exact absurd rfl (L.own _ (PySem.mem_of_lookup k)).1
    · obtain ⟨m, hn, hl⟩ := I.loc
      have hvis : Vis X.env.scope y := (L.free _ (PySem.mem_of_lookup k) rfl).elim (fun k => .inr (.inl k)) (fun k => .inr (.inr k))
      obtain ⟨w', r, q⟩ := hl i y v e1 e2 hvis
      obtain ⟨c2, h2⟩ := look k
      refine ⟨w', r, .inr ⟨.inr k, c2, h2, ?_⟩⟩
      have c1 := cm h2
      rcases q with ⟨k', _⟩ | ⟨_, c3, e', z⟩
      · have k' : X.env.scope.names.lookup y = some .local := k'
        rcases L.free _ (PySem.mem_of_lookup k) rfl with k2 | k2 <;> rw [show X.env.scope.names.lookup y = _ from k2] at k' <;> cases k'
      · rw [c1] at e'
        cases e'
        exact cellK (I.freeC y _ c1) z
  · obtain ⟨w', z⟩ := I.cell y c (cm e)
    exact ⟨w', cellK (I.freeC y c (cm e)) z⟩
  · obtain ⟨v, o, ho, hd⟩ := I.cell y c (cm e)
    exact un.free c o ho (I.freeC y c (cm e)) (by simp)
end
theorem slots_pack {K : PySem.W.Frag} {cl : ClW} {F0 : Hp} : ∀ {ρ : DL.Env} {σ : L2.St}, Slots K cl F0 σ ρ -> ∃ vs ds, Reps K cl F0 vs ds /\ ∀ F, Reps K cl F vs ds -> Slots K cl F σ ρ
  | [], σ, h => ⟨[], [], .nil, fun F _ => ⟨h.len, fun i d e => by simp at e⟩⟩
  | o :: ρ, [], h => by have := h.len; simp at this
  | o :: ρ, u :: σ, h => by
    obtain ⟨vs, ds, r, k⟩ := slots_pack (ρ := ρ) (σ := σ) ⟨by have := h.len; simpa using this, fun i d e => by
      have := h.get (i + 1) d (by simpa using e)
      simpa using this⟩
    cases o with
    | none =>
      refine ⟨vs, ds, r, fun F rF => ⟨h.len, fun i d e => ?_⟩⟩
      cases i with
      | zero => simp at e
      | succ i =>
        have := (k F rF).get i d (by simpa using e)
        simpa using this
    | some d0 =>
      obtain ⟨v, e1, r1⟩ := h.get 0 d0 rfl
      obtain rfl : u = some v := by simpa using e1
      refine ⟨v :: vs, d0 :: ds, .cons r1 r, fun F rF => ?_⟩
      obtain ⟨v2, ws, e2, r2, r3⟩ := rF.inv
      obtain ⟨rfl, rfl⟩ := List.cons.inj e2
      refine ⟨h.len, fun i d e => ?_⟩
      cases i with
      | zero =>
        simp at e
        subst e
        exact ⟨v, rfl, r2⟩
      | succ i =>
        have := (k F r3).get i d (by simpa using e)
        simpa using this
abbrev THD := Mem -> DV -> DEK -> Prop
def dAct (i : Nat) (d0 : D) (TH : THD) : DTE := fun ρ M Q X => ρ[i]? = some (some d0) /\ TH M Q (fun c ns es M2 => X c ns es ρ M2)
theorem Rep.toThk {K : PySem.W.Frag} {cl : ClW} {F : Hp} {v : V} {f c : Addr} {q : Str} {vs : List V} {ds : List D} (h : Rep K cl F v (.thk f c q vs ds)) : v = .ref f /\ F c = some (CodeO c q) /\ Reps K cl F vs ds := by
  cases h with
  | thk h1 h2 => exact ⟨rfl, h1, h2⟩
section
variable {cl : ClW} {X : Cx} {pins : List (Addr × Obj)} {σ : L2.St} {H : Hp} {s : Shared}
theorem d_act {Eg : XK} {Ng : List Str} {qg : Str} {sg : Scope} {g f c' : Addr} {cdg dV doc pm ctv : Value} {params : Arguments} {body : Expr} {scope : Scope} {k i : Nat} {a : Str} {pn : List (Addr × Obj)} {xe : Value -> Shared -> Prop} {W : WX} {τ : DTE} {p1 p2 : Pos} {vs : List V} {ds : List D} {ρ0 : DL.Env}
    (I : Inv X pins σ H s) (L : LamS2 X.N X.env.scope scope) (hf : s.heap.get? f = some { cls := .type "function", data := .func (lamFd (X.env.qual ++ "<lambda>") params body scope (cloFrom X.env.cells scope.names []) dV doc pm (.ref c') ctv) }) (hfn : H f = none) (hfr : f ∉ frs X.stack)
    (hb : BindsL (frs X.stack) H s scope (lamFd (X.env.qual ++ "<lambda>") params body scope (cloFrom X.env.cells scope.names []) dV doc pm (.ref c') ctv)) (pk : ∀ F, Reps X.K cl F vs ds -> Slots X.K cl F σ ρ0)
    (cZ : Cap ((cxOf (L2.CX X.prog X.w) X.prog X.w X.K X.mg X.base Ng qg sg g cdg X.A X.stack s H Eg).tr pn xe) W (k + 1))
    (hbody : ∀ (A : Around) (outer : List PySem.Env) (s : Shared) (H : Hp) (E : XK), Cap (lamCx X A outer s H E scope f c') (fun cls d _ H => E cls d H) k -> DE cl (lamCx X A outer s H E scope f c') (fun cls d _ H => E cls d H) body τ)
    (hN : Ng[i]? = some a) (hv : Vis sg a) (hd : (a == ("__debug__" : Str)) = false := by decide) (hcd : (a == ("__classdict__" : Str)) = false := by decide) :
    DE cl ((cxOf (L2.CX X.prog X.w) X.prog X.w X.K X.mg X.base Ng qg sg g cdg X.A X.stack s H Eg).tr pn xe) W (.Call (.Name a p1) [] [] p2) (dAct i (.thk f c' (X.env.qual ++ "<lambda>") vs ds) (fun M Q E => τ ρ0 M Q (fun c ns es _ M2 => E c ns es M2))) := by
  refine ⟨⟨fun pinsZ sZ σZ HZ Q IZ ⟨F, ρ, M, Qd, Xd, gd, sl, ⟨h1, t⟩, p, w⟩ => ?_⟩⟩
  obtain ⟨v, e1, rv⟩ := sl.get i _ h1
  obtain ⟨rfl, hcF, rds⟩ := rv.toThk
  have hcZ : HZ c' = some (CodeO c' (X.env.qual ++ "<lambda>")) := gd.sub _ _ hcF
  refine wpAny_Call_Name_kw (thn ((pe_var (pos := p1) (i := i) hN hv hd hcd).run pinsZ sZ σZ HZ (fun v H1 => v = .ref f /\ H1 = HZ) IZ ⟨.ref f, e1, rfl, rfl⟩) fun u s1 ⟨v, H1, I1, r1, q1⟩ => ?_)
  obtain ⟨ev, eH⟩ := q1
  subst ev
  rw [eH] at I1
  obtain rfl : u = Value.ref f := r1
  have kpF : KpO (frs X.stack) H s s1 := fun b o e1 e2 e3 => I1.base.keep b o e1 e2 e3 (fun z => nomatch (show b ∈ ([] : List Addr) from z))
  have of1 := kpF f _ hf hfn hfr
  refine PySem.W.callWith_F0 ⟨_, _, _, _, of1⟩ ?_
  have un : Un (frs X.stack) [] H HZ s.heap s1.heap := I1.base
  obtain ⟨⟨oc, vs2, t2, hoc, hdc, hvc⟩, _, _⟩ := I1.hok c' _ hcZ
  have hr := cZ.hr
  have rc : codeAny (model X.prog X.w) (X.A.deeper (envOfC qg sg s.heap.objs.size g cdg)) (.call (.ref f) ⟨[], []⟩) (CR (L2.CX X.prog X.w) (envOfC qg sg s.heap.objs.size g cdg :: X.stack) X.prog X.w HZ s1 Q (WE W σZ)) s1 := by
    refine PySem.W.kla_callFunE hr.room.depth of1 rfl L.co L.gen rfl ⟨c', oc, vs2, t2, rfl, hoc, hdc, hvc⟩ ?_
    obtain ⟨bs, hbs, hbr⟩ := hb s1 kpF
    refine hbr _ _ _ _ (wpAny_newFunctionEnv (fun y hy => (L.own y hy).1) hbs (fun h₁ hns hsb => ⟨I1.nolimit.fresh _ hsb, ?_⟩) L.kind)
    show codeAny _ _ (.expr body (lamEnv X scope s1.heap.objs.size f c')) _ _
    have kp : ∀ b o, s1.heap.get? b = some o -> h₁.get? b = some o := fun b o e => hsb.extBut b o (Nat.ne_of_lt (Heap.lt_size e)) (Heap.get?_push_of_some _ e)
    have J : Inv (lamCx X (X.A.deeper (envOfC qg sg s.heap.objs.size g cdg)) (envOfC qg sg s.heap.objs.size g cdg :: X.stack) s1 HZ (WE W σZ) scope f c') [] σ HZ { s1 with heap := h₁, toks := s1.toks + bs.length } :=
      lam_startD I L I1.env0 hr.room.hd un hns kp
    have hq : lowE X.K cl (fun cls d _ H => WE W σZ cls d H) τ σ HZ Q := ⟨F, ρ0, M, Qd, _, gd, pk F rds, t, p, fun c ns es σ' H' F' ρ' M' dd sm g' s' ea q' => w c ns es σZ H' F' ρ M' dd sm g' (sl.mono sm) ea q'⟩
    refine PySem.W.kla_codeExpr (wpAny_mono ((hbody _ _ s1 HZ (WE W σZ) ⟨takes_of rfl rfl rfl rfl, hr.deeper _, passes_of rfl, rfl⟩).pe.run [] _ _ HZ Q J hq) (fun v s' hq => ?_) fun e s' hq => hq)
    obtain ⟨w', H', J', rv, q⟩ := hq
    exact ⟨w', H', J'.os, J'.bare, J'.base, J'.hok, rv, q⟩
  refine wpAny_call (codeAny_mono rc fun r s' hq => ?_)
  cases r with
  | error e => exact passAt cZ.tk σZ pinsZ HZ s1 e s' I1 hq
  | ok fl =>
    cases fl with
    | ret u => exact I1.after hq
    | next => exact False.elim hq
    | brk => exact False.elim hq
    | cont => exact False.elim hq
end
def FnTG (cl : ClW) (P : Program) (w : World) (K : PySem.W.Frag) (mg : Str -> Option Value) (base : Heap) (k : Nat) (g : Addr) (fd : FuncData) (a : Str) (spT : THD -> THD) : Prop :=
  ∀ (A : Around) (outer : List PySem.Env) (s : Shared) (H : Hp) (args : Args) (f : Addr) (Q : VK) (E : XK) (d0 : D) (TH : THD) (F0 : Hp) (M : Mem) (Qd : DV) (Ed : DEK), RoomG (k + 1) A -> Env0 P w K mg base A outer s H -> BindsTo s fd args ([a].zip [.ref f]) -> Good K cl F0 H M -> Rep K cl F0 (.ref f) d0 ->
    (∀ (Ng : List Str) (qg : Str) (sg : Scope) (cdg : Value) (Eg : XK) (W : WX) (pn : List (Addr × Obj)) (xe : Value -> Shared -> Prop) (p1 p2 : Pos), Cap ((cxOf (L2.CX P w) P w K mg base Ng qg sg g cdg A outer s H Eg).tr pn xe) W k -> Ng[0]? = some a -> Vis sg a ->
      DE cl ((cxOf (L2.CX P w) P w K mg base Ng qg sg g cdg A outer s H Eg).tr pn xe) W (.Call (.Name a p1) [] [] p2) (dAct 0 d0 TH)) ->
    spT TH M Qd Ed -> Post K cl F0 Q Qd -> EOk K cl F0 E Ed -> codeAny (model P w) A (.call (.ref g) args) (CR (L2.CX P w) outer P w H s Q E) s
def FnTB (cl : ClW) (P : Program) (w : World) (K : PySem.W.Frag) (mg : Str -> Option Value) (base : Heap) (k : Nat) (x a : Str) (spT : THD -> THD) : Prop :=
  ∃ g fd, mg x = some (.ref g) /\ PySem.W.keepIn K (.ref g) = true /\ Binds K fd [a] [] /\ FnTG cl P w K mg base k g fd a spT
section
variable {cl : ClW} {P : Program} {w : World} {K : PySem.W.Frag} {mg : Str -> Option Value} {base : Heap} {k : Nat} {f : Addr} {x qual a : Str} {params : Arguments} {body : List Stmt} {scope : Scope} {fd : FuncData} {N : List Str} {spT : THD -> THD} {t : D -> THD -> DTS}
theorem fn_dT (F : FunD K x qual params body scope [] [] f fd) (S : FnScope N [a] scope) (hN : N[0]? = some a) (hv : Vis scope a)
    (hbody : ∀ (cdv : Value) (A : Around) (outer : List PySem.Env) (s : Shared) (H : Hp) (E : XK) (d0 : D) (TH : THD), Cap (cxOf (L2.CX P w) P w K mg base N qual scope f cdv A outer s H E) (fun cls d _ H => E cls d H) k ->
      (∀ (W : WX) (pn : List (Addr × Obj)) (xe : Value -> Shared -> Prop) (p1 p2 : Pos), Cap ((cxOf (L2.CX P w) P w K mg base N qual scope f cdv A outer s H E).tr pn xe) W k -> DE cl ((cxOf (L2.CX P w) P w K mg base N qual scope f cdv A outer s H E).tr pn xe) W (.Call (.Name a p1) [] [] p2) (dAct 0 d0 TH)) ->
      DSs cl (cxOf (L2.CX P w) P w K mg base N qual scope f cdv A outer s H E) (fun cls d _ H => E cls d H) body (t d0 TH))
    (hsp : ∀ d0 TH M Q E, spT TH M Q E -> t d0 TH (dEnds Q E) (startD N [d0]) M) : FnTG cl P w K mg base k f fd a spT := by
  intro A outer s H args fa Q E d0 TH F0 M0 Qd Ed hr e0 hb g0 r0 act q0 p0 ep0
  obtain ⟨oc, od, dV, kV, doc, pm, an, cdv, ct, osl, rfl, lk, hcd, _, _⟩ := F.ex
  have hr' := hr.deeper (PyProof.Rows.envOfC qual scope s.heap.objs.size f cdv)
  have KX : K.In s.heap := e0.mod.kin.keeps fun b o e => (e0.bs b o e).1
  have lim : s.heap.NoLimit := e0.mod.nolimit.keeps fun b o e => (e0.bs b o e).1
  have hkind : ∀ y ∈ [a].zip [Value.ref fa], scope.names.lookup y.1 = some .local \/ (scope.names.lookup y.1 = some .cell /\ ((cellsFrom (s.heap.objs.size + 1) scope.names []).lookup y.1).isSome = true) := fun ⟨n, v⟩ hy => by
    rcases S.par n (List.of_mem_zip hy).1 with q | q
    · exact .inl q
    · exact .inr ⟨q, PySem.W.cellsFrom_some _ _ _ (.inl q)⟩
  refine codeAny_call_function hr.room.depth (KX _ _ lk) rfl S.co S.gen rfl (PySem.W.codeRec_of KX hcd) (hb _ _ _ _ ?_)
  refine wpAny_newFunctionEnv_cells S.kind hkind fun env he s1 x => ?_
  subst he
  refine ⟨lim.keeps x.toInCall.keep, codeAny_func ?_⟩
  have ht := hbody cdv A outer s H E d0 TH ⟨takes_of rfl rfl rfl rfl, hr', passes_of rfl, rfl⟩ fun W pn xe p1 p2 cZ => act N qual scope cdv E W pn xe p1 p2 cZ hN hv
  have rv : Vals [V.ref fa] [Value.ref fa] := .cons rfl .nil
  have I : Inv (cxOf (L2.CX P w) P w K mg base N qual scope f cdv A outer s H E) [] (L2.start N [V.ref fa]) H s1 := inv_start S hr.room.hd e0 rfl rv x
  have hq : lowS K cl (fun cls d _ H => E cls d H) (t d0 TH) { nx := fun _ H' => Q .non H', rt := Q } (L2.start N [V.ref fa]) H :=
    ⟨F0, startD N [d0], M0, dEnds Qd Ed, g0, slots_start N (.cons r0 .nil), hsp d0 TH M0 Qd Ed q0,
      ⟨fun σ' H' F' ρ' M' sm g' s' q' => p0 _ _ _ _ _ sm g' .non q', p0, fun _ _ _ _ _ _ _ _ q' => q', fun _ _ _ _ _ _ _ _ q' => q', fun c ns ds σ' H' F' ρ' M' dd sm g' s' ea q' => ep0 _ _ _ _ _ _ _ sm g' ea q'⟩⟩
  refine wpAny_mono (ht.pss.run [] s1 (L2.start N [V.ref fa]) H _ I hq) (fun fl s' hs => ?_) fun e s' hs => hs
  have fin : ∀ {σ' : L2.St} {H' : Hp} {v : V} {u : Value}, Inv (cxOf (L2.CX P w) P w K mg base N qual scope f cdv A outer s H E) [] σ' H' s' -> RelV v u -> Q v H' -> CE outer P w H s Q u s' :=
    fun {σ' H' v u} J rv q => ⟨v, H', J.os, J.bare, J.base, J.hok, rv, q⟩
  cases fl with
  | ret u =>
    obtain ⟨v, σ', H', J, rv, q⟩ := hs
    exact fin J rv q
  | next =>
    obtain ⟨σ', H', J, q⟩ := hs
    exact fin (v := V.non) (u := Value.none) J rfl q
  | brk =>
    obtain ⟨_, _, _, q⟩ := hs
    exact False.elim q
  | cont =>
    obtain ⟨_, _, _, q⟩ := hs
    exact False.elim q
end
def dThk (spT : THD -> THD) (τ : DTE) : DTE := fun ρ M Q X => spT (fun M' Q' E' => τ ρ M' Q' (fun c ns es _ M2 => E' c ns es M2)) M Q (fun c ns es M2 => X c ns es ρ M2)
theorem Good.code {K : PySem.W.Frag} {cl : ClW} {F H : Hp} {M : Mem} (g : Good K cl F H M) {c : Addr} {q : Str} (hc : H c = some (CodeO c q)) : Same F (upd F c (CodeO c q)) /\ Good K cl (upd F c (CodeO c q)) H M := by
  have sm : Same F (upd F c (CodeO c q)) := fun b o e => by
    by_cases h : b = c
    · subst h
      have := g.sub _ _ e
      rw [hc] at this
      rw [upd_same]
      exact this
    · rw [upd_ne h]; exact e
  refine ⟨sm, fun b o e => ?_, fun b d h => ?_, g.tab, fun b ps e => ?_⟩
  · by_cases h : b = c
    · subst h
      rw [upd_same] at e
      rw [hc]
      exact e
    · rw [upd_ne h] at e
      exact g.sub _ _ e
  · obtain ⟨h1, h2⟩ := g.cell b d h
    obtain ⟨o, k1, _, k3⟩ := h2.plain
    have hb : b ≠ c := fun z => by
      rw [z, hc] at k1
      exact k3 _ _ (Option.some.inj k1).symm
    exact ⟨by rw [upd_ne hb]; exact h1, h2.mono sm fun o e => e⟩
  · by_cases h : b = c
    · subst h
      rw [upd_same] at e
      exact codeO_ne ps (Option.some.inj e)
    · rw [upd_ne h] at e
      exact g.noT b ps e
section
variable {cl : ClW} {X : Cx} {W : WX} {k : Nat} {x a : Str} {spT : THD -> THD} {τ : DTE} {params : Arguments} {body : Expr} {scope : Scope} {cc P : Addr} {p pos lpos : Pos}
theorem d_lamcall (c : Cap X W (k + 2)) (G : FnTB cl X.prog X.w X.K X.mg X.base (k + 1) x a spT) (hg : Gl X x) (TB : TabB X.base X.mg cc P) (hcode : X.env.code = .ref cc) (hmT : (P, X.env.qual ++ "<lambda>") ∈ tabsOf cl) (hu : ∀ p ∈ tabsOf cl, p.1 = P -> p.2 = X.env.qual ++ "<lambda>")
    (L : LamS2 X.N X.env.scope scope) (df : LamDf params body scope X.env)
    (hbody : ∀ (A : Around) (outer : List PySem.Env) (s : Shared) (H : Hp) (E : XK) (f c' : Addr), Cap (lamCx X A outer s H E scope f c') (fun cls d _ H => E cls d H) k -> DE cl (lamCx X A outer s H E scope f c') (fun cls d _ H => E cls d H) body τ)
    (hdb : (x == ("__debug__" : Str)) = false := by decide) (hd : (a == ("__debug__" : Str)) = false := by decide) (hcd : (a == ("__classdict__" : Str)) = false := by decide) :
    DE cl X W (.Call (.Name x p) [.Lambda params body scope lpos] [] pos) (dThk spT τ) := by
  obtain ⟨g, fd, hm, hk, hbd, G⟩ := G
  refine ⟨⟨fun pins s σ H Q I ⟨F, ρ, M, Qd, Xd, gd, sl, t, pq, w⟩ => ?_⟩⟩
  refine wpAny_Call_Name_kw (ld_glob I hg hm ?_ hdb)
  refine PySem.W.callWith_K (h₀ := X.base) I.ok.mod.kin hk ?_ (by rfl) (by rfl)
  show wpAny _ _ (spliced ((false, eval (.Lambda params body scope lpos) X.env) :: backTo pos (starEach [] X.env))) _ _ s
  refine Calls.spliced_cons (lam_makeD I TB hcode hmT hu gd.tab df (L.has I.ok) fun f c' dV doc pm ctv H1 s' I1 eN T1 hf hfn hfr hco hbl => ?_)
  refine Calls.spliced_nil ⟨I1.kIn, ?_⟩
  obtain ⟨sm, g2⟩ := (gd.extN eN T1).code hco
  obtain ⟨vs, ds, rds, pk⟩ := slots_pack sl
  have rc := G X.A X.stack s' H1 ⟨[.ref f], []⟩ f Q (WE W σ) (.thk f c' (X.env.qual ++ "<lambda>") vs ds) (fun M' Q' E' => τ ρ M' Q' (fun c ns es _ M2 => E' c ns es M2)) _ M Qd (fun c ns es M2 => Xd c ns es ρ M2) c.hr I1.env0 (hbd s' [.ref f] I1.kIn rfl) g2 (.thk upd_same (rds.mono sm))
    (fun Ng qg sg cdg Eg W' pn xe p1 p2 cZ hN hv => d_act I1 L hf hfn hfr hbl pk cZ (fun A outer s H E cp => hbody A outer s H E f c' cp) hN hv hd hcd) t (pq.mono sm)
    (fun c ns ds' H' F' M' dd sm' g' ea q' => w c ns ds' σ H' F' ρ M' dd (sm.trans sm') g' (sl.mono (sm.trans sm')) ea q')
  refine wpAny_call (codeAny_mono rc fun r s2 hq => ?_)
  cases r with
  | error e => exact passAt c.tk σ pins H1 s' e s2 I1 hq
  | ok fl =>
    cases fl with
    | ret u => exact I1.after hq
    | next => exact False.elim hq
    | brk => exact False.elim hq
    | cont => exact False.elim hq
end
def FnTC (cl : ClW) (P : Program) (w : World) (K : PySem.W.Frag) (mg : Str -> Option Value) (base : Heap) (k : Nat) (x qual : Str) (params : Arguments) (body : List Stmt) (scope : Scope) (f : Addr) (a : Str) (spT : THD -> THD) : Prop :=
  ∃ fd, FunD K x qual params body scope [] [] f fd /\ FnTG cl P w K mg base k f fd a spT
theorem FnTC.thk {cl : ClW} {P : Program} {w : World} {K : PySem.W.Frag} {mg : Str -> Option Value} {base : Heap} {k : Nat} {x qual : Str} {params : Arguments} {body : List Stmt} {scope : Scope} {f : Addr} {a : Str} {spT : THD -> THD}
    (C : FnTC cl P w K mg base k x qual params body scope f a spT) {y : Str} (hm : mg y = some (.ref f)) (hb : HBind x qual params body scope [a]) : FnTB cl P w K mg base k y a spT := by
  obtain ⟨fd, F, G⟩ := C
  exact ⟨f, fd, hm, F.kp, F.bindsN hb, G⟩
end DL
set_option Elab.async false
set_option linter.all false
set_option maxRecDepth 100000
set_option maxHeartbeats 4000000
set_option autoImplicit false
namespace DL
open PySem L2
def minF3 : List D -> Option D
  | [.int i, .int j, .int k] => some (.int (min (min i j) k))
  | _ => none
def reprA : List D -> Option D
  | [.dK ks xs] => shG (.dK ks xs)
  | ds => reprF ds
section
variable {K : PySem.W.Frag} {cl : ClW} {X : Cx}
def rReprX (K : PySem.W.Frag) (cl : ClW) : List V -> Hp -> VK -> Prop := fun xs H Q => ∃ a d p, xs = [.ref a] /\ Rep K cl H (.ref a) d /\ toPyX d = some p /\ p.showable = true /\ p.depth <= 100 /\ p.shown.length <= sizeLine /\ Q (.str p.shown) H
theorem call_reprX (sm : SmOk X.K) (un : X.A.units + 200 < cLine) (gd : X.A.guards = some []) : CallR X (.builtin "repr") (rReprX X.K cl) := by
  intro pins s σ H xs us Q I r ⟨a, d, p, e, hr, hp, hs, hd, hz, q⟩
  subst e
  obtain ⟨u, rfl, ru⟩ := vals1 r
  obtain ⟨as, rd, ns⟩ := reads_of I sm hr ru hp
  obtain rfl : u = Value.ref a := ru
  exact PySem.repr_of_reads' rd hs (fun _ => ns) gd (by omega) (fun _ _ e => e) (fun h' t tk kp => ⟨.str _, H, I.kept (t' := tk) kp, ⟨_, rfl⟩, q⟩) hz
theorem lc_reprA {R : List V -> Hp -> VK -> Prop} (lc : LCall K cl R reprF) : LCall K cl (fun xs H Q => R xs H Q \/ rReprX K cl xs H Q) reprA := by
  intro F H M xs ds z Q Qd g r h p q
  by_cases hk : ∃ ks ys, ds.map (vw M) = [.dK ks ys]
  · obtain ⟨ks, ys, e⟩ := hk
    rw [e] at h
    obtain ⟨v, rfl, hw⟩ := reps1 g r e
    obtain ⟨a, vs, rfl, h1, h0, h2⟩ := hw.dK g.sub
    obtain ⟨pd, e1, e2, e3, e4, rfl⟩ := shG_some (show shG (.dK ks ys) = some z from h)
    exact .inr ⟨a, _, pd, rfl, .dK h1 h0 (h2.mono g.sub), e1, e2, e3, e4, p.val g (.str _) q⟩
  · refine .inl (lc F H M xs ds z Q Qd g r ?_ p q)
    unfold reprA at h
    split at h
    · rename_i ks ys e
      exact absurd ⟨ks, ys, e⟩ hk
    · exact h
end
end DL
set_option Elab.async false
set_option linter.all false
set_option maxRecDepth 100000
set_option maxHeartbeats 4000000
set_option autoImplicit false
namespace DL
open PySem L2
abbrev NKey := Option Key
def nkD : NKey -> D
  | none => .non
  | some (.inl i) => .int i
  | some (.inr x) => .str x
def nkO : D -> Option NKey
  | .non => some none
  | .int i => some (some (.inl i))
  | .str x => some (some (.inr x))
  | _ => none
@[simp] theorem nkO_nkD (k : NKey) : nkO (nkD k) = some k := by rcases k with _ | _ | _ <;> rfl
section
variable {P : Program} {w : World} {H : Hp} {h : Heap} {a : Addr} {ep : Nat} {kvs : List (NKey × V)}
end
section
variable {cl : ClW} {X : Cx} {W : WX} {a b o i : Expr} {pos : Pos} {τa τb τo τi : DTE}
end
def KR (K : PySem.W.Frag) (cl : ClW) (F : Hp) : List (NKey × V) -> List (NKey × D) -> Prop
  | [], [] => True
  | p :: ps, q :: qs => p.1 = q.1 /\ Rep K cl F p.2 q.2 /\ KR K cl F ps qs
  | _, _ => False
section
variable {K : PySem.W.Frag} {cl : ClW} {F F' : Hp}
abbrev dNP (ep : Nat) (ps : List (NKey × D)) : D := .dN ep (ps.map (·.1)) (ps.map (·.2))
end
section
variable {cl : ClW} {X : Cx} {W : WX} {a b o i : Expr} {pos : Pos} {τa τb τo τi : DTE}
end
section
variable {cl : ClW} {X : Cx} {W : WX} {pos : Pos} {keys : List (Option Expr)} {values : List Expr}
end
end DL
set_option Elab.async false
set_option linter.all false
set_option maxRecDepth 100000
set_option maxHeartbeats 4000000
set_option autoImplicit false
namespace DL
open PySem L2
@[simp] def iKN (τ : DTE) : DTIg := fun ρ M R X => τ ρ M (fun d M1 => ∃ ep ks ds, vw M1 d = .dN ep ks ds /\ R (fun M => vw M d = .dN ep ks ds) (ks.map nkD) M1) X
section
variable {cl : ClW} {X : Cx} {W : WX} {e : Expr} {τ : DTE}
end
end DL
set_option Elab.async false
set_option linter.all false
set_option maxRecDepth 100000
set_option maxHeartbeats 2000000
set_option autoImplicit false
namespace DL
open PySem L2
def getterB (K : PySem.W.Frag) (g : Addr) (f : Str) : Bool := match K.lookup g with
  | some ⟨_, _, .func fd, _⟩ => match fd with
    | ⟨_, qual, ⟨[], [a], none, [], [], none, []⟩, .stmts [.Return (some (.Attribute (.Name s _) f' _)) _], sc, gl, [], .none, .none, _, _, _, code, _, bu⟩ =>
      (a.arg == "self") && ((s == "self") && ((f' == f) && (decide (gl = mainGlobals) && (decide (bu = builtinsNs) && (PySem.W.codeIn K code qual && (decide (sc.kind = .function) && ((!sc.isCoroutine) && ((!sc.isGenerator) && (decide (sc.names.lookup ("self" : Str) = some NameKind.local) && sc.names.all fun y => decide (y.2 ≠ NameKind.free))))))))))
    | _ => false
  | _ => false
structure PropX (K : PySem.W.Frag) (C : Addr) (nm f : Str) : Prop where
  cls : Cls K C
  no : NoAttr K C f
  ok : ∃ p g, PropOf K C nm p g /\ getterB K g f = true
section
variable {cl : ClW} {X : Cx} {W : WX} {o : Expr} {pos : Pos} {τ : DTE} {nm f : Str} {cs : List Nat} {k : Nat}
end
end DL
set_option Elab.async false
set_option linter.all false
set_option maxRecDepth 100000
set_option maxHeartbeats 2000000
set_option autoImplicit false
namespace DL
open PySem L2
section
variable {cl : ClW} {X : Cx} {W : WX} {j k c n n0 n1 : Nat} {ps ks : List Str} {ord : List Nat} {spd : SpD} {x m : Str} {p pos apos : Pos} {o e : Expr} {es : List Expr} {kws : List Keyword} {τ : DTE} {α β : DTA} {pl : Sem Bool}
end
end DL
set_option Elab.async false
set_option linter.all false
set_option maxRecDepth 100000
set_option maxHeartbeats 4000000
set_option autoImplicit false
namespace DL
open PySem PySem.Spec PyProof.Rows L2
section
variable {P : Program} {w : World}
end
section
variable {X : Cx} {pins : List (Addr × Obj)} {σ : L2.St} {H : Hp} {s : Shared} {a : Addr} {kvs : List (Key × V)}
end
section
variable {cl : ClW} {X : Cx} {W : WX} {kx vx tg iter : Expr} {ifs : List Expr} {scope : Scope} {own : List (Str × Nat)} {pos : Pos} {ι : DTI} {is : List Nat} {γ : DTG} {υ : DTT} {τk τv : DTE}
end
section
variable {X : Cx}
end
section
variable {cl : ClW} {X : Cx} {W : WX} {e : Expr} {τ : DTE} {p pos : Pos} {k : Nat}
end
end DL
set_option Elab.async false
set_option linter.all false
set_option maxRecDepth 100000
set_option maxHeartbeats 4000000
set_option autoImplicit false
namespace DL
open PySem PySem.Spec PyProof.Rows L2
section
variable {X : Cx}
end
section
variable {X : Cx} {o e : Expr} {es : List Expr} {to : TE} {t : TA} {apos cpos : Pos}
end
section
variable {K : PySem.W.Frag} {cl : ClW} {F F' : Hp}
end
section
variable {cl : ClW} {X : Cx} {W : WX} {o e : Expr} {es : List Expr} {apos cpos pos p : Pos} {τ : DTE} {α : DTA}
end
end DL
set_option Elab.async false
set_option linter.all false
set_option maxRecDepth 100000
set_option maxHeartbeats 4000000
set_option autoImplicit false
namespace DL
open PySem L2 PyProof.Rows
section
variable {P : Program} {w : World} {A : Around} {s : Shared}
end
section
variable {cl : ClW} {X : Cx} {W : WX} {e : Expr} {α : DTA} {p p1 p2 p3 q1 q2 q3 pt pos lpos kpos : Pos} {k i j k1 k2 k3 : Nat} {cc P : Addr} {x : Str} {params : Arguments} {scope : Scope}
end
end DL
set_option Elab.async false
set_option linter.all false
set_option maxRecDepth 100000
set_option maxHeartbeats 4000000
set_option autoImplicit false
namespace DL
open PySem L2
abbrev TKey := List NKey
abbrev TEn := List (TKey × Addr × V)
section
variable {X : Cx} {pins : List (Addr × Obj)} {σ : St} {H : Hp} {s : Shared} {a b : Addr} {k : TKey} {ts : TEn} {ep : Nat}
end
section
variable {X : Cx}
end
def tkO : D -> Option TKey
  | .tup xs => xs.mapM nkO
  | _ => none
section
variable {K : PySem.W.Frag} {cl : ClW} {F H : Hp}
end
section
variable {cl : ClW} {X : Cx} {W : WX} {a b o i : Expr} {pos : Pos} {τa τb τo τi : DTE}
end
section
variable {K : PySem.W.Frag} {cl : ClW} {F : Hp}
end
section
variable {cl : ClW} {X : Cx} {W : WX} {a b o i : Expr} {pos : Pos} {τa τb τo τi : DTE}
end
end DL
set_option Elab.async false
set_option linter.all false
set_option maxRecDepth 100000
set_option maxHeartbeats 4000000
set_option autoImplicit false
namespace DL
open PySem L2
section
variable {X : Cx} {o e : Expr} {es : List Expr} {to : TE} {t : TA} {apos cpos : Pos} {m id : String} {r : V -> List V -> Hp -> VK -> Prop}
end
section
variable {prog : Program} {w : World} {K : Type} [DecidableEq K] {knd : KeyKind prog w K} {A : Around} {E : Value -> Shared -> Prop} {s : Shared}
end
def isDct : D -> Prop
  | .dN _ _ _ => True
  | .dT _ _ _ => True
  | _ => False
@[simp] theorem isDct_N (ep : Nat) (ks : List NKey) (ds : List D) : isDct (.dN ep ks ds) = True := rfl
@[simp] theorem isDct_T (ep : Nat) (ks : List TKey) (ds : List D) : isDct (.dT ep ks ds) = True := rfl
section
variable {cl : ClW} {X : Cx} {W : WX} {o e : Expr} {es : List Expr} {apos cpos pos p : Pos} {τ : DTE} {α : DTA}
end
end DL
set_option Elab.async false
set_option linter.all false
set_option maxRecDepth 100000
set_option maxHeartbeats 4000000
set_option autoImplicit false
namespace DL
open PySem PySem.Spec PyProof.Rows L2
abbrev DPut := Addr -> V -> V -> Hp -> (Hp -> Prop) -> Prop
section
variable {X : Cx} {kx vx tg iter : Expr} {ifs : List Expr} {sc : Scope} {pos : Pos} {g : TG} {tt : TT} {tk tv : TE} {put : DPut} {vs : List Nat} {a : Addr} {σ : L2.St}
end
section
variable {X : Cx} {kx vx tg iter : Expr} {ifs : List Expr} {sc : Scope} {own : List (Str × Nat)} {pos : Pos} {wi : TI} {g : TG} {tt : TT} {tk tv : TE} {zero : Addr -> HO -> Prop} {put : DPut}
end
end DL
set_option Elab.async false
set_option linter.all false
set_option maxRecDepth 100000
set_option maxHeartbeats 4000000
set_option autoImplicit false
namespace DL
open PySem PySem.Spec PyProof.Rows L2
section
variable {cl : ClW} {X : Cx} {W : WX} {kx vx tg iter : Expr} {ifs : List Expr} {scope : Scope} {own : List (Str × Nat)} {pos : Pos} {ι : DTI} {is : List Nat} {γ : DTG} {υ : DTT} {τk τv : DTE}
end
end DL
set_option Elab.async false
set_option linter.all false
set_option maxRecDepth 100000
set_option maxHeartbeats 4000000
set_option autoImplicit false
namespace DL
open PySem L2
@[simp] def iIN (τ : DTE) : DTI := fun ρ M R X => τ ρ M (fun d M1 => ∃ ep ks ds, d = .dN ep ks ds /\ R ((ks.zip ds).map fun p => .tup [nkD p.1, p.2]) M1) X
section
variable {cl : ClW} {X : Cx} {W : WX} {e : Expr} {τ : DTE}
end
end DL
set_option Elab.async false
set_option linter.all false
set_option maxRecDepth 100000
set_option maxHeartbeats 4000000
set_option autoImplicit false
namespace DL
open PySem L2
def tkD (k : TKey) : D := .tup (k.map nkD)
@[simp] theorem tkO_tkD (k : TKey) : tkO (tkD k) = some k := by
  unfold tkO tkD
  induction k with
  | nil => rfl
  | cons j k ih =>
    simp only at ih ⊢
    rw [List.map_cons, List.mapM_cons, ih, nkO_nkD]
    rfl
@[simp] def iKT (τ : DTE) : DTI := fun ρ M R X => τ ρ M (fun d M1 => ∃ ep ks ds, d = .dT ep ks ds /\ R (ks.map tkD) M1) X
section
variable {cl : ClW} {X : Cx} {W : WX} {e : Expr} {τ : DTE}
end
end DL
set_option Elab.async false
set_option linter.all false
set_option maxRecDepth 100000
set_option maxHeartbeats 4000000
set_option autoImplicit false
namespace DL
open PySem PySem.W PySem.Calls PyProof.Rows
section
variable {prog : Program} {w : World} {A : Around} {E : Value -> Shared -> Prop} {s : Shared}
end
end DL
set_option Elab.async false
set_option linter.all false
set_option maxRecDepth 100000
set_option maxHeartbeats 4000000
set_option autoImplicit false
namespace DL
open PySem L2 PyProof.Rows
section
variable {cl : ClW} {X : Cx} {W : WX} {e body : Expr} {α : DTA} {p pos lpos kpos : Pos} {k : Nat} {cc P : Addr} {params : Arguments} {scope : Scope} {KE : DL.Env -> List D -> (D -> PyData) -> Prop}
end
end DL
set_option Elab.async false
set_option linter.all false
set_option maxRecDepth 100000
set_option maxHeartbeats 4000000
set_option autoImplicit false
namespace DL
open PySem L2 PyProof.Rows
section
variable {P : Program} {w : World} {A : Around} {s : Shared}
end
end DL
set_option Elab.async false
set_option linter.all false
set_option maxRecDepth 100000
set_option maxHeartbeats 4000000
set_option autoImplicit false
namespace DL
open PySem L2 PyProof.Rows
structure KeyC (x y : Str) (scope : Scope) : Prop where
  kind : scope.kind = .function
  co : scope.isCoroutine = false
  gen : scope.isGenerator = false
  own : scope.names.lookup x = some .local
  nc : ∀ z ∈ scope.names, z.2 ≠ .cell
  free : scope.names.lookup y = some .free
  only : ∀ z ∈ scope.names, z.2 = .free -> z.1 = y
end DL
set_option Elab.async false
set_option linter.all false
set_option maxRecDepth 100000
set_option maxHeartbeats 4000000
set_option autoImplicit false
namespace DL
open PySem L2
end DL
set_option Elab.async false
set_option linter.all false
set_option maxRecDepth 100000
set_option maxHeartbeats 4000000
set_option autoImplicit false
namespace DL
open PySem L2
section
variable {cl : ClW} {X : Cx} {W : WX} {o : Expr} {pos : Pos} {τo : DTE} {f : Str} {cs : List Nat}
end
end DL
set_option Elab.async false
set_option linter.all false
set_option maxRecDepth 100000
set_option maxHeartbeats 4000000
set_option autoImplicit false
namespace DL
open PySem PySem.Spec PyProof.Rows L2
section
variable {X : Cx} {i : Nat} {y : Str} {py : Pos} {kx vx tg iter : Expr} {ifs : List Expr} {scope : Scope} {own : List (Str × Nat)} {pos spos : Pos} {wi : TI} {g : TG} {tt : TT} {tk tv : TE}
end
section
variable {cl : ClW} {X : Cx} {W : WX} {kx vx tg iter : Expr} {ifs : List Expr} {scope : Scope} {own : List (Str × Nat)} {pos : Pos} {ι : DTI} {is : List Nat} {γ : DTG} {υ : DTT} {τk τv : DTE}
end
end DL
set_option Elab.async false
set_option linter.all false
set_option maxRecDepth 100000
set_option maxHeartbeats 2000000
set_option autoImplicit false
namespace DL
open PySem L2
section
variable {cl : ClW} {X : Cx} {W : WX} {j k c n : Nat} {ps ks : List Str} {ord : List Nat} {spd : SpD} {m : Str} {pos apos : Pos} {o : Expr} {kws : List Keyword} {τ : DTE} {β : DTA} {pl : Sem Bool}
end
end DL
set_option Elab.async false
set_option linter.all false
set_option maxRecDepth 100000
set_option maxHeartbeats 4000000
set_option autoImplicit false
namespace DL
open PySem L2 PyProof.Rows
section
variable {cl : ClW} {X : Cx} {W : WX} {k : Nat} {tb : List (Nat × SpD)} {a b : Expr} {pos : Pos} {τa τb : DTE} {φ : DB2}
end
end DL
set_option Elab.async false
set_option linter.all false
set_option maxRecDepth 100000
set_option maxHeartbeats 4000000
set_option autoImplicit false
namespace DL
open PySem L2 PyProof.Rows
section
variable {cl : ClW} {X : Cx} {W : WX} {k : Nat} {tb : List (Nat × SpD)} {o i : Expr} {pos : Pos} {τo τi : DTE}
end
end DL
set_option Elab.async false
set_option linter.all false
set_option maxRecDepth 100000
set_option maxHeartbeats 4000000
set_option autoImplicit false
namespace DL
open PySem L2
open PySem.SeqAt
section
open AutoSeq1 (wpAny_loadPart')
variable {prog : Program} {w : World}
theorem tup_ne_pairs (l b : Addr) (us vs : Array Value) (n m : Nat) (dd de : Option Addr) (sl sm : Array (Option Value)) (bs : List Bool) :
    MeetsIn prog w (Builtin.«tuple.__ne__» ⟨[.ref l, .ref b], []⟩)
      (fun A R s => s.heap.get? l = some { cls := .type "tuple", dict := dd, data := .seq us n, slots := sl } /\ s.heap.get? b = some { cls := .type "tuple", dict := de, data := .seq vs m, slots := sm } /\
        EqL prog w A.in1 s (us.toList.zip vs.toList) bs /\ R (.ok (.ret (.bool (!(bs.all id && us.size == vs.size))))) s) :=
  .of_wp fun A R s0 h => by
    obtain ⟨h0, g0, d0, t0, o0⟩ := s0
    obtain ⟨hl, hb, he, hR⟩ := h
    have sub := AutoSeq1.sub_tuple_tuple
    wp_walk using wpAny_loadPart' hl, wpAny_loadPart' hb, wpAny_forIn_list _ (fun rest st s1 => st.1 = none /\ s1 = ⟨h0, g0, d0, t0, o0⟩ /\ ∃ cs, EqL prog w A.in1 ⟨h0, g0, d0, t0, o0⟩ rest cs /\ R (.ok (.ret (.bool (!(cs.all id && us.size == vs.size))))) ⟨h0, g0, d0, t0, o0⟩) _
    case turn =>
      rintro ⟨y, x⟩ rest st s1 ⟨e1, rfl, cs, ep, er⟩
      cases ep with
      | @cons _ c _ cs hp ep =>
        rw [List.all_cons] at er
        refine wpAny_bind (hp _ _ ?_)
        cases c with
        | true => wp_walk; exact ⟨rfl, rfl, cs, ep, by simpa using er⟩
        | false => wp_walk; exact ⟨_, rfl, by simpa using er⟩
    case fin =>
      rintro ⟨x1, x2⟩ s1 ⟨e1, rfl, cs, ep, er⟩
      simp only at e1
      subst e1
      cases ep
      wp_walk
      exact ⟨_, rfl, by simpa [Builtin.Tuple.tupleCompareSizes, bne] using er⟩
    case h => exact ⟨rfl, rfl, bs, he, hR⟩
theorem rcn_tups {A : Around} {s : Shared} {l b : Addr} {us vs : Array Value} (bs : List Bool) (hl : s.heap.IsTuple l us) (hb : s.heap.IsTuple b vs) (hu : A.units < cLine)
    (he : EqL prog w A.in1 s (us.toList.zip vs.toList) bs) (E Q : Value -> Shared -> Prop) (q : Q (.bool (!(bs.all id && us.size == vs.size))) s) : wpAny (model prog w) A (richCompare .NotEq (.ref l) (.ref b)) Q E s := by
  obtain ⟨⟨c1, d1, x1, s1⟩, ho, hc, n, hd⟩ := id hl
  obtain ⟨⟨c2, d2, x2, s2⟩, ho2, hc2, n2, hd2⟩ := id hb
  simp only at hc hd hc2 hd2
  subst hc hd hc2 hd2
  exact wpAny_richCompare_same_room (op := .NotEq) ⟨_, ho, rfl⟩ ⟨_, ho2, rfl⟩ PySem.F.slot_tuple_ne (call_meetsIn PySem.F.slot_tuple_ne ⟨_, ho, rfl⟩ PySem.F.entry_tuple_ne (PySem.F.args_tuple_ne_2 _ _) (tup_ne_pairs l b us vs n n2 d1 d2 s1 s2 bs)
    ⟨ho, ho2, he, show Value.bool _ ≠ Value.notImplemented /\ Q (.bool _) s from ⟨(fun z => nomatch z), q⟩⟩) hu
end
def neK : D -> D -> Bool
  | .non, .non => true
  | .non, .tup _ => true
  | .tup _, .non => true
  | .tup _, .tup _ => true
  | .lst _, .lst _ => true
  | _, _ => false
@[simp] def bNeZ : DB2 := fun d e _ M Q _ => ∃ d' e' n, Dv M d d' /\ Dv M e e' /\ n <= 60 /\ plX n d' = true /\ plX n e' = true /\ neK d' e' = true /\ Q (.bl (!eqX d' e')) M
section
variable {K : PySem.W.Frag} {cl : ClW} {F H : Hp} {M : Mem} {X : Cx} {W : WX}
end
section
variable {cl : ClW} {X : Cx} {W : WX} {j k c : Nat} {ps : List Str} {spd : SpD} {x m : Str} {p pos : Pos} {e : Expr} {es : List Expr} {τ : DTE} {α : DTA}
end
end DL
set_option Elab.async false
set_option linter.all false
set_option maxRecDepth 100000
set_option maxHeartbeats 4000000
set_option autoImplicit false
namespace DL
open PySem L2
open PySem.SeqAt
def hasB (bs : List (Array UInt8)) (b : Array UInt8) : Bool := bs.any fun c => c == b
@[simp] def bInB (neg : Bool) : DB2 := fun d e _ M Q _ => ∃ (b : Array UInt8) (bs : List (Array UInt8)), vw M d = .byt b /\ (vw M e = .lst (bs.map D.byt) \/ vw M e = .tup (bs.map D.byt)) /\ Q (.bl (neg != hasB bs b)) M
section
variable {cl : ClW} {X : Cx} {W : WX} {pins : List (Addr × Obj)} {σ : St} {H F : Hp} {M : Mem} {s : Shared}
end
end DL
set_option Elab.async false
set_option linter.all false
set_option maxRecDepth 100000
set_option maxHeartbeats 4000000
set_option autoImplicit false
namespace DL
open PySem L2
section
open PySem.Builtin PySem.W.FB PySem.W
theorem slot_bytes_repr : Slot "bytes" "__repr__" "bytes.__repr__" :=
  .of (owner := "bytes") (n := "__repr__") (by rw [typeLookup_type, builtinLookup_eq_fast]; kernel_rfl) (by decide +kernel) (by decide +kernel) (by decide +kernel)
    (by first | exact .inl (by decide +kernel) | exact .inr (by decide +kernel)) (by rw [isSubtype_type]; kernel_rfl)
theorem entry_bytes_repr : entryFor table "bytes.__repr__" = some Builtin.«bytes.__repr__» := entryFor_of_tree (by kernel_rfl)
theorem args_bytes_repr_1 (a : Value) : argsOk "bytes.__repr__" ⟨[a], []⟩ := by
  unfold argsOk; rw [signature?_of (id := "bytes.__repr__") (n := ['_', '_', 'r', 'p', 'e', 'r', '_', '_']) (o := ['s', 'e', 't', 'y', 'b']) (by kernel_rfl) owner_bytes]; kernel_rfl
def litB (b : Array UInt8) : Str := Bytes.literal b false
theorem gives_bytes_repr (b : Array UInt8) (t : Tok) (h : 4 * b.size + 3 <= sizeLine) : Gives («bytes.__repr__» ⟨[.bytes b t], []⟩) (.str (litB b)) := by
  have h2 : Bytes.tooLong (4 * b.size + 3 + 0) = false := by
    unfold Bytes.tooLong
    exact decide_eq_false (by omega)
  refine .of_eq ?_
  show (do let x <- Bytes.literalAsked b false 0; retStr x) = _
  unfold Bytes.literalAsked
  rw [h2]
  rfl
end
mutual
def shY : D -> Option Str
  | .non => some "None"
  | .bl b => some (if b then "True" else "False")
  | .int i => if i.natAbs.log2 < 1920 then some (toString i) else none
  | .str x => if (reprText x).length <= sizeLine then some (reprText x) else none
  | .byt b => if 4 * b.size + 3 <= sizeLine /\ (litB b).length <= sizeLine then some (litB b) else none
  | .lst xs => (shYs xs).bind fun ts => if (listText ts).length <= sizeLine then some (listText ts) else none
  | .tup xs => (shYs xs).bind fun ts => if (tupleText ts).length <= sizeLine then some (tupleText ts) else none
  | .dK [] [] => some (dictText [])
  | _ => none
def shYs : List D -> Option (List Str)
  | [] => some []
  | x :: xs => (shY x).bind fun t => (shYs xs).map fun ts => t :: ts
end
mutual
def depY : D -> Nat
  | .lst xs => depYs xs + 1
  | .tup xs => depYs xs + 1
  | .dK [] [] => 1
  | _ => 0
def depYs : List D -> Nat
  | [] => 0
  | x :: xs => max (depY x) (depYs xs)
end
mutual
inductive RdY (h : Heap) : Value -> D -> Prop where
  | non : RdY h .none .non
  | bl (b : Bool) : RdY h (.bool b) (.bl b)
  | int (i : Int) (t : Tok) : RdY h (.int i t) (.int i)
  | str (x : Str) (t : Tok) : RdY h (.str x t) (.str x)
  | byt (b : Array UInt8) (t : Tok) : RdY h (.bytes b t) (.byt b)
  | lst {a : Addr} {o : Obj} {its : Array Value} {n : Nat} {ds : List D} : h.get? a = some o -> o.cls = .type "list" -> o.data = .seq its n -> RdYs h its.toList ds -> RdY h (.ref a) (.lst ds)
  | tup {a : Addr} {o : Obj} {its : Array Value} {n : Nat} {ds : List D} : h.get? a = some o -> o.cls = .type "tuple" -> o.data = .seq its n -> RdYs h its.toList ds -> RdY h (.ref a) (.tup ds)
  | dic {a : Addr} {o : Obj} {es : Array DictEntry} {ep : Nat} : h.get? a = some o -> o.cls = .type "dict" -> o.data = .dict es ep -> es.toList = [] -> (a == sysModules) = false -> RdY h (.ref a) (.dK [] [])
inductive RdYs (h : Heap) : List Value -> List D -> Prop where
  | nil : RdYs h [] []
  | cons {v : Value} {d : D} {vs : List Value} {ds : List D} : RdY h v d -> RdYs h vs ds -> RdYs h (v :: vs) (d :: ds)
end
section
variable {prog : Program} {w : World} {h₀ : Heap}
end
section
open HT
variable {X : Cx} {cl : ClW} {pins : List (Addr × Obj)} {σ : St} {H : Hp} {s : Shared}
end
section
variable {K : PySem.W.Frag} {cl : ClW} {X : Cx}
end
end DL
set_option Elab.async false
set_option linter.all false
set_option maxRecDepth 100000
set_option maxHeartbeats 2000000
set_option autoImplicit false
namespace DL
open PySem L2
section
variable {X : Cx} {o e : Expr} {to ta : TE} {apos cpos : Pos}
end
section
variable {cl : ClW} {X : Cx} {W : WX} {o e : Expr} {τo τ : DTE} {apos cpos : Pos}
end
end DL
namespace FL
open PySem L2 DL
end FL
set_option Elab.async false
set_option linter.all false
set_option maxRecDepth 100000
set_option maxHeartbeats 2000000
set_option autoImplicit false
namespace PySem
open Sem (wp)
section
variable {prog : Program} {w : World} {A : Around} {E : Value -> Shared -> Prop} {s : Shared}
abbrev ByteAt (x : Array UInt8) (i : Nat) (v : Value) : Prop := ∃ c u, x[i]? = some c /\ v = .int (c.toNat : Int) u
theorem wpAny_extend_byt {R : Result -> Shared -> Prop} (hh : A.handled = none) (x : Array UInt8) (t : Tok) (S : Addr) (res : Value) (c₀ : Nat) (hS : s.heap.get? S = some { cls := .type "list", data := .seq #[] c₀ })
    (hR : ∀ h' tk acc' c', (∀ b o, b ≠ S -> s.heap.get? b = some o -> h'.get? b = some o) -> h'.get? S = some { cls := .type "list", dict := none, data := .seq acc' c', slots := #[] } ->
      ItemsOf (ByteAt x) acc' x.size -> R (.ok (.ret res)) { s with heap := h', toks := tk }) (hn : x.size <= sizeLine) :
    wpAny (model prog w) A.in1 (Builtin.List.listExtendWith (.ref S) (.bytes x t) res)
      (fun fin s' => match fin with | .done f => R (.ok f) s' | .again c' => c'.quiet = true /\ codeAny (model prog w) A c' R s') (fun e s' => R (.error e) s') s := by
  have hSI : S ≠ s.heap.objs.size := Nat.ne_of_lt (Heap.lt_size hS)
  have hSf : S ∉ [s.heap.objs.size] := fun hm => hSI (List.mem_singleton.mp hm)
  unfold Builtin.List.listExtendWith
  refine wpAny_bind (wpAny_typeOf (T := "bytes") (v := .bytes x t) (W.typeIs_bytes s x t) ?_)
  have h1 : Builtin.List.listSameRef (.ref S) (.bytes x t) = false := rfl
  have h2 : (Value.type "bytes" == Value.type "list") = false := by decide
  have h3 : (Value.type "bytes" == Value.type "tuple") = false := by decide
  simp only [h1, h2, h3, Bool.or_false, Bool.false_eq_true, if_false]
  refine wpAny_bind (W.KBw.pyIter_bytes ?_)
  refine wpAny_bind (wpAny_holding ?_)
  unfold Builtin.List.listLengthHint
  refine wpAny_bind (wpAny_specialOf (T := "bytes") (v := .bytes x t) (W.typeIs_bytes _ x t) W.FB.slot_bytes_len.lookup ?_)
  wp_delta
  refine wpAny_bind (wpAny_isInstance (T := "bytes") (v := .bytes x t) (b := true) (W.typeIs_bytes _ x t) (by rw [isSubtype_type]; kernel_rfl) ?_)
  show wpAny _ _ (typeOf (Value.bytes x t) >>= _) _ _ _
  refine wpAny_bind (wpAny_typeOf (T := "bytes") (v := .bytes x t) (W.typeIs_bytes _ x t) ?_)
  refine wpAny_pure ?_
  rw [if_neg (by decide)]
  have hst : W.KBw.IsBytesIter (s.heap.push { cls := .type "bytes_iterator", data := .fields #[.bytes x t, .int 0 0] }) s.heap.objs.size x t 0 := ⟨_, Heap.get?_push_size _ rfl, rfl, rfl⟩
  refine wpAny_pure ⟨plainId_quiet F.plain_extend_loop _, codeAny_extend_loopS (W.KBw.walks (A := A.in1) hh s.heap.objs.size x t).toS hn _ hSf _ x.size 0 _ _ _ rfl (Nat.zero_le _) hst (Heap.get?_push_of_some _ hS) (ItemsOf.nil _) fun s' acc' c' hm hS' hacc => ?_⟩
  rw [Moved.eq_with hm]
  refine hR s'.heap s'.toks acc' c' (fun b ob hb e => hm.heap b ob (fun hmem => ?_) (Heap.get?_push_of_some _ e)) hS' hacc
  rcases List.mem_cons.mp hmem with e' | hmem
  · exact hb e'
  · exact absurd (Heap.lt_size e) (by rw [List.mem_singleton.mp hmem]; exact Nat.lt_irrefl _)
theorem wpAny_list_init_byt {R : Result -> Shared -> Prop} (hh : A.handled = none) (x : Array UInt8) (t : Tok) (S : Addr) (hS : s.heap.get? S = some { cls := .type "list", data := .seq #[] })
    (hR : ∀ h' tk acc' c', (∀ b o, b ≠ S -> s.heap.get? b = some o -> h'.get? b = some o) -> h'.get? S = some { cls := .type "list", dict := none, data := .seq acc' c', slots := #[] } ->
      ItemsOf (ByteAt x) acc' x.size -> R (.ok (.ret .none)) { s with heap := h', toks := tk }) (hn : x.size <= sizeLine) :
    wpAny (model prog w) A.in1 (Builtin.«list.__init__» ⟨[.ref S, .bytes x t], []⟩)
      (fun fin s' => match fin with | .done f => R (.ok f) s' | .again c' => c'.quiet = true /\ codeAny (model prog w) A c' R s') (fun e s' => R (.error e) s') s := by
  show wpAny _ _ (do let old <- Builtin.List.listItems (.ref S); Builtin.List.listUpdate (.ref S) (fun _ => #[]); letGo old.toList.reverse; Builtin.List.listExtendWith (.ref S) (.bytes x t) .none) _ _ s
  refine wpAny_bind ?_
  unfold Builtin.List.listItems
  refine wpAny_bind (wpAny_seqItems hS rfl (wpAny_pure ?_))
  show wpAny _ _ (updateSeq S (fun _ => #[]) >>= fun _ => letGo (#[] : Array Value).toList.reverse >>= fun _ => Builtin.List.listExtendWith (.ref S) (.bytes x t) .none) _ _ s
  refine wpAny_bind (wpAny_updateSeq hS rfl ?_)
  have hS₂ := Heap.get?_update_self (Obj.mapSeq (fun _ => (#[] : Array Value))) hS rfl
  have oth : ∀ b o, b ≠ S -> s.heap.get? b = some o -> (s.heap.update S (Obj.mapSeq (fun _ => (#[] : Array Value)))).get? b = some o :=
    fun b o hb e => (Heap.get?_update_other _ _ (Ne.symm hb)).trans e
  refine wpAny_bind (wpAny_letGo ?_)
  refine wpAny_extend_byt (hn := hn) hh x t S .none _ hS₂ fun h' tk acc' c' hk hS' hacc => ?_
  exact hR h' tk acc' c' (fun b o hb e => hk b o hb (oth b o hb e)) hS' hacc
theorem call_list_byt {Q : Value -> Shared -> Prop} (hh : A.handled = none) (x : Array UInt8) (t : Tok)
    (hQ : ∀ h' tk acc' c', (∀ b o, s.heap.get? b = some o -> h'.get? b = some o) ->
      h'.get? s.heap.objs.size = some { cls := .type "list", dict := none, data := .seq acc' c', slots := #[] } -> ItemsOf (ByteAt x) acc' x.size -> Q (.ref s.heap.objs.size) { s with heap := h', toks := tk }) (hn : x.size <= sizeLine) :
    wpAny (model prog w) A (call (.type "list") [.bytes x t]) Q E s := by
  refine callType_codes (Q₁ := fun obj s₁ => obj = .ref s.heap.objs.size /\ s₁ = { s with heap := s.heap.push { cls := .type "list", data := .seq #[] } }) F.called_list (F.typeCall_list_1 _) F.entry_list_init
    (code_list_new _ ⟨rfl, rfl⟩) fun obj s₁ h₁ => ?_
  obtain ⟨rfl, rfl⟩ := h₁
  have hS : (s.heap.push { cls := .type "list", data := .seq #[] }).get? s.heap.objs.size = some { cls := .type "list", data := .seq #[] } := Heap.get?_push_size _ rfl
  refine ⟨⟨_, hS, rfl⟩, F.args_list_init_2 _ _, wpAny_list_init_byt (A := A.in1) (hn := hn) hh x t _ hS fun h' tk acc' c' hk hS' hacc => ?_⟩
  exact ⟨rfl, hQ h' tk acc' c' (fun b o e => hk b o (Nat.ne_of_lt (Heap.lt_size e)) (Heap.get?_push_of_some _ e)) hS' hacc⟩
end
end PySem
namespace DL
open PySem L2
def bInV (b : Array UInt8) : List V := b.toList.map fun c => V.int (c.toNat : Int)
def bInD (b : Array UInt8) : List D := b.toList.map fun c => D.int (c.toNat : Int)
def rLstB : List V -> Hp -> VK -> Prop := fun xs H Q => ∃ b, xs = [.byt b] /\ b.size <= sizeLine /\ ∀ l, H l = none -> Q (.ref l) (upd H l (.lst (bInV b)))
theorem vals_byt {b : Array UInt8} {acc : Array Value} (hi : ItemsOf (ByteAt b) acc b.size) : Vals (bInV b) acc.toList := by
  obtain ⟨h1, h2⟩ := hi
  have go : ∀ (l : List UInt8) (vs : List Value), vs.length = l.length -> (∀ (j : Nat) (v : Value), vs[j]? = some v -> ∃ (c : UInt8) (u : Tok), l[j]? = some c /\ v = Value.int (c.toNat : Int) u) -> Vals (l.map fun c => V.int (c.toNat : Int)) vs := fun l => by
    induction l with
    | nil =>
      intro vs hl _
      rw [List.length_eq_zero_iff.mp hl]
      exact .nil
    | cons c l ih =>
      intro vs hl h
      cases vs with
      | nil => cases hl
      | cons v vs =>
        obtain ⟨c', u, e1, e2⟩ := h 0 v rfl
        cases e1
        exact .cons ⟨u, e2⟩ (ih vs (by simpa using hl) fun j v' e => h (j + 1) v' e)
  refine go _ _ (by simpa using h1) fun j v e => ?_
  obtain ⟨c, u, e1, e2⟩ := h2 j v (by simpa using e)
  exact ⟨c, u, by simpa using e1, e2⟩
section
variable {K : PySem.W.Frag} {cl : ClW} {X : Cx}
theorem call_listB (hc : X.calm = true) : CallR X (.type "list") rLstB := by
  intro pins s σ H xs us Q I r h
  obtain ⟨b, rfl, hz, q⟩ := h
  obtain ⟨u, rfl, rx⟩ := vals1 r
  obtain ⟨t, rfl⟩ := (show ∃ t, u = Value.bytes b t from rx)
  refine call_list_byt (I.ok.hd hc) b t (fun h' tk acc' c' kp e hi => ?_) hz
  refine ⟨.ref s.heap.objs.size, upd H s.heap.objs.size (.lst (bInV b)), I.laid (t' := tk) kp (Nat.le_refl _) (show ObjOk X.prog X.w _ _ _ (.lst (bInV b)) from ⟨?_, acc'.toList, c', vals_byt hi, ?_⟩), rfl, q _ (I.hok.fresh (Nat.le_refl _))⟩
  · simp [bInV]; exact hz
  · rw [Array.toArray_toList]; exact e
def lstBF : List D -> Option D
  | [.byt b] => if b.size <= sizeLine then some (.lst (bInD b)) else none
  | _ => none
theorem reps_bin (F : Hp) (b : Array UInt8) : Reps K cl F (bInV b) (bInD b) := by
  unfold bInV bInD
  induction b.toList with
  | nil => exact .nil
  | cons c l ih => exact .cons (.int _) ih
theorem lc_lstB : LCall K cl rLstB lstBF := by
  intro F H M xs ds z Q Qd g r h p q
  generalize e : ds.map (vw M) = es at h
  unfold lstBF at h
  split at h
  · obtain ⟨x, rfl, hv⟩ := reps1 g r e
    obtain rfl := hv.byt
    split at h
    · cases h
      exact ⟨_, rfl, by assumption, fun l hl => p.newL g (reps_bin _ _) q hl⟩
    · cases h
  · cases h
end
end DL
set_option Elab.async false
set_option linter.all false
set_option maxRecDepth 100000
set_option maxHeartbeats 4000000
set_option autoImplicit false
namespace DL
open PySem L2
open PySem.SeqAt
@[simp] def bNeT : DB2 := fun d e _ M Q _ => ∃ d' e' xs ys n b, Dv M d d' /\ Dv M e e' /\ d' = .tup xs /\ e' = .tup ys /\ n <= 60 /\ eqY (n + 1) d' e' = some b /\ Q (.bl (!b)) M
section
variable {K : PySem.W.Frag} {cl : ClW} {F H : Hp} {M : Mem} {X : Cx} {W : WX}
theorem bin_neT (hu : X.A.units + 64 < cLine) : BinG cl X W (compareOp .NotEq) bNeT := fun pins s σ H F ρ M v u x y d e Q Qd Xd I rx ry g sl r1 r2 q p w => by
  obtain ⟨d', e', xs, ys, n, b, t1, t2, rfl, rfl, hn, h, q⟩ := q
  have r1 := rep_deep g t1 r1
  have r2 := rep_deep g t2 r2
  have hA : X.A.units < cLine := by omega
  have h2 : eqYs n xs ys = some b := by rw [eqY] at h; exact h
  obtain ⟨a, vs, rfl, h3, h4⟩ := r1.toTup
  obtain ⟨a', ws, rfl, h5, h6⟩ := r2.toTup
  cases (show v = Value.ref a from rx)
  cases (show u = Value.ref a' from ry)
  obtain ⟨us, r3, p3, _⟩ := I.tuple h3
  obtain ⟨ts, r4, p4, _⟩ := I.tuple h5
  have l1 := r3.length
  have l2 := r4.length
  have l3 := h4.length
  have l4 := h6.length
  have fin : EP X pins σ Q (.bool (!b)) s := ⟨.bl _, H, I, rfl, p.val g (.bl _) q⟩
  have ihE : ∀ (d e : D) (x y : V) (v u : Value) (b : Bool), Rep X.K cl H x d -> Rep X.K cl H y e -> RelV x v -> RelV y u -> eqY n d e = some b -> EqP X.prog X.w X.A.in1 s v u b := fun d e x y v u b r1 r2 rv ru h =>
    eqP_of_rcY rv r1 (rcY I n X.A.in1 (by show X.A.units + 1 + n < cLine; omega) d e x y v u b r1 r2 rv ru h) fun z => by
      subst z
      obtain rfl := relV_inj rv ru
      exact sameY I n d e x v b rv r1 r2 h
  obtain ⟨bs, L, hz, rfl⟩ := eqL_Y ihE r3 h4 r4 h6 h2
  refine rcn_tups (A := X.A) bs p3 p4 hA L _ _ ?_
  simp only [List.size_toArray]
  rw [<- l1, <- l2, l3, l4]
  exact fin
end
end DL
set_option Elab.async false
set_option linter.all false
set_option maxRecDepth 100000
set_option maxHeartbeats 4000000
set_option autoImplicit false
namespace DL
open PySem PySem.Spec PyProof.Rows L2 LamX
abbrev Cells := List (Str × Addr)
abbrev CelE := Nat × Addr × Obj × D
abbrev adrs (cs : List CelE) : List Addr := cs.map fun c => c.2.1
def hidH (as : List Addr) (H : Hp) : Hp := fun b => if b ∈ as then none else H b
def hidM (as : List Addr) (M : Mem) : Mem := fun b => if b ∈ as then none else M b
def shwH (cs : List CelE) (H : Hp) : Hp := fun b => match cs.find? (fun c => decide (c.2.1 = b)) with
  | some c => some (ObO b c.2.2.1)
  | none => H b
def shwM (cs : List CelE) (M : Mem) : Mem := fun b => match cs.find? (fun c => decide (c.2.1 = b)) with
  | some c => some (.cel c.2.2.1 c.2.2.2)
  | none => M b
theorem hidH_in {as : List Addr} {H : Hp} {b : Addr} (h : b ∈ as) : hidH as H b = none := if_pos h
theorem hidH_out {as : List Addr} {H : Hp} {b : Addr} (h : b ∉ as) : hidH as H b = H b := if_neg h
theorem hidM_in {as : List Addr} {M : Mem} {b : Addr} (h : b ∈ as) : hidM as M b = none := if_pos h
theorem hidM_out {as : List Addr} {M : Mem} {b : Addr} (h : b ∉ as) : hidM as M b = M b := if_neg h
theorem find_out {cs : List CelE} {b : Addr} (h : b ∉ adrs cs) : cs.find? (fun c => decide (c.2.1 = b)) = none := by
  rw [List.find?_eq_none]
  intro c hc e
  exact h (List.mem_map.mpr ⟨c, hc, by simpa using e⟩)
theorem find_in {cs : List CelE} {b : Addr} (h : b ∈ adrs cs) : ∃ c ∈ cs, c.2.1 = b /\ cs.find? (fun c => decide (c.2.1 = b)) = some c := by
  cases e : cs.find? (fun c => decide (c.2.1 = b)) with
  | none =>
    obtain ⟨c, hc, rfl⟩ := List.mem_map.mp h
    exact absurd (List.find?_eq_none.mp e c hc) (by simp)
  | some c => exact ⟨c, List.mem_of_find?_eq_some e, by simpa using List.find?_some e, rfl⟩
theorem shwH_out {cs : List CelE} {H : Hp} {b : Addr} (h : b ∉ adrs cs) : shwH cs H b = H b := by unfold shwH; rw [find_out h]
theorem shwM_out {cs : List CelE} {M : Mem} {b : Addr} (h : b ∉ adrs cs) : shwM cs M b = M b := by unfold shwM; rw [find_out h]
theorem shw_in {cs : List CelE} {b : Addr} (h : b ∈ adrs cs) : ∃ c ∈ cs, c.2.1 = b /\ (∀ H, shwH cs H b = some (ObO b c.2.2.1)) /\ ∀ M, shwM cs M b = some (.cel c.2.2.1 c.2.2.2) := by
  obtain ⟨c, hc, e, f⟩ := find_in h
  exact ⟨c, hc, e, fun H => by unfold shwH; rw [f], fun M => by unfold shwM; rw [f]⟩
theorem shwM_at {cs : List CelE} {M : Mem} (nd : (adrs cs).Nodup) {c : CelE} (hc : c ∈ cs) : shwM cs M c.2.1 = some (.cel c.2.2.1 c.2.2.2) := by
  induction cs with
  | nil => cases hc
  | cons a cs ih =>
    have nd' : a.2.1 ∉ adrs cs /\ (adrs cs).Nodup := by simpa [adrs] using nd
    unfold shwM
    rw [List.find?_cons]
    by_cases e : a.2.1 = c.2.1
    · rw [decide_eq_true e]
      rcases List.mem_cons.mp hc with rfl | hc
      · rfl
      · exact absurd (List.mem_map.mpr ⟨c, hc, e.symm⟩) nd'.1
    · rw [decide_eq_false e]
      rcases List.mem_cons.mp hc with rfl | hc
      · exact absurd rfl e
      · have := ih nd'.2 hc
        unfold shwM at this
        exact this
theorem shw_hid {cs : List CelE} {M : Mem} (h : ∀ c ∈ cs, M c.2.1 = some (.cel c.2.2.1 c.2.2.2)) : shwM cs (hidM (adrs cs) M) = M := by
  funext b
  by_cases hb : b ∈ adrs cs
  · obtain ⟨c, hc, e, _, f⟩ := shw_in hb
    rw [f, <- e, h c hc]
  · rw [shwM_out hb, hidM_out hb]
def CelOk (K : PySem.W.Frag) (cl : ClW) (F : Hp) (c : CelE) : Prop := ∃ v u, c.2.2.1.data = .cell (some u) /\ RelV v u /\ Rep K cl F v c.2.2.2
section
variable {K : PySem.W.Frag} {cl : ClW} {F F' H H' : Hp} {M M' : Mem} {cs : List CelE}
theorem Good.cel (g : Good K cl F H M) {c : CelE} (h : M c.2.1 = some (.cel c.2.2.1 c.2.2.2)) : F c.2.1 = none /\ H c.2.1 = some (ObO c.2.1 c.2.2.1) /\ CelOk K cl F c := by
  obtain ⟨h1, v, u, h2, h3, h4, h5⟩ := g.cell _ _ h
  exact ⟨h1, h2, v, u, h3, h4, h5⟩
theorem CelOk.mono {c : CelE} (s : Same F F') (h : CelOk K cl F c) : CelOk K cl F' c := by
  obtain ⟨v, u, h1, h2, h3⟩ := h
  exact ⟨v, u, h1, h2, h3.mono s⟩
theorem Good.hide (g : Good K cl F H M) (h : ∀ c ∈ cs, M c.2.1 = some (.cel c.2.2.1 c.2.2.2)) : Good K cl F (hidH (adrs cs) H) (hidM (adrs cs) M) where
  sub := fun b o e => by
    have hb : b ∉ adrs cs := fun hm => by
      obtain ⟨c, hc, rfl⟩ := List.mem_map.mp hm
      rw [(g.cel (h c hc)).1] at e; cases e
    rw [hidH_out hb]; exact g.sub b o e
  cell := fun b d e => by
    have hb : b ∉ adrs cs := fun hm => by rw [hidM_in hm] at e; cases e
    rw [hidM_out hb] at e
    obtain ⟨h1, h2⟩ := g.cell b d e
    exact ⟨h1, h2.mono (Same.refl F) fun o eo => by rw [hidH_out hb]; exact eo⟩
  tab := fun q hq => by
    obtain ⟨ps, a1, a2, a3⟩ := g.tab q hq
    have n1 : q.1 ∉ adrs cs := fun hm => by
      obtain ⟨c, hc, e⟩ := List.mem_map.mp hm
      have := (g.cel (h c hc)).2.1
      rw [e, a1] at this
      cases this
    refine ⟨ps, by rw [hidH_out n1]; exact a1, a2, fun pos cv hcv => ?_⟩
    obtain ⟨c2, e1, e2⟩ := a3 pos cv hcv
    have n2 : c2 ∉ adrs cs := fun hm => by
      obtain ⟨c, hc, e⟩ := List.mem_map.mp hm
      obtain ⟨_, k1, v, u, k2, _⟩ := g.cel (h c hc)
      rw [e, e2] at k1
      exact ob_ne_code (fun vs z => by rw [k2] at z; cases z) (Option.some.inj k1).symm
    exact ⟨c2, e1, by rw [hidH_out n2]; exact e2⟩
  noT := g.noT
theorem shwH_same (hn : ∀ c ∈ cs, H c.2.1 = none) : Same H (shwH cs H) := fun b o e => by
  have hb : b ∉ adrs cs := fun hm => by
    obtain ⟨c, hc, rfl⟩ := List.mem_map.mp hm
    rw [hn c hc] at e; cases e
  rw [shwH_out hb]; exact e
theorem Good.show (g : Good K cl F H M) (hn : ∀ c ∈ cs, H c.2.1 = none) (ok : ∀ c ∈ cs, CelOk K cl F c) : Good K cl F (shwH cs H) (shwM cs M) where
  sub := fun b o e => shwH_same hn b o (g.sub b o e)
  cell := fun b d e => by
    by_cases hb : b ∈ adrs cs
    · obtain ⟨c, hc, e1, f1, f2⟩ := shw_in hb
      rw [f2] at e; cases e
      obtain ⟨v, u, h1, h2, h3⟩ := ok c hc
      refine ⟨?_, v, u, f1 H, h1, h2, h3⟩
      rw [<- e1]
      exact g.freshF (hn c hc)
    · rw [shwM_out hb] at e
      obtain ⟨h1, h2⟩ := g.cell b d e
      exact ⟨h1, h2.mono (Same.refl F) (shwH_same hn b)⟩
  tab := g.tab.ext (shwH_same hn)
  noT := g.noT
end
section
variable {P : Program} {w : World} {H H' : Hp} {h h' B : Heap} {as fs : List Addr} {cs : List CelE}
theorem hok_hide (k : HOk P w H h) (ha : ∀ a ∈ as, ∃ o, H a = some (ObO a o)) : HOk P w (hidH as H) h := fun b u e => by
  have hb : b ∉ as := fun hm => by rw [hidH_in hm] at e; cases e
  rw [hidH_out hb] at e
  have off : ∀ c u, H c = some u -> (∀ φ, u ≠ .ext φ) -> hidH as H c = some u := fun c u e n => by
    have hc : c ∉ as := fun hm => by
      obtain ⟨o, ho⟩ := ha c hm
      rw [ho] at e
      exact n _ (Option.some.inj e).symm
    rw [hidH_out hc]; exact e
  exact (k b u e).stay (fun _ _ _ q => q) (fun c q => off c _ q (fun φ z => by cases z)) fun c xs q => off c _ q (fun φ z => by cases z)
theorem hok_show (k : HOk P w H h) (hn : ∀ c ∈ cs, H c.2.1 = none) (ho : ∀ c ∈ cs, h.get? c.2.1 = some c.2.2.1) : HOk P w (shwH cs H) h := fun b u e => by
  by_cases hb : b ∈ adrs cs
  · obtain ⟨c, hc, e1, f1, _⟩ := shw_in hb
    rw [f1] at e; cases e
    have := ho c hc
    rw [e1] at this
    exact ⟨this, ⟨_, this⟩, fun h1 h2 q st => st _ q⟩
  · rw [shwH_out hb] at e
    exact (k b u e).stay (fun _ _ _ q => q) (fun c q => shwH_same hn c _ q) fun c xs q => shwH_same hn c _ q
theorem hid_none (ha : ∀ c ∈ cs, ∃ o, H c.2.1 = some (ObO c.2.1 o)) {b : Addr} (n : H b = none) : b ∉ adrs cs /\ hidH (adrs cs) H b = none := by
  have hb : b ∉ adrs cs := fun hm => by
    obtain ⟨c, hc, rfl⟩ := List.mem_map.mp hm
    obtain ⟨o, ho⟩ := ha c hc
    rw [ho] at n; cases n
  exact ⟨hb, by rw [hidH_out hb]; exact n⟩
theorem hid_some (ha : ∀ c ∈ cs, ∃ o, H c.2.1 = some (ObO c.2.1 o)) {b : Addr} {u : HO} (e : H b = some u) (n : ∀ φ, u ≠ .ext φ) : b ∉ adrs cs /\ hidH (adrs cs) H b = some u := by
  have hb : b ∉ adrs cs := fun hm => by
    obtain ⟨c, hc, rfl⟩ := List.mem_map.mp hm
    obtain ⟨o, ho⟩ := ha c hc
    rw [ho] at e
    exact n _ (Option.some.inj e).symm
  exact ⟨hb, by rw [hidH_out hb]; exact e⟩
theorem un_show (u : Un fs [] (hidH (adrs cs) H) H' h h') (ha : ∀ c ∈ cs, ∃ o, H c.2.1 = some (ObO c.2.1 o)) : Un fs [] H (shwH cs H') h h' where
  keep := fun b o e n hf hx => u.keep b o e (hid_none ha n).2 hf hx
  slot := fun b o e n hf hx => u.slot b o e (hid_none ha n).2 hf hx
  free := fun b o e n hx => by
    obtain ⟨hb, n'⟩ := hid_none ha n
    rw [shwH_out hb]; exact u.free b o e n' hx
  there := u.there
  tups := fun b xs e => by
    obtain ⟨hb, e'⟩ := hid_some ha e (fun φ z => by cases z)
    rw [shwH_out hb]; exact u.tups b xs e'
  frzs := fun b o xs e => by
    obtain ⟨hb, e'⟩ := hid_some ha e (fun φ z => by cases z)
    rw [shwH_out hb]; exact u.frzs b o xs e'
  tbls := fun b ps e => by
    obtain ⟨hb, e'⟩ := hid_some ha e (fun φ z => by cases z)
    obtain ⟨more, q⟩ := u.tbls b ps e'
    exact ⟨more, by rw [shwH_out hb]; exact q⟩
theorem ub_show (u : UB fs (hidH (adrs cs) H) H' h B h') (ha : ∀ c ∈ cs, ∃ o, H c.2.1 = some (ObO c.2.1 o)) : UB fs H (shwH cs H') h B h' where
  keep := fun b o e n hf => u.keep b o e (hid_none ha n).2 hf
  slot := u.slot
  free := fun b o e n => by
    obtain ⟨hb, n'⟩ := hid_none ha n
    rw [shwH_out hb]; exact u.free b o e n'
  there := u.there
  tups := fun b xs e => by
    obtain ⟨hb, e'⟩ := hid_some ha e (fun φ z => by cases z)
    rw [shwH_out hb]; exact u.tups b xs e'
  frzs := fun b o xs e => by
    obtain ⟨hb, e'⟩ := hid_some ha e (fun φ z => by cases z)
    rw [shwH_out hb]; exact u.frzs b o xs e'
  tbls := fun b ps e => by
    obtain ⟨hb, e'⟩ := hid_some ha e (fun φ z => by cases z)
    obtain ⟨more, q⟩ := u.tbls b ps e'
    exact ⟨more, by rw [shwH_out hb]; exact q⟩
end
def capL {α : Type} (n : Nat) (l : List (Nat × α)) : List (Option α) := (List.range n).map fun i => l.lookup i
theorem capL_get {α : Type} {n : Nat} {l : List (Nat × α)} {i : Nat} {d : α} : (capL n l)[i]? = some (some d) ↔ i < n /\ l.lookup i = some d := by
  unfold capL
  rw [List.getElem?_map]
  by_cases h : i < n
  · rw [List.getElem?_range h]; simp [h]
  · rw [List.getElem?_eq_none (by simpa using h)]; simp [h]
structure LamS3 (S : LamSyn) (cap : List Nat) : Prop where
  kind : S.scope.kind = .function
  co : S.scope.isCoroutine = false
  gen : S.scope.isGenerator = false
  own : ∀ y ∈ S.scope.names, y.2 ≠ .cell /\ (y.2 = .local -> y.1 ∉ S.N)
  free : ∀ y ∈ S.scope.names, y.2 = .free -> ∃ i ∈ cap, S.N[i]? = some y.1
  nd : S.N.Nodup
def lamS3B (S : LamSyn) (cap : List Nat) : Bool :=
  decide (S.scope.kind = .function) && !S.scope.isCoroutine && !S.scope.isGenerator && (S.scope.names.all fun y => !decide (y.2 = .cell) && (!decide (y.2 = .local) || !decide (y.1 ∈ S.N)) && (!decide (y.2 = .free) || cap.any fun i => decide (S.N[i]? = some y.1))) && decide S.N.Nodup
theorem lamS3_by {S : LamSyn} {cap : List Nat} (h : lamS3B S cap = true) : LamS3 S cap := by
  unfold lamS3B at h
  simp only [Bool.and_eq_true, Bool.or_eq_true, Bool.not_eq_true', decide_eq_true_eq, decide_eq_false_iff_not, List.all_eq_true, List.any_eq_true] at h
  obtain ⟨⟨⟨⟨h1, h2⟩, h3⟩, h4⟩, h5⟩ := h
  refine ⟨h1, h2, h3, fun y hy => ⟨(h4 y hy).1.1, fun e => ?_⟩, fun y hy e => ?_, h5⟩
  · rcases (h4 y hy).1.2 with z | z
    · exact absurd e z
    · exact z
  · rcases (h4 y hy).2 with z | ⟨i, hi, z⟩
    · exact absurd e z
    · exact ⟨i, hi, z⟩
def LamBd (S : LamSyn) : Prop :=
  (S.df = [] /\ ∀ (C : Cells) (doc pm cv ctv : Value), bindArgs (PySem.W.kdv_fn "<lambda>" S.q S.params (.expr S.body) S.scope C .none doc pm cv ctv) ⟨[], []⟩ = pure []) \/
  (S.df ≠ [] /\ ∃ ys : List Str, ys.length = S.df.length /\ (∀ y ∈ ys, S.scope.names.lookup y = some .local) /\ ∀ (C : Cells) (doc pm cv ctv : Value) (T : Addr), ∃ k, bindArgs (PySem.W.kdv_fn "<lambda>" S.q S.params (.expr S.body) S.scope C (.ref T) doc pm cv ctv) ⟨[], []⟩ = seqItems? (.ref T) >>= k /\ ∀ us : List Value, us.length = S.df.length -> k (some us.toArray) = pure (ys.zip us))
theorem bind_lam {P : Program} {w : World} {F H : Hp} {s : Shared} {S : LamSyn} {C : Cells} {dV doc pm cv ctv : Value} {Md : Model} {A : Around} {E : Value -> Shared -> Prop} {Q : List (Str × Value) -> Shared -> Prop} (bd : LamBd S) (df : DfOk F S dV) (hF : Same F H) (hok : HOk P w H s.heap)
    (q : ∀ bs : List (Str × Value), (∀ b ∈ bs, S.scope.names.lookup b.1 = some .local) -> Q bs s) :
    wpAny Md A (bindArgs (PySem.W.kdv_fn "<lambda>" S.q S.params (.expr S.body) S.scope C dV doc pm cv ctv) ⟨[], []⟩) Q E s := by
  rcases df with ⟨h0, rfl⟩ | ⟨T, h0, rfl, hT⟩
  · rcases bd with ⟨_, b⟩ | ⟨ys, _⟩
    · rw [b]
      exact wpAny_pure (q [] (fun _ z => nomatch z))
    · exact absurd h0 ys
  · rcases bd with ⟨e, _⟩ | ⟨_, ys, hl, hy, b⟩
    · exact absurd e h0
    · obtain ⟨k, e1, e2⟩ := b C doc pm cv ctv T
      rw [e1]
      obtain ⟨_, its, vs, ob, ho, _, n, hdat⟩ := hok T _ (hF _ _ hT)
      refine wpAny_bind (wpAny_seqItems ho hdat ?_)
      have hlen : its.length = S.df.length := by
        have := vs.length
        rw [List.length_map] at this
        exact this.symm
      rw [e2 its hlen]
      refine wpAny_pure (q _ fun b hb => ?_)
      exact hy _ (List.of_mem_zip hb).1
structure LamT where
  N : List Str
  cap : List Nat
  τ : DTE
structure CapOk (M : Mem) (C : Cells) (N : List Str) (cap : List Nat) (cs : List CelE) : Prop where
  ix : cs.map (·.1) = cap
  nd : (adrs cs).Nodup
  at_ : ∀ c ∈ cs, ∃ x, N[c.1]? = some x /\ C.lookup x = some c.2.1
  mem : ∀ c ∈ cs, M c.2.1 = some (.cel c.2.2.1 c.2.2.2)
abbrev capEnv (n : Nat) (cs : List CelE) : DL.Env := capL n (cs.map fun c => (c.1, c.2.2.2))
def LamRun (T : Nat -> Option LamT) (j : Nat) (C : Cells) : THD := fun M Q E => ∃ L cs, T j = some L /\ CapOk M C L.N L.cap cs /\
  L.τ (capEnv L.N.length cs) (hidM (adrs cs) M) (fun d M' => (∀ a ∈ adrs cs, M' a = none) -> Q d (shwM cs M')) (fun c ns es _ M' => (∀ a ∈ adrs cs, M' a = none) -> E c ns es (shwM cs M'))
def dAppV (T : Nat -> Option LamT) (i : Nat) : DTE := fun ρ M Q X => ∃ j C, ρ[i]? = some (some (.fn j C)) /\ LamRun T j C M Q (fun c ns es M2 => X c ns es ρ M2)
theorem Rep.toFn {K : PySem.W.Frag} {cl : ClW} {F : Hp} {v : V} {j : Nat} {C : Cells} (h : Rep K cl F v (.fn j C)) : ∃ (f c : Addr) (L : LamSyn) (dV doc pm ctv : Value), v = .ref f /\ cl.lam j = some L /\ F f = some (ObO f (lamObj L C dV doc pm (.ref c) ctv)) /\ F c = some (CodeO c L.q) /\ DfOk F L dV := by
  cases h with
  | fn h1 h2 h3 h4 => exact ⟨_, _, _, _, _, _, _, rfl, h1, h2, h3, h4⟩
abbrev cloEnv (S : LamSyn) (C : Cells) (L f c' : Addr) : PySem.Env := PySem.W.envX S.q S.scope L f (.ref c') (cloFrom C S.scope.names [])
def cloCx (P : Program) (w : World) (K : PySem.W.Frag) (mg : Str -> Option Value) (base : Heap) (S : LamSyn) (A : Around) (outer : List PySem.Env) (s : Shared) (H : Hp) (E : XK) (C : Cells) (f c' : Addr) : Cx where
  prog := P
  w := w
  K := K
  mg := mg
  base := base
  A := A.deeper (cloEnv S C s.heap.objs.size f c')
  N := S.N
  s_0 := s
  H_0 := H
  env := cloEnv S C s.heap.objs.size f c'
  outer := outer
  stack := cloEnv S C s.heap.objs.size f c' :: outer
  ex := []
  fn := fun _ => false
  calm := true
  pn := []
  xe := fun e s' => wpAny (model P w) (A.deeper (cloEnv S C s.heap.objs.size f c')) (leaving (cloEnv S C s.heap.objs.size f c') e) (fun _ s'' => L2.CX P w outer H s E e s'') (fun e' s'' => L2.CX P w outer H s E e' s'') s'
def LamsOk (cl : ClW) (P : Program) (w : World) (K : PySem.W.Frag) (mg : Str -> Option Value) (base : Heap) (k : Nat) (T : Nat -> Option LamT) : Prop :=
  ∀ j L, T j = some L -> ∃ S, cl.lam j = some S /\ S.N = L.N /\ LamS3 S L.cap /\ LamBd S /\
    ∀ (A : Around) (outer : List PySem.Env) (s : Shared) (H : Hp) (E : XK) (C : Cells) (f c' : Addr), Cap (cloCx P w K mg base S A outer s H E C f c') (fun cls d _ H => E cls d H) k -> DE cl (cloCx P w K mg base S A outer s H E C f c') (fun cls d _ H => E cls d H) S.body L.τ
section
variable {K : PySem.W.Frag} {cl : ClW} {F : Hp}
theorem cap_vals : ∀ (cs : List CelE), (∀ c ∈ cs, CelOk K cl F c) -> ∃ es : List (Nat × V), (∀ i d, (cs.map fun c => (c.1, c.2.2.2)).lookup i = some d -> ∃ v, es.lookup i = some v /\ Rep K cl F v d) /\
    ∀ i v, es.lookup i = some v -> ∃ c ∈ cs, c.1 = i /\ ∃ u, c.2.2.1.data = .cell (some u) /\ RelV v u
  | [], _ => ⟨[], (fun _ _ e => (by cases e)), (fun _ _ e => (by cases e))⟩
  | c :: cs, h => by
    obtain ⟨es, h1, h2⟩ := cap_vals cs fun x hx => h x (List.mem_cons_of_mem _ hx)
    obtain ⟨v, u, k1, k2, k3⟩ := h c (List.mem_cons_self ..)
    refine ⟨(c.1, v) :: es, fun i d e => ?_, fun i v' e => ?_⟩
    · rw [List.map_cons, List.lookup_cons] at e
      rw [List.lookup_cons]
      by_cases hi : i = c.1
      · have hb : (i == c.1) = true := by simpa using hi
        simp only [hb] at e ⊢
        cases e
        exact ⟨v, rfl, k3⟩
      · have hb : (i == c.1) = false := by simpa using hi
        simp only [hb] at e ⊢
        exact h1 i d e
    · rw [List.lookup_cons] at e
      by_cases hi : i = c.1
      · have hb : (i == c.1) = true := by simpa using hi
        simp only [hb] at e
        cases e
        exact ⟨c, List.mem_cons_self .., hi.symm, u, k1, k2⟩
      · have hb : (i == c.1) = false := by simpa using hi
        simp only [hb] at e
        obtain ⟨c', hc, r⟩ := h2 i v' e
        exact ⟨c', List.mem_cons_of_mem _ hc, r⟩
theorem cap_slots {cs : List CelE} {es : List (Nat × V)} (n : Nat) (h : ∀ i d, (cs.map fun c => (c.1, c.2.2.2)).lookup i = some d -> ∃ v, es.lookup i = some v /\ Rep K cl F v d) : Slots K cl F (capL n es) (capEnv n cs) :=
  ⟨by simp [capL], fun i d e => by
    obtain ⟨h1, h2⟩ := capL_get.mp e
    obtain ⟨v, h3, h4⟩ := h i d h2
    exact ⟨v, capL_get.mpr ⟨h1, h3⟩, h4⟩⟩
end
theorem adr_uniq {cs : List CelE} (nd : (adrs cs).Nodup) {a b : CelE} (ha : a ∈ cs) (hb : b ∈ cs) (e : a.2.1 = b.2.1) : a = b := by
  induction cs with
  | nil => cases ha
  | cons c cs ih =>
    have nd' : c.2.1 ∉ adrs cs /\ (adrs cs).Nodup := by simpa [adrs] using nd
    rcases List.mem_cons.mp ha with h1 | h1
    · rcases List.mem_cons.mp hb with h2 | h2
      · rw [h1, h2]
      · exact absurd (List.mem_map.mpr ⟨b, h2, by rw [<- e, h1]⟩) nd'.1
    · rcases List.mem_cons.mp hb with h2 | h2
      · exact absurd (List.mem_map.mpr ⟨a, h1, by rw [e, h2]⟩) nd'.1
      · exact ih nd'.2 h1 h2
theorem clo_start {P : Program} {w : World} {K : PySem.W.Frag} {mg : Str -> Option Value} {base : Heap} {S : LamSyn} {cap : List Nat} {A : Around} {outer : List PySem.Env} {s1 : Shared} {HZ : Hp} {E : XK} {C : Cells} {f c' : Addr} {h₁ : Heap} {tk : Nat} {mm : Str -> Option Value} {cs : List CelE} {M : Mem} {es : List (Nat × V)}
    (e0 : Env0 P w K mg base A outer s1 HZ) (hd : A.handled = none) (ls : LamS3 S cap) (ck : CapOk M C S.N cap cs) (hz : ∀ c ∈ cs, HZ c.2.1 = none) (ho : ∀ c ∈ cs, s1.heap.get? c.2.1 = some c.2.2.1) (hcel : ∀ c ∈ cs, ∃ u, c.2.2.1.data = .cell (some u))
    (hes : ∀ i v, es.lookup i = some v -> ∃ c ∈ cs, c.1 = i /\ ∃ u, c.2.2.1.data = .cell (some u) /\ RelV v u)
    (hns : h₁.Ns s1.heap.objs.size mm) (kp : ∀ b o, s1.heap.get? b = some o -> h₁.get? b = some o) :
    Inv (cloCx P w K mg base S A outer s1 HZ E C f c') [] (capL S.N.length es) HZ { s1 with heap := h₁, toks := tk } := by
  have fr : ∀ y, (y, NameKind.free) ∈ S.scope.names -> ∃ c ∈ cs, S.N[c.1]? = some y /\ C.lookup y = some c.2.1 := fun y hy => by
    obtain ⟨i, hi, e⟩ := ls.free _ hy rfl
    rw [<- ck.ix] at hi
    obtain ⟨c, hc, rfl⟩ := List.mem_map.mp hi
    obtain ⟨x, h1, h2⟩ := ck.at_ c hc
    rw [e] at h1
    cases h1
    exact ⟨c, hc, e, h2⟩
  have cm : ∀ {y b}, (cloFrom C S.scope.names []).lookup y = some b -> ∃ c ∈ cs, S.N[c.1]? = some y /\ C.lookup y = some c.2.1 /\ b = c.2.1 := fun {y b} e => by
    rcases cloFrom_mem (PySem.mem_of_lookup e) with hm | ⟨h1, h2⟩
    · cases hm
    · obtain ⟨c, hc, k1, k2⟩ := fr y h1
      rw [k2] at h2
      exact ⟨c, hc, k1, k2, h2⟩
  have look : ∀ {y}, (y, NameKind.free) ∈ S.scope.names -> ∃ b, (cloFrom C S.scope.names []).lookup y = some b := fun {y} hy => mem_lookup (cloFrom_has (cells := C) (acc := []) hy)
  have noA : ∀ b : Addr, b ∉ (cloCx P w K mg base S A outer s1 HZ E C f c').ex := fun b z => absurd (show b ∈ ([] : List Addr) from z) (by simp)
  refine ⟨⟨e0.mod, ls.kind, rfl, rfl, Nat.le_refl _, fun y z b e1 e2 => ?_, fun y hy => ?_, fun y b z _ => ?_, fun _ => hd, Around.frames_deeper e0.frames, .inr ⟨rfl, rfl⟩, fun b z => absurd z (noA b), e0.bs, e0.bsz, fun b _ _ => noA b,
      fun b z => absurd z (noA b), e0.funs, e0.frf⟩,
    rfl, e0.bare, Un.kept kp, ⟨_, hns, fun i y v e1 e2 e3 => ?_⟩, fun y b e => ?_, e0.hok.fresh (Nat.le_refl _), fun y b e => ?_, fun q hq => absurd (show q ∈ ([] : List (Addr × Obj)) ++ [] from hq) (by simp), e0.hok.kept kp, by simp [capL, cloCx]⟩
  · obtain ⟨c1, m1, a1, _, b1⟩ := cm e1
    obtain ⟨c2, m2, a2, _, b2⟩ := cm e2
    obtain rfl := adr_uniq ck.nd m1 m2 (b1.symm.trans b2)
    rw [a1] at a2
    exact Option.some.inj a2
  · have hy : S.scope.names.lookup y = some .cell \/ S.scope.names.lookup y = some .free := hy
    rcases hy with hy | hy
    · exact absurd rfl (ls.own _ (PySem.mem_of_lookup hy)).1
    · exact look (PySem.mem_of_lookup hy)
  · have z : false = true := z
    cases z
  · have e3 : Vis S.scope y := e3
    have e1 : S.N[i]? = some y := e1
    rcases e3 with k | k | k
    · exact absurd (List.mem_of_getElem? e1) ((ls.own _ (PySem.mem_of_lookup k)).2 rfl)
    · exact absurd rfl (ls.own _ (PySem.mem_of_lookup k)).1
    · obtain ⟨_, h2⟩ := capL_get.mp e2
      obtain ⟨c, hc, rfl, u, k1, k2⟩ := hes i v h2
      obtain ⟨x, a1, a2⟩ := ck.at_ c hc
      rw [e1] at a1
      cases a1
      obtain ⟨b, hb⟩ := look (PySem.mem_of_lookup k)
      obtain ⟨c2, m2, _, b2, b3⟩ := cm hb
      have : b = c.2.1 := by rw [b3]; exact Option.some.inj (b2.symm.trans a2)
      subst this
      exact ⟨u, k2, .inr ⟨.inr k, _, hb, _, kp _ _ (ho c hc), k1⟩⟩
  · obtain ⟨c, hc, _, _, rfl⟩ := cm e
    obtain ⟨u, k1⟩ := hcel c hc
    exact ⟨some u, _, kp _ _ (ho c hc), k1⟩
  · obtain ⟨c, hc, _, _, rfl⟩ := cm e
    exact hz c hc
section
variable {cl : ClW} {X : Cx} {W : WX} {k i : Nat} {a : Str} {p1 p2 : Pos} {T : Nat -> Option LamT}
theorem d_app (cp : Cap X W (k + 1)) (hT : LamsOk cl X.prog X.w X.K X.mg X.base k T) (hN : X.N[i]? = some a) (hv : Vis X.env.scope a) (hd : (a == ("__debug__" : Str)) = false := by decide) (hcd : (a == ("__classdict__" : Str)) = false := by decide) :
    DE cl X W (.Call (.Name a p1) [] [] p2) (dAppV T i) := by
  refine ⟨⟨fun pins s σ H Q I ⟨F, ρ, M, Qd, Xd, gd, sl, ⟨j, C, h1, L, cs, hL, ck, t⟩, p, wk⟩ => ?_⟩⟩
  obtain ⟨v, e1, rv⟩ := sl.get i _ h1
  obtain ⟨f, c', S, dV, doc, pm, ctv, rfl, hS, hf, hc, hdf⟩ := rv.toFn
  obtain ⟨S', hS', eN, ls, bd, hbody⟩ := hT j L hL
  rw [hS] at hS'
  cases hS'
  refine wpAny_Call_Name_kw (thn ((pe_var (pos := p1) (i := i) hN hv hd hcd).run pins s σ H (fun v H1 => v = .ref f /\ H1 = H) I ⟨.ref f, e1, rfl, rfl⟩) fun u s1 ⟨v, H1, I1, r1, q1⟩ => ?_)
  obtain ⟨ev, eH⟩ := q1
  subst ev
  rw [eH] at I1
  obtain rfl : u = Value.ref f := r1
  have of1 : s1.heap.get? f = some (lamObj S C dV doc pm (.ref c') ctv) := (I1.hok f _ (gd.sub _ _ hf)).1
  refine PySem.W.callWith_F0 ⟨_, _, _, _, of1⟩ ?_
  obtain ⟨⟨oc, vs2, t2, hoc, hdc, hvc⟩, _, _⟩ := I1.hok c' _ (gd.sub _ _ hc)
  have ha : ∀ c ∈ cs, ∃ o, H c.2.1 = some (ObO c.2.1 o) := fun c hc => ⟨_, (gd.cel (ck.mem c hc)).2.1⟩
  have ho : ∀ c ∈ cs, s1.heap.get? c.2.1 = some c.2.2.1 := fun c hc => (I1.hok _ _ (gd.cel (ck.mem c hc)).2.1).1
  have ok : ∀ c ∈ cs, CelOk X.K cl F c := fun c hc => (gd.cel (ck.mem c hc)).2.2
  have hcel : ∀ c ∈ cs, ∃ u, c.2.2.1.data = .cell (some u) := fun c hc => by
    obtain ⟨v, u, h1, _⟩ := ok c hc
    exact ⟨u, h1⟩
  have hfs : ∀ c ∈ cs, c.2.1 ∉ frs X.stack := fun c hc hb => by
    have := I1.stkFree _ hb
    obtain ⟨o, h2⟩ := ha c hc
    rw [h2] at this; cases this
  obtain ⟨es, hes1, hes2⟩ := cap_vals cs ok
  have e0 : Env0 X.prog X.w X.K X.mg X.base X.A X.stack s1 (hidH (adrs cs) H) := by
    obtain ⟨x1, x2, x3, x4, x5, x6, x7, x8⟩ := I1.env0
    refine ⟨x1, x2, fun b o e => ⟨(x3 b o e).1, (hid_none ha (x3 b o e).2).2⟩, x4, x5, fun b hb => (hid_none ha (x6 b hb)).2, ?_, x8⟩
    exact hok_hide x7 fun b hb => by
      obtain ⟨c, hc, rfl⟩ := List.mem_map.mp hb
      exact ha c hc
  have hr := cp.hr
  have free : ∀ {H' : Hp} {s' : Shared} {fs : List Addr}, Un fs [] (hidH (adrs cs) H) H' s1.heap s'.heap -> ∀ c ∈ cs, H' c.2.1 = none := fun {H' s' fs} u c hc => u.free _ _ (ho c hc) (hidH_in (List.mem_map.mpr ⟨c, hc, rfl⟩)) (by simp)
  -- the promise of an exception, with the cells shown again
  have cxS : ∀ {e : Value} {s' : Shared}, L2.CX X.prog X.w X.stack (hidH (adrs cs) H) s1 (fun cls d H' => (∀ c ∈ cs, H' c.2.1 = none) -> WE W σ cls d (shwH cs H')) e s' -> L2.CX X.prog X.w X.stack H s1 (WE W σ) e s' := fun {e s'} h => by
    obtain ⟨b, B, H', cls, d, rfl, fl, hok, ub, na, os, ag, hE⟩ := h
    have hn : ∀ c ∈ cs, H' c.2.1 = none := fun c hc => ub.free _ _ (ho c hc) (hidH_in (List.mem_map.mpr ⟨c, hc, rfl⟩))
    have hB : ∀ c ∈ cs, B.get? c.2.1 = some c.2.2.1 := fun c hc => ub.keep _ _ (ho c hc) (hidH_in (List.mem_map.mpr ⟨c, hc, rfl⟩)) (hfs c hc)
    refine ⟨b, B, shwH cs H', cls, d, rfl, fl, hok_show hok hn hB, ub_show ub ha, ?_, os, ag, hE hn⟩
    have : b ∉ adrs cs := fun hm => by
      obtain ⟨c, hc, rfl⟩ := List.mem_map.mp hm
      have := hB c hc
      rw [fl.2.1] at this; cases this
    rw [shwH_out this]; exact na
  have rc : codeAny (model X.prog X.w) X.A (.call (.ref f) ⟨[], []⟩) (CR (L2.CX X.prog X.w) X.stack X.prog X.w H s1 Q (WE W σ)) s1 := by
    refine PySem.W.kla_callFunE hr.room.depth of1 rfl ls.co ls.gen rfl ⟨c', oc, vs2, t2, rfl, hoc, hdc, hvc⟩ ?_
    refine bind_lam bd hdf gd.sub I1.hok fun bs hbs => ?_
    refine wpAny_newFunctionEnv (fun y hy => (ls.own y hy).1) hbs (fun h₁ hns hsb => ⟨I1.nolimit.fresh _ hsb, ?_⟩) ls.kind
    show codeAny _ _ (.expr S.body (cloEnv S C s1.heap.objs.size f c')) _ _
    have kp : ∀ b o, s1.heap.get? b = some o -> h₁.get? b = some o := fun b o e => hsb.extBut b o (Nat.ne_of_lt (Heap.lt_size e)) (Heap.get?_push_of_some _ e)
    rw [<- eN] at ck t
    have J : Inv (cloCx X.prog X.w X.K X.mg X.base S X.A X.stack s1 (hidH (adrs cs) H) (fun cls d H' => (∀ c ∈ cs, H' c.2.1 = none) -> WE W σ cls d (shwH cs H')) C f c') [] (capL S.N.length es) (hidH (adrs cs) H) { s1 with heap := h₁, toks := s1.toks + bs.length } :=
      clo_start e0 hr.room.hd ls ck (fun c hc => hidH_in (List.mem_map.mpr ⟨c, hc, rfl⟩)) ho hcel hes2 hns kp
    have hq : lowE X.K cl (fun cls d _ H' => (∀ c ∈ cs, H' c.2.1 = none) -> WE W σ cls d (shwH cs H')) L.τ (capL S.N.length es) (hidH (adrs cs) H) (fun v H' => (∀ c ∈ cs, H' c.2.1 = none) -> Q v (shwH cs H')) :=
      ⟨F, capEnv S.N.length cs, hidM (adrs cs) M, _, _, gd.hide ck.mem, cap_slots _ hes1, t, fun v H' F' d M' sm g' r' q' hn => p v _ F' d _ sm (g'.show hn fun c hc => (ok c hc).mono sm) r' (q' fun b hb => by
          obtain ⟨c, hc, rfl⟩ := List.mem_map.mp hb
          exact g'.freshM (hn c hc)),
        fun c ns es' σ' H' F' ρ' M' dd sm g' s' ea q' hn => wk c ns es' σ _ F' ρ _ dd sm (g'.show hn fun c hc => (ok c hc).mono sm) (sl.mono sm) ea (q' fun b hb => by
          obtain ⟨c, hc, rfl⟩ := List.mem_map.mp hb
          exact g'.freshM (hn c hc))⟩
    refine PySem.W.kla_codeExpr (wpAny_mono ((hbody _ _ s1 _ _ C f c' ⟨takes_of rfl rfl rfl rfl, hr.deeper _, passes_of rfl, rfl⟩).pe.run [] _ _ _ _ J hq) (fun v s' hq => ?_) fun e s' hq => wpAny_mono hq (fun _ s'' h => cxS h) fun e' s'' h => cxS h)
    obtain ⟨w', H', J', rv, q⟩ := hq
    have hn : ∀ c ∈ cs, H' c.2.1 = none := free (s' := s') J'.base
    have hk : ∀ c ∈ cs, s'.heap.get? c.2.1 = some c.2.2.1 := fun c hc => J'.base.keep _ _ (ho c hc) (hidH_in (List.mem_map.mpr ⟨c, hc, rfl⟩)) (hfs c hc) (by simp [cloCx])
    exact ⟨w', _, J'.os, J'.bare, un_show J'.base ha, hok_show J'.hok hn hk, rv, q hn⟩
  refine wpAny_call (codeAny_mono rc fun r s' hq => ?_)
  cases r with
  | error e => exact passAt cp.tk σ pins H s1 e s' I1 hq
  | ok fl =>
    cases fl with
    | ret u => exact I1.after hq
    | next => exact False.elim hq
    | brk => exact False.elim hq
    | cont => exact False.elim hq
end
end DL
set_option Elab.async false
set_option linter.all false
set_option maxRecDepth 100000
set_option maxHeartbeats 4000000
set_option autoImplicit false
namespace DL
open PySem PySem.Spec PyProof.Rows L2 LamX
section
variable {X : Cx} {pins : List (Addr × Obj)} {σ : L2.St} {H : Hp} {s : Shared}
theorem ev_ints : ∀ (l : List (Int × Nat × Pos)) {s : Shared} {Q : List Value -> Shared -> Prop}, Inv X pins σ H s -> (∀ us s', Inv X pins σ H s' -> Vals (l.map fun c => V.int c.1) us -> Q us s') ->
    wpAny (model X.prog X.w) X.A (evalAll (l.map fun c => eval (.Constant (.int c.1) c.2.1 c.2.2) X.env)) Q X.xe s
  | [], s, Q, I, q => wpAny_evalAll_nil (q [] s I .nil)
  | c :: l, s, Q, I, q => by
    rw [List.map_cons]
    refine wpAny_evalAll_cons (thn ((pe_int (X := X) (i := c.1) (j := c.2.1) (pos := c.2.2)).run pins s σ H (fun v H' => v = .int c.1 /\ H' = H) I ⟨rfl, rfl⟩) fun u s0 ⟨v, H', I0, r0, ev, eH⟩ => ?_)
    rw [eH] at I0
    rw [ev] at r0
    exact ev_ints l I0 fun us s' I' vs => q _ _ I' (.cons r0 vs)
theorem make_tail {T : List (Addr × Str)} {c P : Addr} {params : Arguments} {body : Expr} {scope : Scope} {pos : Pos} {dV : Value} {Q : Value -> Shared -> Prop} (I : Inv X pins σ H s) (TB : TabB X.base X.mg c P) (hcode : X.env.code = .ref c)
    (hm : (P, X.env.qual ++ "<lambda>") ∈ T) (hu : ∀ p ∈ T, p.1 = P -> p.2 = X.env.qual ++ "<lambda>") (hT : Tabs T H) (hfree : ∀ y ∈ scope.names, y.2 = .free -> ∃ c, X.env.cells.lookup y.1 = some c)
    (h : ∀ (f c' : Addr) (doc pm ctv : Value) (H1 : Hp) (s' : Shared), Inv X pins σ H1 s' -> ExtN H H1 -> Tabs T H1 -> H f = none ->
      H1 f = some (ObO f { cls := .type "function", data := .func (PySem.W.kdv_fn "<lambda>" (X.env.qual ++ "<lambda>") params (.expr body) scope (cloFrom X.env.cells scope.names []) dV doc pm (.ref c') ctv) }) -> H1 c' = some (CodeO c' (X.env.qual ++ "<lambda>")) -> Q (.ref f) s') :
    wpAny (model X.prog X.w) X.A (makeTail "<lambda>" (X.env.qual ++ "<lambda>") params (.expr body) scope X.env dV .none none pos pos.line) Q X.xe s := by
  obtain ⟨ps, hP0, ht, ha⟩ := hT _ hm
  have bP : s.heap.BuiltinsAt X.mg P := TB.bm.keeps I.bk
  have hP' := I.hok P _ hP0
  cases hc : codeAmong pos ps.toList with
  | none =>
    refine PySem.W.kdv_makeTail (mg := X.mg) (c := c) (P := P) (ps := ps) (closure_ok hfree) I.ok.glob (I.mod.glob.keeps I.bk) hcode (TB.code.keeps I.bk) hP' ht hc TB.gP bP fun c' ctv doc h' tk hx hge hlt hrec htb => ?_
    obtain ⟨c2, oc, vs, t2, e2, hoc, hd, hv⟩ := hrec
    cases e2
    have nC : H c' = none := I.hok.fresh hge
    have I1 := inv_table (q := X.env.qual ++ "<lambda>") (t' := tk) (more := #[rawInt pos.line, rawInt pos.col, .ref c']) (h' := h') I hP0 (fun b o hb e => hx b o hb e) htb hge ⟨oc, vs, t2, hoc, hd, hv⟩
    have hsz : s.heap.objs.size <= h'.objs.size := Nat.le_trans hge (Nat.le_of_lt hlt)
    have I3 := I1.laid (a := h'.objs.size) (o := ObO h'.objs.size (PySem.W.kdv_obj "<lambda>" (X.env.qual ++ "<lambda>") params (.expr body) scope (cloFrom X.env.cells scope.names []) dV doc ((X.mg "__name__").getD .none) c' ctv)) (t' := tk)
      (h' := h'.push (PySem.W.kdv_obj "<lambda>" (X.env.qual ++ "<lambda>") params (.expr body) scope (cloFrom X.env.cells scope.names []) dV doc ((X.mg "__name__").getD .none) c' ctv)) (fun b u e => Heap.get?_push_of_some _ e) (Nat.le_refl _) ⟨Heap.get?_push_size _ rfl, ⟨_, Heap.get?_push_size _ rfl⟩, fun h1 h2 q st => st _ q⟩
    have nF : H h'.objs.size = none := I.hok.fresh hsz
    have nFc : h'.objs.size ≠ c' := Nat.ne_of_gt hlt
    have nFP : h'.objs.size ≠ P := Nat.ne_of_gt (Nat.lt_of_lt_of_le (Heap.lt_size hP') hsz)
    have hE0 : ExtN H (upd (upd H P (.tbl (ps ++ #[rawInt pos.line, rawInt pos.col, .ref c']))) c' (CodeO c' (X.env.qual ++ "<lambda>"))) := fun b o e n => by
      rw [upd_ne (ne_of_none e nC), upd_ne (fun z => n ps (Option.some.inj (e.symm.trans (by rw [z]; exact hP0))))]
      exact e
    have nF2 : (upd (upd H P (.tbl (ps ++ #[rawInt pos.line, rawInt pos.col, .ref c']))) c' (CodeO c' (X.env.qual ++ "<lambda>"))) h'.objs.size = none := by rw [upd_ne nFc, upd_ne nFP]; exact nF
    have hE : ExtN H (upd (upd (upd H P (.tbl (ps ++ #[rawInt pos.line, rawInt pos.col, .ref c']))) c' (CodeO c' (X.env.qual ++ "<lambda>"))) h'.objs.size (ObO h'.objs.size (PySem.W.kdv_obj "<lambda>" (X.env.qual ++ "<lambda>") params (.expr body) scope (cloFrom X.env.cells scope.names []) dV doc ((X.mg "__name__").getD .none) c' ctv))) := fun b o e n => by
      rw [upd_ne (ne_of_none e nF)]
      exact hE0 b o e n
    have eL : (ps ++ #[rawInt pos.line, rawInt pos.col, .ref c']).toList = ps.toList ++ [rawInt pos.line, rawInt pos.col, .ref c'] := by simp
    have T0 : Tabs T (upd (upd H P (.tbl (ps ++ #[rawInt pos.line, rawInt pos.col, .ref c']))) c' (CodeO c' (X.env.qual ++ "<lambda>"))) := fun p hp => by
      by_cases hb : p.1 = P
      · rw [hu p hp hb, hb]
        refine ⟨_, by rw [upd_ne (ne_of_none hP0 nC), upd_same], by rw [eL]; exact PySem.TriplesOk_snoc _ _ _ _ ht, fun p' cv hcv => ?_⟩
        rw [eL] at hcv
        rcases among_app _ ht hcv with z | z
        · obtain ⟨c0, e1, e2⟩ := ha p' cv z
          exact ⟨c0, e1, hE0 _ _ e2 codeO_ne⟩
        · exact ⟨c', z, upd_same⟩
      · obtain ⟨ps', a1, a2, a3⟩ := hT p hp
        refine ⟨ps', by rw [upd_ne (ne_of_none a1 nC), upd_ne hb]; exact a1, a2, fun p' cv hcv => ?_⟩
        obtain ⟨c0, e1, e2⟩ := a3 p' cv hcv
        exact ⟨c0, e1, hE0 _ _ e2 codeO_ne⟩
    refine h h'.objs.size c' doc ((X.mg "__name__").getD .none) ctv _ _ I3 hE (T0.ext fun b o e => ?_) nF upd_same ?_
    · rw [upd_ne (ne_of_none e nF2)]; exact e
    · rw [upd_ne (Ne.symm nFc)]; exact upd_same
  | some cv =>
    obtain ⟨c', e, hco⟩ := ha pos cv hc
    subst e
    refine PySem.W.kdv_makeTailHit (mg := X.mg) (c := c) (P := P) (ps := ps) (closure_ok hfree) I.ok.glob (I.mod.glob.keeps I.bk) hcode (TB.code.keeps I.bk) hP' ht hc bP fun ctv doc h' tk hx hsz => ?_
    have I1 : Inv X pins σ H { s with heap := h', toks := tk } := I.kept (t' := tk) hx
    have nF : H h'.objs.size = none := I.hok.fresh hsz
    have I3 := I1.laid (a := h'.objs.size) (o := ObO h'.objs.size { cls := .type "function", data := .func (PySem.W.kdv_fn "<lambda>" (X.env.qual ++ "<lambda>") params (.expr body) scope (cloFrom X.env.cells scope.names []) dV doc ((X.mg "__name__").getD .none) (.ref c') ctv) }) (t' := tk)
      (h' := h'.push { cls := .type "function", data := .func (PySem.W.kdv_fn "<lambda>" (X.env.qual ++ "<lambda>") params (.expr body) scope (cloFrom X.env.cells scope.names []) dV doc ((X.mg "__name__").getD .none) (.ref c') ctv) }) (fun b u e => Heap.get?_push_of_some _ e) (Nat.le_refl _) ⟨Heap.get?_push_size _ rfl, ⟨_, Heap.get?_push_size _ rfl⟩, fun h1 h2 q st => st _ q⟩
    have st : ∀ b o, H b = some o -> upd H h'.objs.size (ObO h'.objs.size { cls := .type "function", data := .func (PySem.W.kdv_fn "<lambda>" (X.env.qual ++ "<lambda>") params (.expr body) scope (cloFrom X.env.cells scope.names []) dV doc ((X.mg "__name__").getD .none) (.ref c') ctv) }) b = some o := fun b o e => by
      rw [upd_ne (ne_of_none e nF)]; exact e
    exact h h'.objs.size c' doc ((X.mg "__name__").getD .none) ctv _ _ I3 (ExtN.of st) (hT.ext st) nF upd_same (st _ _ hco)
end
theorem Good.addNew {K : PySem.W.Frag} {cl : ClW} {F H : Hp} {M : Mem} (g : Good K cl F H M) {b : Addr} {o : HO} (hb : H b = some o) (hM : M b = none) (hF : F b = none) (ho : ∀ ps, o ≠ .tbl ps) : Same F (upd F b o) /\ Good K cl (upd F b o) H M := by
  have sm : Same F (upd F b o) := same_new hF
  refine ⟨sm, fun a u e => ?_, fun a d e => ?_, g.tab, fun a ps e => ?_⟩
  · by_cases h : a = b
    · subst h
      rw [upd_same] at e
      rw [hb]; exact e
    · rw [upd_ne h] at e; exact g.sub a u e
  · have hab : a ≠ b := fun z => by rw [z, hM] at e; cases e
    obtain ⟨h1, h2⟩ := g.cell a d e
    exact ⟨by rw [upd_ne hab]; exact h1, h2.mono sm fun u q => q⟩
  · by_cases h : a = b
    · subst h
      rw [upd_same] at e
      exact ho ps (Option.some.inj e)
    · rw [upd_ne h] at e; exact g.noT a ps e
def dLamV (j : Nat) (C : Cells) : DTE := fun _ M Q _ => Q (.fn j C) M
section
variable {cl : ClW} {X : Cx} {W : WX} {j : Nat} {cc P : Addr} {params : Arguments} {body : Expr} {scope : Scope} {df : List Int} {pos : Pos}
theorem d_lamV (TB : TabB X.base X.mg cc P) (hcode : X.env.code = .ref cc) (hmT : (P, X.env.qual ++ "<lambda>") ∈ tabsOf cl) (hu : ∀ p ∈ tabsOf cl, p.1 = P -> p.2 = X.env.qual ++ "<lambda>")
    (hj : cl.lam j = some ⟨X.N, X.env.qual ++ "<lambda>", params, body, scope, df⟩) (hfree : ∀ y ∈ scope.names, y.2 = .free -> X.env.scope.names.lookup y.1 = some .cell \/ X.env.scope.names.lookup y.1 = some .free)
    (l : List (Int × Nat × Pos)) (hl : df = l.map (·.1)) (hs : l.length <= 10) (hdef : defaultsOf params X.env = (l.map fun c => eval (.Constant (.int c.1) c.2.1 c.2.2) X.env, [])) :
    DE cl X W (.Lambda params body scope pos) (dLamV j X.env.cells) := by
  refine ⟨⟨fun pins s σ H Q I ⟨F, ρ, M, Qd, Xd, gd, sl, t, p, w⟩ => ?_⟩⟩
  have hfr : ∀ y ∈ scope.names, y.2 = .free -> ∃ c, X.env.cells.lookup y.1 = some c := fun y hy e => by
    rcases hfree y hy e with k | k
    · exact I.ok.has _ (.inl k)
    · exact I.ok.has _ (.inr k)
  have fin : ∀ {dV : Value} {F2 H2 : Hp} {s2 : Shared}, Inv X pins σ H2 s2 -> Same F F2 -> Good X.K cl F2 H2 M -> DfOk F2 ⟨X.N, X.env.qual ++ "<lambda>", params, body, scope, df⟩ dV ->
      wpAny (model X.prog X.w) X.A (makeTail "<lambda>" (X.env.qual ++ "<lambda>") params (.expr body) scope X.env dV .none none pos pos.line) (EP X pins σ Q) X.xe s2 := fun {dV F2 H2 s2} I2 sm g2 hdf =>
    make_tail I2 TB hcode hmT hu g2.tab hfr fun f c' doc pm ctv H1 s' I1 e t1 nf hf hc => by
      have g3 := g2.extN e t1
      obtain ⟨sm4, g4⟩ := g3.addNew hf (g2.freshM nf) (g2.freshF nf) (fun ps z => by cases z)
      obtain ⟨sm5, g5⟩ := g4.code hc
      have hfc : f ≠ c' := fun z => by
        rw [z, hc] at hf
        exact ob_ne_code (fun vs z => by cases z) (Option.some.inj hf).symm
      exact ⟨.ref f, H1, I1, rfl, p _ H1 _ (.fn j X.env.cells) M ((sm.trans sm4).trans sm5) g5 (.fn hj (by rw [upd_ne hfc]; exact upd_same) upd_same (hdf.mono (sm4.trans sm5))) t⟩
  rw [PySem.arm_eval_Lambda, hdef]
  show wpAny _ _ (do let dv <- evalAll (l.map fun c => eval (.Constant (.int c.1) c.2.1 c.2.2) X.env); let kdv <- holding dv (evalAllOpt []); makeFunction "<lambda>" (X.env.qual ++ "<lambda>") params (.expr body) scope X.env dv kdv [] pos pos.line) _ _ s
  refine wpAny_bind (ev_ints l I fun us s0 I0 vs => ?_)
  refine wpAny_bind (wpAny_holding (wpAny_pure ?_))
  rw [PySem.makeFunction_eq]
  cases us with
  | nil =>
    have h0 : df = [] := by
      rw [hl]
      have := vs.length
      simpa using this
    simp only [List.zip_nil_right, List.filterMap_nil, List.isEmpty_nil, if_true, pure_bind]
    exact fin I0 (Same.refl F) gd (.inl ⟨h0, rfl⟩)
  | cons u us =>
    have h0 : df ≠ [] := fun z => by
      rw [hl] at z
      have := vs.length
      rw [List.map_eq_nil_iff.mp z] at this
      simp at this
    simp only [List.zip_nil_right, List.filterMap_nil, List.isEmpty_nil, List.isEmpty_cons, if_true, pure_bind, Bool.false_eq_true, if_false]
    refine wpAny_bind (wpAny_newTextTuple ?_)
    have nT : H s0.heap.objs.size = none := I0.hok.fresh (Nat.le_refl _)
    have I2 := I0.laid (a := s0.heap.objs.size) (o := .tup (l.map fun c => V.int c.1)) (t' := s0.toks) (h' := s0.heap.push { cls := .type "tuple", data := .seq (u :: us).toArray }) (fun b o e => Heap.get?_push_of_some _ e) (Nat.le_refl _)
      (show ObjOk X.prog X.w _ _ _ (.tup _) from ⟨by rw [size_line, List.length_map]; omega, u :: us, vs, IsTup.new _ _⟩)
    exact fin (dV := .ref s0.heap.objs.size) I2 (same_new (gd.freshF nT)) (gd.new nT) (.inr ⟨_, h0, rfl, by rw [upd_same, hl, List.map_map]; rfl⟩)
end
end DL
set_option Elab.async false
set_option linter.all false
set_option maxRecDepth 100000
set_option maxHeartbeats 4000000
set_option autoImplicit false
namespace DL
open PySem PySem.Spec PyProof.Rows L2 LamX
def SPX (X : Cx) (pins : List (Addr × Obj)) (R : L2.St -> V -> Hp -> Prop) (f : Flow) (s' : Shared) : Prop := match f with
  | .ret u => ∃ v σ' H', Inv X pins σ' H' s' /\ RelV v u /\ R σ' v H'
  | _ => False
abbrev DRX := DL.Env -> D -> Mem -> Prop
abbrev DTX := DRX -> DX -> DL.Env -> Mem -> Prop
structure DSX (cl : ClW) (X : Cx) (W : WX) (sts : List Stmt) (t : DTX) : Prop where
  run : ∀ (pins : List (Addr × Obj)) (s : Shared) (σ : L2.St) (H : Hp) (R : L2.St -> V -> Hp -> Prop) (F : Hp) (ρ : DL.Env) (M : Mem) (Rd : DRX) (Xd : DX), Inv X pins σ H s -> Good X.K cl F H M -> Slots X.K cl F σ ρ -> t Rd Xd ρ M ->
    (∀ σ' v H' F' ρ' d M', Same F F' -> Good X.K cl F' H' M' -> Slots X.K cl F' σ' ρ' -> Rep X.K cl F' v d -> Rd ρ' d M' -> R σ' v H') -> WOk X.K cl W F Xd -> wpAny (model X.prog X.w) X.A (execs sts X.env) (SPX X pins R) X.xe s
section
variable {cl : ClW} {X : Cx} {W : WX} {st : Stmt} {sts : List Stmt} {u : DTS} {t : DTX} {e : Expr} {τ : DTE} {pos : Pos}
end
structure CapAt (ρ : DL.Env) (M : Mem) (C : Cells) (N : List Str) (cap : List Nat) (cs : List CelE) : Prop where
  ix : cs.map (·.1) = cap
  nd : (adrs cs).Nodup
  at_ : ∀ c ∈ cs, ∃ x, N[c.1]? = some x /\ C.lookup x = some c.2.1
  val : ∀ c ∈ cs, ρ[c.1]? = some (some c.2.2.2)
  new : ∀ c ∈ cs, M c.2.1 = none
section
variable {K : PySem.W.Frag} {cl : ClW} {X : Cx} {pins : List (Addr × Obj)} {σ : L2.St} {H F : Hp} {s : Shared} {ρ : DL.Env} {M : Mem}
theorem cap_find (I : Inv X pins σ H s) : ∀ (cap : List Nat), (∀ i ∈ cap, ∃ x, X.N[i]? = some x /\ X.env.scope.names.lookup x = some .cell) -> (∀ i ∈ cap, ∃ e v, ρ[i]? = some (some e) /\ σ[i]? = some (some v) /\ Rep X.K cl F v e) ->
    ∃ cs : List CelE, cs.map (·.1) = cap /\ ∀ c ∈ cs, (∃ x, X.N[c.1]? = some x /\ X.env.cells.lookup x = some c.2.1) /\ ρ[c.1]? = some (some c.2.2.2) /\ s.heap.get? c.2.1 = some c.2.2.1 /\ CelOk X.K cl F c
  | [], _, _ => ⟨[], rfl, (fun _ z => nomatch z)⟩
  | i :: cap, h1, h2 => by
    obtain ⟨cs, k1, k2⟩ := cap_find I cap (fun j hj => h1 j (List.mem_cons_of_mem _ hj)) fun j hj => h2 j (List.mem_cons_of_mem _ hj)
    obtain ⟨x, hx, hs⟩ := h1 i (List.mem_cons_self ..)
    obtain ⟨d, v, hd, e1, r⟩ := h2 i (List.mem_cons_self ..)
    obtain ⟨m, _, hl⟩ := I.loc
    obtain ⟨u, rv, lk⟩ := hl i x v hx e1 (.inr (.inl hs))
    rcases lk with ⟨kz, _⟩ | ⟨_, c, hc, o, ho, hdat⟩
    · have kz : X.env.scope.names.lookup x = some .local := kz
      rw [hs] at kz; cases kz
    · refine ⟨(i, c, o, d) :: cs, by rw [List.map_cons, k1], fun c' hc' => ?_⟩
      rcases List.mem_cons.mp hc' with rfl | hc'
      · exact ⟨⟨x, hx, hc⟩, hd, ho, v, u, hdat, rv, r⟩
      · exact k2 c' hc'
theorem cap_nd {cs : List CelE} {N : List Str} {C : Cells} (hN : N.Nodup) (inj : ∀ x y c, C.lookup x = some c -> C.lookup y = some c -> x = y) (hc : (cs.map (·.1)).Nodup) (h : ∀ c ∈ cs, ∃ x, N[c.1]? = some x /\ C.lookup x = some c.2.1) : (adrs cs).Nodup := by
  unfold adrs
  rw [List.nodup_iff_pairwise_ne, List.pairwise_map] at hc ⊢
  refine List.Pairwise.imp_of_mem (fun {a b} ha hb hne e => hne ?_) hc
  obtain ⟨x, h1, h2⟩ := h a ha
  obtain ⟨y, h3, h4⟩ := h b hb
  rw [e] at h2
  obtain rfl := inj x y _ h2 h4
  exact nodup_ix hN h1 h3
end
section
variable {cl : ClW} {P : Program} {w : World} {K : PySem.W.Frag} {mg : Str -> Option Value} {base h : Heap} {k : Nat} {x qual : Str} {params : Arguments} {body : List Stmt} {scope : Scope} {N ps : List Str} {spd : SpD} {d : Str × Option Str} {t : Cells -> DTX} {cap : List Nat}
end
section
variable {cl : ClW} {X : Cx} {W : WX} {k : Nat} {x a : Str} {spT : THD -> THD} {τ : DTE} {e : Expr} {p pos : Pos} {T : Nat -> Option LamT}
theorem dAct_app {cl : ClW} {X : Cx} {W : WX} {k i j : Nat} {C : Cells} {a : Str} {p1 p2 : Pos} {T : Nat -> Option LamT} (cp : Cap X W (k + 1)) (hT : LamsOk cl X.prog X.w X.K X.mg X.base k T) (hN : X.N[i]? = some a) (hv : Vis X.env.scope a) (hd : (a == ("__debug__" : Str)) = false) (hcd : (a == ("__classdict__" : Str)) = false) :
    DE cl X W (.Call (.Name a p1) [] [] p2) (dAct i (.fn j C) (LamRun T j C)) :=
  ⟨pe_imp (d_app cp hT hN hv hd hcd).pe fun σ H Q ⟨F, ρ, M, Qd, Xd, g, s, ⟨h1, h2⟩, p, w⟩ => ⟨F, ρ, M, Qd, Xd, g, s, ⟨j, C, h1, h2⟩, p, w⟩⟩
end
end DL
set_option Elab.async false
set_option linter.all false
set_option maxRecDepth 100000
set_option maxHeartbeats 4000000
set_option autoImplicit false
namespace DL
open PySem PySem.Spec PyProof.Rows L2 LamX
section
variable {X : Cx}
abbrev blkS (X : Cx) (s0 : Shared) (H0 : Hp) (scope : Scope) (fp : List Addr) : Cx :=
  X.blk s0 H0 scope (compEnvC scope (cellsFrom (s0.heap.objs.size + 1) scope.names (cloFrom X.env.cells scope.names [])) s0.heap.objs.size X.env) fp
theorem pe_lcS {elt tg iter : Expr} {scope : Scope} {own : List (Str × Nat)} {pos : Pos} {wi : TI} {g : TG} {tt : TT} {te : TE} (calm : X.calm = true) (ndN : X.N.Nodup) (pi : PI X tg iter wi) (bo : BlkOk X.N X.env.scope scope own)
    (pgB : ∀ (s : Shared) (H : Hp) (C : Addr) (cl : List (Str × Addr)) (fp : List Addr), PG (X.blk s H scope (compEnvC scope cl C X.env) fp) tg g)
    (ptB : ∀ (s : Shared) (H : Hp) (C : Addr) (cl : List (Str × Addr)) (fp : List Addr), PTs (X.blk s H scope (compEnvC scope cl C X.env) fp) [] tt)
    (peB : ∀ (pins : List (Addr × Obj)) (σ : L2.St) (s0 : Shared) (H0 : Hp) (fp : List Addr), Inv X pins σ H0 s0 -> (∀ b ∈ fp, ∃ o, s0.heap.get? b = some o /\ ∀ v, o.data ≠ .cell v) -> ∀ (pB : List (Addr × Obj)) (s' : Shared) (σ' : L2.St) (H' : Hp) (Q : VK), wipe σ' (own.map (·.2)) = wipe σ (own.map (·.2)) -> Inv (blkS X s0 H0 scope fp) pB σ' H' s' -> te σ' H' Q ->
      wpAny (model X.prog X.w) X.A (eval elt (blkS X s0 H0 scope fp).env) (EP (blkS X s0 H0 scope fp) pB σ' Q) (fun _ _ => False) s')
    (fsi : ∀ x, foldedSetIterable iter X.env x = pure x := by intro _; rfl) :
    PE X (.ListComp elt [⟨tg, iter, [], 0⟩] scope pos) (tLc wi g tt te (own.map (·.2))) := by
  refine ⟨fun pins s σ H Q I want => ?_⟩
  rw [eval_ListComp]
  have frees : ∀ y ∈ scope.names, y.2 = .free -> ∃ c, X.env.cells.lookup y.1 = some c := fun y hy e => (bo.free y hy e).elim (fun k => I.ok.has _ (.inl k)) fun k => I.ok.has _ (.inr k)
  refine wpAny_comprehension_free (use := none) rfl fsi (closure_ok frees) bo.kind (fun y hy e => by rw [bo.uniq y hy, e]) ?_
  refine thn (pi.run pins s σ H _ I want) fun xv sa ha => thn ha fun itv sb hb => ?_
  obtain ⟨it, fp, tn, J, Hb, rfl, Ib, tu, tn0, fpb, more⟩ := hb
  refine wpAny_newObj_type (newEnv_comp ?_) (Nat.zero_le sizeLine)
  obtain ⟨D, eD⟩ : ∃ D, D = sb.heap.objs.size := ⟨_, rfl⟩
  rw [<- eD]
  have dn : Hb D = none := Ib.hok.fresh (Nat.le_of_eq eD.symm)
  obtain ⟨Wt, ⟨m0, w0⟩, turn⟩ := more D dn
  obtain ⟨sc, eC⟩ : ∃ sc : Shared, sc = { sb with heap := sb.heap.push { cls := .type "list", data := .seq ([] : List Value).toArray } } := ⟨_, rfl⟩
  have keepC : ∀ b o, sb.heap.get? b = some o -> sc.heap.get? b = some o := fun b o e => by rw [eC]; exact Heap.get?_push_of_some _ e
  obtain ⟨Hc, eH⟩ : ∃ Hc : Hp, Hc = upd Hb D (.lst []) := ⟨_, rfl⟩
  have Ic : Inv X pins σ Hc sc := by
    rw [eC, eH]
    exact Ib.laid (t' := sb.toks) (fun b o e => Heap.get?_push_of_some _ e) (Nat.le_of_eq eD.symm) ⟨Nat.zero_le _, [], 0, .nil, by rw [eD]; exact Heap.get?_push_size _ rfl⟩
  have there : ∀ b ∈ fp, ∃ o, sb.heap.get? b = some o /\ ∀ v, o.data ≠ .cell v := tu.obj _ _ tn0
  have fpc : ∀ b ∈ fp, FpOk X pins Hc b /\ b < sc.heap.objs.size := fun b hb => by
    obtain ⟨o, e, _⟩ := there b hb
    have ne : b ≠ D := fun z => by
      have := Heap.lt_size e
      rw [z, eD] at this
      exact Nat.lt_irrefl _ this
    exact ⟨⟨by rw [eH, upd_ne ne]; exact (fpb b hb).1, (fpb b hb).2⟩, Heap.lt_size (keepC b o e)⟩
  have tnc : tn 0 sc.heap := tu.keep _ _ _ tn0 fun b _ o e => keepC b o e
  have I0 := block_start Ic bo ndN fpc
  rw [<- eC]
  rw [<- eH] at w0
  obtain ⟨sd, eS⟩ : ∃ sd : Shared, sd = { sc with heap := pushCells (sc.heap.push { cls := .type "dict", data := .dict #[] }) scope.names } := ⟨_, rfl⟩
  rw [<- eS] at I0
  have tnd : tn 0 sd.heap := tu.keep _ _ _ tnc fun b _ o e => by rw [eS]; exact pushCells_keeps _ _ _ _ (Heap.get?_push_of_some _ e)
  have still : ∀ {σ' : L2.St} {H' : Hp} {s' : Shared}, Inv (blkS X sc Hc scope fp) [] σ' H' s' -> (∀ b ∈ fp, H' b = none) -> ∀ b ∈ fp, FpOk (blkS X sc Hc scope fp) [] H' b := fun {σ' H' s'} J' hn b hb =>
    ⟨hn b hb, (J'.ok.exf b hb).1, J'.ok.exfs b hb, .inl hb, fun x c e => (J'.ok.exf b hb).2 x c e, fun p hp => absurd (show p ∈ ([] : List (Addr × Obj)) ++ [] from hp) (by simp)⟩
  have inB : ∀ b ∈ fp, ∃ o, sc.heap.get? b = some o /\ ∀ v, o.data ≠ .cell v := fun b hb => by
    obtain ⟨o, e, k⟩ := there b hb
    exact ⟨o, keepC b o e, k⟩
  show codeAny _ _ (.compStart (.ListComp elt [⟨tg, iter, [], 0⟩] scope pos) 0 (.ref it) (.ref D) (blkS X sc Hc scope fp).env) (compPost (model X.prog X.w) X.A X.xe none (EP X pins σ Q) (.ref D) sc.heap.objs.size) _
  rw [<- eS]
  have loop : codeAny (model X.prog X.w) X.A (.compLoop (.ListComp elt [⟨tg, iter, [], 0⟩] scope pos) 0 (.ref it) (.ref D) (blkS X sc Hc scope fp).env) (compPost (model X.prog X.w) X.A X.xe none (EP X pins σ Q) (.ref D) sc.heap.objs.size) sd := by
    refine compLoop_any (fun n s' => ∃ i H', Inv (blkS X sc Hc scope fp) [] (wipe σ (own.map (·.2))) H' s' /\ tn i s'.heap /\ (∀ b ∈ fp, H' b = none) /\ Wt i n H') ?_ m0 ⟨0, Hc, I0, tnd, fun b hb => (fpc b hb).1.1, w0⟩
    rintro n se ⟨i, He, Ie, tne, ne, we⟩
    rcases turn i n He we with ⟨stop, fin⟩ | ⟨go, Nx, less, step⟩
    · refine thnF (tu.done (blkS X sc Hc scope fp) rfl rfl rfl calm i [] se _ He (fun _ _ => False) Ie (still Ie ne) tne stop) fun r sf ⟨er, If⟩ => ?_
      subst er
      have back : Inv X pins σ He sf := Ic.call' (ch := fp) If.os If.base If.hok If.bare fun b hb => ⟨(fpc b hb).1.2.2.2.1, (fpc b hb).1.2.1, (fpc b hb).1.2.2.2.2.1, (fpc b hb).1.2.2.2.2.2⟩
      have nl : He sc.heap.objs.size = none := If.free
      obtain ⟨m, hm, _⟩ := If.loc
      obtain ⟨f0, f1, f2, f3, f4, f5⟩ := Ic.fpOk (H' := He) (Nat.le_refl _) nl
      exact ⟨m, hm, fun h'' bt => ⟨.ref D, He, back.turned (t' := sf.toks) (fun b o hb e => (bt.2 b hb).trans e) f0 f1 f3 f4 f5, rfl, fin⟩⟩
    · refine thnF (tu.item (blkS X sc Hc scope fp) rfl rfl rfl calm i [] se _ He (fun _ _ => False) Ie (still Ie ne) tne go) fun r sf ⟨u, er, hf⟩ => ?_
      subst er
      refine thnF hf fun _ sg ⟨x, Hg, Ig, rg, yg, tng, ng⟩ => ?_
      have Ip := Ig.pinned (still Ig ng) (tu.obj _ _ tng)
      refine thnF ((pgB sc Hc _ _ fp).run _ sg _ Hg x u _ Ip rg (step x Hg yg)) fun _ sh ⟨σh, Hh, Ih, hw, qh⟩ => ?_
      refine thnF ((ptB sc Hc _ _ fp).run _ sh σh Hh _ Ih qh) fun b si ⟨Hi, Ii, qi⟩ => ?_
      have next : ∀ {s' : Shared} {H' : Hp}, Inv (blkS X sc Hc scope fp) ([] ++ pinsAt fp sg.heap) σh H' s' -> Nx H' -> ∃ m, m < n /\ ∃ i H', Inv (blkS X sc Hc scope fp) [] (wipe σ (own.map (·.2))) H' s' /\ tn i s'.heap /\ (∀ b ∈ fp, H' b = none) /\ Wt i m H' := fun {s' H'} Iz nx => by
        obtain ⟨m', lt, w'⟩ := less H' nx
        have pinned : ∀ b ∈ fp, ∀ o, sg.heap.get? b = some o -> s'.heap.get? b = some o /\ H' b = none := fun b hb o e =>
          let z := Iz.pin (b, o) (List.mem_append_right _ (List.mem_append_right _ (mem_pinsAt hb e)))
          ⟨z.1, z.2.1⟩
        refine ⟨m', lt, i + 1, H', (Iz.unpinned (pins := [])).weak (by rw [<- hw, wipe_length]) (fun j v e => by rw [<- hw] at e; exact (wipe_some e).1), tu.keep _ _ _ tng fun b hb o e => (pinned b hb o e).1, fun b hb => ?_, w'⟩
        obtain ⟨o, e, _⟩ := tu.obj _ _ tng b hb
        exact (pinned b hb o e).2
      cases b with
      | false =>
        simp only [Bool.false_eq_true, if_false] at qi ⊢
        exact next Ii qi
      | true =>
        simp only [if_true] at qi ⊢
        refine thnF (peB pins σ sc Hc fp Ic inB _ si σh Hi _ hw Ii qi) fun z sj ⟨yv, Hj, Ij, rj, acc, hD, hz, nx⟩ => ?_
        exact app_ok (X := blkS X sc Hc scope fp) Ij hD hz rj fun sk Ik => next Ik nx
  exact codeAny_compStart_list loop (tu.self X.A 0 _ _ _ tnd loop)
end
theorem un_hid {fs : List Addr} {H H' : Hp} {h h' : Heap} {cs : List CelE} (u : Un fs [] (shwH cs H) H' h h') (hn : ∀ c ∈ cs, H c.2.1 = none) (h1 : ∀ c ∈ cs, h.get? c.2.1 = some c.2.2.1) (h2 : ∀ c ∈ cs, h'.get? c.2.1 = some c.2.2.1) (hf : ∀ c ∈ cs, c.2.1 ∉ fs) : Un fs [] H (hidH (adrs cs) H') h h' where
  keep := fun b o e n hb hx => by
    by_cases hm : b ∈ adrs cs
    · obtain ⟨c, hc, rfl⟩ := List.mem_map.mp hm
      rw [h1 c hc] at e
      rw [<- e]; exact h2 c hc
    · exact u.keep b o e (by rw [shwH_out hm]; exact n) hb hx
  slot := fun b o e n hb hx => by
    have hm : b ∉ adrs cs := fun hm => by
      obtain ⟨c, hc, rfl⟩ := List.mem_map.mp hm
      exact hf c hc hb
    exact u.slot b o e (by rw [shwH_out hm]; exact n) hb hx
  free := fun b o e n hx => by
    by_cases hm : b ∈ adrs cs
    · exact hidH_in hm
    · rw [hidH_out hm]; exact u.free b o e (by rw [shwH_out hm]; exact n) hx
  there := u.there
  tups := fun b xs e => by
    have hm : b ∉ adrs cs := fun hm => by
      obtain ⟨c, hc, rfl⟩ := List.mem_map.mp hm
      rw [hn c hc] at e; cases e
    rw [hidH_out hm]; exact u.tups b xs (by rw [shwH_out hm]; exact e)
  frzs := fun b o xs e => by
    have hm : b ∉ adrs cs := fun hm => by
      obtain ⟨c, hc, rfl⟩ := List.mem_map.mp hm
      rw [hn c hc] at e; cases e
    rw [hidH_out hm]; exact u.frzs b o xs (by rw [shwH_out hm]; exact e)
  tbls := fun b ps e => by
    have hm : b ∉ adrs cs := fun hm => by
      obtain ⟨c, hc, rfl⟩ := List.mem_map.mp hm
      rw [hn c hc] at e; cases e
    obtain ⟨more, q⟩ := u.tbls b ps (by rw [shwH_out hm]; exact e)
    exact ⟨more, by rw [hidH_out hm]; exact q⟩
def dSaidS (C : Cells) (N : List Str) (cap : List Nat) (T : Nat -> Option LamT) (spT : THD -> THD) (τ : DTE) : DTE := fun ρ M Q X => (∀ i ∈ cap, ∃ e, ρ[i]? = some (some e)) /\ τ ρ M (fun d M1 => ∃ j, d = .fn j C /\ ∀ cs, CapAt ρ M1 C N cap cs ->
  spT (LamRun T j C) (shwM cs M1) (fun d M2 => (∀ c ∈ cs, M2 c.2.1 = some (.cel c.2.2.1 c.2.2.2)) /\ Q d (hidM (adrs cs) M2)) (fun _ _ _ _ => False)) X
theorem wipe_off {σ : L2.St} {vs : List Nat} {i : Nat} (h : i ∉ vs) : (wipe σ vs)[i]? = σ[i]? := by
  induction vs generalizing σ with
  | nil => rfl
  | cons v vs ih =>
    have hv : i ≠ v /\ i ∉ vs := by simpa using h
    show ((wipe σ vs).set v none)[i]? = _
    rw [List.getElem?_set_ne (Ne.symm hv.1), ih hv.2]
section
variable {cl : ClW} {X : Cx} {W : WX} {k : Nat} {x a : Str} {spT : THD -> THD} {τ : DTE} {e : Expr} {p pos : Pos} {T : Nat -> Option LamT} {cap : List Nat} {scope : Scope} {own : List (Str × Nat)}
theorem said_S (c : Cap X W (k + 2)) (G : FnTB cl X.prog X.w X.K X.mg X.base (k + 1) x a spT) (hT : LamsOk cl X.prog X.w X.K X.mg X.base k T) (hfn : ∀ y, X.fn y = true) (ndN : X.N.Nodup) (ndc : cap.Nodup) (hcap : ∀ i ∈ cap, ∃ y, X.N[i]? = some y /\ X.env.scope.names.lookup y = some .cell) (off : ∀ i ∈ cap, i ∉ own.map (·.2))
    (hg : ∀ (s : Shared) (H : Hp) (C : Addr) (cs : List (Str × Addr)) (fp : List Addr), Gl (X.blk s H scope (compEnvC scope cs C X.env) fp) x)
    (he : ∀ (s : Shared) (H : Hp) (C : Addr) (cs : List (Str × Addr)) (fp : List Addr), DE cl (X.blk s H scope (compEnvC scope cs C X.env) fp) W0 e τ)
    (hs : ∀ env : PySem.Env, starEach [e] env = (false, eval e env) :: starEach [] env := by intro _; rfl) (hdb : (x == ("__debug__" : Str)) = false := by decide) (hd : (a == ("__debug__" : Str)) = false := by decide) (hcd : (a == ("__classdict__" : Str)) = false := by decide) :
    ∀ (pins : List (Addr × Obj)) (σ : L2.St) (s0 : Shared) (H0 : Hp) (fp : List Addr), Inv X pins σ H0 s0 -> (∀ b ∈ fp, ∃ o, s0.heap.get? b = some o /\ ∀ v, o.data ≠ .cell v) -> ∀ (pB : List (Addr × Obj)) (s' : Shared) (σ' : L2.St) (H' : Hp) (Q : VK), wipe σ' (own.map (·.2)) = wipe σ (own.map (·.2)) -> Inv (blkS X s0 H0 scope fp) pB σ' H' s' ->
      lowE X.K cl W0 (dSaidS X.env.cells X.N cap T spT τ) σ' H' Q -> wpAny (model X.prog X.w) X.A (eval (.Call (.Name x p) [e] [] pos) (blkS X s0 H0 scope fp).env) (EP (blkS X s0 H0 scope fp) pB σ' Q) (fun _ _ => False) s' := by
  obtain ⟨g, fd, hm, hk, hbd, G⟩ := G
  intro pins σ s0 H0 fp I0 inB pB s' σ' H' Q hw J ⟨F, ρ, M, Qd, Xd, gd, sl, ⟨full, t⟩, pq, w⟩
  refine wpAny_Call_Name_kw (ld_glob J (hg _ _ _ _ _) hm ?_ hdb)
  refine PySem.W.callWith_K (h₀ := X.base) I0.ok.mod.kin hk ?_ (hs _) (by rfl)
  show wpAny _ _ (spliced (backTo pos (starEach [e] (blkS X s0 H0 scope fp).env))) _ _ s'
  rw [hs]
  show wpAny _ _ (spliced ((false, eval e (blkS X s0 H0 scope fp).env) :: backTo pos (starEach [] (blkS X s0 H0 scope fp).env))) _ _ s'
  refine Calls.spliced_cons (thn ((he s0 H0 _ _ fp).pe.run pB s' σ' H' (fun v H' => ∃ F' M' j, Same F F' /\ Good X.K cl F' H' M' /\ Rep X.K cl F' v (.fn j X.env.cells) /\ ∀ cs, CapAt ρ M' X.env.cells X.N cap cs ->
      spT (LamRun T j X.env.cells) (shwM cs M') (fun d M2 => (∀ c ∈ cs, M2 c.2.1 = some (.cel c.2.2.1 c.2.2.2)) /\ Qd d (hidM (adrs cs) M2)) (fun _ _ _ _ => False)) J
    ⟨F, ρ, M, _, Xd, gd, sl, t, fun v H' F' d M' sm g' r ⟨j, ed, q⟩ => ⟨F', M', j, sm, g', ed ▸ r, q⟩, w⟩) fun u s1 ⟨v, H1, I1, r1, F1, M1, j, sm1, g1, rf, q1⟩ => ?_)
  obtain ⟨f, c', L, dV, doc, pm, ctv, rfl, _⟩ := rf.toFn
  obtain rfl : u = Value.ref f := r1
  refine Calls.spliced_nil ⟨I1.kIn, ?_⟩
  -- the cells of the def, as the block found them
  obtain ⟨cs, c1, c2⟩ := cap_find (cl := cl) (ρ := ρ) (F := F) I0 cap hcap fun i hi => by
    obtain ⟨d, h1⟩ := full i hi
    obtain ⟨v, h2, h3⟩ := sl.get i d h1
    refine ⟨d, v, h1, ?_, h3⟩
    have := congrArg (fun l => l[i]?) hw
    simp only [wipe_off (off i hi)] at this
    rw [<- this]; exact h2
  have hat : ∀ c ∈ cs, ∃ y, X.N[c.1]? = some y /\ X.env.cells.lookup y = some c.2.1 := fun c hc => (c2 c hc).1
  have hlow : ∀ c ∈ cs, X.s_0.heap.objs.size <= c.2.1 := fun c hc => by
    obtain ⟨y, _, h⟩ := hat c hc
    exact I0.ok.cab y _ (hfn y) h
  have hfs : ∀ c ∈ cs, c.2.1 ∉ frs X.stack := fun c hc hb => by
    obtain ⟨y, _, h⟩ := hat c hc
    rcases List.mem_cons.mp (I0.stkSub _ hb) with z | z
    · exact I0.cne y _ h z
    · obtain ⟨_, o, ho, _⟩ := I0.ok.funs.mem z
      exact Nat.lt_irrefl _ (Nat.lt_of_lt_of_le (Heap.lt_size ho) (hlow c hc))
  have hH0 : ∀ c ∈ cs, H0 c.2.1 = none := fun c hc => by
    obtain ⟨y, _, h⟩ := hat c hc
    exact I0.freeC y _ h
  have hfp : ∀ c ∈ cs, c.2.1 ∉ fp := fun c hc hb => by
    obtain ⟨o, h1, h2⟩ := inB _ hb
    obtain ⟨_, _, h3, v, u, h4, _⟩ := c2 c hc
    rw [h3] at h1
    cases h1
    exact h2 _ h4
  have hob : ∀ c ∈ cs, s1.heap.get? c.2.1 = some c.2.2.1 := fun c hc => I1.base.keep _ _ (c2 c hc).2.2.1 (hH0 c hc) (hfs c hc) (hfp c hc)
  have hH1 : ∀ c ∈ cs, H1 c.2.1 = none := fun c hc => I1.base.free _ _ (c2 c hc).2.2.1 (hH0 c hc) (hfp c hc)
  have ok1 : ∀ c ∈ cs, CelOk X.K cl F1 c := fun c hc => ((c2 c hc).2.2.2).mono sm1
  have ca : CapAt ρ M1 X.env.cells X.N cap cs := ⟨c1, cap_nd ndN I0.ok.inj (by rw [c1]; exact ndc) hat, hat, fun c hc => (c2 c hc).2.1, fun c hc => g1.freshM (hH1 c hc)⟩
  have e1 : Env0 X.prog X.w X.K X.mg X.base X.A X.stack s1 (shwH cs H1) := by
    obtain ⟨x1, x2, x3, x4, x5, x6, x7, x8⟩ := (show Env0 X.prog X.w X.K X.mg X.base X.A X.stack s1 H1 from I1.env0)
    have off2 : ∀ b, (∀ c ∈ cs, c.2.1 ≠ b) -> shwH cs H1 b = H1 b := fun b h => shwH_out fun hm => by
      obtain ⟨c, hc, z⟩ := List.mem_map.mp hm
      exact h c hc z
    refine ⟨x1, x2, fun b o e => ⟨(x3 b o e).1, ?_⟩, x4, x5, fun b hb => ?_, hok_show x7 hH1 hob, x8⟩
    · rw [off2 b fun c hc z => ?_]
      · exact (x3 b o e).2
      · have := Heap.lt_size (I0.ok.bs b o e).1
        rw [<- z] at this
        exact Nat.lt_irrefl _ (Nat.lt_of_lt_of_le this (hlow c hc))
    · rw [off2 b fun c hc z => hfs c hc (z ▸ hb)]
      exact x6 b hb
  have rc := G X.A X.stack s1 (shwH cs H1) ⟨[.ref f], []⟩ f (fun v H2 => ∃ F2 d M2, Same F1 F2 /\ Good X.K cl F2 H2 M2 /\ Rep X.K cl F2 v d /\ (∀ c ∈ cs, M2 c.2.1 = some (.cel c.2.2.1 c.2.2.2)) /\ Qd d (hidM (adrs cs) M2)) (fun _ _ _ => False) (.fn j X.env.cells) (LamRun T j X.env.cells) F1 (shwM cs M1)
    (fun d M2 => (∀ c ∈ cs, M2 c.2.1 = some (.cel c.2.2.1 c.2.2.2)) /\ Qd d (hidM (adrs cs) M2)) (fun _ _ _ _ => False) c.hr e1 (hbd s1 [.ref f] I1.kIn rfl) (g1.show hH1 ok1) rf
    (fun Ng qg sg cdg Eg W' pn xe p1 p2 cZ hN hv => dAct_app cZ hT hN hv hd hcd) (q1 cs ca) (fun v H2 F2 d M2 sm2 g2 r2 ⟨k1, k2⟩ => ⟨F2, d, M2, sm2, g2, r2, k1, k2⟩) (fun _ _ _ _ _ _ _ _ _ _ z => z)
  refine wpAny_call (codeAny_mono rc fun r s2 hq => ?_)
  cases r with
  | error e =>
    obtain ⟨_, _, _, _, _, _, _, _, _, _, _, _, z⟩ := hq
    exact False.elim z
  | ok fl =>
    cases fl with
    | ret u =>
      obtain ⟨v, H2, os, bare, un, hok, rv, F2, d, M2, sm2, g2, r2, hm2, q2⟩ := hq
      have ho2 : ∀ c ∈ cs, H2 c.2.1 = some (ObO c.2.1 c.2.2.1) := fun c hc => (g2.cel (hm2 c hc)).2.1
      have hb2 : ∀ c ∈ cs, s2.heap.get? c.2.1 = some c.2.2.1 := fun c hc => (hok _ _ (ho2 c hc)).1
      refine I1.after ⟨v, hidH (adrs cs) H2, os, bare, un_hid un hH1 hob hb2 hfs, hok_hide hok fun b hb => ?_, rv, pq v _ F2 d _ (sm1.trans sm2) (g2.hide hm2) r2 q2⟩
      obtain ⟨c, hc, rfl⟩ := List.mem_map.mp hb
      exact ⟨_, ho2 c hc⟩
    | next => exact False.elim hq
    | brk => exact False.elim hq
    | cont => exact False.elim hq
end
section
variable {cl : ClW} {X : Cx} {W : WX} {k : Nat} {x a : Str} {spT : THD -> THD} {τ : DTE} {e tg iter : Expr} {p pos cpos : Pos} {T : Nat -> Option LamT} {cap : List Nat} {scope : Scope} {own : List (Str × Nat)} {ι : DTI} {is : List Nat} {γ : DTG}
theorem d_lcS (c : Cap X W (k + 2)) (G : FnTB cl X.prog X.w X.K X.mg X.base (k + 1) x a spT) (hT : LamsOk cl X.prog X.w X.K X.mg X.base k T) (hfn : ∀ y, X.fn y = true) (ndN : X.N.Nodup) (ndc : cap.Nodup) (hcap : ∀ i ∈ cap, ∃ y, X.N[i]? = some y /\ X.env.scope.names.lookup y = some .cell) (off : ∀ i ∈ cap, i ∉ own.map (·.2))
    (hi : DI cl X W tg iter ι) (ok : BlkOk X.N X.env.scope scope own) (hg : ∀ (s : Shared) (H : Hp) (C : Addr) (cs : List (Str × Addr)) (fp : List Addr), DG cl (X.blk s H scope (compEnvC scope cs C X.env) fp) W0 tg is γ)
    (hgl : ∀ (s : Shared) (H : Hp) (C : Addr) (cs : List (Str × Addr)) (fp : List Addr), Gl (X.blk s H scope (compEnvC scope cs C X.env) fp) x)
    (he : ∀ (s : Shared) (H : Hp) (C : Addr) (cs : List (Str × Addr)) (fp : List Addr), DE cl (X.blk s H scope (compEnvC scope cs C X.env) fp) W0 e τ)
    (his : ∀ i ∈ is, i ∈ own.map (·.2) := by decide) (hs : ∀ env : PySem.Env, starEach [e] env = (false, eval e env) :: starEach [] env := by intro _; rfl) (hf : ∀ x, foldedSetIterable iter X.env x = pure x := by intro _; rfl) (hdb : (x == ("__debug__" : Str)) = false := by decide) (hd : (a == ("__debug__" : Str)) = false := by decide) (hcd : (a == ("__classdict__" : Str)) = false := by decide) :
    DE cl X W (.ListComp (.Call (.Name x p) [e] [] pos) [⟨tg, iter, [], 0⟩] scope cpos) (dLc ι γ dYes (dSaidS X.env.cells X.N cap T spT τ) (own.map (·.2))) :=
  ⟨pe_imp (pe_lcS c.calm ndN hi.pi ok (fun s H C cs fp => (hg s H C cs fp).pg) (fun s H C cs fp => dts_nil.pts) (said_S c G hT hfn ndN ndc hcap off hgl he hs hdb hd hcd) hf) fun σ H Q ⟨F, ρ, M, Qd, Xd, g, s, q, p, w⟩ => lc_lift his g s q p w⟩
end
end DL
set_option Elab.async false
set_option linter.all false
set_option maxRecDepth 100000
set_option maxHeartbeats 4000000
set_option autoImplicit false
namespace DL
open PySem L2
def noS : Stmt := .Pass ⟨0, 0, 0, 0⟩
def noE : Expr := .Constant (.int 0) 0 ⟨0, 0, 0, 0⟩
def subS : Stmt -> List Stmt
  | .For _ _ b _ _ => b
  | .While _ b _ _ => b
  | .If _ b o _ => b ++ o
  | _ => []
def stmtAt : List Stmt -> List Nat -> Stmt
  | _, [] => noS
  | l, [i] => l.getD i noS
  | l, i :: p => stmtAt (subS (l.getD i noS)) p
def valS : Stmt -> Expr
  | .Assign _ v _ => v
  | .Return (some v) _ => v
  | _ => noE
def litE : Expr -> List Expr
  | .List es _ => es
  | .BinOp _ _ (.List es _) _ => es
  | _ => []
def lamSyn (N : List Str) (q : Str) (df : List Int) : Expr -> LamSyn
  | .Lambda p b s _ => ⟨N, q, p, b, s, df⟩
  | e => ⟨N, q, ⟨[], [], none, [], [], none, []⟩, e, { kind := .function, names := [], isGenerator := false, isCoroutine := false }, df⟩
def freeB (sc scope : Scope) : Bool := scope.names.all fun y => !decide (y.2 = .free) || decide (sc.names.lookup y.1 = some .cell) || decide (sc.names.lookup y.1 = some .free)
theorem free_by {sc scope : Scope} (h : freeB sc scope = true) : ∀ y ∈ scope.names, y.2 = .free -> sc.names.lookup y.1 = some .cell \/ sc.names.lookup y.1 = some .free := fun y hy e => by
  unfold freeB at h
  have := List.all_eq_true.mp h y hy
  simp only [Bool.or_eq_true, Bool.not_eq_true', decide_eq_true_eq, decide_eq_false_iff_not] at this
  rcases this with (z | z) | z
  · exact absurd e z
  · exact .inl z
  · exact .inr z
def capB (N : List Str) (sc : Scope) (cap : List Nat) : Bool := cap.all fun i => match N[i]? with
  | some x => decide (sc.names.lookup x = some .cell)
  | none => false
theorem cap_by {N : List Str} {sc : Scope} {cap : List Nat} (h : capB N sc cap = true) : ∀ i ∈ cap, ∃ x, N[i]? = some x /\ sc.names.lookup x = some .cell := fun i hi => by
  unfold capB at h
  have := List.all_eq_true.mp h i hi
  cases e : N[i]? with
  | none => rw [e] at this; cases this
  | some x =>
    rw [e] at this
    exact ⟨x, rfl, by simpa using this⟩
def dAllC (t : Cells -> DTS) : DTS := fun E ρ M => ∀ C, t C E ρ M
theorem dss_allC {cl : ClW} {X : Cx} {W : WX} {sts : List Stmt} {t : Cells -> DTS} (h : DSs cl X W sts (t X.env.cells)) : DSs cl X W sts (dAllC t) :=
  ⟨pss_imp h.pss fun D σ H ⟨F, ρ, M, E, g, s, q, ok⟩ => ⟨F, ρ, M, E, g, s, q _, ok⟩⟩
end DL
set_option Elab.async false
set_option linter.all false
set_option maxRecDepth 100000
set_option maxHeartbeats 4000000
set_option autoImplicit false
namespace DL
open PySem L2 PySem.Builtin PySem.W.FB PySem.W
def reprB1 : List D -> Option D
  | [.byt b] => if 4 * b.size + 3 <= sizeLine /\ (litB b).length <= sizeLine then some (.str (litB b)) else none
  | _ => none
def rReprB : List V -> Hp -> VK -> Prop := fun xs H Q => ∃ b, xs = [.byt b] /\ (4 * b.size + 3 <= sizeLine /\ (litB b).length <= sizeLine) /\ Q (.str (litB b)) H
section
variable {K : PySem.W.Frag} {cl : ClW} {X : Cx}
theorem call_reprB : CallR X (.builtin "repr") rReprB := by
  intro pins s σ H xs us Q I r ⟨b, e, ⟨h1, h2⟩, q⟩
  subst e
  obtain ⟨u, rfl, ru⟩ := vals1 r
  obtain ⟨t, rfl⟩ := ru
  exact PySem.call_repr_gives (typeIs_bytes s b t) slot_bytes_repr entry_bytes_repr (args_bytes_repr_1 _) (gives_bytes_repr b t h1) ⟨.str _, H, I.tok _, ⟨_, rfl⟩, q⟩ (hx := h2)
theorem lc_reprB : LCall K cl rReprB reprB1 := by
  intro F H M xs ds z Q Qd g r h p q
  generalize e : ds.map (vw M) = es at h
  unfold reprB1 at h
  split at h
  · split at h
    · rename_i b c
      cases h
      obtain ⟨x, rfl, hv⟩ := reps1 g r e
      obtain rfl := hv.byt
      exact ⟨b, rfl, c, p.val g (.str _) q⟩
    · cases h
  · cases h
end
example : litB #[2,3,255] = "b'\\x02\\x03\\xff'" := by decide +kernel
end DL
set_option Elab.async false
set_option linter.all false
set_option maxRecDepth 100000
set_option maxHeartbeats 4000000
set_option autoImplicit true
namespace LawProof
open PySem L2 DL
def top (i : Nat) : Stmt := PySem.Challenge.pw_forestrows_k46_keys_and_their_labels.main.body.getD i (.Pass ⟨0, 0, 0, 0⟩)
def cl (K : PySem.W.Frag) : Nat -> Addr
  | 17 => He.ga K "ForestError"
  | 30 => He.ga K "NoKey"
  | 1005 => tabD K ("_law_right", none)
  | 1004 => tabD K ("law", none)
  | _ => 0
theorem tabs_cl {K : PySem.W.Frag} (nz0 : tabD K ("law", none) ≠ 0) (nz1 : tabD K ("_law_right", none) ≠ 0) : tabsOf (cl K) = [(tabD K ("law", none), ("law.<locals>.<lambda>" : Str)), (tabD K ("_law_right", none), ("_law_right.<locals>.<lambda>" : Str))] := by
  simp [tabsOf, tabNames, cl, nz0, nz1]
abbrev mtT0 : List ((Nat × Nat) × Bool) := [((30, 30), true), ((30, 17), true)]
abbrev s_is_integer : Stmt := top 5
abbrev s_is_sequence : Stmt := top 6
abbrev s_key_fault : Stmt := top 8
abbrev s_cut_key : Stmt := top 9
abbrev s_split_key : Stmt := top 10
abbrev s_bytes_of : Stmt := top 11
abbrev s_numbers_of : Stmt := top 12
abbrev s__law_rng : Stmt := top 14
abbrev s__law_draw : Stmt := top 15
abbrev s__law_pick : Stmt := top 16
abbrev s__law_label : Stmt := top 17
abbrev s__law_said : Stmt := top 18
abbrev s__law_due : Stmt := top 19
abbrev s__law_right : Stmt := top 20
abbrev s_law : Stmt := top 21
abbrev s_NoKey___init__ : Stmt := inClass (top 3) 0
def lams : Nat -> Option LamSyn
  | 0 => some (lamSyn ["_law_script", "_law_cell", "_law_rng_here", "_law_turn", "_law_odd", "_law_calls", "_law_one"] "law.<locals>.<lambda>" [0] ((litE (valS (stmtAt (defBody s_law) [1, 0]))).getD 1 noE))
  | 1 => some (lamSyn ["_law_script", "_law_cell", "_law_rng_here", "_law_turn", "_law_odd", "_law_calls", "_law_one"] "law.<locals>.<lambda>" [] ((litE (valS (stmtAt (defBody s_law) [1, 0]))).getD 0 noE))
  | _ => none
abbrev clw (K : PySem.W.Frag) (P : Program) (w : World) : ClW := { f := cl K, p := P, w := w, lam := lams }
end LawProof
set_option Elab.async false
set_option linter.all false
set_option maxRecDepth 100000
set_option maxHeartbeats 4000000
set_option autoImplicit true
namespace LawProof
open PySem L2 DL
def d_is_integer : He.DefD := ⟨("is_integer", none), "is_integer", "is_integer", defArgs s_is_integer, defBody s_is_integer, defScope s_is_integer, [], []⟩
def d_is_sequence : He.DefD := ⟨("is_sequence", none), "is_sequence", "is_sequence", defArgs s_is_sequence, defBody s_is_sequence, defScope s_is_sequence, [], []⟩
def d_key_fault : He.DefD := ⟨("key_fault", none), "key_fault", "key_fault", defArgs s_key_fault, defBody s_key_fault, defScope s_key_fault, [], []⟩
def d_cut_key : He.DefD := ⟨("cut_key", none), "cut_key", "cut_key", defArgs s_cut_key, defBody s_cut_key, defScope s_cut_key, [], []⟩
def d_split_key : He.DefD := ⟨("split_key", none), "split_key", "split_key", defArgs s_split_key, defBody s_split_key, defScope s_split_key, [], []⟩
def d_bytes_of : He.DefD := ⟨("bytes_of", none), "bytes_of", "bytes_of", defArgs s_bytes_of, defBody s_bytes_of, defScope s_bytes_of, [], []⟩
def d_numbers_of : He.DefD := ⟨("numbers_of", none), "numbers_of", "numbers_of", defArgs s_numbers_of, defBody s_numbers_of, defScope s_numbers_of, [], []⟩
def d__law_rng : He.DefD := ⟨("_law_rng", none), "_law_rng", "_law_rng", defArgs s__law_rng, defBody s__law_rng, defScope s__law_rng, [], []⟩
def d__law_draw : He.DefD := ⟨("_law_draw", none), "_law_draw", "_law_draw", defArgs s__law_draw, defBody s__law_draw, defScope s__law_draw, [], []⟩
def d__law_pick : He.DefD := ⟨("_law_pick", none), "_law_pick", "_law_pick", defArgs s__law_pick, defBody s__law_pick, defScope s__law_pick, [], []⟩
def d__law_label : He.DefD := ⟨("_law_label", none), "_law_label", "_law_label", defArgs s__law_label, defBody s__law_label, defScope s__law_label, [], []⟩
def d__law_said : He.DefD := ⟨("_law_said", none), "_law_said", "_law_said", defArgs s__law_said, defBody s__law_said, defScope s__law_said, [], []⟩
def d__law_due : He.DefD := ⟨("_law_due", none), "_law_due", "_law_due", defArgs s__law_due, defBody s__law_due, defScope s__law_due, [], []⟩
def d__law_right : He.DefD := ⟨("_law_right", none), "_law_right", "_law_right", defArgs s__law_right, defBody s__law_right, defScope s__law_right, [], []⟩
def d_law : He.DefD := ⟨("law", none), "law", "law", defArgs s_law, defBody s_law, defScope s_law, [], []⟩
def d_NoKey____init__ : He.DefD := ⟨("NoKey", some "__init__"), "__init__", "NoKey.__init__", defArgs s_NoKey___init__, defBody s_NoKey___init__, defScope s_NoKey___init__, [], []⟩
def fn : List He.DefD := [d_is_integer, d_is_sequence, d_key_fault, d_cut_key, d_split_key, d_bytes_of, d_numbers_of, d__law_rng, d__law_draw, d__law_pick, d__law_label, d__law_said, d__law_due, d__law_right, d_law, d_NoKey____init__]
def fa : List He.Fa := [.glo "is_integer", .glo "is_sequence", .glo "key_fault", .glo "cut_key", .glo "split_key", .glo "bytes_of", .glo "numbers_of", .glo "_law_rng", .glo "_law_draw", .glo "_law_pick", .glo "_law_label", .glo "_law_said", .glo "_law_due", .glo "_law_right", .glo "law", .glo "NoKey", .glo "ForestError", .free "isinstance", .free "int", .free "bool", .free "tuple", .free "list", .free "len", .free "enumerate", .free "bytes", .free "abs", .free "range", .free "repr"]
def ex (K : PySem.W.Frag) : Bool := oexB K (He.ga K "NoKey") && (xnB K (He.ga K "NoKey") (He.fAd K ("NoKey", some "__init__")) ["place"] && (mtB K (cl K) mtT0 && (smB K && (xfOkB K (cl K) [30] "place" && (decide (tabD K ("_law_right", none) ≠ tabD K ("law", none)) && (decide (tabD K ("law", none) ≠ tabD K ("_law_right", none)) && true))))))
theorem ex_0 {K : PySem.W.Frag} (h : ex K = true) : oexB K (He.ga K "NoKey") = true := (He.ba h).1
theorem ex_1 {K : PySem.W.Frag} (h : ex K = true) : xnB K (He.ga K "NoKey") (He.fAd K ("NoKey", some "__init__")) ["place"] = true := (He.ba (He.ba h).2).1
theorem ex_2 {K : PySem.W.Frag} (h : ex K = true) : mtB K (cl K) mtT0 = true := (He.ba (He.ba (He.ba h).2).2).1
theorem ex_3 {K : PySem.W.Frag} (h : ex K = true) : smB K = true := (He.ba (He.ba (He.ba (He.ba h).2).2).2).1
theorem ex_4 {K : PySem.W.Frag} (h : ex K = true) : xfOkB K (cl K) [30] "place" = true := (He.ba (He.ba (He.ba (He.ba (He.ba h).2).2).2).2).1
theorem ex_5 {K : PySem.W.Frag} (h : ex K = true) : decide (tabD K ("_law_right", none) ≠ tabD K ("law", none)) = true := (He.ba (He.ba (He.ba (He.ba (He.ba (He.ba h).2).2).2).2).2).1
theorem ex_6 {K : PySem.W.Frag} (h : ex K = true) : decide (tabD K ("law", none) ≠ tabD K ("_law_right", none)) = true := (He.ba (He.ba (He.ba (He.ba (He.ba (He.ba (He.ba h).2).2).2).2).2).2).1
abbrev R : PySem.W.OpenRow := PySem.W.OpenLaw.row PySem.Challenge.rw_forestrows_k46_keys_and_their_labels
def ts : List (Str × Option Str) := [("_law_right", none), ("law", none)]
abbrev hk : PySem.W.Hook := DL.hookT 4000 ts fa fn ex
abbrev ob (s : PySem.W.SharedT) : He.AlD × (Bool × Bool) := DL.obsT 4000 ts fa fn ex (HandSHeadRun.getT s)
theorem ob_eq (s : PySem.W.SharedT) : ob s = hk.obs s.abs := DL.obsT_eq (HandSHeadRun.getT_eq s)
def loose : List PySem.Str := (["_wall", "__name__", "ForestError", "NoKey", "is_integer", "is_sequence", "key_fault", "cut_key", "split_key", "bytes_of", "numbers_of", "_law_rng", "_law_draw", "_law_pick", "_law_label", "_law_said", "_law_due", "_law_right"] : List PySem.Str)
abbrev vq : Program := PySem.W.view R.prog [21]
open PySem PySem.W PySem.Calls PyProof.Rows in
theorem run1 (w : World) (os : OsState) : (HandSHeadRun.endF (HandSHeadRun.stepQ (HandSHeadRun.denQ HandSHeadRun.tabQ) R.prog w) 20000 R.prog w os).map (fun s => (HandSHeadRun.looksF R.prog (boot_heap w.params) s.abs, HandSHeadRun.seenQ vq loose (importedModules R.prog.main.body) (fun s => PySem.W.xlAt vq [] s && PySem.W.recOk R.toRowW.records s) s.abs)) = some (true, PySem.W.openGood vq loose) := by
  kernel_rfl
theorem run2 (w : World) (os : OsState) : (HandSHeadRun.endF (HandSHeadRun.stepQ (HandSHeadRun.denQ HandSHeadRun.tabQ) R.prog w) 20000 R.prog w os).map (fun s => fa.all fun f => f.ok (cutTab (He.frG (HandSHeadRun.getT s) (List.range 4000)) ts)) = some true := by
  kernel_rfl
theorem run3 (w : World) (os : OsState) : (HandSHeadRun.endF (HandSHeadRun.stepQ (HandSHeadRun.denQ HandSHeadRun.tabQ) R.prog w) 20000 R.prog w os).map (fun s => (fn.all fun d => d.ok (cutTab (He.frG (HandSHeadRun.getT s) (List.range 4000)) ts), fn.map fun d => He.fnW (cutTab (He.frG (HandSHeadRun.getT s) (List.range 4000)) ts) d.at_)) = some (true, fn.map He.DefD.val) := by
  kernel_rfl
theorem run4 (w : World) (os : OsState) : (HandSHeadRun.endF (HandSHeadRun.stepQ (HandSHeadRun.denQ HandSHeadRun.tabQ) R.prog w) 20000 R.prog w os).map (fun s => (ex (cutTab (He.frG (HandSHeadRun.getT s) (List.range 4000)) ts), ts.all (tabOk (He.frG (HandSHeadRun.getT s) (List.range 4000)) (cutTab (He.frG (HandSHeadRun.getT s) (List.range 4000)) ts)))) = some (true, true) := by
  kernel_rfl
theorem run (w : World) : HandSHeadRun.RunEq R vq hk ob 20000 loose w := DL.runT_of (run1 w) (run2 w) (run3 w) (run4 w)
end LawProof
set_option Elab.async false
set_option linter.all false
set_option maxRecDepth 100000
set_option maxHeartbeats 4000000
set_option autoImplicit false
namespace FL
open PySem L2 DL
inductive Tr where
  | mk (nm : List Nat) (va : Int) (ks : List Tr)
mutual
def flatT (lv : Int) : Tr -> List Row
  | .mk nm va ks => ⟨nm, va, lv⟩ :: flatTs (lv + 1) ks
def flatTs (lv : Int) : List Tr -> List Row
  | [] => []
  | t :: ts => flatT lv t ++ flatTs lv ts
end
end FL
set_option Elab.async false
set_option linter.all false
set_option maxRecDepth 100000
set_option maxHeartbeats 4000000
set_option autoImplicit false
namespace FL
open PySem L2 DL
def fpx : D -> List Addr
  | .ref b => [b]
  | _ => []
def isR : D -> Bool
  | .ref _ => true
  | _ => false
def nodeD (nm : List Nat) (va : Int) (x : D) : D := .lst [strD nm, .int va, x]
mutual
inductive TA (M : Mem) : D -> Tr -> List Addr -> Prop
  | mk {nm : List Nat} {va : Int} {x : D} {ks : List D} {ts : List Tr} {fp : List Addr} : isR x = true -> vw M x = .lst ks -> TAs M ks ts fp -> TA M (nodeD nm va x) (.mk nm va ts) (fpx x ++ fp)
inductive TAs (M : Mem) : List D -> List Tr -> List Addr -> Prop
  | nil : TAs M [] [] []
  | cons {d : D} {t : Tr} {f : List Addr} {ds : List D} {ts : List Tr} {g : List Addr} : TA M d t f -> TAs M ds ts g -> TAs M (d :: ds) (t :: ts) (f ++ g)
end
inductive Sp (M : Mem) : Addr -> List D -> List Tr -> List Addr -> Prop
  | nil {a : Addr} {ks : List D} {ts : List Tr} {fp : List Addr} : M a = some (.lst ks) -> TAs M ks ts fp -> (a :: fp).Nodup -> Sp M a [] ts (a :: fp)
  | cons {a b : Addr} {ks : List D} {ts us : List Tr} {f1 f2 : List Addr} {nm : List Nat} {va : Int} {line : List D} : M a = some (.lst (ks ++ [nodeD nm va (.ref b)])) -> TAs M ks ts f1 -> Sp M b line us f2 -> (a :: (f1 ++ f2)).Nodup ->
      Sp M a (nodeD nm va (.ref b) :: line) (ts ++ [.mk nm va us]) (a :: (f1 ++ f2))
inductive Sub (M : Mem) : List D -> D -> Prop
  | here {ds : List D} {d : D} : d ∈ ds -> Sub M ds d
  | down {ds ks : List D} {d : D} {nm : List Nat} {va : Int} {x : D} : nodeD nm va x ∈ ds -> vw M x = .lst ks -> Sub M ks d -> Sub M ds d
inductive Loc (p : List Nat) (va : Int) (us : List Tr) : List Tr -> Prop
  | here {t1 t2 : List Tr} : Loc p va us (t1 ++ .mk p va us :: t2)
  | down {t1 t2 ks : List Tr} {n : List Nat} {v : Int} : Loc p va us ks -> Loc p va us (t1 ++ .mk n v ks :: t2)
mutual
def setT (p : List Nat) (us : List Tr) : Tr -> Tr
  | .mk n v ks => .mk n v (if n = p then us else setTs p us ks)
def setTs (p : List Nat) (us : List Tr) : List Tr -> List Tr
  | [] => []
  | t :: ts => setT p us t :: setTs p us ts
end
def woTs (p : List Nat) : List Tr -> List Tr
  | [] => []
  | .mk n v ks :: ts => if n = p then woTs p ts else .mk n v (woTs p ks) :: woTs p ts
def liTs (p : List Nat) : List Tr -> List Tr
  | [] => []
  | .mk n v ks :: ts => if n = p then ks ++ liTs p ts else .mk n v (liTs p ks) :: liTs p ts
def nmTs (ts : List Tr) : List (List Nat) := (flatTs 0 ts).map Row.nm
end FL
set_option Elab.async false
set_option linter.all false
set_option maxRecDepth 100000
set_option maxHeartbeats 4000000
set_option autoImplicit false
namespace FL
open PySem L2 DL
structure NodeAt (rs : List Row) (p : List Nat) (us ts : List Tr) (i : Nat) : Prop where
  ix : ixOf rs (strD p) = i
  lt : i < rs.length
  has : hasN rs (strD p) = true
  trees : treesR rs (some i) = us.map (flatT 0)
  set : ∀ us', withT rs (some i) (us'.map (flatT 0)) = flatTs 0 (setTs p us' ts)
  cut : cutR rs i = flatTs 0 (woTs p ts)
  lift : liftR rs i = flatTs 0 (liTs p ts)
  sub : subR rs i = flatTs 0 [.mk p ((rs.map Row.va).getD i 0) us]
  many : (sibs (lvs rs) (some i)).length = us.length
section
variable {pre B post : List Row} {r : Row}
end
def insT (ts : List Tr) (k : Nat) (t : Tr) : List Tr := ts.take k ++ [t] ++ ts.drop k
def wrapT (us : List Tr) (nm : List Nat) (va : Int) (f l : Nat) : List Tr := us.take f ++ [.mk nm va ((us.drop f).take (l - f))] ++ us.drop l
end FL
set_option Elab.async false
set_option linter.all false
set_option maxRecDepth 100000
set_option maxHeartbeats 4000000
set_option autoImplicit false
namespace FL
open PySem L2 DL
def PlaceT (rs : List Row) (ts : List Tr) (p : D) (us : List Tr) : Prop := (p = .non /\ us = ts) \/ ∃ nm va, p = strD nm /\ nm ∈ rs.map Row.nm /\ Loc nm va us ts
section
variable {rs : List Row} {ts us : List Tr} {p : D}
end
structure TrS (M : Mem) (rs : List Row) (r a c : Addr) (ks kc : List D) (ts us : List Tr) (fp fc : List Addr) (p : D) : Prop where
  ha : M a = some (.lst ks)
  T : TAs M ks ts fp
  hc : M c = some (.lst kc)
  Tc : TAs M kc us fc
  P : PlaceT rs ts p us
  hf : flatTs 0 ts = rs
  hr : r ∉ a :: fp
  hcm : c ∈ a :: fp
  hfc : ∀ y ∈ fc, y ∈ fp
end FL
set_option Elab.async false
set_option linter.all false
set_option maxRecDepth 100000
set_option maxHeartbeats 4000000
set_option autoImplicit false
namespace FL
open PySem L2 DL
section
variable {rs : List Row} {ts us vs : List Tr} {p : D} {x : List Nat} {va : Int}
end
section
variable {rs : List Row} {ts us vs : List Tr} {p : D} {x : List Nat} {va : Int}
end
end FL
set_option Elab.async false
set_option linter.all false
set_option maxRecDepth 100000
set_option maxHeartbeats 4000000
set_option autoImplicit false
namespace FL
open PySem L2 DL
def iOf : D -> Int
  | .int i => i
  | _ => 0
def plainW (k : Nat) (y : D) : Option String := match seqs y with
  | none => some "row"
  | some l => if l.length ≠ k then some "row" else if nameB (l.getD 0 .non) = true then if valB (l.getD 1 .non) = true then none else some "value" else some "name"
def itm (y : D) (i : Nat) : D := match seqs y with
  | some l => l.getD i .non
  | none => .non
def crossI (a b c d : Int) : Bool := (decide (a < c) && (decide (c < b) && decide (b < d))) || (decide (c < a) && (decide (a < d) && decide (d < b)))
structure SRow (m : Int) (y : D) : Prop where
  ex : ∃ n v a b, seqs y = some [strD n, .int v, .int a, .int b] /\ NameOk n /\ -(10 ^ 30) <= v /\ v <= 10 ^ 30 /\ 0 <= a /\ a < m /\ 0 <= b /\ b < m /\ a < b
def nmS (y : D) : List Nat := nmOf (itm y 0)
def aS (y : D) : Int := iOf (itm y 2)
def bS (y : D) : Int := iOf (itm y 3)
end FL
set_option Elab.async false
set_option linter.all false
set_option maxRecDepth 100000
set_option maxHeartbeats 4000000
set_option autoImplicit false
namespace FL
open PySem L2 DL
abbrev EPt := Nat × Option Nat
structure EndsP (ps : List EPt) (line : List Nat) (n : Nat) : Prop where
  asc : ∀ (i j : Nat) (p q : EPt), i < j -> ps[i]? = some p -> ps[j]? = some q -> p.1 < q.1
  low : ∀ (i : Nat) (p : EPt), ps[i]? = some p -> p.1 < n
  cl : ∀ (i : Nat) (p : EPt) (e : Nat), ps[i]? = some p -> p.2 = some e -> p.1 < e /\ e < n
  nest : ∀ (i j : Nat) (p q : EPt) (e : Nat), i < j -> ps[i]? = some p -> ps[j]? = some q -> p.2 = some e -> e < q.1 \/ ∃ e', q.2 = some e' /\ e' < e
  opn : ∀ i, i ∈ line ↔ ∃ b, ps[i]? = some (b, none)
  lasc : line.Pairwise (· < ·)
  cnt : n + line.length = 2 * ps.length
structure EndsFin (es : List (Nat × Nat)) : Prop where
  in_ : ∀ (i : Nat) (p : Nat × Nat), es[i]? = some p -> p.1 < p.2 /\ p.2 < 2 * es.length
  two : ∀ (i j : Nat) (p q : Nat × Nat), i < j -> es[i]? = some p -> es[j]? = some q -> p.1 < q.1 /\ (p.2 < q.1 \/ q.2 < p.2)
def Apart (y z : D) : Prop := nmS y ≠ nmS z /\ (aS y ≠ aS z /\ aS y ≠ bS z /\ bS y ≠ aS z /\ bS y ≠ bS z) /\ crossI (aS y) (bS y) (aS z) (bS z) = false
structure SpOk (m : Int) (ys : List D) : Prop where
  len : ys.length <= 60
  row : ∀ y ∈ ys, SRow m y
  pw : ys.Pairwise Apart
def SH (k n : Nat) (d : D) : Prop := ∃ p, toPyX d = some p /\ p.showable = true /\ p.depth <= k /\ p.shown.length <= n
structure CelX (t : Nat) (c : D) : Prop where
  pl : Pl c
  sh : SH (t + 1) (10100 + 10 * t) c
  bd : ∀ i, c = .int i -> -(10 ^ 31) - (t : Int) <= i /\ i <= 10 ^ 31 + (t : Int)
end FL
set_option Elab.async false
set_option linter.all false
set_option maxRecDepth 100000
set_option maxHeartbeats 4000000
set_option autoImplicit false
namespace FL
open PySem L2 DL
def nmT : Tr -> List Nat
  | .mk n _ _ => n
structure NI where
  nm : List Nat
  va : Int
  ks : List (List Nat)
def inf : List Tr -> List NI
  | [] => []
  | .mk n v us :: ts => ⟨n, v, us.map nmT⟩ :: (inf us ++ inf ts)
def endsT : Nat -> List Tr -> List (Nat × Nat)
  | _, [] => []
  | k, .mk _ _ us :: ts => (k, k + 1 + 2 * (nmTs us).length) :: (endsT (k + 1) us ++ endsT (k + 2 + 2 * (nmTs us).length) ts)
def nkN (o : Option (List Nat)) : NKey := o.map fun p => .inr (S p)
structure Ent where
  k : Option (List Nat)
  a : Addr
  l : List (List Nat)
def KT (M : Mem) (kd : Addr) (es : List Ent) : Prop := (∃ ep, M kd = some (dNP ep (es.map fun e => (nkN e.k, .ref e.a)))) /\ (∀ e ∈ es, M e.a = some (.lst (e.l.map strD))) /\ (kd :: es.map Ent.a).Nodup
def VT (M : Mem) (vd : Addr) (vs : List (List Nat × Int)) : Prop := ∃ ep, M vd = some (dNP ep (vs.map fun p => (nkN (some p.1), .int p.2)))
def ents (ts : List Tr) : List (Option (List Nat) × List (List Nat)) := (none, ts.map nmT) :: (inf ts).map fun i => (some i.nm, i.ks)
section
variable {M M' : Mem} {kd vd r : Addr} {ts : List Tr} {fp : List Addr}
end
end FL
set_option Elab.async false
set_option linter.all false
set_option maxRecDepth 100000
set_option maxHeartbeats 4000000
set_option autoImplicit false
namespace FL
open PySem L2 DL
def Nm (j : Nat) (x : List Nat) : Prop := ∃ p, x = p ++ dg j /\ (∀ c ∈ p, isL c = true) /\ p ≠ [] /\ p.length <= 6
def insL (l : List (List Nat)) (j : Nat) (m : List Nat) : List (List Nat) := l.take j ++ [m] ++ l.drop j
section
variable {M : Mem} {kd vd : Addr} {es e1 e2 : List Ent} {e : Ent}
end
end FL
set_option Elab.async false
set_option linter.all false
set_option maxRecDepth 100000
set_option maxHeartbeats 4000000
set_option autoImplicit false
namespace FL
open PySem L2 DL
structure LF (M M1 : Mem) (r kd vd nr : Addr) (es : List Ent) (vs : List (List Nat × Int)) (nl : List (List Nat)) : Prop where
  kt : KT M1 kd es
  vt : VT M1 vd vs
  nm : M1 nr = some (.lst (nl.map strD))
  nd : (nr :: vd :: kd :: es.map Ent.a).Nodup
  fr : ∀ a ∈ nr :: vd :: kd :: es.map Ent.a, M a = none
  rt : RTo M M1 r
section
variable {M M1 M2 : Mem} {r kd vd nr : Addr} {es e1 e2 : List Ent} {e : Ent} {vs : List (List Nat × Int)} {nl : List (List Nat)}
end
structure LT (es : List Ent) (vs : List (List Nat × Int)) (nl : List (List Nat)) (ts : List Tr) : Prop where
  kp : (es.map fun e => (e.k, e.l)).Perm (ents ts)
  vp : vs.Perm ((inf ts).map fun i => (i.nm, i.va))
  vn : vs.map (·.1) = nl
  nm : ∀ j x, nl[j]? = some x -> Nm j x
  bd : ∀ p ∈ vs, -(10 ^ 30) <= p.2 /\ p.2 <= 10 ^ 30
end FL
set_option Elab.async false
set_option linter.all false
set_option maxRecDepth 100000
set_option maxHeartbeats 4000000
set_option autoImplicit false
namespace FL
open PySem L2 DL
structure FEn where
  n : List Nat
  a : Addr
  l : List Nat
structure FE (M0 M : Mem) (fd wr : Addr) (fs : List FEn) : Prop where
  d : ∃ ep, M fd = some (dNP ep (fs.map fun f => (nkN (some f.n), .ref f.a)))
  c : ∀ f ∈ fs, M f.a = some (.lst (f.l.map fun (i : Nat) => D.int (i : Int)))
  nd : (fd :: wr :: fs.map FEn.a).Nodup
  fr : ∀ a ∈ fd :: wr :: fs.map FEn.a, M0 a = none
  kp : Keep M0 M
  ky : (fs.map FEn.n).Nodup
section
variable {M0 M : Mem} {fd wr : Addr} {fs f1 f2 : List FEn} {f : FEn}
end
def newE (us : List Tr) (k : Nat) (as : List Addr) : List FEn := ((nmTs us).zip (as.zip (endsT k us))).map fun p => ⟨p.1, p.2.1, [p.2.2.1, p.2.2.2]⟩
def EndsD (M : Mem) (ts : List Tr) (d : D) : Prop := ∃ ep as, as.length = (nmTs ts).length /\ d = dNP ep ((newE ts 0 as).map fun f => (nkN (some f.n), .ref f.a)) /\ ∀ f ∈ newE ts 0 as, M f.a = some (.lst (f.l.map fun (i : Nat) => D.int (i : Int)))
end FL
set_option Elab.async false
set_option linter.all false
set_option maxRecDepth 100000
set_option maxHeartbeats 4000000
set_option autoImplicit false
namespace FL
open PySem L2 DL
end FL
set_option Elab.async false
set_option linter.all false
set_option maxRecDepth 100000
set_option maxHeartbeats 4000000
set_option autoImplicit false
namespace FL
open PySem L2 DL
end FL
set_option Elab.async false
set_option linter.all false
set_option maxRecDepth 100000
set_option maxHeartbeats 4000000
set_option autoImplicit false
namespace FL
open PySem L2 DL
end FL
set_option Elab.async false
set_option linter.all false
set_option maxRecDepth 100000
set_option maxHeartbeats 4000000
set_option autoImplicit false
namespace FL
open PySem L2 DL
def chT : List (List Nat) -> List Tr -> List (List Nat × List (List Nat))
  | _, [] => []
  | P, .mk n _ us :: ts => (n, P) :: (chT (n :: P) us ++ chT P ts)
inductive Clo : List FEn -> List (List Nat) -> Nat -> List FEn -> List (List Nat) -> Nat -> Prop
  | nil (fs : List FEn) (op : List (List Nat)) (k : Nat) : Clo fs op k fs op k
  | pop {f1 f2 fs' : List FEn} {n : List Nat} {a : Addr} {b k k' : Nat} {op op' : List (List Nat)} : Clo (f1 ++ ⟨n, a, [b, k]⟩ :: f2) op (k + 1) fs' op' k' -> Clo (f1 ++ ⟨n, a, [b]⟩ :: f2) (op ++ [n]) k fs' op' k'
end FL
set_option Elab.async false
set_option linter.all false
set_option maxRecDepth 100000
set_option maxHeartbeats 4000000
set_option autoImplicit false
namespace FL
open PySem L2 DL
abbrev Nam := List Nat
def peT (k : Nat) (ts : List Tr) : List (Nam × (Nat × Nat)) := (nmTs ts).zip (endsT k ts)
def posT (ts : List Tr) (x : Nam) : Nat × Nat := ((peT 0 ts).lookup x).getD (0, 0)
section
variable {ts : List Tr} {x y z b : Nam}
end
def bef (ts : List Tr) (x y : Nam) : Prop := (posT ts x).2 < (posT ts y).1
def ins (ts : List Tr) (x y : Nam) : Prop := (posT ts y).1 < (posT ts x).1 /\ (posT ts x).2 < (posT ts y).2
instance (ts : List Tr) (x y : Nam) : Decidable (bef ts x y) := inferInstanceAs (Decidable (_ < _))
instance (ts : List Tr) (x y : Nam) : Decidable (ins ts x y) := inferInstanceAs (Decidable (_ /\ _))
def boxT (ts : List Tr) : Option Nam -> List Nam
  | none => nmTs ts
  | some b => (nmTs ts).filter fun x => decide (ins ts x b)
abbrev Shs := List (Nam × (Int × Int))
def sf (Sh : Shs) (x : Nam) : Int := ((Sh.lookup x).getD (0, 0)).1
def sl (Sh : Shs) (x : Nam) : Int := ((Sh.lookup x).getD (0, 0)).2
def inS (Sh : Shs) (x : Nam) : Bool := (Sh.lookup x).isSome
def fol (Sh : Shs) (x y : Nam) : Prop := sl Sh x <= sf Sh y
def wit (Sh : Shs) (x : Nam) : Option Nam -> Prop
  | none => True
  | some b => sf Sh b <= sf Sh x /\ sl Sh x <= sl Sh b
instance (Sh : Shs) (x y : Nam) : Decidable (fol Sh x y) := inferInstanceAs (Decidable (_ <= _))
instance (Sh : Shs) (x : Nam) : (b : Option Nam) -> Decidable (wit Sh x b)
  | none => inferInstanceAs (Decidable True)
  | some b => inferInstanceAs (Decidable (_ /\ _))
structure ShOk (ts : List Tr) (Sh : Shs) (slack : Int) : Prop where
  nd : (nmTs ts).Nodup
  keys : (Sh.map (·.1)).Nodup
  sub : ∀ p ∈ Sh, p.1 ∈ nmTs ts
  bd : ∀ p ∈ Sh, 0 <= p.2.1 /\ p.2.1 <= p.2.2 /\ p.2.2 <= slack
def insd (ts : List Tr) (Sh : Shs) (b : Option Nam) : List Nam := (boxT ts b).filter fun x => inS Sh x && decide (wit Sh x b)
structure Chn (ts : List Tr) (Sh : Shs) (c : Option Nam -> List Nam) : Prop where
  sub : ∀ b, ∀ x ∈ c b, x ∈ insd ts Sh b
  pw : ∀ b, (c b).Pairwise fun x y => bef ts x y /\ fol Sh x y
inductive KR (c : Option Nam -> List Nam) : Option Nam -> Nam -> Prop
  | here {b : Option Nam} {x : Nam} : x ∈ c b -> KR c b x
  | deep {b : Option Nam} {d x : Nam} : d ∈ c b -> KR c (some d) x -> KR c b x
def Fit (ts : List Tr) (Sh : Shs) (x y : Nam) : Prop := (bef ts x y -> fol Sh x y) /\ (bef ts y x -> fol Sh y x) /\ (ins ts x y -> wit Sh x (some y)) /\ (ins ts y x -> wit Sh y (some x))
section
variable {ts : List Tr} {Sh : Shs} {slack : Int} {c : Option Nam -> List Nam}
end
end FL
set_option Elab.async false
set_option linter.all false
set_option maxRecDepth 100000
set_option maxHeartbeats 4000000
set_option autoImplicit false
namespace FL
open PySem L2 DL
structure SprOk (fx : Nat -> Int) (slack : Int) (at_ last : Int) (ps : List Nat) : Prop where
  up : ps.Pairwise (· < ·)
  first : ∀ p ∈ ps, at_ < (p : Int) /\ last - at_ <= fx p - (p : Int) /\ fx p - (p : Int) <= slack
  mono : ps.Pairwise fun p q => fx p - (p : Int) <= fx q - (q : Int)
end FL
set_option Elab.async false
set_option linter.all false
set_option maxRecDepth 100000
set_option maxHeartbeats 4000000
set_option autoImplicit false
namespace FL
open PySem L2 DL
structure HE where
  n : Nam
  h : Int
  a : Option Nam
def pick1 (ts : List Tr) (Sh : Shs) (y : Nam) (m : Int × Option Nam) (o : HE) : Int × Option Nam := if bef ts o.n y /\ fol Sh o.n y /\ m.1 < o.h then (o.h, some o.n) else m
def pickB (ts : List Tr) (Sh : Shs) (l : List HE) (y : Nam) : Int × Option Nam := l.foldl (pick1 ts Sh y) (0, none)
def bhL (ts : List Tr) (Sh : Shs) (w : Nam -> Int) : List Nam -> List HE -> List HE
  | [], acc => acc
  | y :: ys, acc => bhL ts Sh w ys (acc ++ [⟨y, (pickB ts Sh acc y).1 + w y, (pickB ts Sh acc y).2⟩])
def bh (ts : List Tr) (Sh : Shs) (w : Nam -> Int) (b : Option Nam) : List HE := bhL ts Sh w (insd ts Sh b) []
section
variable {ts : List Tr} {Sh : Shs} {w : Nam -> Int} {slack : Int}
inductive Ch (l : List HE) : Option Nam -> List Nam -> Prop
  | nil : Ch l none []
  | cons {e : HE} {cs : List Nam} : e ∈ l -> Ch l e.a cs -> Ch l (some e.n) (e.n :: cs)
def here1 (m : Option (Nam × Int)) (o : HE) : Option (Nam × Int) := match m with
  | none => some (o.n, o.h)
  | some p => if p.2 < o.h then some (o.n, o.h) else some p
def hereB (l : List HE) : Option (Nam × Int) := l.foldl here1 none
open Classical in
noncomputable def chn (ts : List Tr) (Sh : Shs) (w : Nam -> Int) (b : Option Nam) : List Nam := if h : ∃ cs, Ch (bh ts Sh w b) ((hereB (bh ts Sh w b)).map (·.1)) cs then (Classical.choose h).reverse else []
end
end FL
set_option Elab.async false
set_option linter.all false
set_option maxRecDepth 100000
set_option maxHeartbeats 4000000
set_option autoImplicit false
namespace FL
open PySem L2 DL
structure Full (ts : List Tr) (Sh : Shs) : Prop where
  nd : (nmTs ts).Nodup
  all : ∀ x ∈ nmTs ts, inS Sh x = true
  bf : ∀ x ∈ nmTs ts, ∀ y ∈ nmTs ts, bef ts x y -> fol Sh x y
  in_ : ∀ x ∈ nmTs ts, ∀ y ∈ nmTs ts, ins ts x y -> wit Sh x (some y)
def rk (ts : List Tr) (b : Option Nam) (y : Nam) : Nat := (boxT ts b).countP fun z => decide ((posT ts z).2 <= (posT ts y).2)
def cnt (ts : List Tr) (x : Nam) : Nat := 1 + (boxT ts (some x)).length
section
variable {ts : List Tr} {Sh : Shs} {w : Nam -> Int} {b : Option Nam} {x y z : Nam}
def mxh (l : List HE) : Int := ((0 :: l.map HE.h).max?).getD 0
end
end FL
set_option Elab.async false
set_option linter.all false
set_option maxRecDepth 100000
set_option maxHeartbeats 4000000
set_option autoImplicit false
namespace FL
open PySem L2 DL
end FL
set_option Elab.async false
set_option linter.all false
set_option maxRecDepth 100000
set_option maxHeartbeats 4000000
set_option autoImplicit false
namespace FL
open PySem L2 DL
end FL
set_option Elab.async false
set_option linter.all false
set_option maxRecDepth 100000
set_option maxHeartbeats 4000000
set_option autoImplicit false
namespace FL
open PySem L2 DL
def cands (ts : List Tr) (Sh : Shs) : List Nam := (nmTs ts).filter (inS Sh)
def KDo (rs : List Row) (en : D) (sa : Addr) (cs : List Nam) : D := .obj 42 ["target", "ends", "shifts", "candidates"] [FD rs, en, .ref sa, .lst (cs.map strD)]
abbrev shD (ep : Nat) (Sh : Shs) : D := dNP ep (Sh.map fun s => (nkN (some s.1), .tup [.int s.2.1, .int s.2.2]))
def KpO (M : Mem) (d : D) (ts : List Tr) (Sh : Shs) : Prop := ∃ en sa ep, d = KDo (flatTs 0 ts) en sa (cands ts Sh) /\ EndsD M ts en /\ M sa = some (shD ep Sh)
end FL
set_option Elab.async false
set_option linter.all false
set_option maxRecDepth 100000
set_option maxHeartbeats 4000000
set_option autoImplicit false
namespace FL
open PySem L2 DL
abbrev Wrs := List (Nam × Int)
def wL (L : Wrs) (x : Nam) : Int := (L.lookup x).getD 0
end FL
set_option Elab.async false
set_option linter.all false
set_option maxRecDepth 100000
set_option maxHeartbeats 4000000
set_option autoImplicit false
namespace FL
open PySem L2 DL
structure WP (ts : List Tr) (Sh : Shs) (L : Wrs) (done : List Nam) : Prop where
  keys : L.map (·.1) = done
  rc : ∀ x ∈ done, wL L x = 1 + mxh (bh ts Sh (wL L) (some x))
section
variable {ts : List Tr} {Sh : Shs} {slack : Int} {L : Wrs} {done rest : List Nam} {y : Nam}
end
end FL
set_option Elab.async false
set_option linter.all false
set_option maxRecDepth 100000
set_option maxHeartbeats 4000000
set_option autoImplicit false
namespace FL
open PySem L2 DL
structure KInv (ts : List Tr) (c : Option Nam -> List Nam) (W : List (Option Nam)) (F : List Nam) : Prop where
  nd : F.Nodup
  sub : ∀ d, some d ∈ W -> d ∈ F
  kr : ∀ x ∈ F, KR c none x
  all : ∀ x, KR c none x -> x ∈ F \/ ∃ b ∈ W, KR c b x
section
variable {ts : List Tr} {Sh : Shs} {slack : Int} {c : Option Nam -> List Nam} {W : List (Option Nam)} {F : List Nam} {b : Option Nam}
open Classical in
noncomputable def kept (ts : List Tr) (Sh : Shs) (w : Nam -> Int) : List Nam := (cands ts Sh).filter fun x => decide (KR (chn ts Sh w) none x)
end
end FL
set_option Elab.async false
set_option linter.all false
set_option maxRecDepth 100000
set_option maxHeartbeats 4000000
set_option autoImplicit false
namespace FL
open PySem L2 DL
abbrev Fxs := List (Nat × Int)
section
variable {X : Fxs} {ep : Nat}
structure FxOk (X : Fxs) (many : Nat) (most : Int) : Prop where
  nd : (X.map (·.1)).Nodup
  lt : ∀ p ∈ X, p.1 < many
  bd : ∀ p ∈ X, 0 <= p.2 - (p.1 : Int) /\ p.2 - (p.1 : Int) <= most - many
  mono : ∀ p ∈ X, ∀ q ∈ X, p.1 < q.1 -> p.2 - (p.1 : Int) <= q.2 - (q.1 : Int)
end
end FL
set_option Elab.async false
set_option linter.all false
set_option maxRecDepth 100000
set_option maxHeartbeats 4000000
set_option autoImplicit false
namespace FL
open PySem L2 DL
section
variable {ts : List Tr} {Sh : Shs} {slack m : Int} {R : List D} {ks : List Nam} {n : Nam}
end
section
variable {ts : List Tr} {N : List Int} {last m m' : Int}
end
end FL
set_option Elab.async false
set_option linter.all false
set_option maxRecDepth 100000
set_option maxHeartbeats 4000000
set_option autoImplicit false
namespace FL
open PySem L2 DL
end FL
set_option Elab.async false
set_option linter.all false
set_option maxRecDepth 100000
set_option maxHeartbeats 4000000
set_option autoImplicit false
namespace FL
open PySem L2 DL
abbrev Ek := Option Nam × List Nam
def KX (M : Mem) (kd vd : Addr) (E : List Ek) (V : List (Nam × Int)) (fp : List Addr) : Prop := ∃ es vs, KT M kd es /\ VT M vd vs /\ vd ∉ kd :: es.map Ent.a /\ fp = vd :: kd :: es.map Ent.a /\ (es.map fun e => (e.k, e.l)).Perm E /\ vs.Perm V /\ (E.map (·.1)).Nodup /\ (V.map (·.1)).Nodup
def vals (ts : List Tr) : List (Nam × Int) := (inf ts).map fun i => (i.nm, i.va)
def remE (E : List Ek) (k : Option Nam) : List Ek := E.filter fun e => decide (e.1 ≠ k)
section
variable {M M' : Mem} {kd vd : Addr} {E : List Ek} {V : List (Nam × Int)} {fp : List Addr} {k : Option Nam} {l : List Nam}
end
end FL
set_option Elab.async false
set_option linter.all false
set_option maxRecDepth 100000
set_option maxHeartbeats 4000000
set_option autoImplicit false
namespace FL
open PySem L2 DL
def repl (o : Option Nam) (vs ts : List Tr) : List Tr := match o with
  | none => vs
  | some p => setTs p vs ts
def Plc (o : Option Nam) (us ts : List Tr) : Prop := (o = none /\ us = ts) \/ ∃ p va, o = some p /\ Loc p va us ts
section
variable {o : Option Nam} {us ts : List Tr}
end
section
variable {o : Option Nam} {us ts : List Tr} {n : Nam} {v : Int} {i j : Nat}
end
mutual
def svT (x : Nam) (v : Int) : Tr -> Tr
  | .mk n w ks => .mk n (if n = x then v else w) (svTs x v ks)
def svTs (x : Nam) (v : Int) : List Tr -> List Tr
  | [] => []
  | t :: ts => svT x v t :: svTs x v ts
end
section
variable {o : Option Nam} {ts w1 w2 ks : List Tr} {x : Nam} {va : Int}
end
end FL
set_option Elab.async false
set_option linter.all false
set_option maxRecDepth 100000
set_option maxHeartbeats 4000000
set_option autoImplicit false
namespace FL
open PySem L2 DL
section
variable {M M' : Mem} {kd vd : Addr} {E : List Ek} {V : List (Nam × Int)} {fp : List Addr} {n : Nam} {v : Int}
end
structure KF (M M1 : Mem) (kd vd : Addr) (fp : List Addr) (E : List Ek) (V : List (Nam × Int)) : Prop where
  kx : ∃ fp1, KX M1 kd vd E V fp1 /\ ∀ c ∈ fp1, c ∈ fp \/ M c = none
  fr : ∀ c d, c ∉ fp -> M c = some d -> M1 c = some d
  kin : kd ∈ fp
  vin : vd ∈ fp
section
variable {M M1 M2 : Mem} {kd vd : Addr} {E : List Ek} {V : List (Nam × Int)} {fp : List Addr} {n : Nam} {v : Int} {k : Option Nam} {l : List Nam}
end
inductive Spc
  | wrap (put : Bool) (n : Nam) (v : Int) (o : Option Nam) (i j : Nat)
  | set (x : Nam) (v : Int)
  | rev (o : Option Nam)
  | lift (x : Nam)
  | cut (x : Nam)
  | move (x : Nam) (g : Option Nam) (k : Nat)
inductive DoT (ts : List Tr) : Spc -> List Tr -> Prop
  | wrap {put : Bool} {n : Nam} {v : Int} {o : Option Nam} {i j : Nat} {us : List Tr} : Plc o us ts -> i <= j -> j <= us.length -> (if put = true then i = j else i < j) -> n ∉ nmTs ts -> DoT ts (.wrap put n v o i j) (repl o (wrapT us n v i j) ts)
  | set {x : Nam} {v : Int} : x ∈ nmTs ts -> DoT ts (.set x v) (svTs x v ts)
  | rev {o : Option Nam} {us : List Tr} : Plc o us ts -> DoT ts (.rev o) (repl o us.reverse ts)
  | lift {o : Option Nam} {w1 w2 ks : List Tr} {x : Nam} {va : Int} : Plc o (w1 ++ .mk x va ks :: w2) ts -> DoT ts (.lift x) (repl o (w1 ++ ks ++ w2) ts)
  | cut {o : Option Nam} {w1 w2 ks : List Tr} {x : Nam} {va : Int} : Plc o (w1 ++ .mk x va ks :: w2) ts -> DoT ts (.cut x) (repl o (w1 ++ w2) ts)
  | move {o g : Option Nam} {w1 w2 ks us : List Tr} {x : Nam} {va : Int} {k : Nat} : Plc o (w1 ++ .mk x va ks :: w2) ts -> Plc g us (repl o (w1 ++ w2) ts) -> k <= us.length -> DoT ts (.move x g k) (repl g (insT us k (.mk x va ks)) (repl o (w1 ++ w2) ts))
end FL
set_option Elab.async false
set_option linter.all false
set_option maxRecDepth 100000
set_option maxHeartbeats 4000000
set_option autoImplicit false
namespace FL
open PySem L2 DL
end FL
set_option Elab.async false
set_option linter.all false
set_option maxRecDepth 100000
set_option maxHeartbeats 4000000
set_option autoImplicit false
namespace FL
open PySem L2 DL
section
variable {M : Mem} {kd vd : Addr} {ts : List Tr} {fp : List Addr}
end
end FL
set_option Elab.async false
set_option linter.all false
set_option maxRecDepth 100000
set_option maxHeartbeats 4000000
set_option autoImplicit false
namespace FL
open PySem L2 DL
section
variable {ts : List Tr} {Sh : Shs} {X : Fxs}
end
end FL
set_option Elab.async false
set_option linter.all false
set_option maxRecDepth 100000
set_option maxHeartbeats 4000000
set_option autoImplicit false
namespace FL
open PySem L2 DL
section
variable {ts : List Tr} {Sh : Shs} {w : Nam -> Int} {slack : Int} {b : Option Nam}
structure HInv (ts : List Tr) (Sh : Shs) (w : Nam -> Int) (l : List HE) : Prop where
  low : l.Pairwise fun o e => bef ts o.n e.n -> fol Sh o.n e.n -> o.h + w e.n <= e.h
  own : ∀ e ∈ l, w e.n <= e.h
  ex : ∀ e ∈ l, (e.a = none /\ e.h = w e.n) \/ ∃ f ∈ l, e.a = some f.n /\ e.h = f.h + w e.n
end
end FL
set_option Elab.async false
set_option linter.all false
set_option maxRecDepth 100000
set_option maxHeartbeats 4000000
set_option autoImplicit false
namespace FL
open PySem L2 DL
instance (ts : List Tr) (Sh : Shs) (x y : Nam) : Decidable (Fit ts Sh x y) := by unfold Fit; exact inferInstance
section
variable {ts : List Tr} {Sh : Shs} {slack : Int}
end
section
variable {ts : List Tr} {N : List Int} {m m' : Int} {R : List D} {w : Nam -> Int}
end
end FL
set_option Elab.async false
set_option linter.all false
set_option maxRecDepth 100000
set_option maxHeartbeats 4000000
set_option autoImplicit false
namespace FL
open PySem
end FL
set_option Elab.async false
set_option linter.all false
set_option maxRecDepth 100000
set_option maxHeartbeats 4000000
set_option autoImplicit false
namespace FL
open PySem L2 DL
def rkAt (ls : List Int) (p : Nat) : Nat := (sibs ls (ancs ls p).head?).idxOf p
def lineT (ls : List Int) (p : Nat) : List Nat := (ancs ls p).reverse ++ [p]
end FL
set_option Elab.async false
set_option linter.all false
set_option maxRecDepth 100000
set_option maxHeartbeats 4000000
set_option autoImplicit false
namespace FL
open PySem L2 DL
structure PR where
  ab : List Nat
  be : List Nat
  st : Int
  rk : Int
  va : Int
def PR.key (r : PR) : List Nat × List Nat := (r.ab, r.be)
structure PR.Ok (r : PR) : Prop where
  na : NameOk r.ab
  nb : NameOk r.be
  v0 : -(10 ^ 30) <= r.va
  v1 : r.va <= 10 ^ 30
  s0 : 0 <= r.st
  self : r.st = 0 ↔ r.ab = r.be
  r0 : 0 <= r.rk
def stO (X : List PR) (a b : List Nat) : Option Int := (X.find? fun r => decide (r.key = (a, b))).map PR.st
def upsO (X : List PR) (b : List Nat) : List (List Nat) := (X.filter fun r => decide (r.st = 1) && decide (r.be = b)).map PR.ab
def selfs (X : List PR) : List PR := X.filter fun r => decide (r.st = 0)
def rkO (X : List PR) (a : List Nat) : Option Int := (X.find? fun r => decide (r.ab = a)).map PR.rk
def vaO (X : List PR) (b : List Nat) : Option Int := (X.find? fun r => decide (r.be = b)).map PR.va
def spotO (X : List PR) (a : List Nat) : Option Nat := X.findIdx? fun r => decide (r.st = 0) && decide (r.ab = a)
def selfB (X : List PR) (r : PR) : Bool := (stO X r.ab r.ab).isNone || (stO X r.be r.be).isNone
def lineB (X : List PR) (r : PR) : Bool := if r.st = 1 then decide ((upsO X r.be).head? ≠ some r.ab) else if r.st = 0 then false else !((upsO X r.be).any fun o => decide ((stO X r.ab o).getD (-1) = r.st - 1))
def gapB (X : List PR) (r : PR) : Bool := (upsO X r.ab).any fun o => decide ((stO X o r.be).getD (-1) ≠ r.st + 1)
def rankB (X : List PR) (r : PR) : Bool := decide (rkO X r.ab ≠ some r.rk)
def valuB (X : List PR) (r : PR) : Bool := decide (vaO X r.be ≠ some r.va)
def sibsP (X : List PR) (r : PR) : List PR := (selfs X).filter fun s => decide ((upsO X s.ab).head? = (upsO X r.ab).head?)
def orderB (X : List PR) (p : Nat) (r : PR) : Bool := if r.st ≠ 0 then false else if (sibsP X r).length <= r.rk then true else (sibsP X r).any fun s => decide (s.rk = r.rk) && decide ((spotO X s.ab).getD 0 < p)
def fstP (X : List PR) (f : Nat -> PR -> Bool) : Option Nat := (X.zipIdx.find? fun z => f z.2 z.1).map (·.2)
def pairF (X : List PR) : Option (Nat × String) :=
  match fstP X fun _ r => selfB X r with
  | some p => some (p, "self")
  | none => match fstP X fun _ r => lineB X r with
    | some p => some (p, "line")
    | none => match fstP X fun _ r => gapB X r with
      | some p => some (p, "gap")
      | none => match fstP X fun _ r => rankB X r with
        | some p => some (p, "ranks")
        | none => match fstP X fun _ r => valuB X r with
          | some p => some (p, "values")
          | none => (fstP X fun p r => orderB X p r).map fun p => (p, "order")
def pairP (rs : List Row) (p a k : Nat) : PR := ⟨(rs.map Row.nm).getD a [], (rs.map Row.nm).getD p [], k, (rkAt (lvs rs) a : Nat), (rs.map Row.va).getD p 0⟩
def pairsPAt (rs : List Row) (p : Nat) : List PR := (lineT (lvs rs) p).zipIdx.map fun z => pairP rs p z.1 ((lineT (lvs rs) p).length - 1 - z.2)
def pairsP (rs : List Row) : List PR := (List.range rs.length).flatMap (pairsPAt rs)
structure PX (rs : List Row) (X : List PR) : Prop where
  ok : RowsOk rs
  perm : X.Perm (pairsP rs)
section
variable {rs : List Row} {X : List PR}
end
end FL
set_option Elab.async false
set_option linter.all false
set_option maxRecDepth 100000
set_option maxHeartbeats 4000000
set_option autoImplicit false
namespace FL
open PySem L2 DL
def optS : Option (List Nat) -> D
  | none => .non
  | some n => strD n
@[simp] theorem vw_optS {M : Mem} {o : Option (List Nat)} : vw M (optS o) = optS o := by cases o <;> rfl
end FL
set_option Elab.async false
set_option linter.all false
set_option maxRecDepth 100000
set_option maxHeartbeats 4000000
set_option autoImplicit false
namespace FL
open PySem L2 DL
section
variable {γ : DTG} {υ : DTT} {τk τv : DTE} {vs : List Nat} {a : Addr} {Q : DV} {ρ : DL.Env}
end
end FL
set_option Elab.async false
set_option linter.all false
set_option maxRecDepth 100000
set_option maxHeartbeats 4000000
set_option autoImplicit false
namespace FL
open PySem L2 DL
end FL
set_option Elab.async false
set_option linter.all false
set_option maxRecDepth 100000
set_option maxHeartbeats 4000000
set_option autoImplicit false
namespace FL
open PySem L2 DL
def PR.l (r : PR) : List D := [strD r.ab, strD r.be, .int r.st, .int r.rk, .int r.va]
abbrev Held (M : Mem) (zs : List D) : Prop := ∀ z ∈ zs, ∀ a, z = .ref a -> (M a).isSome
structure HandT (M : Mem) (d : D) : Prop where
  ty : ∃ n, tyName (vw M d) = some n
  at_ : ∀ a, d = .ref a -> (M a).isSome
  rows : ∀ zs, seqs (vw M d) = some zs -> (∀ y ∈ zs.map (vw M), PlRow y) /\ Held M zs /\ zs.length <= 10000000
end FL
set_option Elab.async false
set_option linter.all false
set_option maxRecDepth 100000
set_option maxHeartbeats 4000000
set_option autoImplicit false
namespace FL
open PySem L2 DL PyProof.Rows PySem.W
theorem cutD_but {xs : List D} {x : D} : DL.cutD (xs ++ [x]) none (some (-1)) = xs := by
  unfold DL.cutD
  have e : HT.sIx (xs ++ [x]).length (xs ++ [x]).length (some (-1)) = xs.length := by
    simp [HT.sIx]
    omega
  have e0 : HT.sIx (xs ++ [x]).length 0 none = 0 := by simp [HT.sIx]
  rw [e, e0]
  simp
end FL
set_option Elab.async false
set_option linter.all false
set_option maxRecDepth 100000
set_option maxHeartbeats 4000000
set_option autoImplicit false
namespace FL
open PySem L2 DL
section
variable {γ : DTG} {υ : DTT} {τk τv : DTE} {vs : List Nat} {a : Addr} {Q : DV} {ρ : DL.Env} {M : Mem} {α : Type}
end
end FL
set_option Elab.async false
set_option linter.all false
set_option maxRecDepth 100000
set_option maxHeartbeats 4000000
set_option autoImplicit false
namespace FL
open PySem L2 DL
section
variable {γ : DTG} {υ : DTT} {τk τv : DTE} {vs : List Nat} {a : Addr} {Q : DV} {ρ : DL.Env} {M : Mem} {α : Type}
end
section
variable {α : Type} [DecidableEq α]
structure LP (M0 M : Mem) (P : List α) (cf : α -> Addr) (g : α -> List D) : Prop where
  nd : P.Nodup
  at_ : ∀ p ∈ P, M0 (cf p) = none /\ M (cf p) = some (.lst (g p))
  inj : ∀ p ∈ P, ∀ q ∈ P, cf p = cf q -> p = q
end
end FL
set_option Elab.async false
set_option linter.all false
set_option maxRecDepth 100000
set_option maxHeartbeats 4000000
set_option autoImplicit false
namespace FL
open PySem L2 DL
structure HL (M : Mem) (h : Addr) (as : List Addr) (X : List PR) : Prop where
  li : M h = some (.lst (as.map D.ref))
  len : as.length = X.length
  nh : h ∉ as
  at_ : ∀ (i : Nat) (a : Addr), as[i]? = some a -> ∃ r, X[i]? = some r /\ M a = some (.lst r.l)
end FL
set_option Elab.async false
set_option linter.all false
set_option maxRecDepth 100000
set_option maxHeartbeats 4000000
set_option autoImplicit false
namespace FL
open PySem L2 DL PyProof.Rows PySem.W
end FL
set_option Elab.async false
set_option linter.all false
set_option maxRecDepth 100000
set_option maxHeartbeats 4000000
set_option autoImplicit false
namespace FL
open PySem L2 DL
end FL
set_option Elab.async false
set_option linter.all false
set_option maxRecDepth 100000
set_option maxHeartbeats 4000000
set_option autoImplicit false
namespace FL
open PySem L2 DL
end FL
set_option Elab.async false
set_option linter.all false
set_option maxRecDepth 100000
set_option maxHeartbeats 4000000
set_option autoImplicit false
namespace FL
open PySem L2 DL
structure PN (X : List PR) : Prop where
  ok : ∀ r ∈ X, r.Ok
  nd : (X.map PR.key).Nodup
  few : ∀ l : List Nam, l.Nodup -> (∀ n ∈ l, ∃ r ∈ X, r.ab = n \/ r.be = n) -> l.length <= 60
  nf : pairF X = none
section
variable {X : List PR} (h : PN X)
include h
end
end FL
set_option Elab.async false
set_option linter.all false
set_option maxRecDepth 100000
set_option maxHeartbeats 4000000
set_option autoImplicit false
namespace FL
open PySem L2 DL
section
variable {X : List PR} (h : PN X)
include h
end
end FL
set_option Elab.async false
set_option linter.all false
set_option maxRecDepth 100000
set_option maxHeartbeats 4000000
set_option autoImplicit false
namespace FL
open PySem L2 DL
section
variable {X : List PR} (h : PN X)
include h
end
end FL
set_option Elab.async false
set_option linter.all false
set_option maxRecDepth 100000
set_option maxHeartbeats 4000000
set_option autoImplicit false
namespace FL
open PySem L2 DL
section
variable {X : List PR} (h : PN X)
include h
end
end FL
set_option Elab.async false
set_option linter.all false
set_option maxRecDepth 100000
set_option maxHeartbeats 4000000
set_option autoImplicit false
namespace FL
open PySem L2 DL
section
variable {X : List PR} (nd : (X.map PR.key).Nodup)
include nd
end
end FL
set_option Elab.async false
set_option linter.all false
set_option maxRecDepth 100000
set_option maxHeartbeats 4000000
set_option autoImplicit false
namespace FL
open PySem L2 DL
end FL
set_option Elab.async false
set_option linter.all false
set_option maxRecDepth 100000
set_option maxHeartbeats 4000000
set_option autoImplicit false
namespace FL
open PySem L2 DL
end FL
set_option Elab.async false
set_option linter.all false
set_option maxRecDepth 100000
set_option maxHeartbeats 4000000
set_option autoImplicit false
namespace FL
open PySem L2 DL PyProof.Rows PySem.W
end FL
set_option Elab.async false
set_option linter.all false
set_option maxRecDepth 100000
set_option maxHeartbeats 4000000
set_option autoImplicit false
namespace FL
open PySem L2 DL
section
variable {rs : List Row} {ts : List Tr}
end
structure PutL (rs rs' : List Row) (ts ts' : List Tr) (g : Option Nam) (l : List Nam) (k : Nat) (n : Nam) (v : Int) : Prop where
  ok : RowsOk rs
  ok' : RowsOk rs'
  hf : flatTs 0 ts = rs
  hf' : flatTs 0 ts' = rs'
  he : (g, l) ∈ ents ts
  hk : k <= l.length
  hn : n ∉ rs.map Row.nm
  es : (ents ts').Perm ((g, insL l k n) :: (some n, []) :: remE (ents ts) g)
  vs : (vals ts').Perm ((n, v) :: vals ts)
section
variable {rs rs' : List Row} {ts ts' : List Tr} {g : Option Nam} {l : List Nam} {k : Nat} {n : Nam} {v : Int} (P : PutL rs rs' ts ts' g l k n v)
include P
end
end FL
set_option Elab.async false
set_option linter.all false
set_option maxRecDepth 100000
set_option maxHeartbeats 4000000
set_option autoImplicit false
namespace FL
open PySem L2 DL
section
variable {rs rs' : List Row} {ts ts' : List Tr} {g : Option Nam} {l : List Nam} {k : Nat} {n : Nam} {v : Int} (P : PutL rs rs' ts ts' g l k n v)
include P
variable {X Y : List PR} (px : PX rs X) (py : PX rs' Y)
include px py
end
end FL
set_option Elab.async false
set_option linter.all false
set_option maxRecDepth 100000
set_option maxHeartbeats 4000000
set_option autoImplicit false
namespace FL
open PySem L2 DL
section
variable {rs : List Row} {ts : List Tr} {X : List PR}
end
def flatR (rs : List Row) : List Row := rs.reverse.map fun r => ⟨r.nm, r.va + 1, 0⟩
section
variable {rs : List Row} (h : RowsOk rs)
include h
variable {X Y : List PR} (px : PX rs X) (hv : ∀ x ∈ rs, x.va < 10 ^ 30) (py : PX (flatR rs) Y)
include px hv py
end
end FL
set_option Elab.async false
set_option linter.all false
set_option maxRecDepth 100000
set_option maxHeartbeats 4000000
set_option autoImplicit false
namespace FL
open PySem L2 DL
def byN : D -> List Nat
  | .byt b => b.toList.map UInt8.toNat
  | _ => []
def isByt : D -> Bool
  | .byt _ => true
  | _ => false
end FL
set_option Elab.async false
set_option linter.all false
set_option maxRecDepth 100000
set_option maxHeartbeats 4000000
set_option autoImplicit false
namespace FL
open PySem L2 DL
structure LabOk (r : Nat) (l : List Nat) : Prop where
  ex : ∃ o e, l = o ++ [e] /\ (∀ x ∈ o, x % 2 = 1) /\ e % 2 = 0 /\ e ≠ 0
  n8 : N8 l
  len : l.length <= 4
  rk : (l.headD 0 - 1) / 2 = r
structure LabsOk (ls : List Int) (L : List (List Nat)) : Prop where
  len : L.length = ls.length
  ok : ∀ a, a < ls.length -> LabOk (rkAt ls a) (L.getD a [])
section
variable {ls : List Int} {L : List (List Nat)}
end
def SHY (k n : Nat) (d : D) : Prop := depY d <= k /\ ∃ t, shY d = some t /\ t.length <= n
structure CelY (t : Nat) (c : D) : Prop where
  pl : Pl c
  sh : SHY (t + 1) (10100 + 10 * t) c
inductive RowL (t : Nat) : D -> Prop where
  | key {n v : D} {l : List Nat} : CelY t n -> CelY t v -> N8 l -> l.length <= 300 + t -> RowL t (.tup [n, v, .lst (l.map intD)])
  | tup {n v k : D} : CelY t n -> CelY t v -> CelY t k -> (∀ xs, k ≠ .lst xs) -> isByt k = false -> RowL t (.tup [n, v, k])
  | odd {y : D} : PlRow y -> plainW 3 y = some "row" -> (∀ l, y ≠ .tup l) -> byN (itm y 2) = [] -> SHY (t + 3) 80000 y -> RowL t y
end FL
set_option Elab.async false
set_option linter.all false
set_option maxRecDepth 100000
set_option maxHeartbeats 4000000
set_option autoImplicit false
namespace FL
open PySem L2 DL
def LabD (l : List Nat) : Prop := Lab l /\ l.length <= 7
abbrev KyS := List (Nam × List (List Nat))
def KAt (qs : KyS) (o : Option Nam) (k : List (List Nat)) : Prop := (o = none /\ k = []) \/ ∃ p, o = some p /\ (p, k) ∈ qs
structure KIn (A : List (Option Nam × List Nam)) (qs : KyS) : Prop where
  fst : qs.map Prod.fst = A.flatMap (·.2)
  kid : ∀ e ∈ A, ∃ k ls, KAt qs e.1 k /\ ls.length = e.2.length /\ ls.Nodup /\ ls.Pairwise (· < ·) /\ (∀ l ∈ ls, LabD l) /\ ∀ x ∈ e.2.zip ls, (x.1, k ++ [x.2]) ∈ qs
structure KeyF (ts : List Tr) (K : Nam -> List (List Nat)) : Prop where
  top : ∀ n c, (n, c) ∈ chT [] ts -> ∃ l, LabD l /\ K n = (match c with | [] => [] | p :: _ => K p) ++ [l]
  ne : ∀ n c n' c', (n, c) ∈ chT [] ts -> (n', c') ∈ chT [] ts -> c.head? = c'.head? -> (K n).getLast? = (K n').getLast? -> n = n'
section
variable {ts : List Tr} {K : Nam -> List (List Nat)}
end
end FL
set_option Elab.async false
set_option linter.all false
set_option maxRecDepth 100000
set_option maxHeartbeats 4000000
set_option autoImplicit false
namespace FL
open PySem L2 DL
section
variable {K : Nam -> List (List Nat)}
end
end FL
namespace FL
open PySem L2 DL
section
variable {K : Nam -> List (List Nat)}
end
end FL
set_option Elab.async false
set_option linter.all false
set_option maxRecDepth 100000
set_option maxHeartbeats 4000000
set_option autoImplicit true
namespace LawProof
open PySem L2 DL FL
theorem enN_at {l : List Nat} {f : Nat -> D} {c : Nat} {done rest : List D} {x : D} (h : ((l.map f).zipIdx.map fun p => D.tup [.int ((p.2 + c : Nat)), p.1]) = done ++ x :: rest) : ∃ a, l[done.length]? = some a /\ x = .tup [.int ((done.length + c : Nat)), f a] := by
  have e := congrArg (fun t => t[done.length]?) h
  simp only [List.getElem?_map, List.getElem?_zipIdx, List.getElem?_append_right (Nat.le_refl _), Nat.sub_self, List.getElem?_cons_zero] at e
  cases h1 : l[done.length]? with
  | none => rw [h1] at e; simp at e
  | some a => rw [h1] at e; simp at e; exact ⟨a, rfl, by rw [<- e]; simp⟩
theorem enN_len {l : List Nat} {f : Nat -> D} {c : Nat} : ((l.map f).zipIdx.map fun p => D.tup [.int ((p.2 + c : Nat)), p.1]).length = l.length := by simp
theorem idxOf_first : ∀ (l : List Nat) (j : Nat), l[j]? = some 0 -> (∀ i, i < j -> l[i]? ≠ some 0) -> l.idxOf 0 = j
  | [], _, h, _ => by simp at h
  | a :: l, 0, h, _ => by simp at h; subst h; simp
  | a :: l, j + 1, h, k => by
    have h0 : a ≠ 0 := fun z => k 0 (by omega) (by simp [z])
    rw [List.idxOf_cons, show (a == 0) = false by simpa using h0]
    simp only [Bool.false_eq_true, if_false, cond_false]
    rw [idxOf_first l j (by simpa using h) fun i hi => by have := k (i + 1) (by omega); simpa using this]
def kfD (l : List Nat) : D := match l.getLast? with
  | none => .int (-1)
  | some e => if 0 ∈ l then .int (l.idxOf 0 : Nat) else if e % 2 = 1 then .int (l.length : Nat) else .non
def cutK : List Nat -> List Nat -> List (List Nat)
  | _, [] => []
  | acc, a :: r => if a % 2 = 0 then (acc ++ [a]) :: cutK [] r else cutK (acc ++ [a]) r
theorem isiB (M : Mem) (d : D) {n : String} (h : tyName (vw M d) = some n) : isiF ([d, .ty "bytes"].map (vw M)) = some (.bl (n == "bytes")) := by
  have hn := tyName_mem h
  simp [isiF, h]
  simp [tyNames] at hn
  rcases hn with rfl | rfl | rfl | rfl | rfl | rfl | rfl | rfl <;> simp [tyNames, isTy]
def sp_is_integer : SpD := fun ds M Q _ => ∃ d n, ds = [d] /\ tyName (vw M d) = some n /\ Q (.bl (n == "int")) M
abbrev N_is_integer : List Str := ["thing"]
def t_is_integer : DTS := (dRet (dAndV (dCB isiF (dCons (dVar 0) (dCons (dC (.ty "int")) dNil))) (dNotV (dCB isiF (dCons (dVar 0) (dCons (dC (.ty "bool")) dNil))))))
theorem pure_is_integer : ∀ ds M Q E, sp_is_integer ds M Q E -> ds.length = 1 /\ t_is_integer (dEnds Q E) (startD N_is_integer ds) M := by
  rintro ds M Q E ⟨d, n, rfl, h, q⟩
  refine ⟨rfl, ?_⟩
  have hn := tyName_mem h
  simp [t_is_integer, isiF, h]
  simp [tyNames] at hn
  rcases hn with rfl | rfl | rfl | rfl | rfl | rfl | rfl | rfl <;> simpa [tyNames, isTy] using q
def sp_is_sequence : SpD := fun ds M Q _ => ∃ d n, ds = [d] /\ tyName (vw M d) = some n /\ Q (.bl (n == "list" || n == "tuple")) M
abbrev N_is_sequence : List Str := ["thing"]
def t_is_sequence : DTS := (dRet (dCB isiF (dCons (dVar 0) (dCons (dTup (dCons (dC (.ty "list")) (dCons (dC (.ty "tuple")) dNil))) dNil))))
theorem pure_is_sequence : ∀ ds M Q E, sp_is_sequence ds M Q E -> ds.length = 1 /\ t_is_sequence (dEnds Q E) (startD N_is_sequence ds) M := by
  rintro ds M Q E ⟨d, n, rfl, h, q⟩
  refine ⟨rfl, ?_⟩
  have hn := tyName_mem h
  simp [t_is_sequence, isiF, h]
  simp [tyNames] at hn
  rcases hn with rfl | rfl | rfl | rfl | rfl | rfl | rfl | rfl <;> simpa [tyNames, isTy] using q
def sp_key_fault : SpD := fun ds M Q _ => ∃ d, ds = [d] /\ ((∃ l, d = bD l /\ N8 l /\ l.length <= 1000000 /\ Q (kfD l) M) \/ (∃ n, tyName (vw M d) = some n /\ n ≠ "bytes" /\ Q (.int (-1)) M))
abbrev N_key_fault : List Str := ["key", "place", "number"]
def l_key_fault_1 : DTS := (dIf (dTest (dOp eqD (dVar 2) (dC (.int 0)))) (dRet (dVar 1)) dNext)
def l_key_fault_2 : DTS := (dSeq (dFor (iEnN 0 (dVar 0)) (gT 2 (gsCons (gN 1) (gsCons (gN 2) gsNil))) l_key_fault_1)
    (dRet (dIfE (dTest (dOp eqD (dOp modD (dCB intF (dCons (dOp ixB (dVar 0) (dUn negD (dC (.int 1)))) dNil)) (dC (.int 2))) (dC (.int 1)))) (dCB lenF (dCons (dVar 0) dNil)) (dC .non))))
def t_key_fault : DTS := (dSeq (dIf (dOr (dNot (dTest (dCB isiF (dCons (dVar 0) (dCons (dC (.ty "bytes")) dNil))))) (dTest (dOp eqD (dCB lenF (dCons (dVar 0) dNil)) (dC (.int 0))))) (dRet (dUn negD (dC (.int 1)))) dNext)
    l_key_fault_2)
theorem kf_loop {l : List Nat} {M : Mem} {Q : DV} {E : DEK} {o1 o2 : Option D} (h8 : N8 l) (hl : l.length <= 1000000) (hne : l ≠ []) (q : Q (kfD l) M) : l_key_fault_2 (dEnds Q E) [some (bD l), o1, o2] M := by
  obtain ⟨e, he⟩ : ∃ e, l.getLast? = some e := by
    cases h : l.getLast? with
    | none => exact absurd (List.getLast?_eq_none_iff.mp h) hne
    | some e => exact ⟨e, rfl⟩
  unfold kfD at q
  rw [he] at q
  simp only at q
  refine ⟨_, rfl, _, wkD_bD h8, ?_⟩
  refine forD_run _ (fun done ρ M1 => M1 = M /\ (∃ o1 o2, ρ = [some (bD l), o1, o2]) /\ ∀ j, j < done.length -> l[j]? ≠ some 0) ?_ ?_ ⟨rfl, ⟨o1, o2, rfl⟩, fun j hj => absurd hj (by simp)⟩
  · rintro done x rest ρ M1 Nx hx ⟨rfl, ⟨o1, o2, rfl⟩, hz⟩ nx
    obtain ⟨a, ha, rfl⟩ := enN_at hx
    refine ⟨_, .inl rfl, rfl, _, _, rfl, _, _, rfl, rfl, ?_⟩
    refine ⟨_, rfl, .bl ((a : Int) == 0), rfl, _, rfl, ?_⟩
    by_cases h0 : a = 0
    · subst h0
      have hm : 0 ∈ l := List.mem_of_getElem? ha
      rw [if_pos hm] at q
      have hi : l.idxOf 0 = done.length := idxOf_first l _ ha (fun i hi => hz i hi)
      rw [hi] at q
      exact ⟨_, rfl, q⟩
    · have : ((a : Int) == 0) = false := by rw [beq_eq_false_iff_ne]; omega
      rw [this]
      refine nx _ _ ⟨rfl, ⟨_, _, rfl⟩, fun j hj => ?_⟩
      simp at hj
      rcases Nat.lt_or_ge j done.length with z | z
      · exact hz j z
      · have : j = done.length := by omega
        subst this
        rw [ha]
        intro z
        exact h0 (Option.some.inj z)
  · rintro ρ M1 ⟨rfl, ⟨o1, o2, rfl⟩, hz⟩
    have hn : 0 ∉ l := fun hm => by
      obtain ⟨j, hj, e⟩ := List.mem_iff_getElem.mp hm
      exact hz j (by rw [enN_len]; exact hj) (by rw [List.getElem?_eq_getElem hj, e])
    rw [if_neg hn] at q
    refine ⟨_, rfl, _, rfl, _, ixB_last he h8 (by omega), _, rfl, _, modD_int (by decide), .bl (((e : Int) % 2) == 1), rfl, _, rfl, ?_⟩
    by_cases ho : e % 2 = 1
    · rw [if_pos ho] at q
      have : (((e : Int) % 2) == 1) = true := by rw [beq_iff_eq]; omega
      rw [this]
      exact ⟨_, rfl, _, lenF_bD (by omega), q⟩
    · rw [if_neg ho] at q
      have : (((e : Int) % 2) == 1) = false := by rw [beq_eq_false_iff_ne]; omega
      rw [this]
      exact q
theorem pure_key_fault : ∀ ds M Q E, sp_key_fault ds M Q E -> ds.length = 1 /\ t_key_fault (dEnds Q E) (startD N_key_fault ds) M := by
  rintro ds M Q E ⟨d, rfl, ⟨l, rfl, h8, hl, q⟩ | ⟨n, hn, hb, q⟩⟩
  · refine ⟨rfl, ?_⟩
    refine ⟨_, rfl, _, isiB M (bD l) (n := "bytes") rfl, _, rfl, ?_⟩
    simp only [beq_self_eq_true, Bool.not_true, Bool.false_eq_true, if_false]
    refine ⟨_, rfl, _, lenF_bD (by omega), .bl ((l.length : Int) == 0), rfl, _, rfl, ?_⟩
    by_cases h0 : l = []
    · subst h0
      exact ⟨_, rfl, q⟩
    · have : ((l.length : Int) == 0) = false := by
        rw [beq_eq_false_iff_ne]
        have := List.length_pos_iff.mpr h0
        omega
      rw [this]
      exact kf_loop h8 hl h0 q
  · refine ⟨rfl, ?_⟩
    refine ⟨_, rfl, _, isiB M d hn, _, rfl, ?_⟩
    have : (n == "bytes") = false := by simpa using hb
    rw [this]
    exact ⟨_, rfl, q⟩
def sp_cut_key : SpD := fun ds M Q _ => ∃ l, ds = [bD l] /\ N8 l /\ l.length <= 1000000 /\ Q (.lst ((cutK [] l).map bD)) M
abbrev N_cut_key : List Str := ["key", "found", "begin", "place", "number"]
def l_cut_key_1 : DTS := (dSeq (dDrop (dBM "list" φApp (dVar 1) (dCons (dSl slB (dVar 0) (dPart (dVar 2)) (dPart (dOp addD (dVar 3) (dC (.int 1))))) dNil)))
    (dAsg (dOp addD (dVar 3) (dC (.int 1))) (gN 2)))
def l_cut_key_2 : DTS := (dIf (dTest (dOp eqD (dOp modD (dCB intF (dCons (dVar 4) dNil)) (dC (.int 2))) (dC (.int 0)))) l_cut_key_1 dNext)
def l_cut_key_3 : DTS := (dSeq (dFor (iEnN 0 (dVar 0)) (gT 2 (gsCons (gN 3) (gsCons (gN 4) gsNil))) l_cut_key_2)
    (dRet (dFrz (dVar 1))))
def t_cut_key : DTS := (dSeq (dPar 1 2 (dCons (dLstM dNil) (dCons (dC (.int 0)) dNil)))
    l_cut_key_3)
theorem ck_loop {l : List Nat} {M : Mem} {r : Addr} {Q : DV} {E : DEK} {o3 o4 : Option D} (h8 : N8 l) (hl : l.length <= 1000000) (hr : M r = none) (q : Q (.lst ((cutK [] l).map bD)) M) : l_cut_key_3 (dEnds Q E) [some (bD l), some (.ref r), some (.int 0), o3, o4] (updM M r (.lst [])) := by
  refine ⟨_, rfl, _, wkD_bD h8, ?_⟩
  refine forD_run _ (fun done ρ M1 => ∃ (F : List (List Nat)) (b : Nat) (o3 o4 : Option D), ρ = [some (bD l), some (.ref r), some (.int (b : Nat)), o3, o4] /\ M1 = updM M r (.lst (F.map bD)) /\ b <= done.length /\ done.length <= l.length /\ F.length <= done.length /\
    F ++ cutK ((l.drop b).take (done.length - b)) (l.drop done.length) = cutK [] l) ?_ ?_ ⟨[], 0, o3, o4, rfl, rfl, Nat.le_refl _, Nat.zero_le _, Nat.zero_le _, by simp⟩
  · rintro done x rest ρ M1 Nx hx ⟨F, b, o3, o4, rfl, rfl, hb, hd, hF, he⟩ nx
    obtain ⟨a, ha, rfl⟩ := enN_at hx
    have hi : done.length < l.length := (List.getElem?_eq_some_iff.mp ha).1
    have e1 : l.drop done.length = a :: l.drop (done.length + 1) := by
      rw [List.drop_eq_getElem_cons hi, (List.getElem?_eq_some_iff.mp ha).2]
    have e2 : (l.drop b).take (done.length - b) ++ [a] = (l.drop b).take (done.length + 1 - b) := by
      rw [show done.length + 1 - b = (done.length - b) + 1 by omega, List.take_add_one, List.getElem?_drop, show b + (done.length - b) = done.length by omega, ha]
      rfl
    rw [e1, cutK, e2] at he
    refine ⟨_, .inl rfl, rfl, _, _, rfl, _, _, rfl, rfl, ?_⟩
    refine ⟨_, rfl, _, rfl, _, modD_int (by decide), .bl (((a : Int) % 2) == 0), rfl, _, rfl, ?_⟩
    by_cases h0 : a % 2 = 0
    · rw [if_pos h0] at he
      have : (((a : Int) % 2) == 0) = true := by rw [beq_iff_eq]; omega
      rw [this]
      have es : slB (bD l) (some ((b : Nat) : Int)) (some (((done.length + 1 : Nat)) : Int)) = some (bD ((l.drop b).take (done.length + 1 - b))) := slB_mid (by omega) (by omega) (by omega)
      refine ⟨_, rfl, by rw [vw_upd]; rfl, _, rfl, _, rfl, _, rfl, _, rfl, .int (((done.length + 0 : Nat) : Int) + 1), rfl, _, rfl, _, (by rw [show (((done.length + 0 : Nat) : Int) + 1) = ((done.length + 1 : Nat) : Int) by omega]; exact es), ?_⟩
      refine ⟨r, F.map bD, _, rfl, rfl, updM_same, by simp; omega, ?_⟩
      refine ⟨_, rfl, .int (((done.length + 0 : Nat) : Int) + 1), rfl, ?_⟩
      refine nx _ _ ⟨F ++ [(l.drop b).take (done.length + 1 - b)], done.length + 1, some (.int ((done.length + 0 : Nat) : Int)), some (.int (a : Int)), rfl, ?_, ?_, ?_, ?_, ?_⟩
      · rw [updM_updM]; simp
      · simp
      · simp; omega
      · simp; omega
      · simp only [List.length_append, List.length_singleton, Nat.sub_self, List.take_zero]
        rw [List.append_assoc, List.singleton_append]
        exact he
    · rw [if_neg h0] at he
      have : (((a : Int) % 2) == 0) = false := by rw [beq_eq_false_iff_ne]; omega
      rw [this]
      refine nx _ _ ⟨F, b, _, _, rfl, rfl, by simp; omega, by simp; omega, by simp; omega, ?_⟩
      simpa using he
  · rintro ρ M1 ⟨F, b, o3, o4, rfl, rfl, hb, hd, hF, he⟩
    rw [enN_len, List.drop_length] at he
    have hF2 : F = cutK [] l := by rw [<- he]; simp [cutK]
    subst hF2
    refine ⟨_, rfl, ?_⟩
    show frz (.ref r) _ _
    simp only [frz, updM_same]
    rw [delM_updM hr]
    exact q
theorem pure_cut_key : ∀ ds M Q E, sp_cut_key ds M Q E -> ds.length = 1 /\ t_cut_key (dEnds Q E) (startD N_cut_key ds) M := by
  rintro ds M Q E ⟨l, rfl, h8, hl, q⟩
  exact ⟨rfl, by simp, fun r hr => ⟨_, _, rfl, ck_loop h8 hl hr q⟩⟩
def sp_split_key : SpD := fun ds M Q E => ∃ d, ds = [d] /\ ((∃ l, d = bD l /\ N8 l /\ l.length <= 100000 /\ (kfD l = .non -> Q (.lst ((cutK [] l).map bD)) M) /\ (kfD l ≠ .non -> E 30 ["place"] [kfD l] M)) \/
  (∃ n, tyName (vw M d) = some n /\ n ≠ "bytes" /\ E 30 ["place"] [.int (-1)] M))
abbrev N_split_key : List Str := ["key", "fault"]
def t_split_key : DTS := (dSeq (dAsg (dCall sp_key_fault [] (dCons (dVar 0) dNil)) (gN 1))
    (dSeq (dIf (dTest (dOp notNonD (dVar 1) (dC .non))) (dRaise 30 ["place"] (dCons (dVar 1) dNil)) dNext)
    (dRet (dCall sp_cut_key [] (dCons (dVar 0) dNil)))))
theorem pure_split_key : ∀ ds M Q E, sp_split_key ds M Q E -> ds.length = 1 /\ t_split_key (dEnds Q E) (startD N_split_key ds) M := by
  rintro ds M Q E ⟨d, rfl, ⟨l, rfl, h8, hl, q, qe⟩ | ⟨n, hn, hb, qe⟩⟩
  · refine ⟨rfl, ?_⟩
    refine ⟨_, rfl, bD l, rfl, .inl ⟨l, rfl, h8, by omega, ?_⟩⟩
    by_cases hk : kfD l = .non
    · refine ⟨_, rfl, .bl false, by rw [hk]; rfl, false, rfl, ?_⟩
      exact ⟨_, rfl, l, rfl, h8, by omega, q hk⟩
    · refine ⟨_, rfl, .bl true, ?_, true, rfl, ?_⟩
      · have hv : vw M (kfD l) = kfD l := by
          unfold kfD
          split
          · rfl
          · split
            · rfl
            · split <;> rfl
        rw [hv]
        revert hk
        unfold kfD
        split
        · intro _; rfl
        · split
          · intro _; rfl
          · split
            · intro _; rfl
            · intro h; exact absurd rfl h
      · exact ⟨_, rfl, rfl, qe hk⟩
  · refine ⟨rfl, ?_⟩
    refine ⟨_, rfl, d, rfl, .inr ⟨n, hn, hb, ?_⟩⟩
    exact ⟨_, rfl, .bl true, rfl, true, rfl, _, rfl, rfl, qe⟩
def nD (n : Nat) : D := .int (n : Int)
def okB : D -> Bool
  | .int i => decide (0 <= i) && decide (i <= 255)
  | _ => false
def Ty (d : D) : Prop := ∃ n, tyName d = some n
theorem Ty.vw {d : D} (h : Ty d) (M : Mem) : vw M d = d := by obtain ⟨n, h⟩ := h; cases d <;> first | rfl | cases h
theorem ty_nD (n : Nat) : Ty (nD n) := ⟨_, rfl⟩
theorem okB_nD {n : Nat} (h : n < 256) : okB (nD n) = true := by simp [okB, nD]; omega
def sp_bytes_of : SpD := fun ds M Q E => ∃ d, ds = [d] /\
  ((∃ l, seqs d = some (l.map nD) /\ N8 l /\ l.length <= 1000000 /\ Q (bD l) M) \/
   (∃ (xs : List D) (j : Nat) (y : D), seqs d = some xs /\ xs.length <= 1000000 /\ (∀ x ∈ xs, Ty x) /\ xs[j]? = some y /\ okB y = false /\ (∀ i x, i < j -> xs[i]? = some x -> okB x = true) /\ E 30 ["place"] [.int (j : Nat)] M) \/
   (∃ n, tyName (vw M d) = some n /\ n ≠ "list" /\ n ≠ "tuple" /\ E 30 ["place"] [.int (-1)] M))
abbrev N_bytes_of : List Str := ["numbers", "place", "number"]
def l_bytes_of_1 : DTS := (dIf (dOr (dNot (dTest (dCall sp_is_integer [] (dCons (dVar 2) dNil)))) (dNot (dTest (dChain leD leD (dC (.int 0)) (dVar 2) (dC (.int 255)))))) (dRaise 30 ["place"] (dCons (dVar 1) dNil)) dNext)
def l_bytes_of_2 : DTS := (dSeq (dFor (iEnT (dVar 0)) (gT 2 (gsCons (gN 1) (gsCons (gN 2) gsNil))) l_bytes_of_1)
    (dRet (dCB bytesF (dCons (dVar 0) dNil))))
def t_bytes_of : DTS := (dSeq (dIf (dNot (dTest (dCall sp_is_sequence [] (dCons (dVar 0) dNil)))) (dRaise 30 ["place"] (dCons (dUn negD (dC (.int 1))) dNil)) dNext)
    l_bytes_of_2)
theorem bo_en {xs : List D} {done rest : List D} {x : D} (h : (xs.zipIdx.map fun p => D.tup [.int (p.2 : Nat), p.1]) = done ++ x :: rest) : ∃ a, xs[done.length]? = some a /\ x = .tup [.int (done.length : Nat), a] := by
  have e := congrArg (fun t => t[done.length]?) h
  simp only [List.getElem?_map, List.getElem?_zipIdx, List.getElem?_append_right (Nat.le_refl _), Nat.sub_self, List.getElem?_cons_zero] at e
  cases h1 : xs[done.length]? with
  | none => rw [h1] at e; simp at e
  | some a => rw [h1] at e; simp at e; exact ⟨a, rfl, by rw [<- e]⟩
theorem bo_item {x : D} {ρ : DL.Env} {M : Mem} {E : DEnds} (h : Ty x) (h2 : ρ[2]? = some (some x)) (q1 : okB x = true -> E.nx ρ M) (q2 : okB x = false -> ∃ p, ρ[1]? = some (some p) /\ E.ex 30 ["place"] [p] ρ M) : l_bytes_of_1 E ρ M := by
  obtain ⟨n, hn⟩ := h
  refine ⟨_, h2, x, n, rfl, by rw [Ty.vw ⟨n, hn⟩]; exact hn, _, rfl, ?_⟩
  by_cases hi : n = "int"
  · subst hi
    obtain ⟨i, rfl⟩ : ∃ i, x = .int i := by cases x <;> simp [tyName] at hn ⊢
    refine ⟨_, h2, decide (0 <= i), rfl, ?_⟩
    by_cases h0 : 0 <= i
    · rw [decide_eq_true h0]
      refine ⟨.bl (decide (i <= 255)), rfl, _, rfl, ?_⟩
      by_cases h1 : i <= 255
      · rw [decide_eq_true h1]
        exact q1 (by simp [okB, h0, h1])
      · rw [decide_eq_false h1]
        obtain ⟨p, e, k⟩ := q2 (by simp [okB, h0, h1])
        exact ⟨_, e, rfl, k⟩
    · rw [decide_eq_false h0]
      obtain ⟨p, e, k⟩ := q2 (by simp [okB, h0])
      exact ⟨_, rfl, _, e, rfl, k⟩
  · have : (n == "int") = false := by simpa using hi
    rw [this]
    obtain ⟨p, e, k⟩ := q2 (by cases x <;> first | rfl | (simp [tyName] at hn; exact absurd hn.symm hi))
    exact ⟨_, e, rfl, k⟩
theorem natsOk : ∀ (l : List Nat), N8 l -> intsOf (l.map nD) = some (l.map fun (n : Nat) => (n : Int))
  | [], _ => rfl
  | a :: l, h => by
    rw [List.map_cons, show nD a = .int (a : Int) from rfl, intsOf_cons, natsOk l (N8.cons.mp h).2]; rfl
theorem bytesF_nD {d : D} {l : List Nat} (hd : seqs d = some (l.map nD)) (h : N8 l) : bytesF [d] = some (bD l) := by
  have e := natsOk l h
  have k : is8 (l.map fun (n : Nat) => (n : Int)) = true := is8_iff.mpr fun n hn => by
    obtain ⟨m, hm, rfl⟩ := List.mem_map.mp hn
    have := h m hm
    omega
  cases d with
  | lst xs => cases hd; show (intsOf _).bind _ = _; rw [e]; simp only [Option.bind_some]; rw [if_pos k, byteArr_bA]; rfl
  | tup xs => cases hd; show (intsOf _).bind _ = _; rw [e]; simp only [Option.bind_some]; rw [if_pos k, byteArr_bA]; rfl
  | _ => cases hd
theorem seqs_vw {d : D} {xs : List D} (h : seqs d = some xs) (M : Mem) : vw M d = d := by cases d <;> first | rfl | cases h
theorem seqs_isq {d : D} {xs : List D} (h : seqs d = some xs) : ∃ n, tyName d = some n /\ (n == "list" || n == "tuple") = true := by
  cases d with
  | lst => exact ⟨_, rfl, rfl⟩
  | tup => exact ⟨_, rfl, rfl⟩
  | _ => cases h
theorem pure_bytes_of : ∀ ds M Q E, sp_bytes_of ds M Q E -> ds.length = 1 /\ t_bytes_of (dEnds Q E) (startD N_bytes_of ds) M := by
  rintro ds M Q E ⟨d, rfl, ⟨l, hd, h8, hl, q⟩ | ⟨xs, j, y, hd, hl, ht, hj, hy, hb, q⟩ | ⟨n, hn, n1, n2, q⟩⟩
  · refine ⟨rfl, ?_⟩
    obtain ⟨n, hn, hs⟩ := seqs_isq hd
    refine ⟨_, rfl, d, n, rfl, by rw [seqs_vw hd]; exact hn, _, rfl, ?_⟩
    rw [hs]
    refine ⟨_, rfl, _, seqs_en hd, ?_⟩
    refine forD_run _ (fun done ρ M1 => M1 = M /\ ∃ o1 o2, ρ = [some d, o1, o2]) ?_ ?_ ⟨rfl, _, _, rfl⟩
    · rintro done x rest ρ M1 Nx hx ⟨rfl, o1, o2, rfl⟩ nx
      obtain ⟨a, ha, rfl⟩ := bo_en hx
      obtain ⟨m, hm, rfl⟩ := List.mem_map.mp (List.mem_of_getElem? ha)
      refine ⟨_, .inl rfl, rfl, _, _, rfl, _, _, rfl, rfl, ?_⟩
      refine bo_item (ty_nD m) rfl (fun _ => nx _ _ ⟨rfl, _, _, rfl⟩) fun h => ?_
      rw [okB_nD (h8 m hm)] at h
      cases h
    · rintro ρ M1 ⟨rfl, o1, o2, rfl⟩
      exact ⟨_, rfl, _, by rw [List.map_cons, List.map_nil, seqs_vw hd]; exact bytesF_nD hd h8, q⟩
  · refine ⟨rfl, ?_⟩
    obtain ⟨n, hn, hs⟩ := seqs_isq hd
    refine ⟨_, rfl, d, n, rfl, by rw [seqs_vw hd]; exact hn, _, rfl, ?_⟩
    rw [hs]
    refine ⟨_, rfl, _, seqs_en hd, ?_⟩
    have hjl : j < xs.length := (List.getElem?_eq_some_iff.mp hj).1
    refine forD_run _ (fun done ρ M1 => M1 = M /\ done.length <= j /\ ∃ o1 o2, ρ = [some d, o1, o2]) ?_ ?_ ⟨rfl, Nat.zero_le _, _, _, rfl⟩
    · rintro done x rest ρ M1 Nx hx ⟨rfl, hdj, o1, o2, rfl⟩ nx
      obtain ⟨a, ha, rfl⟩ := bo_en hx
      refine ⟨_, .inl rfl, rfl, _, _, rfl, _, _, rfl, rfl, ?_⟩
      refine bo_item (ht a (List.mem_of_getElem? ha)) rfl (fun ho => nx _ _ ⟨rfl, ?_, _, _, rfl⟩) fun h => ⟨_, rfl, ?_⟩
      · rcases Nat.lt_or_ge done.length j with z | z
        · simp; omega
        · have : done.length = j := by omega
          rw [this, hj] at ha
          cases ha
          rw [hy] at ho
          cases ho
      · rcases Nat.lt_or_ge done.length j with z | z
        · rw [hb _ _ z ha] at h
          cases h
        · have : done.length = j := by omega
          rw [this]
          exact q
    · rintro ρ M1 ⟨rfl, hdj, _⟩
      simp at hdj
      omega
  · refine ⟨rfl, ?_⟩
    refine ⟨_, rfl, d, n, rfl, hn, _, rfl, ?_⟩
    have : (n == "list" || n == "tuple") = false := by simp [n1, n2]
    rw [this]
    exact ⟨_, rfl, rfl, q⟩
def sp_numbers_of : SpD := fun ds M Q E => ∃ d, ds = [d] /\ ((∃ l, d = bD l /\ N8 l /\ l.length <= 1000000 /\ Q (.lst (l.map nD)) M) \/ (∃ n, tyName (vw M d) = some n /\ n ≠ "bytes" /\ E 30 ["place"] [.int (-1)] M))
abbrev N_numbers_of : List Str := ["data"]
def t_numbers_of : DTS := (dSeq (dIf (dNot (dTest (dCB isiF (dCons (dVar 0) (dCons (dC (.ty "bytes")) dNil))))) (dRaise 30 ["place"] (dCons (dUn negD (dC (.int 1))) dNil)) dNext)
    (dRet (dCB lstBF (dCons (dVar 0) dNil))))
theorem pure_numbers_of : ∀ ds M Q E, sp_numbers_of ds M Q E -> ds.length = 1 /\ t_numbers_of (dEnds Q E) (startD N_numbers_of ds) M := by
  rintro ds M Q E ⟨d, rfl, ⟨l, rfl, h8, hl, q⟩ | ⟨n, hn, hb, qe⟩⟩
  · refine ⟨rfl, ?_⟩
    refine ⟨_, rfl, _, isiB M (bD l) (n := "bytes") rfl, _, rfl, ?_⟩
    simp only [beq_self_eq_true, Bool.not_true, Bool.false_eq_true, if_false]
    refine ⟨_, rfl, .lst (l.map nD), ?_, q⟩
    show (if (bA l).size <= sizeLine then some (D.lst (bInD (bA l))) else none) = _
    rw [if_pos (by rw [size_line, bA_size]; omega)]
    unfold bInD
    have e := bA_nat h8
    rw [show (fun c : UInt8 => D.int ((c.toNat : Nat) : Int)) = nD ∘ UInt8.toNat from rfl, <- List.map_map, e]
  · refine ⟨rfl, ?_⟩
    refine ⟨_, rfl, _, isiB M d hn, _, rfl, ?_⟩
    have : (n == "bytes") = false := by simpa using hb
    simp only [this, Bool.not_false, if_true]
    exact ⟨_, rfl, rfl, qe⟩
end LawProof
set_option Elab.async false
set_option linter.all false
set_option maxRecDepth 100000
set_option maxHeartbeats 4000000
set_option autoImplicit true
namespace LawProof
open PySem L2 DL FL
def sp__law_rng : SpD := fun ds M Q _ => ∃ i : Int, ds = [.int i] /\ ∀ r M', M r = none -> Rn M' r -> (∀ b, b ≠ r -> M' b = M b) -> Q (.ref r) M'
abbrev N__law_rng : List Str := ["_law_cell"]
def t__law_rng : DTS := (dRet (dLstM (dCons (dCB absF (dCons (dVar 0) dNil)) (dCons (dOp modD (dCB intF (dCons (dVar 0) dNil)) (dC (.int 2147483629))) (dCons (dC (.int 0)) dNil)))))
theorem pure__law_rng : ∀ ds M Q E, sp__law_rng ds M Q E -> ds.length = 1 /\ t__law_rng (dEnds Q E) (startD N__law_rng ds) M := by
  rintro ds M Q E ⟨i, rfl, q⟩
  refine ⟨rfl, ?_⟩
  simp (disch := first | (simp; done) | omega) [t__law_rng, dLstM]
  refine fun r hr => q r _ hr ⟨_, _, _, updM_same, ?_, ?_, ?_, ?_⟩ (fun b hb => updM_ne hb) <;> first | omega | (split <;> omega)
def sp__law_draw : SpD := fun ds M Q _ => ∃ (r : Addr) (n : Int), ds = [.ref r, .int n] /\ Rn M r /\ 0 < n /\ n <= 10 ^ 30 /\ ∀ k M', 0 <= k -> k < n -> RTo M M' r -> Q (.int k) M'
abbrev N__law_draw : List Str := ["_law_rng_here", "_law_limit", "_law_digit", "_law_mixed"]
def t__law_draw : DTS := (dSeq (dIf (dTest (dOp geD (dOp ixA (dVar 0) (dC (.int 0))) (dOp powD (dC (.int 10)) (dC (.int 18))))) (dSeq (dAsg (dOp modD (dCB intF (dCons (dOp ixA (dVar 0) (dC (.int 0))) dNil)) (dVar 1)) (gN 2))
    (dSeq (dAsg (dOp fdivD (dOp ixA (dVar 0) (dC (.int 0))) (dVar 1)) (gSubL (dVar 0) (dC (.int 0))))
    (dRet (dVar 2)))) dNext)
    (dSeq (dAsg (dOp addD (dOp ixA (dVar 0) (dC (.int 2))) (dC (.int 1))) (gSubL (dVar 0) (dC (.int 2))))
    (dSeq (dAsg (dOp modD (dCB intF (dCons (dOp mulD (dOp addD (dOp addD (dOp ixA (dVar 0) (dC (.int 1))) (dOp mulD (dC (.int 7919)) (dOp ixA (dVar 0) (dC (.int 2))))) (dC (.int 1))) (dC (.int 48271))) dNil)) (dC (.int 2147483647))) (gN 3))
    (dSeq (dAsg (dOp modD (dCB intF (dCons (dOp mulD (dVar 3) (dOp addD (dOp fdivD (dVar 3) (dC (.int 1013))) (dC (.int 69621)))) dNil)) (dC (.int 2147483587))) (gN 3))
    (dRet (dOp modD (dCB intF (dCons (dOp modD (dCB intF (dCons (dOp addD (dOp fdivD (dVar 3) (dC (.int 7))) (dOp mulD (dOp modD (dCB intF (dCons (dVar 3) dNil)) (dC (.int 7919))) (dC (.int 40692)))) dNil)) (dC (.int 2147483399))) dNil)) (dVar 1)))))))
theorem pure__law_draw : ∀ ds M Q E, sp__law_draw ds M Q E -> ds.length = 2 /\ t__law_draw (dEnds Q E) (startD N__law_draw ds) M := by
  rintro ds M Q E ⟨r, n, rfl, ⟨a, b, c, hM, ha, hb, hb2, hc⟩, hn, hn2, q⟩
  refine ⟨rfl, ?_⟩
  by_cases ha2 : 1000000000000000000 <= a
  · simp (disch := first | (simp; done) | omega) [t__law_draw, vw_ref hM, ha2, hM, ixN]
    exact q _ _ (Int.emod_nonneg _ (by omega)) (Int.emod_lt_of_pos _ hn) (.put (Int.ediv_nonneg ha (by omega)) hb hb2 hc)
  · simp (disch := first | (simp; done) | omega) [t__law_draw, vw_ref hM, ha2, hM, ixN]
    exact q _ _ (Int.emod_nonneg _ (by omega)) (Int.emod_lt_of_pos _ hn) (.put ha hb hb2 (by omega))
def sp__law_pick : SpD := fun ds M Q _ => ∃ (r : Addr) (d : D) (xs : List D), ds = [.ref r, d] /\ SeqOf d xs /\ Rn M r /\ xs ≠ [] /\ xs.length < 1000 /\ ∀ x M', x ∈ xs -> RTo M M' r -> Q x M'
abbrev N__law_pick : List Str := ["_law_rng_here", "_law_items"]
def t__law_pick : DTS := (dRet (dOp ixA (dVar 1) (dCall sp__law_draw [] (dCons (dVar 0) (dCons (dCB lenF (dCons (dVar 1) dNil)) dNil)))))
theorem pure__law_pick : ∀ ds M Q E, sp__law_pick ds M Q E -> ds.length = 2 /\ t__law_pick (dEnds Q E) (startD N__law_pick ds) M := by
  rintro ds M Q E ⟨r, d, xs, rfl, hd, hr, h0, h1, q⟩
  have hl : 0 < xs.length := List.length_pos_iff.mpr h0
  refine ⟨rfl, ?_⟩
  simp only [t__law_pick, dRet, dOp, dVar, dCall, dCons, dCB, dNil]
  refine ⟨_, rfl, _, rfl, _, rfl, _, by simpa [hd.vw] using hd.len, r, _, rfl, hr, by omega, by omega, fun k M' k0 k1 hM => ⟨xs[k.toNat]'(by omega), ?_, ?_⟩⟩
  · rw [hd.vw, vw_int, hd.ix, atI_at k0 k1, List.getElem?_eq_getElem]
  · exact q _ _ (List.getElem_mem _) hM
theorem pickL {r : Addr} {xs : List D} {M : Mem} {Q : DV} {E : DEK} (hr : Rn M r) (h0 : xs ≠ []) (h1 : xs.length < 1000) (q : ∀ x M', x ∈ xs -> RTo M M' r -> Q x M') : sp__law_pick [.ref r, .lst xs] M Q E := ⟨r, _, xs, rfl, .inl rfl, hr, h0, h1, q⟩
def sp__law_label : SpD := fun ds M Q _ => ∃ r, ds = [.ref r] /\ Rn M r /\ ∀ l M', Lab l -> l.length <= 5 -> l.head? ≠ some 101 -> RTo M M' r -> Q (.lst (l.map nD)) M'
abbrev N__law_label : List Str := ["_law_rng_here", "_law_ahead", "_law_turn"]
def t__law_label : DTS := (dSeq (dAsg (dLc (iR1 (dCall sp__law_pick [] (dCons (dVar 0) (dCons (dLst (dCons (dC (.int 0)) (dCons (dC (.int 0)) (dCons (dC (.int 0)) (dCons (dC (.int 1)) (dCons (dC (.int 1)) (dCons (dC (.int 2)) (dCons (dC (.int 4)) dNil)))))))) dNil)))) (gN 2) dYes (dCall sp__law_pick [] (dCons (dVar 0) (dCons (dLst (dCons (dC (.int 1)) (dCons (dC (.int 1)) (dCons (dC (.int 3)) (dCons (dC (.int 5)) (dCons (dC (.int 127)) (dCons (dC (.int 253)) (dCons (dC (.int 255)) (dCons (dC (.int 255)) dNil))))))))) dNil))) [2]) (gN 1))
    (dRet (dOp addD (dVar 1) (dLst (dCons (dCall sp__law_pick [] (dCons (dVar 0) (dCons (dLst (dCons (dC (.int 2)) (dCons (dC (.int 2)) (dCons (dC (.int 4)) (dCons (dC (.int 6)) (dCons (dC (.int 128)) (dCons (dC (.int 252)) (dCons (dC (.int 254)) (dCons (dC (.int 254)) dNil))))))))) dNil))) dNil)))))
theorem pure__law_label : ∀ ds M Q E, sp__law_label ds M Q E -> ds.length = 1 /\ t__law_label (dEnds Q E) (startD N__law_label ds) M := by
  rintro ds M Q E ⟨r, rfl, hr, q⟩
  refine ⟨rfl, _, rfl, by simp, pickL (E := E) hr (by simp) (by simp) fun x M1 hx t1 => ?_⟩
  obtain ⟨n, rfl, hn⟩ : ∃ n : Nat, x = .int (n : Int) /\ n <= 4 := by
    simp only [List.mem_cons, List.not_mem_nil, or_false] at hx
    rcases hx with rfl | rfl | rfl | rfl | rfl | rfl | rfl
    · exact ⟨0, rfl, by omega⟩
    · exact ⟨0, rfl, by omega⟩
    · exact ⟨0, rfl, by omega⟩
    · exact ⟨1, rfl, by omega⟩
    · exact ⟨1, rfl, by omega⟩
    · exact ⟨2, rfl, by omega⟩
    · exact ⟨4, rfl, by omega⟩
  refine ⟨_, rfl, by omega, by omega, fun a ha => ?_⟩
  have har : a ≠ r := fun z => by
    have := t1.ok.ne ha
    exact this z.symm
  refine lcD_run _ (fun done acc M2 => ∃ p : List Nat, acc = p.map nD /\ p.length = done.length /\ (∀ x ∈ p, x % 2 = 1 /\ x < 256 /\ x ≠ 101) /\ RTo M1 M2 r) ?_ ?_ ⟨[], rfl, rfl, (fun _ h => nomatch h), (RTo.refl t1.ok).upd ha har⟩
  · rintro done x rest acc M2 Nx hx hM2 ⟨p, rfl, hp, ho, t2⟩ nx
    have hdn : done.length < n := by
      have := congrArg List.length hx
      simp at this
      omega
    refine ⟨_, rfl, by simp, pickL (E := E) t2.ok (by simp) (by simp) fun y M3 hy t3 => ?_⟩
    obtain ⟨m, rfl, hm, hm2⟩ : ∃ m : Nat, y = nD m /\ m % 2 = 1 /\ m < 256 /\ m ≠ 101 := by
      simp only [List.mem_cons, List.not_mem_nil, or_false] at hy
      rcases hy with rfl | rfl | rfl | rfl | rfl | rfl | rfl | rfl
      · exact ⟨1, rfl, by omega, by omega, by omega⟩
      · exact ⟨1, rfl, by omega, by omega, by omega⟩
      · exact ⟨3, rfl, by omega, by omega, by omega⟩
      · exact ⟨5, rfl, by omega, by omega, by omega⟩
      · exact ⟨127, rfl, by omega, by omega, by omega⟩
      · exact ⟨253, rfl, by omega, by omega, by omega⟩
      · exact ⟨255, rfl, by omega, by omega, by omega⟩
      · exact ⟨255, rfl, by omega, by omega, by omega⟩
    refine ⟨_, t3.keep1 hM2 har, by simp; omega, nx _ _ updM_same ⟨p ++ [m], by simp, by simp [hp], fun z hz => ?_, ?_⟩⟩
    · rcases List.mem_append.mp hz with z1 | z1
      · exact ho z z1
      · rw [List.mem_singleton.mp z1]; exact ⟨hm, hm2⟩
    · exact (t2.trans t3).upd ha har
  · rintro acc M2 hM2 ⟨p, rfl, hp, ho, t2⟩
    have t2' := t2.del ha har
    refine ⟨_, rfl, _, rfl, by simp, pickL (E := E) t2'.ok (by simp) (by simp) fun y M3 hy t3 => ?_⟩
    obtain ⟨m, rfl, hm, hm1, hm2⟩ : ∃ m : Nat, y = nD m /\ m % 2 = 0 /\ 0 < m /\ m < 256 := by
      simp only [List.mem_cons, List.not_mem_nil, or_false] at hy
      rcases hy with rfl | rfl | rfl | rfl | rfl | rfl | rfl | rfl
      · exact ⟨2, rfl, by omega, by omega, by omega⟩
      · exact ⟨2, rfl, by omega, by omega, by omega⟩
      · exact ⟨4, rfl, by omega, by omega, by omega⟩
      · exact ⟨6, rfl, by omega, by omega, by omega⟩
      · exact ⟨128, rfl, by omega, by omega, by omega⟩
      · exact ⟨252, rfl, by omega, by omega, by omega⟩
      · exact ⟨254, rfl, by omega, by omega, by omega⟩
      · exact ⟨254, rfl, by omega, by omega, by omega⟩
    have hpl : p.length <= 4 := by simp at hp; omega
    refine ⟨by simp, _, addD_lst (by simp; omega), ?_⟩
    have := q (p ++ [m]) M3 ⟨p, m, rfl, fun x hx => ⟨(ho x hx).1, (ho x hx).2.1⟩, hm, hm1, hm2⟩ (by simp; omega) (fun z => by
      cases p with
      | nil => simp at z; omega
      | cons y p => simp at z; exact (ho y (by simp)).2.2 z) ((t1.trans t2').trans t3)
    simpa using this
inductive SaidO where
  | val (d : D) : SaidO
  | key (p : Int) : SaidO
def repI (p : Int) : D := (reprF [.int p]).getD .non
def saidD : SaidO -> D
  | .val d => d
  | .key p => .tup [.str "key", repI p]
def SaidT (o : SaidO) (Qt : DV) (Et : DEK) (M' : Mem) : Prop := match o with
  | .val d => Qt d M'
  | .key p => Et 30 ["place"] [.int p] M'
def sp__law_said : THD -> THD := fun TH M Q _ => ∃ o : SaidO, (∀ p, o = .key p -> ∃ z, reprF [.int p] = some z) /\ (∀ (Qt : DV) (Et : DEK), (∀ M', Keep M M' -> SaidT o Qt Et M') -> TH M Qt Et) /\ ∀ M', Keep M M' -> Q (saidD o) M'
abbrev N__law_said : List Str := ["_law_call", "_law_found", "e"]
def t__law_said (d0 : D) (TH : THD) : DTS := (dSeq (dTry mtT0 (dAsg (dAct 0 d0 TH) (gN 1)) (⟨30, some 2, fun x => (dRet (dTup (dCons (dC (.str "key")) (dCons (dCB reprA (dCons (dXf [30] "place" x (dVar 2)) dNil)) dNil))))⟩ :: (⟨17, none, fun x => (dRet (dC (.str "other")))⟩ :: [])))
    (dRet (dVar 1)))
theorem pure__law_said : ∀ d0 TH M Q E, sp__law_said TH M Q E -> t__law_said d0 TH (dEnds Q E) (startD N__law_said [d0]) M := by
  rintro d0 TH M Q E ⟨o, hr, ht, q⟩
  refine ⟨rfl, ht _ _ fun M1 k1 => ?_⟩
  have q := q M1 k1
  cases o with
  | val d => exact ⟨d, rfl, q⟩
  | key p =>
    obtain ⟨z, hz⟩ := hr p rfl
    refine ⟨by simp, true, rfl, fun _ a dd ha => ?_, fun z => (by cases z)⟩
    refine ⟨_, rfl, rfl, .int p, exc_fld (by decide) (by simp [lookN]), z, hz, by simp, ?_⟩
    have e : repI p = z := by unfold repI; rw [hz]; rfl
    have q : Q (.tup [.str "key", repI p]) M1 := q
    rw [e] at q
    exact q
end LawProof
set_option Elab.async false
set_option linter.all false
set_option maxRecDepth 100000
set_option maxHeartbeats 4000000
set_option autoImplicit true
namespace LawProof
open PySem L2 DL FL
def dueO (l : List Nat) : SaidO := match kfD l with
  | .int p => .key p
  | _ => .val (.lst ((cutK [] l).map bD))
def sp__law_due : SpD := fun ds M Q _ => ∃ l : List Nat, ds = [.lst (l.map nD)] /\ N8 l /\ l.length <= 100 /\ ∀ M', Keep M M' -> Q (saidD (dueO l)) M'
abbrev N__law_due : List Str := ["_law_numbers", "_law_found", "_law_number", "_law_label_here"]
def l__law_due_1 : DTS := (dSeq (dIf (dTest (dOp neD (dOp ixA (dVar 1) (dUn negD (dC (.int 1)))) (dLstM dNil))) (dRet (dTup (dCons (dC (.str "key")) (dCons (dCB reprF (dCons (dCB lenF (dCons (dVar 0) dNil)) dNil)) dNil)))) dNext)
    (dRet (dLc (iS (dSl slD (dVar 1) dNoPart (dPart (dUn negD (dC (.int 1)))))) (gN 3) dYes (dCall sp_bytes_of [] (dCons (dFrz (dVar 3)) dNil)) [3])))
def l__law_due_2 : DTS := (dSeq (dDrop (dBM "list" φApp (dOp ixA (dVar 1) (dUn negD (dC (.int 1)))) (dCons (dVar 2) dNil)))
    (dIf (dTest (dOp eqD (dOp modD (dCB intF (dCons (dVar 2) dNil)) (dC (.int 2))) (dC (.int 0)))) (dDrop (dBM "list" φApp (dVar 1) (dCons (dLstM dNil) dNil))) dNext))
def l__law_due_3 : DTS := (dSeq (dFor (iS (dVar 0)) (gN 2) l__law_due_2)
    l__law_due_1)
def l__law_due_4 : DTS := (dSeq (dAsg (dLstM (dCons (dLstM dNil) dNil)) (gN 1))
    l__law_due_3)
def l__law_due_5 : DTS := (dSeq (dIf (dTest (dOp inD (dC (.int 0)) (dVar 0))) (dRet (dTup (dCons (dC (.str "key")) (dCons (dCB reprF (dCons (dBM "list" φIndex (dVar 0) (dCons (dC (.int 0)) dNil)) dNil)) dNil)))) dNext)
    l__law_due_4)
def t__law_due : DTS := (dSeq (dIf (dTest (dOp eqD (dVar 0) (dLstM dNil))) (dRet (dTup (dCons (dC (.str "key")) (dCons (dC (.str "-1")) dNil)))) dNext)
    l__law_due_5)
def stepC (s : List (List Nat) × List Nat) (x : Nat) : List (List Nat) × List Nat := if x % 2 = 0 then (s.1 ++ [s.2 ++ [x]], []) else (s.1, s.2 ++ [x])
theorem stepC_cut : ∀ (l : List Nat) (Ls : List (List Nat)) (cur : List Nat), (l.foldl stepC (Ls, cur)).1 = Ls ++ cutK cur l
  | [], Ls, cur => by simp [cutK]
  | x :: l, Ls, cur => by
    rw [List.foldl_cons, cutK]
    by_cases h : x % 2 = 0
    · have e : stepC (Ls, cur) x = (Ls ++ [cur ++ [x]], []) := by unfold stepC; rw [if_pos h]
      rw [e, if_pos h, stepC_cut l, List.append_assoc]; rfl
    · have e : stepC (Ls, cur) x = (Ls, cur ++ [x]) := by unfold stepC; rw [if_neg h]
      rw [e, if_neg h, stepC_cut l]
theorem stepC_last (l : List Nat) (x : Nat) (s : List (List Nat) × List Nat) : ((l ++ [x]).foldl stepC s).2 = [] ↔ x % 2 = 0 := by
  rw [List.foldl_append, List.foldl_cons, List.foldl_nil]
  unfold stepC
  by_cases h : x % 2 = 0
  · rw [if_pos h]; simp [h]
  · rw [if_neg h]; simp [h]
theorem stepC_ok : ∀ (l : List Nat) (s : List (List Nat) × List Nat) (n : Nat), N8 l -> (∀ L ∈ s.1, N8 L /\ L.length <= n) -> N8 s.2 -> s.2.length <= n -> (∀ L ∈ (l.foldl stepC s).1, N8 L /\ L.length <= n + l.length) /\ N8 (l.foldl stepC s).2 /\ (l.foldl stepC s).2.length <= n + l.length /\ (l.foldl stepC s).1.length <= s.1.length + l.length
  | [], s, n, _, h1, h2, h3 => ⟨fun L hL => by simpa using h1 L hL, h2, by simpa using h3, by simp⟩
  | x :: l, s, n, h8, h1, h2, h3 => by
    have hx : x < 256 := h8 x (by simp)
    have h8' : N8 l := fun y hy => h8 y (List.mem_cons_of_mem _ hy)
    have hs : N8 (s.2 ++ [x]) := fun y hy => by
      rcases List.mem_append.mp hy with z | z
      · exact h2 y z
      · rw [List.mem_singleton.mp z]; exact hx
    rw [List.foldl_cons]
    have key : (∀ L ∈ (stepC s x).1, N8 L /\ L.length <= n + 1) /\ N8 (stepC s x).2 /\ (stepC s x).2.length <= n + 1 /\ (stepC s x).1.length <= s.1.length + 1 := by
      unfold stepC
      by_cases h : x % 2 = 0
      · rw [if_pos h]
        refine ⟨fun L hL => ?_, (fun y hy => nomatch hy), by simp, by simp⟩
        rcases List.mem_append.mp hL with z | z
        · have := h1 L z; exact ⟨this.1, by omega⟩
        · rw [List.mem_singleton.mp z]; exact ⟨hs, by simp; omega⟩
      · rw [if_neg h]
        exact ⟨fun L hL => by have := h1 L hL; exact ⟨this.1, by omega⟩, hs, by simp; omega, by simp⟩
    obtain ⟨k1, k2, k3, k4⟩ := stepC_ok l (stepC s x) (n + 1) h8' key.1 key.2.1 key.2.2.1
    rw [List.length_cons]
    exact ⟨fun L hL => by have := k1 L hL; exact ⟨this.1, by omega⟩, k2, by omega, by omega⟩
theorem rep_small {n : Nat} (h : n <= 100) : ∃ z, reprF [.int (n : Int)] = some z := by
  have k : ∀ n : Fin 101, (reprF [.int (n.val : Int)]).isSome = true := by decide +kernel
  exact Option.isSome_iff_exists.mp (k ⟨n, by omega⟩)
theorem repI_of {p : Int} {z : D} (h : reprF [.int p] = some z) : repI p = z := by unfold repI; rw [h]; rfl
theorem rep_m1 : repI (-1) = .str "-1" := by
  have : reprF [.int (-1)] = some (.str "-1") := by rfl
  exact repI_of this
theorem in_nats (p : Nat) (l : List Nat) : inD (.int (p : Int)) (.lst (l.map nD)) = some (.bl (decide (p ∈ l))) := in_ints p l
theorem pl_nats (l : List Nat) : plDs 1 (l.map nD) = true := by
  induction l with
  | nil => rfl
  | cons a l ih => simp only [List.map_cons, plDs, ih]; rfl
theorem eqTs_nil (l : List Nat) : eqTs (l.map nD) [] = decide (l = []) := by
  cases l with
  | nil => rfl
  | cons a l => simp [eqTs]
structure Cut (M M1 : Mem) (f : Addr) (as : List Addr) (a : Addr) (Ls : List (List Nat)) (cur : List Nat) : Prop where
  li : M1 f = some (.lst ((as ++ [a]).map D.ref))
  len : as.length = Ls.length
  at_ : ∀ (i : Nat) (b : Addr), as[i]? = some b -> ∃ L, Ls[i]? = some L /\ M1 b = some (.lst (L.map nD))
  la : M1 a = some (.lst (cur.map nD))
  nd : (f :: a :: as).Nodup
  new : ∀ b ∈ f :: a :: as, M b = none
  keep : Keep M M1
theorem pure__law_due : ∀ ds M Q E, sp__law_due ds M Q E -> ds.length = 1 /\ t__law_due (dEnds Q E) (startD N__law_due ds) M := by
  rintro ds M Q E ⟨l, rfl, h8, hl, q⟩
  refine ⟨rfl, ?_⟩
  have e0 : eqD (.lst (l.map nD)) (.lst []) = some (.bl (decide (l = []))) := by
    have := eqD_lst' (pl_nats l) (show plDs 1 [] = true from rfl)
    rw [eqTs_nil] at this
    exact this
  refine ⟨_, rfl, by simp, fun a0 ha0 => ⟨.bl (decide (l = [])), by rw [vw_ref updM_same]; exact e0, _, rfl, ?_⟩⟩
  have k0 : Keep M (updM M a0 (.lst [])) := Keep.new ha0
  generalize updM M a0 (.lst []) = M1 at k0
  by_cases hn : l = []
  · subst hn
    rw [decide_eq_true rfl]
    refine ⟨by simp, ?_⟩
    have q := q M1 k0
    have : saidD (dueO []) = .tup [.str "key", .str "-1"] := by
      show D.tup [.str "key", repI (-1)] = _
      rw [rep_m1]
    rw [this] at q
    exact q
  rw [decide_eq_false hn]
  refine ⟨_, rfl, _, in_nats 0 l, _, rfl, ?_⟩
  obtain ⟨l', x, rfl⟩ : ∃ l' x, l = l' ++ [x] := ⟨l.dropLast, l.getLast hn, (List.dropLast_concat_getLast hn).symm⟩
  by_cases h0 : 0 ∈ l' ++ [x]
  · rw [decide_eq_true h0]
    have hi : (l' ++ [x]).idxOf 0 < (l' ++ [x]).length := List.idxOf_lt_length_iff.mpr h0
    obtain ⟨z, hz⟩ := rep_small (n := (l' ++ [x]).idxOf 0) (by omega)
    have hdu : saidD (dueO (l' ++ [x])) = .tup [.str "key", z] := by
      unfold dueO kfD
      simp only [List.getLast?_append, List.getLast?_singleton, Option.some_or]
      rw [if_pos h0]
      show D.tup [.str "key", repI _] = _
      rw [repI_of hz]
    have q := q M1 k0
    rw [hdu] at q
    have hfl : ((l' ++ [x]).map nD).all flatD = true := by
      rw [List.all_eq_true]
      intro d hd
      obtain ⟨n, _, rfl⟩ := List.mem_map.mp hd
      rfl
    have hget : ((l' ++ [x]).map nD)[(l' ++ [x]).idxOf 0]? = some (nD 0) := by
      rw [List.getElem?_map, List.getElem?_eq_getElem hi, List.getElem_idxOf hi]
      rfl
    refine ⟨_, rfl, rfl, ?_⟩
    refine ⟨(l' ++ [x]).map nD, .int 0, (l' ++ [x]).idxOf 0, nD 0, rfl, rfl, rfl, hfl, hget, rfl, fun m z' hm hz' => ?_, z, hz, by simp, q⟩
    rw [List.getElem?_map] at hz'
    obtain ⟨n, hn2, rfl⟩ := Option.map_eq_some_iff.mp hz'
    have hne : n ≠ 0 := fun e => by
      subst e
      obtain ⟨hml, e2⟩ := List.getElem?_eq_some_iff.mp hn2
      have := List.not_of_lt_findIdx (p := (· == 0)) (xs := l' ++ [x]) (i := m) hm
      simp [e2] at this
    show eqFD (.int (n : Int)) (.int 0) = false
    simp [eqFD]
    omega
  · rw [decide_eq_false h0]
    have hodd : kfD (l' ++ [x]) = if x % 2 = 1 then .int ((l' ++ [x]).length : Nat) else .non := by
      unfold kfD
      simp only [List.getLast?_append, List.getLast?_singleton, Option.some_or]
      rw [if_neg h0]
    have hcl := stepC_last l' x ([], [])
    obtain ⟨L, hL⟩ : ∃ L, L = l' ++ [x] := ⟨_, rfl⟩
    rw [<- hL] at h8 hl q hodd hcl h0 ⊢
    obtain ⟨ok1, ok2, ok3, ok4⟩ := stepC_ok L ([], []) 0 h8 (fun _ z => nomatch z) (fun _ z => nomatch z) (by simp)
    have hcut := stepC_cut L [] []
    rw [List.nil_append] at hcut
    refine ⟨by simp, fun a ha => ⟨by simp, fun f hf => ?_⟩⟩
    have hfa : f ≠ a := fun z => by rw [z, updM_same] at hf; cases hf
    have maN : M a = none := by
      cases e : M a with
      | none => rfl
      | some d => rw [k0 a d e] at ha; cases ha
    have mfN : M f = none := by
      cases e : M f with
      | none => rfl
      | some d => rw [updM_ne hfa, k0 f d e] at hf; cases hf
    refine ⟨_, rfl, _, rfl, ?_⟩
    refine forD_run _ (fun done ρ M2 => ∃ as a o2 o3, ρ = [some (.lst (L.map nD)), some (.ref f), o2, o3] /\ Cut M M2 f as a ((L.take done.length).foldl stepC ([], [])).1 ((L.take done.length).foldl stepC ([], [])).2) ?_ ?_ ⟨[], a, _, _, rfl, ?_⟩
    · rintro done y rest ρ M2 Nx e ⟨as, b, o2, o3, rfl, C⟩ nx
      have hd : done.length < L.length := by have := congrArg List.length e; simp at this; omega
      have hy : y = nD L[done.length] := by
        have := congrArg (fun l => l[done.length]?) e
        simp [List.getElem?_eq_getElem hd] at this
        exact this.symm
      subst hy
      have htk : L.take (done.length + 1) = L.take done.length ++ [L[done.length]] := by rw [List.take_add_one, List.getElem?_eq_getElem hd]; rfl
      obtain ⟨s, hs⟩ : ∃ s, s = (L.take done.length).foldl stepC ([], []) := ⟨_, rfl⟩
      obtain ⟨n, hn⟩ : ∃ n, n = L[done.length] := ⟨_, rfl⟩
      have hnext : (L.take (done.length + 1)).foldl stepC ([], []) = stepC s n := by rw [htk, List.foldl_append, <- hs, <- hn]; rfl
      rw [<- hs] at C
      rw [<- hn]
      have slen : s.1.length <= 100 /\ s.2.length <= 100 := by
        have := stepC_ok (L.take done.length) ([], []) 0 (fun x hx => h8 x (List.mem_of_mem_take hx)) (fun _ z => nomatch z) (fun _ z => nomatch z) (by simp)
        rw [<- hs] at this
        obtain ⟨_, _, t1, t2⟩ := this
        simp only [List.length_take, List.length_nil] at t1 t2
        omega
      have hix : ixA (vw M2 (.ref f)) (vw M2 (.int (-1))) = some (.ref b) := by
        rw [vw_ref C.li, List.map_append]
        show atI _ _ = _
        exact atI_lastF _ _
      have nd := C.nd
      simp only [List.nodup_cons, List.mem_cons, not_or] at nd
      obtain ⟨⟨fb, fas⟩, bas, nas⟩ := nd
      have hbl : M2 b = some (.lst (s.2.map nD)) := C.la
      refine ⟨_, rfl, .int (-1), rfl, .ref b, hix, by rw [vw_ref hbl]; rfl, _, rfl, b, s.2.map nD, nD n, rfl, rfl, hbl, by rw [size_line, List.length_map]; omega, ?_⟩
      have e2 : s.2.map nD ++ [nD n] = (s.2 ++ [n]).map nD := by rw [List.map_append]; rfl
      rw [e2]
      have C2 : Cut M (updM M2 b (.lst ((s.2 ++ [n]).map nD))) f as b s.1 (s.2 ++ [n]) := by
        refine ⟨by rw [updM_ne fb]; exact C.li, C.len, fun i c hc => ?_, updM_same, C.nd, C.new, fun c d hc => ?_⟩
        · obtain ⟨K, k1, k2⟩ := C.at_ i c hc
          have hcm := List.mem_of_getElem? hc
          have hcb : c ≠ b := fun z => bas (z ▸ hcm)
          exact ⟨K, k1, by rw [updM_ne hcb]; exact k2⟩
        · rw [updM_ne (fun z => by rw [z, C.new b (by simp)] at hc; cases hc)]
          exact C.keep c d hc
      generalize updM M2 b (.lst ((s.2 ++ [n]).map nD)) = M3 at C2
      refine ⟨_, rfl, .int (n : Int), rfl, _, modD_int (by decide), .bl (((n : Int) % 2) == 0), rfl, _, rfl, ?_⟩
      have hb : (((n : Int) % 2) == 0) = decide (n % 2 = 0) := by
        rw [Bool.eq_iff_iff]; simp; omega
      rw [hb]
      by_cases he : n % 2 = 0
      · have hst : stepC s n = (s.1 ++ [s.2 ++ [n]], []) := by unfold stepC; rw [if_pos he]
        rw [decide_eq_true he]
        refine ⟨_, rfl, by rw [vw_ref C2.li]; rfl, by simp, fun c hc => ?_⟩
        have hcf : c ≠ f := fun z => by rw [z, C2.li] at hc; cases hc
        have hcb : c ≠ b := fun z => by rw [z, C2.la] at hc; cases hc
        have hca : c ∉ as := fun z => by
          obtain ⟨i, hi, e⟩ := List.getElem_of_mem z
          obtain ⟨K, _, k2⟩ := C2.at_ i c (by rw [<- e]; exact List.getElem?_eq_getElem hi)
          rw [hc] at k2; cases k2
        have hcM : M c = none := by
          cases e : M c with
          | none => rfl
          | some d => rw [C2.keep c d e] at hc; cases hc
        have lif : updM M3 c (.lst []) f = some (.lst ((as ++ [b]).map D.ref)) := by rw [updM_ne (Ne.symm hcf)]; exact C2.li
        have alen := C2.len
        refine ⟨f, (as ++ [b]).map D.ref, .ref c, rfl, rfl, lif, by rw [size_line]; simp; omega, nx _ _ ⟨as ++ [b], c, _, _, rfl, ?_⟩⟩
        rw [List.length_append, List.length_singleton, hnext, hst]
        refine ⟨by rw [updM_same]; simp, by simp [alen], fun i d hd => ?_, by rw [updM_ne hcf, updM_same]; rfl, ?_, fun d hd => ?_, fun d v hv => ?_⟩
        · by_cases hil : i < as.length
          · rw [List.getElem?_append_left hil] at hd
            obtain ⟨K, k1, k2⟩ := C2.at_ i d hd
            have hdm := List.mem_of_getElem? hd
            refine ⟨K, by rw [List.getElem?_append_left (by omega)]; exact k1, ?_⟩
            have hdf : d ≠ f := fun z => fas (z ▸ hdm)
            have hdc : d ≠ c := fun z => hca (z ▸ hdm)
            rw [updM_ne hdf, updM_ne hdc]
            exact k2
          · have hie : i = as.length := by
              have := (List.getElem?_eq_some_iff.mp hd).1
              simp at this; omega
            subst hie
            simp at hd
            subst hd
            refine ⟨s.2 ++ [n], by rw [alen]; simp, ?_⟩
            rw [updM_ne (Ne.symm fb), updM_ne (Ne.symm hcb)]
            exact C2.la
        · simp only [List.nodup_cons, List.mem_cons, List.mem_append, List.not_mem_nil, or_false, not_or]
          refine ⟨⟨Ne.symm hcf, fas, fb⟩, ⟨hca, hcb⟩, ?_⟩
          rw [List.nodup_append]
          exact ⟨nas, by simp, fun u hu v hv e => by simp at hv; subst hv; subst e; exact bas hu⟩
        · simp only [List.mem_cons, List.mem_append, List.not_mem_nil, or_false] at hd
          rcases hd with rfl | rfl | hd | rfl
          · exact mfN
          · exact hcM
          · exact C2.new d (by simp [hd])
          · exact C2.new d (by simp)
        · have hdc : d ≠ c := fun z => by rw [z, hcM] at hv; cases hv
          have hdf : d ≠ f := fun z => by rw [z, mfN] at hv; cases hv
          rw [updM_ne hdf, updM_ne hdc]
          exact C2.keep d v hv
      · have hst : stepC s n = (s.1, s.2 ++ [n]) := by unfold stepC; rw [if_neg he]
        rw [decide_eq_false he]
        refine nx _ _ ⟨as, b, _, _, rfl, ?_⟩
        rw [List.length_append, List.length_singleton, hnext, hst]
        exact C2
    · rintro ρ M2 ⟨as, b, o2, o3, rfl, C⟩
      rw [List.length_map, List.take_length] at C
      obtain ⟨s, hs⟩ : ∃ s, s = L.foldl stepC ([], []) := ⟨_, rfl⟩
      rw [<- hs] at C ok1 ok2 ok3 ok4 hcut hcl
      have hix : ixA (vw M2 (.ref f)) (vw M2 (.int (-1))) = some (.ref b) := by
        rw [vw_ref C.li, List.map_append]
        show atI _ _ = _
        exact atI_lastF _ _
      have lLs := C.len
      simp only [List.length_nil, Nat.zero_add] at ok3 ok4
      refine ⟨_, rfl, .int (-1), rfl, .ref b, hix, by simp, fun c hc => ?_⟩
      have kc : Keep M2 (updM M2 c (.lst [])) := Keep.new hc
      have C3 : Cut M (updM M2 c (.lst [])) f as b s.1 s.2 := ⟨kc _ _ C.li, C.len, fun i d hd => by
        obtain ⟨K, k1, k2⟩ := C.at_ i d hd
        exact ⟨K, k1, kc _ _ k2⟩, kc _ _ C.la, C.nd, C.new, fun d v hv => kc _ _ (C.keep d v hv)⟩
      have hcv : vw (updM M2 c (.lst [])) (.ref c) = .lst [] := vw_ref updM_same
      generalize updM M2 c (.lst []) = M3 at C3 hcv
      have hne : neD (vw M3 (.ref b)) (vw M3 (.ref c)) = some (.bl (!decide (s.2 = []))) := by
        rw [vw_ref C3.la, hcv]
        have := neD_lst' (pl_nats s.2) (show plDs 1 [] = true from rfl)
        rw [eqTs_nil] at this
        exact this
      refine ⟨_, hne, _, rfl, ?_⟩
      by_cases h2 : s.2 = []
      · rw [decide_eq_true h2]
        have hx : x % 2 = 0 := hcl.mp h2
        have hdu : saidD (dueO L) = .lst (s.1.map bD) := by
          unfold dueO
          rw [hodd, if_neg (by omega), <- hcut]
          rfl
        rw [hdu] at q
        have hsl : slD (vw M3 (.ref f)) none (some (-1)) = some (.lst (as.map D.ref)) := by
          rw [vw_ref C3.li, List.map_append]
          show some (D.lst (cutD _ none (some (-1)))) = _
          rw [show ([b].map D.ref) = [D.ref b] from rfl, cutD_but]
        refine ⟨_, rfl, .int (-1), rfl, _, rfl, _, hsl, _, rfl, fun c2 hc2 => ?_⟩
        have hc2M : M c2 = none := by
          cases e : M c2 with
          | none => rfl
          | some d => rw [C3.keep c2 d e] at hc2; cases hc2
        have hc2a : c2 ∉ as := fun z => by
          obtain ⟨i, hi, e⟩ := List.getElem_of_mem z
          obtain ⟨K, _, k2⟩ := C3.at_ i c2 (by rw [<- e]; exact List.getElem?_eq_getElem hi)
          rw [hc2] at k2; cases k2
        have nd := C3.nd
        simp only [List.nodup_cons, List.mem_cons, not_or] at nd
        obtain ⟨⟨fb, fas⟩, bas, nas⟩ := nd
        refine lcD_run _ (fun done acc M4 => acc = (s.1.take done.length).map bD /\ (∀ (i : Nat) (d : Addr), done.length <= i -> as[i]? = some d -> ∃ K, s.1[i]? = some K /\ M4 d = some (.lst (K.map nD))) /\ Keep M M4) ?_ ?_ ⟨by simp, fun i d _ hd => ?_, fun d v hv => ?_⟩
        · rintro done y rest acc M4 Nx e hM4 ⟨rfl, hat, hk⟩ nx
          have hd : done.length < as.length := by have := congrArg List.length e; simp at this; omega
          have hy : y = .ref as[done.length] := by
            have := congrArg (fun l => l[done.length]?) e
            simp [List.getElem?_eq_getElem hd] at this
            exact this.symm
          subst hy
          obtain ⟨K, k1, k2⟩ := hat done.length as[done.length] (Nat.le_refl _) (List.getElem?_eq_getElem hd)
          obtain ⟨hKl, hK⟩ := List.getElem?_eq_some_iff.mp k1
          obtain ⟨K8, Kl⟩ := ok1 K (by rw [<- hK]; exact List.getElem_mem hKl)
          have hdm := List.getElem_mem hd
          have hc2d : c2 ≠ as[done.length] := fun z => hc2a (z ▸ hdm)
          refine ⟨.ref as[done.length], rfl, ?_⟩
          show frz (.ref as[done.length]) M4 _
          simp only [frz, k2]
          refine ⟨.lst (K.map nD), rfl, .inl ⟨K, rfl, K8, by omega, ?_⟩⟩
          refine ⟨_, by rw [delM_ne hc2d]; exact hM4, by rw [size_line]; simp; omega, nx _ _ updM_same ⟨?_, fun i d hi hd2 => ?_, fun d v hv => ?_⟩⟩
          · rw [List.length_append, List.length_singleton, List.take_add_one, k1, List.map_append]; rfl
          · rw [List.length_append, List.length_singleton] at hi
            obtain ⟨K', j1, j2⟩ := hat i d (by omega) hd2
            have hdn : d ≠ as[done.length] := fun z => by
              have hdl := (List.getElem?_eq_some_iff.mp hd2)
              obtain ⟨hil, e2⟩ := hdl
              have := (List.getElem_inj nas).mp (e2.trans z)
              omega
            have hdc : d ≠ c2 := fun z => hc2a (z ▸ List.mem_of_getElem? hd2)
            exact ⟨K', j1, by rw [updM_ne hdc, delM_ne hdn]; exact j2⟩
          · have hdn : d ≠ as[done.length] := fun z => by
              have := C.new as[done.length] (by simp [hdm])
              rw [z, this] at hv; cases hv
            have hdc : d ≠ c2 := fun z => by rw [z, hc2M] at hv; cases hv
            rw [updM_ne hdc, delM_ne hdn]
            exact hk d v hv
        · rintro acc M4 hM4 ⟨rfl, hat, hk⟩
          rw [List.length_map, lLs, List.take_length]
          exact q _ fun d v hv => by
            have hdc : d ≠ c2 := fun z => by rw [z, hc2M] at hv; cases hv
            rw [delM_ne hdc]
            exact hk d v hv
        · obtain ⟨K, k1, k2⟩ := C3.at_ i d hd
          have hdc : d ≠ c2 := fun z => hc2a (z ▸ List.mem_of_getElem? hd)
          exact ⟨K, k1, by rw [updM_ne hdc]; exact k2⟩
        · have hdc : d ≠ c2 := fun z => by rw [z, hc2M] at hv; cases hv
          rw [updM_ne hdc]; exact C3.keep d v hv
      · rw [decide_eq_false h2]
        have hx : x % 2 = 1 := by
          have : ¬ x % 2 = 0 := fun z => h2 (hcl.mpr z)
          omega
        obtain ⟨z, hz⟩ := rep_small (n := L.length) hl
        have hdu : saidD (dueO L) = .tup [.str "key", z] := by
          unfold dueO
          rw [hodd, if_pos hx]
          show D.tup [.str "key", repI _] = _
          rw [repI_of hz]
        rw [hdu] at q
        exact ⟨_, rfl, .int (L.length : Nat), by show lenF [.lst _] = _; simp, z, hz, by simp, q M3 C3.keep⟩
    · have hkf : Keep M1 (updM (updM M1 a (.lst [])) f (.lst [.ref a])) := fun d v hv => by
        have hda : d ≠ a := fun z => by rw [z, ha] at hv; cases hv
        have hdf : d ≠ f := fun z => by
          rw [updM_ne hfa] at hf
          rw [z, hf] at hv; cases hv
        rw [updM_ne hdf, updM_ne hda]; exact hv
      refine ⟨updM_same, rfl, fun i b hb => by simp at hb, by rw [updM_ne (Ne.symm hfa), updM_same]; rfl, by simp [hfa], fun b hb => ?_, fun d v hv => hkf d v (k0 d v hv)⟩
      simp at hb
      rcases hb with rfl | rfl
      · exact mfN
      · exact maN
end LawProof
set_option Elab.async false
set_option linter.all false
set_option maxRecDepth 100000
set_option maxHeartbeats 4000000
set_option autoImplicit true
namespace LawProof
open PySem L2 DL FL
def sp__law_right : SpD := fun ds M Q _ => ∃ r, ds = [.ref r] /\ Rn M r /\ ∀ M', RTo M M' r -> Q (.bl true) M'
abbrev N__law_right : List Str := ["_law_rng_here", "_law_numbers", "_law_turn", "_law_at", "_law_odd", "_law_some", "_law_one", "_law_data", "_law_strange"]
def l__law_right_1 : DTS := (dSeq (dAsg (dCall sp__law_pick [] (dCons (dVar 0) (dCons (dLst (dCons (dC (.int 256)) (dCons (dUn negD (dC (.int 1))) (dCons (dC .non) (dCons (dC (.bl true)) (dCons (dC (.str "1")) (dCons (dLst (dCons (dC (.int 1)) dNil)) (dCons (dOp powD (dC (.int 10)) (dC (.int 30))) dNil)))))))) dNil))) (gN 8))
    (dRet (dOp eqD (dThk sp__law_said (dCall sp_bytes_of [] (dCons (dOp addD (dOp addD (dSl slD (dVar 1) dNoPart (dPart (dVar 3))) (dLst (dCons (dVar 8) (dCons (dC .non) dNil)))) (dSl slD (dVar 1) (dPart (dVar 3)) dNoPart)) dNil))) (dTup (dCons (dC (.str "key")) (dCons (dCB reprF (dCons (dVar 3) dNil)) dNil))))))
def l__law_right_2 : DTS := (dSeq (dIf (dOr (dTest (dOp neD (dCall sp_numbers_of [] (dCons (dVar 7) dNil)) (dVar 6))) (dOr (dTest (dBin bNeY (dCall sp_bytes_of [] (dCons (dCB tupF (dCons (dVar 6) dNil)) dNil)) (dVar 7))) (dTest (dOp neD (dCB lenF (dCons (dVar 7) dNil)) (dCB lenF (dCons (dVar 6) dNil)))))) (dRet (dC (.bl false))) dNext)
    (dIf (dTest (dBin (bOr bNeY bNeT) (dThk sp__law_said (dCall sp_split_key [] (dCons (dVar 7) dNil))) (dCall sp__law_due [] (dCons (dVar 6) dNil)))) (dRet (dC (.bl false))) dNext))
def l__law_right_3 : DTS := (dSeq (dAsg (dCall sp_bytes_of [] (dCons (dVar 6) dNil)) (gN 7))
    l__law_right_2)
def l__law_right_4 : DTS := (dSeq (dFor (iS (dOp addD (dVar 5) (dLst (dCons (dOp addD (dOp addD (dSl slD (dVar 1) dNoPart (dPart (dVar 3))) (dLst (dCons (dVar 4) dNil))) (dSl slD (dVar 1) (dPart (dVar 3)) dNoPart)) (dCons (dBin bRepD (dLstM (dCons (dC (.int 0)) dNil)) (dCall sp__law_draw [] (dCons (dVar 0) (dCons (dC (.int 3)) dNil)))) (dCons (dLst dNil) dNil)))))) (gN 6) l__law_right_3)
    l__law_right_1)
def l__law_right_5 : DTS := (dSeq (dAsg (dLst (dCons (dVar 1) (dCons (dOp addD (dOp addD (dSl slD (dVar 1) dNoPart (dPart (dVar 3))) (dLst (dCons (dVar 4) dNil))) (dSl slD (dVar 1) (dPart (dOp addD (dVar 3) (dC (.int 1)))) dNoPart)) (dCons (dOp addD (dSl slD (dVar 1) dNoPart (dPart (dVar 3))) (dSl slD (dVar 1) (dPart (dOp addD (dVar 3) (dC (.int 1)))) dNoPart)) (dCons (dSl slD (dVar 1) dNoPart (dPart (dVar 3))) dNil))))) (gN 5))
    l__law_right_4)
def l__law_right_6 : DTS := (dSeq (dGhost 1 (dAsg (dTup (dCons (dCall sp__law_draw [] (dCons (dVar 0) (dCons (dCB lenF (dCons (dVar 1) dNil)) dNil))) (dCons (dCall sp__law_pick [] (dCons (dVar 0) (dCons (dLst (dCons (dC (.int 0)) (dCons (dC (.int 1)) (dCons (dC (.int 2)) (dCons (dC (.int 254)) (dCons (dC (.int 255)) (dCons (dCall sp__law_draw [] (dCons (dVar 0) (dCons (dC (.int 256)) dNil))) dNil))))))) dNil))) dNil))) (gT 2 (gsCons (gN 3) (gsCons (gN 4) gsNil)))))
    l__law_right_5)
def l__law_right_7 : DTS := (dDrop (dBM "list" φExt (dVar 1) (dCons (dCall sp__law_label [] (dCons (dVar 0) dNil)) dNil)))
def l__law_right_8 : DTS := (dSeq (dFor (iR1 (dOp addD (dC (.int 1)) (dCall sp__law_draw [] (dCons (dVar 0) (dCons (dC (.int 6)) dNil))))) (gN 2) l__law_right_7)
    l__law_right_6)
def t__law_right : DTS := (dSeq (dAsg (dLstM dNil) (gN 1))
    l__law_right_8)
theorem eqTs_nats : ∀ l : List Nat, eqTs (l.map nD) (l.map nD) = true
  | [] => rfl
  | a :: l => by
    rw [List.map_cons, eqTs, eqTs_nats l]
    simp [nD, eqT]
theorem eqYs_byt (n : Nat) : ∀ zs : List (List Nat), eqYs n (zs.map bD) (zs.map bD) = some true
  | [] => by rw [List.map_nil, eqYs]
  | z :: zs => by
    rw [List.map_cons, eqYs, eqYs_byt n zs]
    have : eqY n (bD z) (bD z) = some true := by
      show eqY n (.byt (bA z)) (.byt (bA z)) = _
      rw [eqY]; simp
    rw [this]; rfl
theorem eqY_byt (zs : List (List Nat)) : eqY 1 (.lst (zs.map bD)) (.lst (zs.map bD)) = some true := by
  rw [eqY, if_pos rfl, eqYs_byt]
theorem key_pl {n : Nat} (h : n <= 100) : plDs 1 [.str "key", repI (n : Int)] = true /\ eqTs [.str "key", repI (n : Int)] [.str "key", repI (n : Int)] = true := by
  have k : ∀ n : Fin 101, (plDs 1 [.str "key", repI (n.val : Int)] && eqTs [.str "key", repI (n.val : Int)] [.str "key", repI (n.val : Int)]) = true := by decide +kernel
  have := k ⟨n, by omega⟩
  rw [Bool.and_eq_true] at this
  exact this
theorem key_eqY {n : Nat} (h : n <= 100) : eqY 1 (saidD (.key (n : Int))) (saidD (.key (n : Int))) = some true := by
  have k : ∀ n : Fin 101, eqY 1 (saidD (.key (n.val : Int))) (saidD (.key (n.val : Int))) = some true := by decide +kernel
  exact k ⟨n, by omega⟩
theorem key_eqY1 : eqY 1 (saidD (.key (-1))) (saidD (.key (-1))) = some true := by decide +kernel
theorem kf_cases (l : List Nat) : (kfD l = .non /\ dueO l = .val (.lst ((cutK [] l).map bD))) \/ ∃ p : Int, kfD l = .int p /\ dueO l = .key p /\ (p = -1 \/ ∃ n : Nat, p = (n : Int) /\ n <= l.length) := by
  have d1 : kfD l = .non -> dueO l = .val (.lst ((cutK [] l).map bD)) := fun h => by unfold dueO; rw [h]
  have d2 : ∀ p, kfD l = .int p -> dueO l = .key p := fun p h => by unfold dueO; rw [h]
  by_cases h : kfD l = .non
  · exact .inl ⟨h, d1 h⟩
  · suffices h2 : ∃ p : Int, kfD l = .int p /\ (p = -1 \/ ∃ n : Nat, p = (n : Int) /\ n <= l.length) by
      obtain ⟨p, hp, h3⟩ := h2
      exact .inr ⟨p, hp, d2 p hp, h3⟩
    revert h
    unfold kfD
    split
    · exact fun _ => ⟨-1, rfl, .inl rfl⟩
    · split
      · exact fun _ => ⟨_, rfl, .inr ⟨_, rfl, List.idxOf_le_length⟩⟩
      · split
        · exact fun _ => ⟨_, rfl, .inr ⟨_, rfl, Nat.le_refl _⟩⟩
        · exact fun h => absurd rfl h
theorem len_b (M : Mem) (m : List Nat) (h : m.length <= 100) : lenF ([bD m].map (vw M)) = some (.int (m.length : Nat)) := by
  show (if (bA m).size <= sizeLine then some (D.int (bA m).size) else none) = _
  rw [bA_size, if_pos (by rw [size_line]; omega)]
theorem pre_q {l : List Nat} {a : Nat} {ρ : DL.Env} {M : Mem} {K : DV} {X : DX} (h1 : ρ[1]? = some (some (.lst (l.map nD)))) (h3 : ρ[3]? = some (some (.int (a : Int)))) (k : K (.lst ((l.take a).map nD)) M) : dSl slD (dVar 1) dNoPart (dPart (dVar 3)) ρ M K X :=
  ⟨_, h1, _, h3, _, rfl, _, rfl, by rw [cutD_to, <- List.map_take]; exact k⟩
theorem suf_q {l : List Nat} {a : Nat} {ρ : DL.Env} {M : Mem} {K : DV} {X : DX} (h1 : ρ[1]? = some (some (.lst (l.map nD)))) (h3 : ρ[3]? = some (some (.int (a : Int)))) (k : K (.lst ((l.drop a).map nD)) M) : dSl slD (dVar 1) (dPart (dVar 3)) dNoPart ρ M K X :=
  ⟨_, h1, _, h3, _, rfl, _, rfl, by rw [cutD_from, <- List.map_drop]; exact k⟩
theorem suf1_q {l : List Nat} {a : Nat} {ρ : DL.Env} {M : Mem} {K : DV} {X : DX} (h1 : ρ[1]? = some (some (.lst (l.map nD)))) (h3 : ρ[3]? = some (some (.int (a : Int)))) (k : K (.lst ((l.drop (a + 1)).map nD)) M) : dSl slD (dVar 1) (dPart (dOp addD (dVar 3) (dC (.int 1)))) dNoPart ρ M K X :=
  ⟨_, h1, _, h3, _, rfl, _, rfl, _, rfl, by rw [show (a : Int) + 1 = ((a + 1 : Nat) : Int) by omega, cutD_from, <- List.map_drop]; exact k⟩
theorem n8_take {l : List Nat} (h : N8 l) (a : Nat) : N8 (l.take a) := fun x hx => h x (List.mem_of_mem_take hx)
theorem n8_drop {l : List Nat} (h : N8 l) (a : Nat) : N8 (l.drop a) := fun x hx => h x (List.mem_of_mem_drop hx)
theorem n8_pair {a b : List Nat} (h : N8 a) (k : N8 b) : N8 (a ++ b) := fun x hx => by
  rcases List.mem_append.mp hx with z | z
  · exact h x z
  · exact k x z
theorem add_q {a b : List Nat} {τ σ : DTE} {ρ : DL.Env} {M : Mem} {K : DV} {X : DX} (ha : a.length <= 1000) (hb : b.length <= 1000) (e : ∀ K : DV, K (.lst (a.map nD)) M -> τ ρ M K X) (f : ∀ K : DV, K (.lst (b.map nD)) M -> σ ρ M K X) (k : K (.lst ((a ++ b).map nD)) M) : dOp addD τ σ ρ M K X :=
  e _ (f _ ⟨_, addD_lst (by simp; omega), by rw [<- List.map_append]; exact k⟩)
theorem rep_flat (k n : Nat) : (List.replicate k [D.int (n : Int)]).flatten = (List.replicate k n).map nD := by
  induction k with
  | zero => rfl
  | succ k ih => rw [List.replicate_succ, List.flatten_cons, ih, List.replicate_succ]; rfl
abbrev rtE (r : Addr) (l : List Nat) (o2 : Option D) (a x : Nat) (o5 o6 o7 o8 : Option D) : DL.Env := [some (.ref r), some (.lst (l.map nD)), o2, some (.int (a : Int)), some (nD x), o5, o6, o7, o8]
section
variable {r : Addr} {l : List Nat} {o2 o5 o6 o7 o8 : Option D} {a x : Nat} {M M0 : Mem} {Q : DV} {E : DEK}
theorem lr_1 (h8 : N8 l) (hl : l.length <= 30) (ha : a <= l.length) (t : RTo M0 M r) (q : ∀ M', RTo M0 M' r -> Q (.bl true) M') : l__law_right_1 (dEnds Q E) (rtE r l o2 a x o5 o6 o7 o8) M := by
  refine ⟨_, rfl, .int (-1), rfl, by simp, .int (10 ^ 30), by rfl, by simp, pickL (E := E) t.ok (by simp) (by simp) fun y M1 hy t1 => ?_⟩
  have hy2 : okB y = false /\ Ty y := by
    simp only [List.mem_cons, List.not_mem_nil, or_false] at hy
    rcases hy with rfl | rfl | rfl | rfl | rfl | rfl | rfl <;> exact ⟨by decide, _, rfl⟩
  have lt : ((l.take a).map nD).length = a := by simp; omega
  refine ⟨.key (a : Int), fun p hp => ?_, fun Qt Et h => ?_, fun M2 k2 => ?_⟩
  · cases hp; exact rep_small (by omega)
  · refine pre_q rfl rfl ?_
    refine ⟨_, rfl, by simp, _, addD_lst (by simp; omega), ?_⟩
    refine suf_q rfl rfl ?_
    refine ⟨_, addD_lst (by simp; omega), ?_⟩
    refine ⟨_, rfl, .inr (.inl ⟨_, a, y, rfl, by simp; omega, fun z hz => ?_, ?_, hy2.1, fun i z hi hz => ?_, h _ (Keep.refl _)⟩)⟩
    · simp only [List.mem_append, List.mem_cons, List.not_mem_nil, or_false] at hz
      rcases hz with (hz | rfl | rfl) | hz
      · obtain ⟨n, _, rfl⟩ := List.mem_map.mp hz; exact ty_nD n
      · exact hy2.2
      · exact ⟨_, rfl⟩
      · obtain ⟨n, _, rfl⟩ := List.mem_map.mp hz; exact ty_nD n
    · rw [List.append_assoc, List.getElem?_append_right (by omega), lt, Nat.sub_self]; rfl
    · rw [List.append_assoc, List.getElem?_append_left (by omega), List.getElem?_map] at hz
      obtain ⟨n, hn, rfl⟩ := Option.map_eq_some_iff.mp hz
      exact okB_nD (h8 n (List.mem_of_mem_take (List.mem_of_getElem? hn)))
  · obtain ⟨z, hz⟩ := rep_small (n := a) (by omega)
    obtain ⟨p1, p2⟩ := key_pl (n := a) (by omega)
    have hz2 : repI (a : Int) = z := repI_of hz
    refine ⟨_, rfl, z, hz, by simp, .bl true, ?_, q M2 ((t.trans t1).and k2)⟩
    show eqD (saidD (.key (a : Int))) (.tup [.str "key", z]) = _
    rw [<- hz2]
    show eqD (.tup [.str "key", repI (a : Int)]) (.tup [.str "key", repI (a : Int)]) = _
    rw [eqD_tup' p1 p1, p2]
theorem lr_2 {En : DEnds} {m : List Nat} (h8 : N8 m) (hl : m.length <= 100) (q : ∀ M', Keep M M' -> En.nx (rtE r l o2 a x o5 (some (.lst (m.map nD))) (some (bD m)) o8) M') : l__law_right_2 En (rtE r l o2 a x o5 (some (.lst (m.map nD))) (some (bD m)) o8) M := by
  have e1 : neD (.lst (m.map nD)) (.lst (m.map nD)) = some (.bl false) := by
    rw [neD_lst' (pl_nats m) (pl_nats m), eqTs_nats]; rfl
  have e2 : (bA m != bA m) = false := by simp
  refine ⟨_, rfl, bD m, rfl, .inl ⟨m, rfl, h8, by omega, ?_⟩⟩
  refine ⟨_, rfl, .bl false, e1, _, rfl, ?_⟩
  refine ⟨_, rfl, .tup (m.map nD), rfl, _, rfl, .inl ⟨m, rfl, h8, by omega, ?_⟩⟩
  refine ⟨_, rfl, _, _, .same _, .same _, .inl ⟨_, _, rfl, rfl, ?_⟩⟩
  rw [e2]
  refine ⟨_, rfl, ?_⟩
  refine ⟨_, rfl, .int (m.length : Nat), len_b M m hl, _, rfl, .int (m.length : Nat), by show lenF [.lst _] = _; simp, .bl false, by show neD (.int _) (.int _) = _; simp, _, rfl, ?_⟩
  refine ⟨dueO m, fun p hp => ?_, fun Qt Et h => ?_, fun M1 k1 => ?_⟩
  · rcases kf_cases m with ⟨_, k⟩ | ⟨p', _, k, hp'⟩
    · rw [k] at hp; cases hp
    · rw [k] at hp; cases hp
      rcases hp' with rfl | ⟨n, rfl, hn⟩
      · exact ⟨_, rfl⟩
      · exact rep_small (by omega)
  · refine ⟨_, rfl, bD m, rfl, .inl ⟨m, rfl, h8, by omega, fun hk => ?_, fun hk => ?_⟩⟩
    · have := h M (Keep.refl M)
      rcases kf_cases m with ⟨_, k⟩ | ⟨p', k0, k, _⟩
      · rw [k] at this; exact this
      · rw [hk] at k0; cases k0
    · have := h M (Keep.refl M)
      rcases kf_cases m with ⟨k0, k⟩ | ⟨p', k0, k, _⟩
      · exact absurd k0 hk
      · rw [k] at this; rw [k0]; exact this
  · refine ⟨_, rfl, m, rfl, h8, hl, fun M2 k2 => ?_⟩
    have q := q M2 (k1.trans k2)
    rcases kf_cases m with ⟨_, k⟩ | ⟨p', _, k, hp'⟩
    · rw [k]
      exact .inl ⟨_, _, .same _, .same _, .inr (.inr (.inr ⟨_, _, 0, true, rfl, rfl, by omega, eqY_byt _, _, rfl, q⟩))⟩
    · rw [k]
      refine .inr ⟨_, _, _, _, 0, true, .same _, .same _, rfl, rfl, by omega, ?_, _, rfl, q⟩
      rcases hp' with rfl | ⟨n, rfl, hn⟩
      · exact key_eqY1
      · exact key_eqY (by omega)
theorem lr_4 {Xs : List (List Nat)} (h8 : N8 l) (hl : l.length <= 30) (ha : a <= l.length) (hx : x < 256) (hX : ∀ m ∈ Xs, N8 m /\ m.length <= 100) (hXl : Xs.length <= 10) (t : RTo M0 M r) (q : ∀ M', RTo M0 M' r -> Q (.bl true) M') :
    l__law_right_4 (dEnds Q E) (rtE r l o2 a x (some (.lst (Xs.map fun m => .lst (m.map nD)))) o6 o7 o8) M := by
  refine ⟨_, rfl, ?_⟩
  refine add_q (a := l.take a ++ [x]) (b := l.drop a) (by simp; omega) (by simp; omega) (fun K k => add_q (a := l.take a) (b := [x]) (by simp; omega) (by simp) (fun K k => pre_q rfl rfl k) (fun K k => ⟨_, rfl, by simp, k⟩) k) (fun K k => suf_q rfl rfl k) ?_
  refine ⟨by simp, fun c hc => ⟨_, rfl, r, _, rfl, t.ok.keep (Keep.new hc), by omega, by omega, fun k M1 k0 hk t1 => ?_⟩⟩
  obtain ⟨k, rfl⟩ := Int.eq_ofNat_of_zero_le k0
  have hcr : c ≠ r := fun z => t.ok.ne hc z.symm
  refine ⟨c, _, (k : Int), rfl, t1.keep1 updM_same hcr, rfl, by omega, by omega, by simp; omega, ?_⟩
  have t2 : RTo M0 (delM M1 c) r := t.trans ((((RTo.refl t.ok).upd hc hcr).trans t1).del hc hcr)
  generalize delM M1 c = M2 at t2
  rw [Int.toNat_natCast, show D.int 0 = D.int ((0 : Nat) : Int) from rfl, rep_flat]
  obtain ⟨Ys, hYs⟩ : ∃ Ys : List (List Nat), Ys = Xs ++ [l.take a ++ [x] ++ l.drop a, List.replicate k 0, []] := ⟨_, rfl⟩
  have hY : ∀ m ∈ Ys, N8 m /\ m.length <= 100 := fun m hm => by
    rw [hYs] at hm
    simp only [List.mem_append, List.mem_cons, List.not_mem_nil, or_false] at hm
    rcases hm with hm | rfl | rfl | rfl
    · exact hX m hm
    · exact ⟨n8_pair (n8_pair (n8_take h8 a) (fun z hz => by rw [List.mem_singleton.mp hz]; exact hx)) (n8_drop h8 a), by simp; omega⟩
    · exact ⟨fun z hz => by rw [List.eq_of_mem_replicate hz]; omega, by simp; omega⟩
    · exact ⟨fun z hz => (nomatch hz), by simp⟩
  refine ⟨by simp, by simp, _, addD_lst (by simp; omega), ?_⟩
  have e : (Xs.map fun m => D.lst (m.map nD)) ++ [.lst ((l.take a ++ [x] ++ l.drop a).map nD), .lst ((List.replicate k 0).map nD), .lst []] = Ys.map fun m => D.lst (m.map nD) := by
    rw [hYs]; simp
  refine ⟨_, rfl, ?_⟩
  rw [e]
  refine forD_run _ (fun done ρ M3 => ∃ p6 p7, ρ = rtE r l o2 a x (some (.lst (Xs.map fun m => .lst (m.map nD)))) p6 p7 o8 /\ RTo M0 M3 r) ?_ ?_ ⟨_, _, rfl, t2⟩
  · rintro done y rest ρ M3 Nx e ⟨p6, p7, rfl, t3⟩ nx
    obtain ⟨m, hm, rfl⟩ : ∃ m ∈ Ys, D.lst (m.map nD) = y := List.mem_map.mp (e ▸ by simp)
    obtain ⟨m8, ml⟩ := hY m hm
    refine ⟨_, rfl, _, rfl, .inl ⟨m, rfl, m8, by omega, ?_⟩⟩
    exact lr_2 m8 ml fun M4 k4 => nx _ _ ⟨_, _, rfl, t3.and k4⟩
  · rintro ρ M3 ⟨p6, p7, rfl, t3⟩
    exact lr_1 h8 hl ha t3 q
theorem lr_6 {p : Addr} (hp : M p = some (.lst (l.map nD))) (hpN : M0 p = none) (hpr : p ≠ r) (h8 : N8 l) (hl : l.length <= 30) (hn : l ≠ []) (t : RTo M0 M r) (q : ∀ M', RTo M0 M' r -> Q (.bl true) M') : l__law_right_6 (dEnds Q E) [some (.ref r), some (.ref p), o2, none, none, none, none, none, none] M := by
  have hpos : 0 < l.length := List.length_pos_iff.mpr hn
  refine ⟨p, _, rfl, hp, ?_⟩
  have t1 : RTo M0 (delM M p) r := t.del hpN hpr
  generalize delM M p = M1 at t1
  refine ⟨_, rfl, _, rfl, .int (l.length : Nat), by show lenF [.lst _] = _; simp, r, _, rfl, t1.ok, by omega, by omega, fun a M2 a0 hk t2 => ?_⟩
  obtain ⟨a, rfl⟩ := Int.eq_ofNat_of_zero_le a0
  refine ⟨_, rfl, _, rfl, r, _, rfl, t2.ok, by omega, by omega, fun b M3 b0 hb t3 => ?_⟩
  obtain ⟨b, rfl⟩ := Int.eq_ofNat_of_zero_le b0
  refine ⟨by simp, pickL (E := E) t3.ok (by simp) (by simp) fun y M4 hy t4 => ?_⟩
  obtain ⟨x, rfl, hx⟩ : ∃ x : Nat, y = nD x /\ x < 256 := by
    simp only [List.mem_cons, List.not_mem_nil, or_false] at hy
    rcases hy with rfl | rfl | rfl | rfl | rfl | rfl
    · exact ⟨0, rfl, by omega⟩
    · exact ⟨1, rfl, by omega⟩
    · exact ⟨2, rfl, by omega⟩
    · exact ⟨254, rfl, by omega⟩
    · exact ⟨255, rfl, by omega⟩
    · exact ⟨b, rfl, by omega⟩
  have t5 : RTo M0 M4 r := t1.trans (t2.trans (t3.trans t4))
  refine ⟨by simp, _, .inl rfl, rfl, _, _, rfl, _, _, rfl, rfl, ?_⟩
  have ha : a <= l.length := by omega
  show l__law_right_5 _ (rtE r l o2 a x none none none none) M4
  refine ⟨_, rfl, ?_⟩
  refine add_q (a := l.take a ++ [x]) (b := l.drop (a + 1)) (by simp; omega) (by simp; omega) (fun K k => add_q (a := l.take a) (b := [x]) (by simp; omega) (by simp) (fun K k => pre_q rfl rfl k) (fun K k => ⟨_, rfl, by simp, k⟩) k) (fun K k => suf1_q rfl rfl k) ?_
  refine add_q (a := l.take a) (b := l.drop (a + 1)) (by simp; omega) (by simp; omega) (fun K k => pre_q rfl rfl k) (fun K k => suf1_q rfl rfl k) ?_
  refine pre_q rfl rfl ?_
  refine ⟨by simp, ?_⟩
  refine lr_4 (Xs := [l, l.take a ++ [x] ++ l.drop (a + 1), l.take a ++ l.drop (a + 1), l.take a]) h8 hl ha hx (fun m hm => ?_) (by simp) t5 q
  simp only [List.mem_cons, List.not_mem_nil, or_false] at hm
  have one : N8 [x] := fun z hz => by rw [List.mem_singleton.mp hz]; exact hx
  rcases hm with rfl | rfl | rfl | rfl
  · exact ⟨h8, by omega⟩
  · exact ⟨n8_pair (n8_pair (n8_take h8 a) one) (n8_drop h8 _), by simp; omega⟩
  · exact ⟨n8_pair (n8_take h8 a) (n8_drop h8 _), by simp; omega⟩
  · exact ⟨n8_take h8 a, by simp; omega⟩
end
theorem pure__law_right : ∀ ds M Q E, sp__law_right ds M Q E -> ds.length = 1 /\ t__law_right (dEnds Q E) (startD N__law_right ds) M := by
  rintro ds M Q E ⟨r, rfl, hr, q⟩
  refine ⟨rfl, by simp, fun p hp => ?_⟩
  have hpr : p ≠ r := fun z => hr.ne hp z.symm
  have t0 : RTo M (updM M p (.lst [])) r := (RTo.refl hr).upd hp hpr
  refine ⟨_, rfl, r, _, rfl, t0.ok, by omega, by omega, fun k M1 k0 hk t1 => ?_⟩
  obtain ⟨k, rfl⟩ := Int.eq_ofNat_of_zero_le k0
  refine ⟨_, rfl, _, rfl, by omega, by omega, ?_⟩
  have t1' := t0.trans t1
  refine forD_run _ (fun done ρ M2 => ∃ l o2, ρ = [some (.ref r), some (.ref p), o2, none, none, none, none, none, none] /\ N8 l /\ l.length <= 5 * done.length /\ (done ≠ [] -> l ≠ []) /\ M2 p = some (.lst (l.map nD)) /\ RTo M M2 r) ?_ ?_ ⟨[], _, rfl, (fun _ z => nomatch z), by simp, fun z => absurd rfl z, t1.keep1 updM_same hpr, t1'⟩
  · rintro done y rest ρ M2 Nx e ⟨l, o2, rfl, h8, hl, hne, hp2, t2⟩ nx
    have hd : done.length < 6 := by have := congrArg List.length e; simp at this; omega
    refine ⟨_, rfl, by rw [vw_ref hp2]; rfl, _, rfl, r, rfl, t2.ok, fun l2 M3 hL hl2 _ t3 => ?_⟩
    refine ⟨p, l.map nD, _, l2.map nD, rfl, rfl, rfl, t3.keep1 hp2 hpr, by rw [size_line]; simp; omega, nx _ _ ⟨l ++ l2, _, rfl, n8_pair h8 hL.n8, by simp; omega, fun _ z => ?_, by rw [updM_same, List.map_append], (t2.trans t3).upd hp hpr⟩⟩
    have := (List.append_eq_nil_iff.mp z).2
    obtain ⟨p', e', rfl, _⟩ := hL
    simp at this
  · rintro ρ M2 ⟨l, o2, rfl, h8, hl, hne, hp2, t2⟩
    have : ((List.range (1 + (k : Int)).toNat).map fun (i : Nat) => D.int (i : Int)).length = 1 + k := by simp; omega
    refine lr_6 hp2 hp hpr h8 (by omega) (hne fun z => ?_) t2 q
    rw [z] at this; simp at this; omega
end LawProof
set_option Elab.async false
set_option linter.all false
set_option maxRecDepth 100000
set_option maxHeartbeats 4000000
set_option autoImplicit true
namespace LawProof
open PySem L2 DL FL
def sp_law : SpD := fun ds M Q _ => ∃ ns : List Int, ds = [.lst (ns.map D.int)] /\ ns.length <= 63 /\ ∀ M', Q (.bl true) M'
def lam_0 : DTE := (dCall sp_numbers_of [] (dCons (dVar 4) dNil))
def lam_1 : DTE := (dCall sp_split_key [] (dCons (dVar 4) dNil))
def lamT : Nat -> Option LamT
  | 0 => some ⟨["_law_script", "_law_cell", "_law_rng_here", "_law_turn", "_law_odd", "_law_calls", "_law_one"], [4], lam_0⟩
  | 1 => some ⟨["_law_script", "_law_cell", "_law_rng_here", "_law_turn", "_law_odd", "_law_calls", "_law_one"], [4], lam_1⟩
  | _ => none
abbrev N_law : List Str := ["_law_script", "_law_cell", "_law_rng_here", "_law_turn", "_law_odd", "_law_calls", "_law_one"]
def l_law_1 (C : Cells) : DTS := (dIf (dTest (dOp neD (dThk sp__law_said (dCall sp_bytes_of [] (dCons (dVar 4) dNil))) (dTup (dCons (dC (.str "key")) (dCons (dC (.str "-1")) dNil))))) (dRet (dC (.bl false))) dNext)
def l_law_2 (C : Cells) : DTS := (dSeq (dFor (iS (dTup (dCons (dC .non) (dCons (dC (.int 5)) (dCons (dC (.str "ab")) (dCons (dC (.bl true)) (dCons (dC (.dK [] [])) dNil))))))) (gN 4) (l_law_1 C))
    (dRet (dAndV (dOp eqD (dCB reprB1 (dCons (dCall sp_bytes_of [] (dCons (dLst (dCons (dC (.int 2)) (dCons (dC (.int 3)) (dCons (dC (.int 255)) dNil)))) dNil)) dNil)) (dC (.str "b'\\x02\\x03\\xff'"))) (dOp eqD (dCall sp_numbers_of [] (dCons (dCall sp_bytes_of [] (dCons (dLst dNil) dNil)) dNil)) (dLst dNil)))))
def l_law_3 (C : Cells) : DTS := (dSeq (dAsg (dLst (dCons (dLamV 1 C) (dCons (dLamV 0 C) dNil))) (gN 5))
    (dIf (dTest (dOp neD (dLc (iS (dVar 5)) (gN 6) dYes (dSaidS C N_law [4] lamT sp__law_said (dVar 6)) [6]) (dBin bRepD (dLstM (dCons (dTup (dCons (dC (.str "key")) (dCons (dC (.str "-1")) dNil))) dNil)) (dC (.int 2))))) (dRet (dC (.bl false))) dNext))
def l_law_4 (C : Cells) : DTS := (dSeq (dFor (iS (dTup (dCons (dC .non) (dCons (dC (.int 5)) (dCons (dC (.str "ab")) (dCons (dC (.str "")) (dCons (dLst (dCons (dC (.int 2)) dNil)) (dCons (dTup (dCons (dC (.int 2)) dNil)) (dCons (dC (.bl true)) (dCons (dC (.dK [] [])) dNil)))))))))) (gN 4) (l_law_3 C))
    (l_law_2 C))
def l_law_5 (C : Cells) : DTS := (dIf (dNot (dTest (dCall sp__law_right [] (dCons (dVar 2) dNil)))) (dRet (dC (.bl false))) dNext)
def l_law_6 (C : Cells) : DTS := (dSeq (dAsg (dCall sp__law_rng [] (dCons (dVar 1) dNil)) (gN 2))
    (dFor (iR1 (dC (.int 8))) (gN 3) (l_law_5 C)))
def tc_law (C : Cells) : DTS := (dSeq (dFor (iS (dSl slD (dOp addD (dVar 0) (dLst (dCons (dC (.int 0)) dNil))) dNoPart (dPart (dC (.int 4))))) (gN 1) (l_law_6 C))
    (l_law_4 C))
def t_law : DTS := dAllC tc_law
def OddB (d : D) : Prop := (∀ M, vw M d = d) /\ ∃ n, tyName d = some n /\ n ≠ "bytes"
def OddS (d : D) : Prop := (∀ M, vw M d = d) /\ ∃ n, tyName d = some n /\ n ≠ "list" /\ n ≠ "tuple"
theorem rep_m1s : ∀ p : Int, SaidO.key (-1) = .key p -> ∃ z, reprF [.int p] = some z := fun p hp => by cases hp; exact ⟨.str "-1", rfl⟩
abbrev keyM : D := .tup [.str "key", .str "-1"]
theorem said_m1 : saidD (.key (-1)) = keyM := by
  show D.tup [.str "key", repI (-1)] = _
  rw [rep_m1]
theorem lam_key {odd : D} {C : Cells} {j : Nat} {cs : List CelE} {ρ : DL.Env} {M : Mem} (h : OddB odd) (hj : j = 0 \/ j = 1) (ho : ρ[4]? = some (some odd)) (hc : CapAt ρ M C N_law [4] cs) (Qt : DV) (Et : DEK) (e : ∀ M', Keep (shwM cs M) M' -> Et 30 ["place"] [.int (-1)] M') : LamRun lamT j C (shwM cs M) Qt Et := by
  have mem : ∀ c ∈ cs, shwM cs M c.2.1 = some (.cel c.2.2.1 c.2.2.2) := fun c hm => shwM_at hc.nd hm
  obtain ⟨c, rfl⟩ : ∃ c, cs = [c] := by
    have := congrArg List.length hc.ix
    simp at this
    exact List.length_eq_one_iff.mp this
  have hc4 : c.1 = 4 := by have := hc.ix; simpa using this
  have hv := hc.val c (by simp)
  rw [hc4, ho] at hv
  have hd : c.2.2.2 = odd := (Option.some.inj (Option.some.inj hv)).symm
  have env : (capEnv N_law.length [c])[4]? = some (some odd) := capL_get.mpr ⟨by decide, by simp [hc4, hd]⟩
  have ok : CapOk (shwM [c] M) C N_law [4] [c] := ⟨hc.ix, hc.nd, hc.at_, mem⟩
  obtain ⟨hvw, n, hn, hb⟩ := h
  have fin : (∀ a ∈ adrs [c], hidM (adrs [c]) (shwM [c] M) a = none) -> Et 30 ["place"] [.int (-1)] (shwM [c] (hidM (adrs [c]) (shwM [c] M))) := fun _ => by
    rw [shw_hid mem]; exact e _ (Keep.refl _)
  rcases hj with rfl | rfl
  · exact ⟨_, [c], rfl, ok, _, env, _, rfl, .inr ⟨n, by rw [hvw]; exact hn, hb, fin⟩⟩
  · exact ⟨_, [c], rfl, ok, _, env, _, rfl, .inr ⟨n, by rw [hvw]; exact hn, hb, fin⟩⟩
abbrev lwE (o0 o1 o2 o3 o4 o5 o6 : Option D) : DL.Env := [o0, o1, o2, o3, o4, o5, o6]
section
variable {C : Cells} {o0 o1 o2 o3 o4 o5 o6 : Option D} {odd : D} {M : Mem} {Q : DV} {E : DEK} {En : DEnds}
theorem law_3 (h : OddB odd) (nx : ∀ o5 o6 M', En.nx (lwE o0 o1 o2 o3 (some odd) o5 o6) M') : l_law_3 C En (lwE o0 o1 o2 o3 (some odd) o5 o6) M := by
  refine ⟨by simp, ?_⟩
  refine ⟨_, rfl, _, rfl, fun a ha => ?_⟩
  refine lcD_run _ (fun done acc M2 => acc = List.replicate done.length keyM) ?_ ?_ rfl
  · rintro done y rest acc M2 Nx e hM2 rfl nx2
    obtain ⟨j, hj, rfl⟩ : ∃ j, (j = 0 \/ j = 1) /\ y = .fn j C := by
      have : y ∈ [D.fn 1 C, .fn 0 C] := e ▸ by simp
      simp only [List.mem_cons, List.not_mem_nil, or_false] at this
      rcases this with rfl | rfl
      · exact ⟨1, .inr rfl, rfl⟩
      · exact ⟨0, .inl rfl, rfl⟩
    have hd : done.length < 2 := by have := congrArg List.length e; simp at this; omega
    refine ⟨fun i hi => ?_, _, rfl, j, rfl, fun cs hc => ?_⟩
    · obtain rfl := List.mem_singleton.mp hi
      exact ⟨odd, rfl⟩
    · refine ⟨.key (-1), rep_m1s, fun Qt Et q => lam_key h hj rfl hc Qt Et q, fun M3 k3 => ?_⟩
      have ma : a ∉ adrs cs := fun hm => by
        obtain ⟨c, hcm, rfl⟩ := List.mem_map.mp hm
        rw [hc.new c hcm] at hM2; cases hM2
      refine ⟨fun c hcm => k3 _ _ (shwM_at hc.nd hcm), List.replicate done.length keyM, ?_, by rw [size_line]; simp; omega, nx2 _ _ updM_same ?_⟩
      · rw [hidM_out ma]
        exact k3 _ _ (by rw [shwM_out ma]; exact hM2)
      · rw [said_m1, List.length_append, List.length_singleton, List.replicate_succ']
  · rintro acc M2 hM2 rfl
    refine ⟨by simp, by simp, fun c hc => ⟨c, _, 2, rfl, updM_same, rfl, by omega, by omega, by simp, ?_⟩⟩
    have p : plDs 2 [keyM, keyM] = true := by decide +kernel
    have e : neD (.lst [keyM, keyM]) (.lst [keyM, keyM]) = some (.bl false) := by
      have := neD_lst' p p
      have t : eqTs [keyM, keyM] [keyM, keyM] = true := by decide +kernel
      rw [t] at this; exact this
    exact ⟨.bl false, e, _, rfl, nx _ _ _⟩
theorem law_1 (h : OddS odd) (nx : ∀ M', En.nx (lwE o0 o1 o2 o3 (some odd) o5 o6) M') : l_law_1 C En (lwE o0 o1 o2 o3 (some odd) o5 o6) M := by
  obtain ⟨hvw, n, hn, h1, h2⟩ := h
  refine ⟨.key (-1), rep_m1s, fun Qt Et q => ?_, fun M2 k2 => ?_⟩
  · exact ⟨_, rfl, _, rfl, .inr (.inr ⟨n, by rw [hvw]; exact hn, h1, h2, q _ (Keep.refl _)⟩)⟩
  · rw [said_m1]
    have p : plDs 1 [D.str "key", .str "-1"] = true := by decide +kernel
    have e : neD keyM keyM = some (.bl false) := by
      have := neD_tup' p p
      have t : eqTs [D.str "key", .str "-1"] [D.str "key", .str "-1"] = true := by decide +kernel
      rw [t] at this; exact this
    exact ⟨by simp, .bl false, e, _, rfl, nx _⟩
theorem law_2 (q : ∀ M', Q (.bl true) M') : l_law_2 C (dEnds Q E) (lwE o0 o1 o2 o3 o4 o5 o6) M := by
  refine ⟨by simp, _, rfl, ?_⟩
  refine forD_run _ (fun done ρ M2 => ∃ o4, ρ = lwE o0 o1 o2 o3 o4 o5 o6) ?_ ?_ ⟨_, rfl⟩
  · rintro done y rest ρ M2 Nx e ⟨o4, rfl⟩ nx
    have hy : OddS y := by
      have : y ∈ [D.non, .int 5, .str "ab", .bl true, .dK [] []] := e ▸ by simp
      simp only [List.mem_cons, List.not_mem_nil, or_false] at this
      rcases this with rfl | rfl | rfl | rfl | rfl <;> exact ⟨fun _ => rfl, _, rfl, by decide, by decide⟩
    exact law_1 (C := C) hy fun M' => nx _ _ ⟨_, rfl⟩
  · rintro ρ M2 ⟨o4, rfl⟩
    refine ⟨by simp, _, rfl, .inl ⟨[2, 3, 255], rfl, fun n hn => by simp at hn; omega, by simp, ?_⟩⟩
    have hr : reprB1 [bD [2, 3, 255]] = some (.str "b'\\x02\\x03\\xff'") := by
      have e : litB #[2, 3, 255] = "b'\\x02\\x03\\xff'" := by decide +kernel
      have l : 4 * (#[2, 3, 255] : Array UInt8).size + 3 <= sizeLine /\ (litB #[2, 3, 255]).length <= sizeLine := by decide +kernel
      show (if 4 * (#[2, 3, 255] : Array UInt8).size + 3 <= sizeLine /\ (litB #[2, 3, 255]).length <= sizeLine then some (D.str (litB #[2, 3, 255])) else none) = _
      rw [if_pos l, e]
    refine ⟨_, hr, .bl true, by rfl, true, rfl, ?_⟩
    refine ⟨by simp, _, rfl, .inl ⟨[], rfl, fun n hn => (nomatch hn), by simp, ?_⟩⟩
    refine ⟨_, rfl, .inl ⟨[], rfl, fun n hn => (nomatch hn), by simp, ?_⟩⟩
    exact ⟨by simp, .bl true, by rfl, q _⟩
end
theorem cell_int (ns : List Int) (n : Nat) : ∀ y ∈ cutD (ns.map D.int ++ [D.int 0]) none (some ((n : Nat) : Int)), ∃ c : Int, y = .int c := fun y hy => by
  rw [cutD_to] at hy
  have := List.mem_of_mem_take hy
  rcases List.mem_append.mp this with z | z
  · obtain ⟨c, _, rfl⟩ := List.mem_map.mp z; exact ⟨c, rfl⟩
  · exact ⟨0, by simpa using z⟩
theorem pure_law : ∀ ds M Q E, sp_law ds M Q E -> ds.length = 1 /\ t_law (dEnds Q E) (startD N_law ds) M := by
  rintro ds M Q E ⟨ns, rfl, hl, q⟩
  refine ⟨rfl, fun C => ?_⟩
  refine ⟨_, rfl, by simp, _, addD_lst (by simp; omega), _, rfl, _, rfl, _, rfl, ?_⟩
  refine forD_run _ (fun done ρ M1 => ∃ o1 o2 o3, ρ = lwE (some (.lst (ns.map D.int))) o1 o2 o3 none none none) ?_ ?_ ⟨_, _, _, rfl⟩
  · rintro done y rest ρ M1 Nx e ⟨o1, o2, o3, rfl⟩ nx
    obtain ⟨c, rfl⟩ := cell_int ns 4 y (by rw [show cutD (ns.map D.int ++ [D.int 0]) none (some ((4 : Nat) : Int)) = _ from e]; simp)
    refine ⟨_, rfl, c, rfl, fun r M2 hr hw _ => ?_⟩
    refine ⟨8, rfl, by omega, by omega, ?_⟩
    refine forD_run _ (fun done ρ M3 => ∃ o3, ρ = lwE (some (.lst (ns.map D.int))) (some (.int c)) (some (.ref r)) o3 none none none /\ Rn M3 r) ?_ ?_ ⟨_, rfl, hw⟩
    · rintro done y rest ρ M3 Nx2 e ⟨o3, rfl, h3⟩ nx2
      exact ⟨_, rfl, r, rfl, h3, fun M4 t4 => ⟨true, rfl, nx2 _ _ ⟨_, rfl, t4.ok⟩⟩⟩
    · rintro ρ M3 ⟨o3, rfl, h3⟩
      exact nx _ _ ⟨_, _, _, rfl⟩
  · rintro ρ M1 ⟨o1, o2, o3, rfl⟩
    refine ⟨by simp, by simp, by simp, _, rfl, ?_⟩
    refine forD_run _ (fun done ρ M2 => ∃ o4 o5 o6, ρ = lwE (some (.lst (ns.map D.int))) o1 o2 o3 o4 o5 o6) ?_ ?_ ⟨_, _, _, rfl⟩
    · rintro done y rest ρ M2 Nx e ⟨o4, o5, o6, rfl⟩ nx
      have hy : OddB y := by
        have : y ∈ [D.non, .int 5, .str "ab", .str "", .lst [.int 2], .tup [.int 2], .bl true, .dK [] []] := e ▸ by simp
        simp only [List.mem_cons, List.not_mem_nil, or_false] at this
        rcases this with rfl | rfl | rfl | rfl | rfl | rfl | rfl | rfl <;> exact ⟨fun _ => rfl, _, rfl, by decide⟩
      exact law_3 hy fun o5 o6 M' => nx _ _ ⟨_, _, _, rfl⟩
    · rintro ρ M2 ⟨o4, o5, o6, rfl⟩
      exact law_2 q
theorem law_sp : ∀ (ns : List Int) (M : Mem) (Qd : DV) (Ed : DEK), ns.length <= 63 -> (∀ M', Qd (.bl true) M') -> sp_law [.lst (ns.map D.int)] M Qd Ed := fun ns M Qd Ed h q => ⟨ns, rfl, h, q⟩
end LawProof
set_option Elab.async false
set_option linter.all false
set_option maxRecDepth 100000
set_option maxHeartbeats 4000000
set_option autoImplicit true
namespace LawProof
open PySem L2 DL
theorem sc_is_integer : FnScope N_is_integer ["thing"] (defScope s_is_integer) := ⟨rfl, rfl, rfl, by decide +kernel, rfl, by decide +kernel, by decide +kernel⟩
theorem hb_is_integer : HBind "is_integer" "is_integer" (defArgs s_is_integer) (defBody s_is_integer) (defScope s_is_integer) ["thing"] := fun _ _ _ _ _ _ us hl => match us, hl with | [_], _ => rfl
theorem sc_is_sequence : FnScope N_is_sequence ["thing"] (defScope s_is_sequence) := ⟨rfl, rfl, rfl, by decide +kernel, rfl, by decide +kernel, by decide +kernel⟩
theorem hb_is_sequence : HBind "is_sequence" "is_sequence" (defArgs s_is_sequence) (defBody s_is_sequence) (defScope s_is_sequence) ["thing"] := fun _ _ _ _ _ _ us hl => match us, hl with | [_], _ => rfl
theorem sc_key_fault : FnScope N_key_fault ["key"] (defScope s_key_fault) := ⟨rfl, rfl, rfl, by decide +kernel, rfl, by decide +kernel, by decide +kernel⟩
theorem hb_key_fault : HBind "key_fault" "key_fault" (defArgs s_key_fault) (defBody s_key_fault) (defScope s_key_fault) ["key"] := fun _ _ _ _ _ _ us hl => match us, hl with | [_], _ => rfl
theorem sc_cut_key : FnScope N_cut_key ["key"] (defScope s_cut_key) := ⟨rfl, rfl, rfl, by decide +kernel, rfl, by decide +kernel, by decide +kernel⟩
theorem hb_cut_key : HBind "cut_key" "cut_key" (defArgs s_cut_key) (defBody s_cut_key) (defScope s_cut_key) ["key"] := fun _ _ _ _ _ _ us hl => match us, hl with | [_], _ => rfl
theorem sc_split_key : FnScope N_split_key ["key"] (defScope s_split_key) := ⟨rfl, rfl, rfl, by decide +kernel, rfl, by decide +kernel, by decide +kernel⟩
theorem hb_split_key : HBind "split_key" "split_key" (defArgs s_split_key) (defBody s_split_key) (defScope s_split_key) ["key"] := fun _ _ _ _ _ _ us hl => match us, hl with | [_], _ => rfl
theorem sc_bytes_of : FnScope N_bytes_of ["numbers"] (defScope s_bytes_of) := ⟨rfl, rfl, rfl, by decide +kernel, rfl, by decide +kernel, by decide +kernel⟩
theorem hb_bytes_of : HBind "bytes_of" "bytes_of" (defArgs s_bytes_of) (defBody s_bytes_of) (defScope s_bytes_of) ["numbers"] := fun _ _ _ _ _ _ us hl => match us, hl with | [_], _ => rfl
theorem sc_numbers_of : FnScope N_numbers_of ["data"] (defScope s_numbers_of) := ⟨rfl, rfl, rfl, by decide +kernel, rfl, by decide +kernel, by decide +kernel⟩
theorem hb_numbers_of : HBind "numbers_of" "numbers_of" (defArgs s_numbers_of) (defBody s_numbers_of) (defScope s_numbers_of) ["data"] := fun _ _ _ _ _ _ us hl => match us, hl with | [_], _ => rfl
theorem sc__law_rng : FnScope N__law_rng ["_law_cell"] (defScope s__law_rng) := ⟨rfl, rfl, rfl, by decide +kernel, rfl, by decide +kernel, by decide +kernel⟩
theorem hb__law_rng : HBind "_law_rng" "_law_rng" (defArgs s__law_rng) (defBody s__law_rng) (defScope s__law_rng) ["_law_cell"] := fun _ _ _ _ _ _ us hl => match us, hl with | [_], _ => rfl
theorem sc__law_draw : FnScope N__law_draw ["_law_rng_here", "_law_limit"] (defScope s__law_draw) := ⟨rfl, rfl, rfl, by decide +kernel, rfl, by decide +kernel, by decide +kernel⟩
theorem hb__law_draw : HBind "_law_draw" "_law_draw" (defArgs s__law_draw) (defBody s__law_draw) (defScope s__law_draw) ["_law_rng_here", "_law_limit"] := fun _ _ _ _ _ _ us hl => match us, hl with | [_, _], _ => rfl
theorem sc__law_pick : FnScope N__law_pick ["_law_rng_here", "_law_items"] (defScope s__law_pick) := ⟨rfl, rfl, rfl, by decide +kernel, rfl, by decide +kernel, by decide +kernel⟩
theorem hb__law_pick : HBind "_law_pick" "_law_pick" (defArgs s__law_pick) (defBody s__law_pick) (defScope s__law_pick) ["_law_rng_here", "_law_items"] := fun _ _ _ _ _ _ us hl => match us, hl with | [_, _], _ => rfl
theorem sc__law_label : FnScope N__law_label ["_law_rng_here"] (defScope s__law_label) := ⟨rfl, rfl, rfl, by decide +kernel, rfl, by decide +kernel, by decide +kernel⟩
theorem hb__law_label : HBind "_law_label" "_law_label" (defArgs s__law_label) (defBody s__law_label) (defScope s__law_label) ["_law_rng_here"] := fun _ _ _ _ _ _ us hl => match us, hl with | [_], _ => rfl
theorem sc__law_said : FnScope N__law_said ["_law_call"] (defScope s__law_said) := ⟨rfl, rfl, rfl, by decide +kernel, rfl, by decide +kernel, by decide +kernel⟩
theorem hb__law_said : HBind "_law_said" "_law_said" (defArgs s__law_said) (defBody s__law_said) (defScope s__law_said) ["_law_call"] := fun _ _ _ _ _ _ us hl => match us, hl with | [_], _ => rfl
theorem sc__law_due : FnScope N__law_due ["_law_numbers"] (defScope s__law_due) := ⟨rfl, rfl, rfl, by decide +kernel, rfl, by decide +kernel, by decide +kernel⟩
theorem hb__law_due : HBind "_law_due" "_law_due" (defArgs s__law_due) (defBody s__law_due) (defScope s__law_due) ["_law_numbers"] := fun _ _ _ _ _ _ us hl => match us, hl with | [_], _ => rfl
theorem sc__law_right : FnScope N__law_right ["_law_rng_here"] (defScope s__law_right) := ⟨rfl, rfl, rfl, by decide +kernel, rfl, by decide +kernel, by decide +kernel⟩
theorem hb__law_right : HBind "_law_right" "_law_right" (defArgs s__law_right) (defBody s__law_right) (defScope s__law_right) ["_law_rng_here"] := fun _ _ _ _ _ _ us hl => match us, hl with | [_], _ => rfl
theorem sc_law : FnScope N_law ["_law_script"] (defScope s_law) := ⟨rfl, rfl, rfl, by decide +kernel, rfl, by decide +kernel, by decide +kernel⟩
theorem hb_law : HBind "law" "law" (defArgs s_law) (defBody s_law) (defScope s_law) ["_law_script"] := fun _ _ _ _ _ _ us hl => match us, hl with | [_], _ => rfl
theorem hb_NoKey___init__ : HBind "__init__" "NoKey.__init__" (defArgs s_NoKey___init__) (defBody s_NoKey___init__) (defScope s_NoKey___init__) ["self", "place"] := fun _ _ _ _ _ _ us hl => match us, hl with | [_, _], _ => rfl
structure Tx (K : PySem.W.Frag) (mg : Str -> Option Value) (base : Heap) : Prop where
  f_is_integer : ∃ fd, FunD K "is_integer" "is_integer" (defArgs s_is_integer) (defBody s_is_integer) (defScope s_is_integer) [] [] (He.fAd K ("is_integer", none)) fd
  f_is_sequence : ∃ fd, FunD K "is_sequence" "is_sequence" (defArgs s_is_sequence) (defBody s_is_sequence) (defScope s_is_sequence) [] [] (He.fAd K ("is_sequence", none)) fd
  f_key_fault : ∃ fd, FunD K "key_fault" "key_fault" (defArgs s_key_fault) (defBody s_key_fault) (defScope s_key_fault) [] [] (He.fAd K ("key_fault", none)) fd
  f_cut_key : ∃ fd, FunD K "cut_key" "cut_key" (defArgs s_cut_key) (defBody s_cut_key) (defScope s_cut_key) [] [] (He.fAd K ("cut_key", none)) fd
  f_split_key : ∃ fd, FunD K "split_key" "split_key" (defArgs s_split_key) (defBody s_split_key) (defScope s_split_key) [] [] (He.fAd K ("split_key", none)) fd
  f_bytes_of : ∃ fd, FunD K "bytes_of" "bytes_of" (defArgs s_bytes_of) (defBody s_bytes_of) (defScope s_bytes_of) [] [] (He.fAd K ("bytes_of", none)) fd
  f_numbers_of : ∃ fd, FunD K "numbers_of" "numbers_of" (defArgs s_numbers_of) (defBody s_numbers_of) (defScope s_numbers_of) [] [] (He.fAd K ("numbers_of", none)) fd
  f__law_rng : ∃ fd, FunD K "_law_rng" "_law_rng" (defArgs s__law_rng) (defBody s__law_rng) (defScope s__law_rng) [] [] (He.fAd K ("_law_rng", none)) fd
  f__law_draw : ∃ fd, FunD K "_law_draw" "_law_draw" (defArgs s__law_draw) (defBody s__law_draw) (defScope s__law_draw) [] [] (He.fAd K ("_law_draw", none)) fd
  f__law_pick : ∃ fd, FunD K "_law_pick" "_law_pick" (defArgs s__law_pick) (defBody s__law_pick) (defScope s__law_pick) [] [] (He.fAd K ("_law_pick", none)) fd
  f__law_label : ∃ fd, FunD K "_law_label" "_law_label" (defArgs s__law_label) (defBody s__law_label) (defScope s__law_label) [] [] (He.fAd K ("_law_label", none)) fd
  f__law_said : ∃ fd, FunD K "_law_said" "_law_said" (defArgs s__law_said) (defBody s__law_said) (defScope s__law_said) [] [] (He.fAd K ("_law_said", none)) fd
  f__law_due : ∃ fd, FunD K "_law_due" "_law_due" (defArgs s__law_due) (defBody s__law_due) (defScope s__law_due) [] [] (He.fAd K ("_law_due", none)) fd
  f__law_right : ∃ fd, FunD K "_law_right" "_law_right" (defArgs s__law_right) (defBody s__law_right) (defScope s__law_right) [] [] (He.fAd K ("_law_right", none)) fd
  f_law : ∃ fd, FunD K "law" "law" (defArgs s_law) (defBody s_law) (defScope s_law) [] [] (He.fAd K ("law", none)) fd
  f_NoKey____init__ : ∃ fd, FunD K "__init__" "NoKey.__init__" (defArgs s_NoKey___init__) (defBody s_NoKey___init__) (defScope s_NoKey___init__) [] [] (He.fAd K ("NoKey", some "__init__")) fd
  g_is_integer : mg "is_integer" = some (.ref (He.fAd K ("is_integer", none)))
  g_is_sequence : mg "is_sequence" = some (.ref (He.fAd K ("is_sequence", none)))
  g_key_fault : mg "key_fault" = some (.ref (He.fAd K ("key_fault", none)))
  g_cut_key : mg "cut_key" = some (.ref (He.fAd K ("cut_key", none)))
  g_split_key : mg "split_key" = some (.ref (He.fAd K ("split_key", none)))
  g_bytes_of : mg "bytes_of" = some (.ref (He.fAd K ("bytes_of", none)))
  g_numbers_of : mg "numbers_of" = some (.ref (He.fAd K ("numbers_of", none)))
  g__law_rng : mg "_law_rng" = some (.ref (He.fAd K ("_law_rng", none)))
  g__law_draw : mg "_law_draw" = some (.ref (He.fAd K ("_law_draw", none)))
  g__law_pick : mg "_law_pick" = some (.ref (He.fAd K ("_law_pick", none)))
  g__law_label : mg "_law_label" = some (.ref (He.fAd K ("_law_label", none)))
  g__law_said : mg "_law_said" = some (.ref (He.fAd K ("_law_said", none)))
  g__law_due : mg "_law_due" = some (.ref (He.fAd K ("_law_due", none)))
  g__law_right : mg "_law_right" = some (.ref (He.fAd K ("_law_right", none)))
  g_law : mg "law" = some (.ref (He.fAd K ("law", none)))
  g_NoKey : mg "NoKey" = some (.ref (He.ga K "NoKey"))
  g_ForestError : mg "ForestError" = some (.ref (He.ga K "ForestError"))
  oex_NoKey : OexC K (He.ga K "NoKey")
  xn_NoKey : xnB K (He.ga K "NoKey") (He.fAd K ("NoKey", some "__init__")) ["place"] = true
  mt : MtOk K (cl K) mtT0
  sm : SmOk K
  xf_place : XfOk K (cl K) [30] "place"
  td__law_right__law : tabD K ("_law_right", none) ≠ tabD K ("law", none)
  td_law___law_right : tabD K ("law", none) ≠ tabD K ("_law_right", none)
  b_isinstance : mg "isinstance" = none
  b_int : mg "int" = none
  b_bool : mg "bool" = none
  b_tuple : mg "tuple" = none
  b_list : mg "list" = none
  b_len : mg "len" = none
  b_enumerate : mg "enumerate" = none
  b_bytes : mg "bytes" = none
  b_abs : mg "abs" = none
  b_range : mg "range" = none
  b_repr : mg "repr" = none
  tk__law_right : ∃ h, TabK h K ("_law_right", none)
  tb__law_right : LamX.TabB base mg (codeF K (He.fAd K ("_law_right", none))) (tabD K ("_law_right", none))
  tk_law : ∃ h, TabK h K ("law", none)
  tb_law : LamX.TabB base mg (codeF K (He.fAd K ("law", none))) (tabD K ("law", none))
section
variable {P : Program} {w : World} {K : PySem.W.Frag} {mg : Str -> Option Value} {base : Heap}
theorem x_NoKey (T : Tx K mg base) : ExcK P w K mg base "NoKey" (cl K 30) ["place"] := by
  obtain ⟨fd, F⟩ := T.f_NoKey____init__
  have z := xnB_ok T.xn_NoKey
  exact ⟨T.oex_NoKey, T.g_NoKey, He.fAd K ("NoKey", some "__init__"), fd, ["self", "place"], z.1, z.2.1, xinit1 T.oex_NoKey (z.2.2 "place" (by simp)) F ⟨rfl, rfl, rfl, by decide +kernel, rfl, by decide +kernel, by decide +kernel⟩, F.bindsN hb_NoKey___init__⟩
theorem core_is_integer (T : Tx K mg base) {f : Addr} (F : ∃ fd, FunD K "is_integer" "is_integer" (defArgs s_is_integer) (defBody s_is_integer) (defScope s_is_integer) [] [] f fd) : FnC (clw K P w) P w K mg base 1 "is_integer" "is_integer" (defArgs s_is_integer) (defBody s_is_integer) (defScope s_is_integer) f ["thing"] sp_is_integer := by
  refine fnC_of (k := 0) (t := t_is_integer) F sc_is_integer (fun cdv A outer s H E c => ?_) pure_is_integer
  exact (dss_one (ds_ret (d_andV (d_callB (call_isi.or (call_isiT.or call_isiK)) lc_isi rfl T.b_isinstance (by decide +kernel) (da_cons (d_var 0) (da_cons (d_ty rfl T.b_int (by decide +kernel)) da_nil))) (d_one (d_notV (d_callB (call_isi.or (call_isiT.or call_isiK)) lc_isi rfl T.b_isinstance (by decide +kernel) (da_cons (d_var 0) (da_cons (d_ty rfl T.b_bool (by decide +kernel)) da_nil))))))))
theorem core_is_sequence (T : Tx K mg base) {f : Addr} (F : ∃ fd, FunD K "is_sequence" "is_sequence" (defArgs s_is_sequence) (defBody s_is_sequence) (defScope s_is_sequence) [] [] f fd) : FnC (clw K P w) P w K mg base 1 "is_sequence" "is_sequence" (defArgs s_is_sequence) (defBody s_is_sequence) (defScope s_is_sequence) f ["thing"] sp_is_sequence := by
  refine fnC_of (k := 0) (t := t_is_sequence) F sc_is_sequence (fun cdv A outer s H E c => ?_) pure_is_sequence
  exact (dss_one (ds_ret (d_callB (call_isi.or (call_isiT.or call_isiK)) lc_isi rfl T.b_isinstance (by decide +kernel) (da_cons (d_var 0) (da_cons (d_tup (da_cons (d_ty rfl T.b_list (by decide +kernel)) (da_cons (d_ty rfl T.b_tuple (by decide +kernel)) da_nil))) da_nil)))))
theorem core_key_fault (T : Tx K mg base) {f : Addr} (F : ∃ fd, FunD K "key_fault" "key_fault" (defArgs s_key_fault) (defBody s_key_fault) (defScope s_key_fault) [] [] f fd) : FnC (clw K P w) P w K mg base 1 "key_fault" "key_fault" (defArgs s_key_fault) (defBody s_key_fault) (defScope s_key_fault) f ["key"] sp_key_fault := by
  refine fnC_of (k := 0) (t := t_key_fault) F sc_key_fault (fun cdv A outer s H E c => ?_) pure_key_fault
  exact (dss_cons (ds_if (DW.dt (dw_or (d_tnot (d_val (d_callB (call_isi.or (call_isiT.or call_isiK)) lc_isi rfl T.b_isinstance (by decide +kernel) (da_cons (d_var 0) (da_cons (d_ty rfl T.b_bytes (by decide +kernel)) da_nil))))) (dw_or1 (d_tcmp (op_eqA c.hr.room.units) lop_eq (d_callB call_len lc_len rfl T.b_len PySem.boot_len (da_cons (d_var 0) da_nil)) d_int (nomark _))))) (dss_one (ds_ret (d_un un_neg lun_neg d_int))) dss_nil)
      (dss_cons (ds_for c.po c.calm (di_enumW rfl T.b_enumerate (d_var 0)) (dg_tup c.calm (dgs_cons (dg_name 1 sc_key_fault.nd) (dgs_cons (dg_name 2 sc_key_fault.nd) dgs_nil))) (dss_one (ds_if (d_tcmp (op_eqA c.hr.room.units) lop_eq (d_var 2) d_int (nomark _)) (dss_one (ds_ret (d_var 1))) dss_nil)))
      (dss_one (ds_ret (d_ifE (d_tcmp (op_eqA c.hr.room.units) lop_eq (d_op op_mod lop_mod (d_callTy call_int1 lc_int rfl T.b_int (by decide +kernel) (da_cons (d_ixB (d_var 0) (d_un un_neg lun_neg d_int)) da_nil)) d_int) d_int (nomark _)) (d_callB call_len lc_len rfl T.b_len PySem.boot_len (da_cons (d_var 0) da_nil)) d_non)))))
theorem core_cut_key (T : Tx K mg base) {f : Addr} (F : ∃ fd, FunD K "cut_key" "cut_key" (defArgs s_cut_key) (defBody s_cut_key) (defScope s_cut_key) [] [] f fd) : FnC (clw K P w) P w K mg base 1 "cut_key" "cut_key" (defArgs s_cut_key) (defBody s_cut_key) (defScope s_cut_key) f ["key"] sp_cut_key := by
  refine fnC_of (k := 0) (t := t_cut_key) F sc_cut_key (fun cdv A outer s H E c => ?_) pure_cut_key
  exact (dss_cons (ds_par (i := 1) (j := 2) c.calm sc_cut_key.nd (da_cons (d_lstM da_nil) (da_cons d_int da_nil)))
      (dss_cons (ds_for c.po c.calm (di_enumW rfl T.b_enumerate (d_var 0)) (dg_tup c.calm (dgs_cons (dg_name 3 sc_cut_key.nd) (dgs_cons (dg_name 4 sc_cut_key.nd) dgs_nil))) (dss_one (ds_if (d_tcmp (op_eqA c.hr.room.units) lop_eq (d_op op_mod lop_mod (d_callTy call_int1 lc_int rfl T.b_int (by decide +kernel) (da_cons (d_var 4) da_nil)) d_int) d_int (nomark _)) (dss_cons (ds_expr (d_bm PySem.F.plainAttrs_list PySem.F.slot_list_append PySem.F.type_list_append mt_append lm_app (d_var 1) (da_cons (d_sliceB (d_var 0) (do_some (d_var 2)) (do_some (d_op op_addAll lop_add (d_var 3) d_int))) da_nil)))
      (dss_one (ds_set 2 sc_cut_key.nd (d_op op_addAll lop_add (d_var 3) d_int)))) dss_nil)))
      (dss_one (ds_ret (d_frz (d_var 1))))))
theorem core_split_key (T : Tx K mg base) {f : Addr} (F : ∃ fd, FunD K "split_key" "split_key" (defArgs s_split_key) (defBody s_split_key) (defScope s_split_key) [] [] f fd) : FnC (clw K P w) P w K mg base 3 "split_key" "split_key" (defArgs s_split_key) (defBody s_split_key) (defScope s_split_key) f ["key"] sp_split_key := by
  have G0 : FnB (clw K P w) P w K mg base 1 "cut_key" ["key"] sp_cut_key := (core_cut_key T T.f_cut_key).fn T.g_cut_key hb_cut_key
  have G1 : FnB (clw K P w) P w K mg base 1 "key_fault" ["key"] sp_key_fault := (core_key_fault T T.f_key_fault).fn T.g_key_fault hb_key_fault
  refine fnC_of (k := 2) (t := t_split_key) F sc_split_key (fun cdv A outer s H E c => ?_) pure_split_key
  exact (dss_cons (ds_set 1 sc_split_key.nd (d_fn c G1 (by decide) rfl (da_cons (d_var 0) da_nil)))
      (dss_cons (ds_if (d_tcmp op_notN lop_notN (d_var 1) d_non (nomark _)) (dss_one (ds_raise c (by decide) (x_NoKey T) (by decide) rfl (da_cons (d_var 1) da_nil))) dss_nil)
      (dss_one (ds_ret (d_fn c G0 (by decide) rfl (da_cons (d_var 0) da_nil))))))
theorem core_bytes_of (T : Tx K mg base) {f : Addr} (F : ∃ fd, FunD K "bytes_of" "bytes_of" (defArgs s_bytes_of) (defBody s_bytes_of) (defScope s_bytes_of) [] [] f fd) : FnC (clw K P w) P w K mg base 3 "bytes_of" "bytes_of" (defArgs s_bytes_of) (defBody s_bytes_of) (defScope s_bytes_of) f ["numbers"] sp_bytes_of := by
  have G0 : FnB (clw K P w) P w K mg base 1 "is_integer" ["thing"] sp_is_integer := (core_is_integer T T.f_is_integer).fn T.g_is_integer hb_is_integer
  have G1 : FnB (clw K P w) P w K mg base 1 "is_sequence" ["thing"] sp_is_sequence := (core_is_sequence T T.f_is_sequence).fn T.g_is_sequence hb_is_sequence
  refine fnC_of (k := 2) (t := t_bytes_of) F sc_bytes_of (fun cdv A outer s H E c => ?_) pure_bytes_of
  exact (dss_cons (ds_if (d_tnot (d_val (d_fn c G1 (by decide) rfl (da_cons (d_var 0) da_nil)))) (dss_one (ds_raise c (by decide) (x_NoKey T) (by decide) rfl (da_cons (d_un un_neg lun_neg d_int) da_nil))) dss_nil)
      (dss_cons (ds_for c.po c.calm (di_enumT rfl T.b_enumerate (d_var 0)) (dg_tup c.calm (dgs_cons (dg_name 1 sc_bytes_of.nd) (dgs_cons (dg_name 2 sc_bytes_of.nd) dgs_nil))) (dss_one (ds_if (DW.dt (dw_or (d_tnot (d_val (d_fn c G0 (by decide) rfl (da_cons (d_var 2) da_nil)))) (dw_or1 (d_tnot (d_tchain op_le op_le (lop_cmp _) (lop_cmp _) d_int (d_var 2) d_int))))) (dss_one (ds_raise c (by decide) (x_NoKey T) (by decide) rfl (da_cons (d_var 1) da_nil))) dss_nil)))
      (dss_one (ds_ret (d_callTy (call_bytesA c.calm) lc_bytes rfl T.b_bytes (by decide +kernel) (da_cons (d_var 0) da_nil))))))
theorem core_numbers_of (T : Tx K mg base) {f : Addr} (F : ∃ fd, FunD K "numbers_of" "numbers_of" (defArgs s_numbers_of) (defBody s_numbers_of) (defScope s_numbers_of) [] [] f fd) : FnC (clw K P w) P w K mg base 3 "numbers_of" "numbers_of" (defArgs s_numbers_of) (defBody s_numbers_of) (defScope s_numbers_of) f ["data"] sp_numbers_of := by
  refine fnC_of (k := 2) (t := t_numbers_of) F sc_numbers_of (fun cdv A outer s H E c => ?_) pure_numbers_of
  exact (dss_cons (ds_if (d_tnot (d_val (d_callB (call_isi.or (call_isiT.or call_isiK)) lc_isi rfl T.b_isinstance (by decide +kernel) (da_cons (d_var 0) (da_cons (d_ty rfl T.b_bytes (by decide +kernel)) da_nil))))) (dss_one (ds_raise c (by decide) (x_NoKey T) (by decide) rfl (da_cons (d_un un_neg lun_neg d_int) da_nil))) dss_nil)
      (dss_one (ds_ret (d_callTy (call_listB c.calm) lc_lstB rfl T.b_list (by decide +kernel) (da_cons (d_var 0) da_nil)))))
theorem core__law_rng (T : Tx K mg base) {f : Addr} (F : ∃ fd, FunD K "_law_rng" "_law_rng" (defArgs s__law_rng) (defBody s__law_rng) (defScope s__law_rng) [] [] f fd) : FnC (clw K P w) P w K mg base 1 "_law_rng" "_law_rng" (defArgs s__law_rng) (defBody s__law_rng) (defScope s__law_rng) f ["_law_cell"] sp__law_rng := by
  refine fnC_of (k := 0) (t := t__law_rng) F sc__law_rng (fun cdv A outer s H E c => ?_) pure__law_rng
  exact (dss_one (ds_ret (d_lstM (da_cons (d_callB call_abs lc_abs rfl T.b_abs (by decide +kernel) (da_cons (d_var 0) da_nil)) (da_cons (d_op op_mod lop_mod (d_callTy call_int1 lc_int rfl T.b_int (by decide +kernel) (da_cons (d_var 0) da_nil)) d_int) (da_cons d_int da_nil))))))
theorem core__law_draw (T : Tx K mg base) {f : Addr} (F : ∃ fd, FunD K "_law_draw" "_law_draw" (defArgs s__law_draw) (defBody s__law_draw) (defScope s__law_draw) [] [] f fd) : FnC (clw K P w) P w K mg base 1 "_law_draw" "_law_draw" (defArgs s__law_draw) (defBody s__law_draw) (defScope s__law_draw) f ["_law_rng_here", "_law_limit"] sp__law_draw := by
  refine fnC_of (k := 0) (t := t__law_draw) F sc__law_draw (fun cdv A outer s H E c => ?_) pure__law_draw
  exact (dss_cons (ds_if (d_tcmp op_ge (lop_cmp _) (d_ixA (RoomG.u1 c.hr) (d_var 0) d_int) (d_op op_pow lop_pow d_int d_int) (nomark _)) (dss_cons (ds_set 2 sc__law_draw.nd (d_op op_mod lop_mod (d_callTy call_int1 lc_int rfl T.b_int (by decide +kernel) (da_cons (d_ixA (RoomG.u1 c.hr) (d_var 0) d_int) da_nil)) (d_var 1)))
      (dss_cons (ds_asg (d_op op_fdivW lop_fdiv (d_ixA (RoomG.u1 c.hr) (d_var 0) d_int) (d_var 1)) (dg_subL (d_var 0) d_int))
      (dss_one (ds_ret (d_var 2))))) dss_nil)
      (dss_cons (ds_asg (d_op op_addAll lop_add (d_ixA (RoomG.u1 c.hr) (d_var 0) d_int) d_int) (dg_subL (d_var 0) d_int))
      (dss_cons (ds_set 3 sc__law_draw.nd (d_op op_mod lop_mod (d_callTy call_int1 lc_int rfl T.b_int (by decide +kernel) (da_cons (d_op op_mul lop_mul (d_op op_addAll lop_add (d_op op_addAll lop_add (d_ixA (RoomG.u1 c.hr) (d_var 0) d_int) (d_op op_mul lop_mul d_int (d_ixA (RoomG.u1 c.hr) (d_var 0) d_int))) d_int) d_int) da_nil)) d_int))
      (dss_cons (ds_set 3 sc__law_draw.nd (d_op op_mod lop_mod (d_callTy call_int1 lc_int rfl T.b_int (by decide +kernel) (da_cons (d_op op_mul lop_mul (d_var 3) (d_op op_addAll lop_add (d_op op_fdivW lop_fdiv (d_var 3) d_int) d_int)) da_nil)) d_int))
      (dss_one (ds_ret (d_op op_mod lop_mod (d_callTy call_int1 lc_int rfl T.b_int (by decide +kernel) (da_cons (d_op op_mod lop_mod (d_callTy call_int1 lc_int rfl T.b_int (by decide +kernel) (da_cons (d_op op_addAll lop_add (d_op op_fdivW lop_fdiv (d_var 3) d_int) (d_op op_mul lop_mul (d_op op_mod lop_mod (d_callTy call_int1 lc_int rfl T.b_int (by decide +kernel) (da_cons (d_var 3) da_nil)) d_int) d_int)) da_nil)) d_int) da_nil)) (d_var 1))))))))
theorem core__law_pick (T : Tx K mg base) {f : Addr} (F : ∃ fd, FunD K "_law_pick" "_law_pick" (defArgs s__law_pick) (defBody s__law_pick) (defScope s__law_pick) [] [] f fd) : FnC (clw K P w) P w K mg base 2 "_law_pick" "_law_pick" (defArgs s__law_pick) (defBody s__law_pick) (defScope s__law_pick) f ["_law_rng_here", "_law_items"] sp__law_pick := by
  have G0 : FnB (clw K P w) P w K mg base 1 "_law_draw" ["_law_rng_here", "_law_limit"] sp__law_draw := (core__law_draw T T.f__law_draw).fn T.g__law_draw hb__law_draw
  refine fnC_of (k := 1) (t := t__law_pick) F sc__law_pick (fun cdv A outer s H E c => ?_) pure__law_pick
  exact (dss_one (ds_ret (d_ixA (RoomG.u1 c.hr) (d_var 1) (d_fn c G0 (by decide) rfl (da_cons (d_var 0) (da_cons (d_callB call_len lc_len rfl T.b_len PySem.boot_len (da_cons (d_var 1) da_nil)) da_nil))))))
theorem core__law_label (T : Tx K mg base) {f : Addr} (F : ∃ fd, FunD K "_law_label" "_law_label" (defArgs s__law_label) (defBody s__law_label) (defScope s__law_label) [] [] f fd) : FnC (clw K P w) P w K mg base 3 "_law_label" "_law_label" (defArgs s__law_label) (defBody s__law_label) (defScope s__law_label) f ["_law_rng_here"] sp__law_label := by
  have G0 : FnB (clw K P w) P w K mg base 2 "_law_pick" ["_law_rng_here", "_law_items"] sp__law_pick := (core__law_pick T T.f__law_pick).fn T.g__law_pick hb__law_pick
  refine fnC_of (k := 2) (t := t__law_label) F sc__law_label (fun cdv A outer s H E c => ?_) pure__law_label
  exact (dss_cons (ds_setLc (own := [("_law_turn", 2)]) 1 c.calm sc__law_label.nd (di_range1 rfl T.b_range (d_fn c G0 (by decide) rfl (da_cons (d_var 0) (da_cons (d_lst (da_cons d_int (da_cons d_int (da_cons d_int (da_cons d_int (da_cons d_int (da_cons d_int (da_cons d_int da_nil)))))))) da_nil)))) (blkOk_by (own := [("_law_turn", 2)]) (N := N__law_label) (sc := defScope s__law_label) (by decide +kernel)) (fun _ _ _ _ _ => (dg_name 2 sc__law_label.nd)) (fun _ _ _ _ _ => dts_nil) (fun _ _ _ _ _ => (d_fn c.blk G0 (by decide) rfl (da_cons (d_var 0) (da_cons (d_lst (da_cons d_int (da_cons d_int (da_cons d_int (da_cons d_int (da_cons d_int (da_cons d_int (da_cons d_int (da_cons d_int da_nil))))))))) da_nil)))))
      (dss_one (ds_ret (d_op op_addAll lop_add (d_var 1) (d_lst (da_cons (d_fn c G0 (by decide) rfl (da_cons (d_var 0) (da_cons (d_lst (da_cons d_int (da_cons d_int (da_cons d_int (da_cons d_int (da_cons d_int (da_cons d_int (da_cons d_int (da_cons d_int da_nil))))))))) da_nil))) da_nil))))))
theorem core__law_said (T : Tx K mg base) {f : Addr} (F : ∃ fd, FunD K "_law_said" "_law_said" (defArgs s__law_said) (defBody s__law_said) (defScope s__law_said) [] [] f fd) : FnTC (clw K P w) P w K mg base 4 "_law_said" "_law_said" (defArgs s__law_said) (defBody s__law_said) (defScope s__law_said) f "_law_call" sp__law_said := by
  obtain ⟨fd, F⟩ := F
  refine ⟨fd, F, fn_dT (t := t__law_said) F sc__law_said rfl (Or.inl rfl) (fun cdv A outer s H E d0 TH c act => ?_) pure__law_said⟩
  exact (dss_cons (ds_try c T.mt rfl rfl (fun _ _ _ c1 => (dss_one (ds_set 1 sc__law_said.nd (act _ _ _ _ _ c1)))) (.as (i := 2) (k := 30) sc__law_said.nd rfl rfl ⟨rfl, by decide, .inl T.g_NoKey⟩ (fun x a oe cls d pn hx hz hf => (dss_one (ds_ret (d_tup (da_cons d_str (da_cons (d_callB ((call_reprU (c.suite a ((a, oe) :: pn))).or (call_reprX T.sm (c.suite a ((a, oe) :: pn)).un (c.suite a ((a, oe) :: pn)).gd)) (lc_reprA lc_repr) rfl T.b_repr (by decide +kernel) (da_cons (d_xf T.xf_place hx hz hf (d_var 2)) da_nil)) da_nil)))))) (.only (k := 17) ⟨rfl, by decide, .inl T.g_ForestError⟩ (fun x a oe cls d pn hx hz hf => (dss_one (ds_ret d_str))) .nil)))
      (dss_one (ds_ret (d_var 1))))
theorem core__law_due (T : Tx K mg base) {f : Addr} (F : ∃ fd, FunD K "_law_due" "_law_due" (defArgs s__law_due) (defBody s__law_due) (defScope s__law_due) [] [] f fd) : FnC (clw K P w) P w K mg base 4 "_law_due" "_law_due" (defArgs s__law_due) (defBody s__law_due) (defScope s__law_due) f ["_law_numbers"] sp__law_due := by
  have G0 : FnB (clw K P w) P w K mg base 3 "bytes_of" ["numbers"] sp_bytes_of := (core_bytes_of T T.f_bytes_of).fn T.g_bytes_of hb_bytes_of
  refine fnC_of (k := 3) (t := t__law_due) F sc__law_due (fun cdv A outer s H E c => ?_) pure__law_due
  exact (dss_cons (ds_if (d_tcmp (op_eqA c.hr.room.units) lop_eq (d_var 0) (d_lstM da_nil) (nomark _)) (dss_one (ds_ret (d_tup (da_cons d_str (da_cons d_str da_nil))))) dss_nil)
      (dss_cons (ds_if (d_tcmp (op_inA (RoomG.u1 c.hr)) lop_in d_int (d_var 0) rfl) (dss_one (ds_ret (d_tup (da_cons d_str (da_cons (d_callB (call_repr c.hr) lc_repr rfl T.b_repr (by decide +kernel) (da_cons (d_bm PySem.F.plainAttrs_list PySem.F.slot_list_index PySem.F.type_list_index mt_index lm_index (d_var 0) (da_cons d_int da_nil)) da_nil)) da_nil))))) dss_nil)
      (dss_cons (ds_set 1 sc__law_due.nd (d_lstM (da_cons (d_lstM da_nil) da_nil)))
      (dss_cons (ds_for c.po c.calm (di_seq (d_var 0)) (dg_name 2 sc__law_due.nd) (dss_cons (ds_expr (d_bm PySem.F.plainAttrs_list PySem.F.slot_list_append PySem.F.type_list_append mt_append lm_app (d_ixA (RoomG.u1 c.hr) (d_var 1) (d_un un_neg lun_neg d_int)) (da_cons (d_var 2) da_nil)))
      (dss_one (ds_if (d_tcmp (op_eqA c.hr.room.units) lop_eq (d_op op_mod lop_mod (d_callTy call_int1 lc_int rfl T.b_int (by decide +kernel) (da_cons (d_var 2) da_nil)) d_int) d_int (nomark _)) (dss_one (ds_expr (d_bm PySem.F.plainAttrs_list PySem.F.slot_list_append PySem.F.type_list_append mt_append lm_app (d_var 1) (da_cons (d_lstM da_nil) da_nil)))) dss_nil))))
      (dss_cons (ds_if (d_tcmp (op_neA c.hr.room.units) lop_ne (d_ixA (RoomG.u1 c.hr) (d_var 1) (d_un un_neg lun_neg d_int)) (d_lstM da_nil) (nomark _)) (dss_one (ds_ret (d_tup (da_cons d_str (da_cons (d_callB (call_repr c.hr) lc_repr rfl T.b_repr (by decide +kernel) (da_cons (d_callB call_len lc_len rfl T.b_len PySem.boot_len (da_cons (d_var 0) da_nil)) da_nil)) da_nil))))) dss_nil)
      (dss_one (ds_ret (d_lc (own := [("_law_label_here", 3)]) c.calm sc__law_due.nd (di_seq (d_slice (d_var 1) do_none (do_some (d_un un_neg lun_neg d_int)))) (blkOk_by (own := [("_law_label_here", 3)]) (N := N__law_due) (sc := defScope s__law_due) (by decide +kernel)) (fun _ _ _ _ _ => (dg_name 3 sc__law_due.nd)) (fun _ _ _ _ _ => dts_nil) (fun _ _ _ _ _ => (d_fn c.blk G0 (by decide) rfl (da_cons (d_frz (d_var 3)) da_nil)))))))))))
theorem core__law_right (T : Tx K mg base) (F : ∃ fd, FunD K "_law_right" "_law_right" (defArgs s__law_right) (defBody s__law_right) (defScope s__law_right) [] [] (He.fAd K ("_law_right", none)) fd) : FnC (clw K P w) P w K mg base 6 "_law_right" "_law_right" (defArgs s__law_right) (defBody s__law_right) (defScope s__law_right) (He.fAd K ("_law_right", none)) ["_law_rng_here"] sp__law_right := by
  have G0 : FnTB (clw K P w) P w K mg base 4 "_law_said" "_law_call" sp__law_said := (core__law_said T T.f__law_said).thk T.g__law_said hb__law_said
  have G1 : FnB (clw K P w) P w K mg base 3 "bytes_of" ["numbers"] sp_bytes_of := (core_bytes_of T T.f_bytes_of).fn T.g_bytes_of hb_bytes_of
  have G2 : FnB (clw K P w) P w K mg base 2 "_law_pick" ["_law_rng_here", "_law_items"] sp__law_pick := (core__law_pick T T.f__law_pick).fn T.g__law_pick hb__law_pick
  have G3 : FnB (clw K P w) P w K mg base 1 "_law_draw" ["_law_rng_here", "_law_limit"] sp__law_draw := (core__law_draw T T.f__law_draw).fn T.g__law_draw hb__law_draw
  have G4 : FnB (clw K P w) P w K mg base 3 "split_key" ["key"] sp_split_key := (core_split_key T T.f_split_key).fn T.g_split_key hb_split_key
  have G5 : FnB (clw K P w) P w K mg base 4 "_law_due" ["_law_numbers"] sp__law_due := (core__law_due T T.f__law_due).fn T.g__law_due hb__law_due
  have G6 : FnB (clw K P w) P w K mg base 3 "numbers_of" ["data"] sp_numbers_of := (core_numbers_of T T.f_numbers_of).fn T.g_numbers_of hb_numbers_of
  have G7 : FnB (clw K P w) P w K mg base 3 "_law_label" ["_law_rng_here"] sp__law_label := (core__law_label T T.f__law_label).fn T.g__law_label hb__law_label
  obtain ⟨h_law, tk_law⟩ := T.tk_law
  obtain ⟨h__law_right, tk__law_right⟩ := T.tk__law_right
  have tb := T.tb__law_right
  have tc := tabs_cl tk_law.nz tk__law_right.nz
  refine fnC_ofT (k := 5) (t := t__law_right) tk__law_right F sc__law_right (fun A outer s H E c => ?_) pure__law_right
  have hmT : (tabD K ("_law_right", none), ((cxOf (L2.CX P w) P w K mg base N__law_right "_law_right" (defScope s__law_right) (He.fAd K ("_law_right", none)) (.ref (codeF K (He.fAd K ("_law_right", none)))) A outer s H E).env.qual ++ "<lambda>" : Str)) ∈ tabsOf (cl K) := by
    rw [tc]; exact (List.mem_cons_of_mem _ (List.mem_cons.mpr (.inl (Prod.ext rfl (show ("_law_right" ++ ".<locals>." ++ "<lambda>" : Str) = "_law_right.<locals>.<lambda>" by decide +kernel)))))
  have hu : ∀ p ∈ tabsOf (cl K), p.1 = tabD K ("_law_right", none) -> p.2 = ((cxOf (L2.CX P w) P w K mg base N__law_right "_law_right" (defScope s__law_right) (He.fAd K ("_law_right", none)) (.ref (codeF K (He.fAd K ("_law_right", none)))) A outer s H E).env.qual ++ "<lambda>" : Str) := fun p hp e => by
    rw [tc] at hp
    rcases List.mem_cons.mp hp with rfl | hp
    · exact absurd e T.td_law___law_right
    rcases List.mem_cons.mp hp with rfl | hp
    · exact (show ("_law_right.<locals>.<lambda>" : Str) = "_law_right" ++ ".<locals>." ++ "<lambda>" by decide +kernel)
    cases hp
  exact (dss_cons (ds_set 1 sc__law_right.nd (d_lstM da_nil))
      (dss_cons (ds_for c.po c.calm (di_range1 rfl T.b_range (d_op op_addAll lop_add d_int (d_fn c G3 (by decide) rfl (da_cons (d_var 0) (da_cons d_int da_nil))))) (dg_name 2 sc__law_right.nd) (dss_one (ds_expr (d_bm PySem.F.plainAttrs_list PySem.F.slot_list_extend PySem.F.type_list_extend mt_extS lm_ext (d_var 1) (da_cons (d_fn c G7 (by decide) rfl (da_cons (d_var 0) da_nil)) da_nil)))))
      (dss_cons (ds_ghost 1 (ds_asg (d_tup (da_cons (d_fn c G3 (by decide) rfl (da_cons (d_var 0) (da_cons (d_callB call_len lc_len rfl T.b_len PySem.boot_len (da_cons (d_var 1) da_nil)) da_nil))) (da_cons (d_fn c G2 (by decide) rfl (da_cons (d_var 0) (da_cons (d_lst (da_cons d_int (da_cons d_int (da_cons d_int (da_cons d_int (da_cons d_int (da_cons (d_fn c G3 (by decide) rfl (da_cons (d_var 0) (da_cons d_int da_nil))) da_nil))))))) da_nil))) da_nil))) (dg_tup c.calm (dgs_cons (dg_name 3 sc__law_right.nd) (dgs_cons (dg_name 4 sc__law_right.nd) dgs_nil)))))
      (dss_cons (ds_set 5 sc__law_right.nd (d_lst (da_cons (d_var 1) (da_cons (d_op op_addAll lop_add (d_op op_addAll lop_add (d_slice (d_var 1) do_none (do_some (d_var 3))) (d_lst (da_cons (d_var 4) da_nil))) (d_slice (d_var 1) (do_some (d_op op_addAll lop_add (d_var 3) d_int)) do_none)) (da_cons (d_op op_addAll lop_add (d_slice (d_var 1) do_none (do_some (d_var 3))) (d_slice (d_var 1) (do_some (d_op op_addAll lop_add (d_var 3) d_int)) do_none)) (da_cons (d_slice (d_var 1) do_none (do_some (d_var 3))) da_nil))))))
      (dss_cons (ds_for c.po c.calm (di_seq (d_op op_addAll lop_add (d_var 5) (d_lst (da_cons (d_op op_addAll lop_add (d_op op_addAll lop_add (d_slice (d_var 1) do_none (do_some (d_var 3))) (d_lst (da_cons (d_var 4) da_nil))) (d_slice (d_var 1) (do_some (d_var 3)) do_none)) (da_cons (d_bin bin_repD (d_lstM (da_cons d_int da_nil)) (d_fn c G3 (by decide) rfl (da_cons (d_var 0) (da_cons d_int da_nil)))) (da_cons (d_lst da_nil) da_nil)))))) (dg_name 6 sc__law_right.nd) (dss_cons (ds_set 7 sc__law_right.nd (d_fn c G1 (by decide) rfl (da_cons (d_var 6) da_nil)))
      (dss_cons (ds_if (DW.dt (dw_or (d_tcmp (op_neA c.hr.room.units) lop_ne (d_fn c G6 (by decide) rfl (da_cons (d_var 7) da_nil)) (d_var 6) (nomark _)) (dw_or (d_tcmpG (bin_neY c.hr.room.units) (d_fn c G1 (by decide) rfl (da_cons (d_callTy call_tuple_of lc_tup rfl T.b_tuple (by decide +kernel) (da_cons (d_var 6) da_nil)) da_nil)) (d_var 7) (nomark _)) (dw_or1 (d_tcmp (op_neA c.hr.room.units) lop_ne (d_callB call_len lc_len rfl T.b_len PySem.boot_len (da_cons (d_var 7) da_nil)) (d_callB call_len lc_len rfl T.b_len PySem.boot_len (da_cons (d_var 6) da_nil)) (nomark _)))))) (dss_one (ds_ret d_bl)) dss_nil)
      (dss_one (ds_if (d_tcmpG (BinG.or (bin_neY c.hr.room.units) (bin_neT c.hr.room.units)) (d_lamcall (c.mono (by decide)) G0 rfl tb rfl hmT hu (lamS2_by (show lamSB2 N__law_right (defScope s__law_right) _ = true by decide +kernel)) (.no rfl (fun _ _ _ _ _ => rfl)) (fun _ _ _ _ _ _ _ cL => (d_fn cL G4 (by decide) rfl (da_cons (d_var 7) da_nil)))) (d_fn c G5 (by decide) rfl (da_cons (d_var 6) da_nil)) (nomark _)) (dss_one (ds_ret d_bl)) dss_nil)))))
      (dss_cons (ds_set 8 sc__law_right.nd (d_fn c G2 (by decide) rfl (da_cons (d_var 0) (da_cons (d_lst (da_cons d_int (da_cons (d_un un_neg lun_neg d_int) (da_cons d_non (da_cons d_bl (da_cons d_str (da_cons (d_lst (da_cons d_int da_nil)) (da_cons (d_op op_pow lop_pow d_int d_int) da_nil)))))))) da_nil))))
      (dss_one (ds_ret (d_cmp (op_eqA c.hr.room.units) lop_eq (d_lamcall (c.mono (by decide)) G0 rfl tb rfl hmT hu (lamS2_by (show lamSB2 N__law_right (defScope s__law_right) _ = true by decide +kernel)) (.no rfl (fun _ _ _ _ _ => rfl)) (fun _ _ _ _ _ _ _ cL => (d_fn cL G1 (by decide) rfl (da_cons (d_op op_addAll lop_add (d_op op_addAll lop_add (d_slice (d_var 1) do_none (do_some (d_var 3))) (d_lst (da_cons (d_var 8) (da_cons d_non da_nil)))) (d_slice (d_var 1) (do_some (d_var 3)) do_none)) da_nil)))) (d_tup (da_cons d_str (da_cons (d_callB (call_repr c.hr) lc_repr rfl T.b_repr (by decide +kernel) (da_cons (d_var 3) da_nil)) da_nil))) (nomark _))))))))))
theorem lamsOk (T : Tx K mg base) : LamsOk (clw K P w) P w K mg base 3 lamT := by
  have G0 : FnB (clw K P w) P w K mg base 3 "numbers_of" ["data"] sp_numbers_of := (core_numbers_of T T.f_numbers_of).fn T.g_numbers_of hb_numbers_of
  have G1 : FnB (clw K P w) P w K mg base 3 "split_key" ["key"] sp_split_key := (core_split_key T T.f_split_key).fn T.g_split_key hb_split_key
  intro j L h
  match j, h with
  | 0, h =>
    obtain rfl := Option.some.inj h
    exact ⟨_, rfl, rfl, lamS3_by (by decide +kernel), (.inr ⟨by decide, ["_law_a"], rfl, by decide +kernel, fun _ _ _ _ _ _ => ⟨_, rfl, fun us h => match us, h with | [_], _ => rfl⟩⟩), fun A outer s H E C f c' cL => (d_fn cL G0 (by decide) rfl (da_cons (d_var 4) da_nil))⟩
  | 1, h =>
    obtain rfl := Option.some.inj h
    exact ⟨_, rfl, rfl, lamS3_by (by decide +kernel), (.inl ⟨rfl, fun _ _ _ _ _ => rfl⟩), fun A outer s H E C f c' cL => (d_fn cL G1 (by decide) rfl (da_cons (d_var 4) da_nil))⟩
  | n + 2, h => cases h
theorem core_law (T : Tx K mg base) (F : ∃ fd, FunD K "law" "law" (defArgs s_law) (defBody s_law) (defScope s_law) [] [] (He.fAd K ("law", none)) fd) : FnC (clw K P w) P w K mg base 7 "law" "law" (defArgs s_law) (defBody s_law) (defScope s_law) (He.fAd K ("law", none)) ["_law_script"] sp_law := by
  have G0 : FnB (clw K P w) P w K mg base 3 "bytes_of" ["numbers"] sp_bytes_of := (core_bytes_of T T.f_bytes_of).fn T.g_bytes_of hb_bytes_of
  have G1 : FnB (clw K P w) P w K mg base 3 "numbers_of" ["data"] sp_numbers_of := (core_numbers_of T T.f_numbers_of).fn T.g_numbers_of hb_numbers_of
  have G2 : FnTB (clw K P w) P w K mg base 4 "_law_said" "_law_call" sp__law_said := (core__law_said T T.f__law_said).thk T.g__law_said hb__law_said
  have G3 : FnB (clw K P w) P w K mg base 6 "_law_right" ["_law_rng_here"] sp__law_right := (core__law_right T T.f__law_right).fn T.g__law_right hb__law_right
  have G4 : FnB (clw K P w) P w K mg base 1 "_law_rng" ["_law_cell"] sp__law_rng := (core__law_rng T T.f__law_rng).fn T.g__law_rng hb__law_rng
  obtain ⟨h_law, tk_law⟩ := T.tk_law
  obtain ⟨h__law_right, tk__law_right⟩ := T.tk__law_right
  have tb := T.tb_law
  have tc := tabs_cl tk_law.nz tk__law_right.nz
  refine fnC_ofT (k := 6) (t := t_law) tk_law F sc_law (fun A outer s H E c => ?_) pure_law
  have hql : ((cxOf (L2.CX P w) P w K mg base N_law "law" (defScope s_law) (He.fAd K ("law", none)) (.ref (codeF K (He.fAd K ("law", none)))) A outer s H E).env.qual ++ "<lambda>" : Str) = "law.<locals>.<lambda>" := show ("law" ++ ".<locals>." ++ "<lambda>" : Str) = "law.<locals>.<lambda>" by decide +kernel
  have hmT : (tabD K ("law", none), ((cxOf (L2.CX P w) P w K mg base N_law "law" (defScope s_law) (He.fAd K ("law", none)) (.ref (codeF K (He.fAd K ("law", none)))) A outer s H E).env.qual ++ "<lambda>" : Str)) ∈ tabsOf (cl K) := by
    rw [tc]; exact (List.mem_cons.mpr (.inl (Prod.ext rfl (show ("law" ++ ".<locals>." ++ "<lambda>" : Str) = "law.<locals>.<lambda>" by decide +kernel))))
  have hu : ∀ p ∈ tabsOf (cl K), p.1 = tabD K ("law", none) -> p.2 = ((cxOf (L2.CX P w) P w K mg base N_law "law" (defScope s_law) (He.fAd K ("law", none)) (.ref (codeF K (He.fAd K ("law", none)))) A outer s H E).env.qual ++ "<lambda>" : Str) := fun p hp e => by
    rw [tc] at hp
    rcases List.mem_cons.mp hp with rfl | hp
    · exact (show ("law.<locals>.<lambda>" : Str) = "law" ++ ".<locals>." ++ "<lambda>" by decide +kernel)
    rcases List.mem_cons.mp hp with rfl | hp
    · exact absurd e T.td__law_right__law
    cases hp
  exact dss_allC (t := tc_law) (dss_cons (ds_for c.po c.calm (di_seq (d_slice (d_op op_addAll lop_add (d_var 0) (d_lst (da_cons d_int da_nil))) do_none (do_some d_int))) (dg_name 1 sc_law.nd) (dss_cons (ds_set 2 sc_law.nd (d_fn c G4 (by decide) rfl (da_cons (d_var 1) da_nil)))
      (dss_one (ds_for c.po c.calm (di_range1 rfl T.b_range d_int) (dg_name 3 sc_law.nd) (dss_one (ds_if (d_tnot (d_val (d_fn c G3 (by decide) rfl (da_cons (d_var 2) da_nil)))) (dss_one (ds_ret d_bl)) dss_nil))))))
      (dss_cons (ds_for c.po c.calm (di_seq (d_tup (da_cons d_non (da_cons d_int (da_cons d_str (da_cons d_str (da_cons (d_lst (da_cons d_int da_nil)) (da_cons (d_tup (da_cons d_int da_nil)) (da_cons d_bl (da_cons d_dict0 da_nil)))))))))) (dg_name 4 sc_law.nd) (dss_cons (ds_set 5 sc_law.nd (d_lst (da_cons (d_lamV tb rfl hmT hu (by rw [hql]; rfl) (free_by (show freeB (defScope s_law) _ = true by decide +kernel)) [] rfl (by decide) rfl) (da_cons (d_lamV tb rfl hmT hu (by rw [hql]; rfl) (free_by (show freeB (defScope s_law) _ = true by decide +kernel)) [(0, _, _)] rfl (by decide) rfl) da_nil))))
      (dss_one (ds_if (d_tcmp (op_neA c.hr.room.units) lop_ne (d_lcS (own := [("_law_one", 6)]) (cap := [4]) (c.mono (by decide)) G2 (lamsOk T) (fun _ => rfl) sc_law.nd (by decide) (cap_by (show capB N_law (defScope s_law) _ = true by decide +kernel)) (by decide) (di_seq (d_var 5)) (blkOk_by (own := [("_law_one", 6)]) (N := N_law) (sc := defScope s_law) (by decide +kernel)) (fun _ _ _ _ _ => (dg_name 6 sc_law.nd)) (fun _ _ _ _ _ => rfl) (fun _ _ _ _ _ => (d_var 6))) (d_bin bin_repD (d_lstM (da_cons (d_tup (da_cons d_str (da_cons d_str da_nil))) da_nil)) d_int) (nomark _)) (dss_one (ds_ret d_bl)) dss_nil))))
      (dss_cons (ds_for c.po c.calm (di_seq (d_tup (da_cons d_non (da_cons d_int (da_cons d_str (da_cons d_bl (da_cons d_dict0 da_nil))))))) (dg_name 4 sc_law.nd) (dss_one (ds_if (d_tcmp (op_neA c.hr.room.units) lop_ne (d_lamcall (c.mono (by decide)) G2 rfl tb rfl hmT hu (lamS2_by (show lamSB2 N_law (defScope s_law) _ = true by decide +kernel)) (.no rfl (fun _ _ _ _ _ => rfl)) (fun _ _ _ _ _ _ _ cL => (d_fn cL G0 (by decide) rfl (da_cons (d_var 4) da_nil)))) (d_tup (da_cons d_str (da_cons d_str da_nil))) (nomark _)) (dss_one (ds_ret d_bl)) dss_nil)))
      (dss_one (ds_ret (d_andV (d_cmp (op_eqA c.hr.room.units) lop_eq (d_callB call_reprB lc_reprB rfl T.b_repr (by decide +kernel) (da_cons (d_fn c G0 (by decide) rfl (da_cons (d_lst (da_cons d_int (da_cons d_int (da_cons d_int da_nil)))) da_nil)) da_nil)) d_str (nomark _)) (d_one (d_cmp (op_eqA c.hr.room.units) lop_eq (d_fn c G1 (by decide) rfl (da_cons (d_fn c G0 (by decide) rfl (da_cons (d_lst da_nil) da_nil)) da_nil)) (d_lst da_nil) (nomark _)))))))))
end
end LawProof
set_option Elab.async false
set_option linter.all false
set_option maxRecDepth 100000
set_option maxHeartbeats 4000000
set_option autoImplicit true
namespace LawProof
open PySem L2 DL
theorem tx_of {K : PySem.W.Frag} {h : Heap} {mg : Str -> Option Value} (X : K.In h) (G : h.Ns mainGlobals mg) (c : He.SaysD fa fn K) (e : ex K = true) (tk__law_right : ∃ h, TabK h K ("_law_right", none)) (tb__law_right : LamX.TabB base mg (codeF K (He.fAd K ("_law_right", none))) (tabD K ("_law_right", none))) (tk_law : ∃ h, TabK h K ("law", none)) (tb_law : LamX.TabB base mg (codeF K (He.fAd K ("law", none))) (tabD K ("law", none))) : Tx K mg base :=
  { f_is_integer := c.def_ 0 (d := d_is_integer) rfl,
    f_is_sequence := c.def_ 1 (d := d_is_sequence) rfl,
    f_key_fault := c.def_ 2 (d := d_key_fault) rfl,
    f_cut_key := c.def_ 3 (d := d_cut_key) rfl,
    f_split_key := c.def_ 4 (d := d_split_key) rfl,
    f_bytes_of := c.def_ 5 (d := d_bytes_of) rfl,
    f_numbers_of := c.def_ 6 (d := d_numbers_of) rfl,
    f__law_rng := c.def_ 7 (d := d__law_rng) rfl,
    f__law_draw := c.def_ 8 (d := d__law_draw) rfl,
    f__law_pick := c.def_ 9 (d := d__law_pick) rfl,
    f__law_label := c.def_ 10 (d := d__law_label) rfl,
    f__law_said := c.def_ 11 (d := d__law_said) rfl,
    f__law_due := c.def_ 12 (d := d__law_due) rfl,
    f__law_right := c.def_ 13 (d := d__law_right) rfl,
    f_law := c.def_ 14 (d := d_law) rfl,
    f_NoKey____init__ := c.def_ 15 (d := d_NoKey____init__) rfl,
    g_is_integer := He.glo_ok X G (c.fact 0 (f := .glo "is_integer") rfl),
    g_is_sequence := He.glo_ok X G (c.fact 1 (f := .glo "is_sequence") rfl),
    g_key_fault := He.glo_ok X G (c.fact 2 (f := .glo "key_fault") rfl),
    g_cut_key := He.glo_ok X G (c.fact 3 (f := .glo "cut_key") rfl),
    g_split_key := He.glo_ok X G (c.fact 4 (f := .glo "split_key") rfl),
    g_bytes_of := He.glo_ok X G (c.fact 5 (f := .glo "bytes_of") rfl),
    g_numbers_of := He.glo_ok X G (c.fact 6 (f := .glo "numbers_of") rfl),
    g__law_rng := He.glo_ok X G (c.fact 7 (f := .glo "_law_rng") rfl),
    g__law_draw := He.glo_ok X G (c.fact 8 (f := .glo "_law_draw") rfl),
    g__law_pick := He.glo_ok X G (c.fact 9 (f := .glo "_law_pick") rfl),
    g__law_label := He.glo_ok X G (c.fact 10 (f := .glo "_law_label") rfl),
    g__law_said := He.glo_ok X G (c.fact 11 (f := .glo "_law_said") rfl),
    g__law_due := He.glo_ok X G (c.fact 12 (f := .glo "_law_due") rfl),
    g__law_right := He.glo_ok X G (c.fact 13 (f := .glo "_law_right") rfl),
    g_law := He.glo_ok X G (c.fact 14 (f := .glo "law") rfl),
    g_NoKey := He.glo_ok X G (c.fact 15 (f := .glo "NoKey") rfl),
    g_ForestError := He.glo_ok X G (c.fact 16 (f := .glo "ForestError") rfl),
    oex_NoKey := oexB_ok (ex_0 e),
    xn_NoKey := ex_1 e,
    mt := mtB_ok (ex_2 e),
    sm := smB_ok (ex_3 e),
    xf_place := xfOkB_ok (ex_4 e),
    td__law_right__law := of_decide_eq_true (ex_5 e),
    td_law___law_right := of_decide_eq_true (ex_6 e),
    b_isinstance := He.free_ok X G (c.fact 17 (f := .free "isinstance") rfl),
    b_int := He.free_ok X G (c.fact 18 (f := .free "int") rfl),
    b_bool := He.free_ok X G (c.fact 19 (f := .free "bool") rfl),
    b_tuple := He.free_ok X G (c.fact 20 (f := .free "tuple") rfl),
    b_list := He.free_ok X G (c.fact 21 (f := .free "list") rfl),
    b_len := He.free_ok X G (c.fact 22 (f := .free "len") rfl),
    b_enumerate := He.free_ok X G (c.fact 23 (f := .free "enumerate") rfl),
    b_bytes := He.free_ok X G (c.fact 24 (f := .free "bytes") rfl),
    b_abs := He.free_ok X G (c.fact 25 (f := .free "abs") rfl),
    b_range := He.free_ok X G (c.fact 26 (f := .free "range") rfl),
    b_repr := He.free_ok X G (c.fact 27 (f := .free "repr") rfl),
    tk__law_right := tk__law_right,
    tb__law_right := tb__law_right,
    tk_law := tk_law,
    tb_law := tb_law }
end LawProof
open PySem PySem.W PySem.Calls PyProof.Rows
set_option maxRecDepth 100000 in
set_option maxHeartbeats 0 in
theorem PySem.Challenge.cw_forestrows_k46_keys_and_their_labels_holds : PySem.Challenge.rw_forestrows_k46_keys_and_their_labels.Holds := by
  w_on; o_law
  refine HandSHeadRun.head_any (r := OpenLaw.row PySem.Challenge.rw_forestrows_k46_keys_and_their_labels) (q := view (OpenLaw.row PySem.Challenge.rw_forestrows_k46_keys_and_their_labels).prog [21]) (H := LawProof.hk) (ob := LawProof.ob) (M := 20000) (loose := LawProof.loose) (d := HandSHeadRun.topDef (OpenLaw.row PySem.Challenge.rw_forestrows_k46_keys_and_their_labels).prog 21) (kwd := []) LawProof.ob_eq
    (by kernel_rfl) (fun s => by kernel_rfl) LawProof.run (by kernel_rfl) (by kernel_rfl) (by kernel_rfl) (by rfl) (by first | assumption | decide +kernel) (by decide +kernel) ⟨rfl, rfl, rfl, rfl, rfl, by decide +kernel⟩ ?hw ?hc
  case hw => w_witness2
  case hc =>
    refine DL.walk_DT (l := PySem.Challenge.rw_forestrows_k46_keys_and_their_labels) (n := 63) (k := 7) (x := "_law_script") rfl (by decide) (by kernel_rfl) ⟨⟨rfl, by decide, by decide⟩, rfl⟩ ?F
    intro w mg fa h Y G hmg0
    obtain ⟨K0, KX0, c1, c2, c3⟩ := Y
    have KX := DL.cut_in (ts := LawProof.ts) KX0
    have tk : ∀ d ∈ LawProof.ts, DL.TabK h (DL.cutTab K0 LawProof.ts) d := fun d hd => DL.tabK_of KX0 (List.all_eq_true.mp c3 d hd)
    generalize DL.cutTab K0 LawProof.ts = K at KX c1 c2 tk
    have hmg : mg ("law" : PySem.Str) = some (.ref fa) := by
      have e : (HandSHeadRun.topDef (OpenLaw.row PySem.Challenge.rw_forestrows_k46_keys_and_their_labels).prog 21).name = ("law" : PySem.Str) := by kernel_rfl
      rw [<- e]
      exact hmg0
    have tk__law_right := tk ("_law_right", none) (show (("_law_right", none) : Str × Option Str) ∈ ([("_law_right", none), ("law", none)] : List (Str × Option Str)) from (.head _))
    have tk_law := tk ("law", none) (show (("law", none) : Str × Option Str) ∈ ([("_law_right", none), ("law", none)] : List (Str × Option Str)) from (.tail _ (.head _)))
    refine ⟨LawProof.clw K PySem.Challenge.rw_forestrows_k46_keys_and_their_labels.prog w, K, LawProof.sp_law, DL.csOf K LawProof.ts, fun q hq => ?_, KX, DL.tabs_at KX tk, LawProof.law_sp, fun base KB NB TBs => ?_⟩
    · have hq : q ∈ DL.tabsOf (LawProof.cl K) := hq
      rw [LawProof.tabs_cl tk_law.nz tk__law_right.nz] at hq
      rcases List.mem_cons.mp hq with rfl | hq
      · exact (show DL.tabD K ("law", none) ∈ [DL.tabD K ("_law_right", none), DL.tabD K ("law", none)] from (.tail _ (.head _)))
      rcases List.mem_cons.mp hq with rfl | hq
      · exact (show DL.tabD K ("_law_right", none) ∈ [DL.tabD K ("_law_right", none), DL.tabD K ("law", none)] from (.head _))
      cases hq
    have T := LawProof.tx_of KB NB c1 c2 ⟨h, tk__law_right⟩ (TBs (DL.codeF K (He.fAd K ("_law_right", none)), DL.tabD K ("_law_right", none)) (show (DL.codeF K (He.fAd K ("_law_right", none)), DL.tabD K ("_law_right", none)) ∈ [(DL.codeF K (He.fAd K ("_law_right", none)), DL.tabD K ("_law_right", none)), (DL.codeF K (He.fAd K ("law", none)), DL.tabD K ("law", none))] from (.head _))) ⟨h, tk_law⟩ (TBs (DL.codeF K (He.fAd K ("law", none)), DL.tabD K ("law", none)) (show (DL.codeF K (He.fAd K ("law", none)), DL.tabD K ("law", none)) ∈ [(DL.codeF K (He.fAd K ("_law_right", none)), DL.tabD K ("_law_right", none)), (DL.codeF K (He.fAd K ("law", none)), DL.tabD K ("law", none))] from (.tail _ (.head _))))
    have e := hmg.symm.trans T.g_law
    cases e
    obtain ⟨f, fd2, h1, h2, h3, h4⟩ := (LawProof.core_law (P := PySem.Challenge.rw_forestrows_k46_keys_and_their_labels.prog) (w := w) (base := base) T T.f_law).fn T.g_law LawProof.hb_law
    have e1 := h1.symm.trans T.g_law
    cases e1
    exact ⟨fd2, h3, h4⟩
