import PyProof.Rows.All
import Wide.All
import OpenK.AllK
import Wide.FinOn
import HandS.ForMost
import HandS.ForExc
import HandS.IsInst
import HandS.Flow
import HandS.Wide
import HandS.Lambda
import HandS.ExcInit
import HandS.NoneIn
import KE.KDictKeyed
import KE.KDflt
import HandS.TupAny
import HandS.Style
import HandS.Defaults
import HandS.RaiseMore
import HandS.Head0
import HandS.Head1
import HandS.Head2
import HandS.HeadEnd
import HandS.HeadHook1
import HandS.HeadHook2
import KE.DataEq
import HandS.HeadHook3
import HandS.HeadHook4
import HandS.Text
import HandS.Zip
import HandS.ClsMeth
import HandS.Dict
import HandS.DictComp
import HandS.Bytes
import HandS.OwnEq
import PyProof.InstNe
import HandS.ExcField
import HandS.TryMany
import KE.GoesEnum
import HandS.ExcIs
import HandS.Conv
import HandS.ListEq
import HandS.DictEq
import HandS.BytesMake
import HandS.More
import HandS.SortKw
import KE.SortKeyHeap
import KE.SortData
import KE.KSortKey
import HandS.FStr
import HandS.Codes
import HandS.Star
import HandS.EndTab
import HandS.NestedK
import PyProof.FactsBase
import PyProof.TableTree
import PyProof.FactsTree
import PyProof.PlainAttrs
import KE.GoesMore
import Wide.BytesRules
import PyProof.EqAt
import PyProof.EqKinds
import PyProof.NeKinds
import PyProof.FactsAll.subtypes_3
import PyProof.FactsAll.subtypes_6
import KE.GoesEnumKw
import KE.GoesZip
import HandS.ExcValue
import KE.KSortAsk
import HandS.Iter
import KE.LtData
import HandS.Flt
import HandS.Property
import HandS.HeadNt
import KE.KDictPairs
import PyProof.MeetsDictList
import PyProof.DictRoadsH
import PyProof.DictMoreH
import PyProof.DictItems
import PyProof.AutoIntOps
import OpenK.KMeth
import KE.KOpsOwn
import KE.KStateDown
import Lean
import PySem.Challenge.RW_forestrows_k05_questions_refused
set_option Elab.async false
set_option linter.all false
set_option maxRecDepth 100000
set_option maxHeartbeats 2000000
namespace DL
open PySem L2
inductive D where
  | non | bl (b : Bool) | int (i : Int) | str (x : Str) | byt (b : Array UInt8) | ty (n : String) | ref (a : Addr)
  | lst (xs : List D) | tup (xs : List D)
  | dK (ks : List Key) (ds : List D) | dT (ep : Nat) (ks : List (List (Option Key))) (ds : List D)
  | obj (c : Nat) (ns : List Str) (ds : List D)
  | cls (c : Nat)
  | exc (a dd : Addr) (c : Nat) (ns : List Str) (ds : List D)
  | xob (c : Nat) (ns : List Str) (ds : List D)
  | thk (f c : Addr) (q : Str) (vs : List V) (ds : List D)
  | dN (ep : Nat) (ks : List (Option Key)) (ds : List D)
  | fn (j : Nat) (C : List (Str × Addr))
  | cel (o : Obj) (d : D)
structure LamSyn where
  N : List Str
  q : Str
  params : Arguments
  body : Expr
  scope : Scope
  df : List Int
structure ClW where
  f : Nat -> Addr
  p : Program
  w : World
  lam : Nat -> Option LamSyn := fun _ => none
instance : CoeFun ClW (fun _ => Nat -> Addr) := ⟨ClW.f⟩
instance : Coe ClW (Nat -> Addr) := ⟨ClW.f⟩
abbrev Mem := Addr -> Option D
abbrev Env := List (Option D)
def updM (M : Mem) (a : Addr) (d : D) : Mem := fun b => if b = a then some d else M b
def delM (M : Mem) (a : Addr) : Mem := fun b => if b = a then none else M b
theorem updM_same {M : Mem} {a : Addr} {d : D} : updM M a d a = some d := if_pos rfl
theorem updM_ne {M : Mem} {a b : Addr} {d : D} (h : b ≠ a) : updM M a d b = M b := if_neg h
theorem delM_same {M : Mem} {a : Addr} : delM M a a = none := if_pos rfl
theorem delM_ne {M : Mem} {a b : Addr} (h : b ≠ a) : delM M a b = M b := if_neg h
theorem updM_updM {M : Mem} {a : Addr} {d e : D} : updM (updM M a d) a e = updM M a e := by
  funext b; unfold updM; split <;> rfl
theorem delM_updM {M : Mem} {a : Addr} {d : D} (h : M a = none) : delM (updM M a d) a = M := by
  funext b
  by_cases e : b = a
  · subst e; rw [delM_same, h]
  · rw [delM_ne e, updM_ne e]
def SqT1 (K : PySem.W.Frag) (F : Hp) (a : Addr) (vs : List V) : Prop := F a = some (.tup vs) \/
  ∃ (o : Obj) (its : Array Value) (n : Nat), K.lookup a = some o /\ o.cls = .type "tuple" /\ o.data = .seq its n /\ its.size <= sizeLine /\ Vals vs its.toList
theorem SqT1.of {K : PySem.W.Frag} {F : Hp} {a : Addr} {vs : List V} (h : F a = some (.tup vs)) : SqT1 K F a vs := .inl h
theorem SqT1.sq {K : PySem.W.Frag} {F : Hp} {a : Addr} {vs : List V} (h : SqT1 K F a vs) : SqT K F a vs := h.elim (fun h => .inl (.inl h)) .inr
theorem SqT1.mono {K : PySem.W.Frag} {F F' : Hp} {a : Addr} {vs : List V} (s : Same F F') (h : SqT1 K F a vs) : SqT1 K F' a vs := h.imp (s _ _) id
def NDict (P : Program) (w : World) (a : Addr) (ep : Nat) (kvs : List (Option Key × V)) : Heap -> Prop := fun h =>
  kvs.length <= sizeLine /\ (a == sysModules) = false /\ ∃ vs, KV kvs vs /\ Heap.DictAt (noneKind P w) h a vs ep
theorem nd_ne_code {P : Program} {w : World} {a c : Addr} {ep : Nat} {kvs : List (Option Key × V)} {q : Str} : HO.ext (NDict P w a ep kvs) ≠ LamX.CodeO c q := fun e => by
  unfold LamX.CodeO at e
  have e' := HO.ext.inj e
  let ob : Obj := { cls := .type "function", data := .fields #[.none, .str q 0] }
  let h : Heap := { objs := Array.replicate (c + 1) ob }
  have hg : ∀ b, h.get? b = if b < c + 1 then some ob else none := fun b => by
    unfold Heap.get?
    by_cases hb : b < c + 1
    · have : h.objs[b]? = some ob := by simp [h, hb]
      rw [this, if_pos hb]
    · have : h.objs[b]? = none := by simp only [h]; rw [Array.getElem?_eq_none]; rw [Array.size_replicate]; exact Nat.not_lt.mp hb
      rw [this, if_neg hb]
  have hc : NDict P w a ep kvs h := by
    rw [e']
    exact ⟨ob, _, 0, by rw [hg, if_pos (Nat.lt_succ_self c)], rfl, rfl⟩
  obtain ⟨_, _, vs, _, o, es, ho, _, hd, _⟩ := hc
  rw [hg] at ho
  split at ho
  · cases ho; cases hd
  · cases ho
abbrev ndO (P : Program) (w : World) (a : Addr) (ep : Nat) (kvs : List (Option Key × V)) : HO := .ext (NDict P w a ep kvs)
def nkV : Option Key -> V
  | none => .non
  | some (.inl i) => .int i
  | some (.inr x) => .str x
def leafOf : Option Key -> Leaf
  | none => .none
  | some (.inl i) => .num i
  | some (.inr x) => .text x
inductive TV : List (List (Option Key) × Addr × V) -> List (List Leaf × Addr × Value) -> Prop
  | nil : TV [] []
  | cons {k : List (Option Key)} {b : Addr} {v : V} {u : Value} {ts : List (List (Option Key) × Addr × V)} {xs : List (List Leaf × Addr × Value)} : RelV v u -> TV ts xs -> TV ((k, b, v) :: ts) ((k.map leafOf, b, u) :: xs)
def TDict (P : Program) (w : World) (a : Addr) (ep : Nat) (ts : List (List (Option Key) × Addr × V)) : Heap -> Prop := fun h =>
  ts.length <= sizeLine /\ (a == sysModules) = false /\ ∃ xs, TV ts xs /\ ∃ o es, h.get? a = some o /\ o.ExactDict /\ o.data = .dict es ep /\ es.toList = xs.map (entryOfKey (tupleKind (leafKind P w))) /\ (xs.map (·.1)).Nodup
theorem td_ne_code {P : Program} {w : World} {a c : Addr} {ep : Nat} {ts : List (List (Option Key) × Addr × V)} {q : Str} : HO.ext (TDict P w a ep ts) ≠ LamX.CodeO c q := fun e => by
  unfold LamX.CodeO at e
  have e' := HO.ext.inj e
  let ob : Obj := { cls := .type "function", data := .fields #[.none, .str q 0] }
  let h : Heap := { objs := Array.replicate (c + 1) ob }
  have hg : ∀ b, h.get? b = if b < c + 1 then some ob else none := fun b => by
    unfold Heap.get?
    by_cases hb : b < c + 1
    · have : h.objs[b]? = some ob := by simp [h, hb]
      rw [this, if_pos hb]
    · have : h.objs[b]? = none := by simp only [h]; rw [Array.getElem?_eq_none]; rw [Array.size_replicate]; exact Nat.not_lt.mp hb
      rw [this, if_neg hb]
  have hc : TDict P w a ep ts h := by
    rw [e']
    exact ⟨ob, _, 0, by rw [hg, if_pos (Nat.lt_succ_self c)], rfl, rfl⟩
  obtain ⟨_, _, vs, _, o, es, ho, _, hd, _⟩ := hc
  rw [hg] at ho
  split at ho
  · cases ho; cases hd
  · cases ho
abbrev tdO (P : Program) (w : World) (a : Addr) (ep : Nat) (ts : List (List (Option Key) × Addr × V)) : HO := .ext (TDict P w a ep ts)
def ObO (a : Addr) (o : Obj) : HO := .ext fun h => h.get? a = some o
theorem ob_ne_code {a c : Addr} {o : Obj} {q : Str} (ho : ∀ vs, o.data ≠ .fields vs) : ObO a o ≠ LamX.CodeO c q := fun e => by
  unfold LamX.CodeO ObO at e
  have e' := HO.ext.inj e
  let ob : Obj := { cls := .type "function", data := .fields #[.none, .str q 0] }
  let h : Heap := { objs := Array.replicate (a + c + 1) ob }
  have hg : ∀ b, h.get? b = if b < a + c + 1 then some ob else none := fun b => by
    unfold Heap.get?
    by_cases hb : b < a + c + 1
    · have : h.objs[b]? = some ob := by simp [h, hb]
      rw [this, if_pos hb]
    · have : h.objs[b]? = none := by simp only [h]; rw [Array.getElem?_eq_none]; rw [Array.size_replicate]; exact Nat.not_lt.mp hb
      rw [this, if_neg hb]
  have hc : h.get? a = some o := by
    have := congrFun e' h
    rw [show (h.get? a = some o) = _ from this]
    exact ⟨ob, _, 0, by rw [hg, if_pos (Nat.lt_succ_of_le (Nat.le_add_left c a))], rfl, rfl⟩
  rw [hg, if_pos (Nat.lt_succ_of_le (Nat.le_add_right a c))] at hc
  exact ho #[.none, .str q 0] (by rw [<- Option.some.inj hc])
def DfOk (F : Hp) (L : LamSyn) (dV : Value) : Prop := (L.df = [] /\ dV = .none) \/ ∃ T, L.df ≠ [] /\ dV = .ref T /\ F T = some (.tup (L.df.map V.int))
theorem DfOk.mono {F F' : Hp} {L : LamSyn} {dV : Value} (s : Same F F') (h : DfOk F L dV) : DfOk F' L dV := h.imp id fun ⟨T, h1, h2, h3⟩ => ⟨T, h1, h2, s _ _ h3⟩
abbrev lamObj (L : LamSyn) (C : List (Str × Addr)) (dV doc pm cv ctv : Value) : Obj := { cls := .type "function", data := .func (PySem.W.kdv_fn "<lambda>" L.q L.params (.expr L.body) L.scope (cloFrom C L.scope.names []) dV doc pm cv ctv) }
section
variable (K : PySem.W.Frag) (cl : ClW)
def XoAt (F : Hp) (a C : Addr) (fs : List (Str × V)) : Prop := (∃ dd, F a = some (exo a C (some dd)) /\ F dd = some (exd dd fs)) \/ (fs = [] /\ F a = some (exo a C none))
theorem XoAt.mono {F F' : Hp} {a C : Addr} {fs : List (Str × V)} (s : Same F F') (h : XoAt F a C fs) : XoAt F' a C fs := by
  rcases h with ⟨dd, h1, h2⟩ | ⟨h1, h2⟩
  · exact .inl ⟨dd, s _ _ h1, s _ _ h2⟩
  · exact .inr ⟨h1, s _ _ h2⟩
mutual
inductive Rep (K : PySem.W.Frag) (cl : ClW) (F : Hp) : V -> D -> Prop where
  | non : Rep K cl F .non .non
  | bl (b : Bool) : Rep K cl F (.bl b) (.bl b)
  | int (i : Int) : Rep K cl F (.int i) (.int i)
  | str (x : Str) : Rep K cl F (.str x) (.str x)
  | byt (b : Array UInt8) : Rep K cl F (.byt b) (.byt b)
  | ty (n : String) : Rep K cl F (.ty n) (.ty n)
  | ref (a : Addr) : Rep K cl F (.ref a) (.ref a)
  | cls (c : Nat) : Rep K cl F (.ref (cl c)) (.cls c)
  | lst {a : Addr} {vs : List V} {ds : List D} : SqL K F a vs -> Reps K cl F vs ds -> Rep K cl F (.ref a) (.lst ds)
  | tup {a : Addr} {vs : List V} {ds : List D} : SqT1 K F a vs -> Reps K cl F vs ds -> Rep K cl F (.ref a) (.tup ds)
  | dK {a : Addr} {ks : List Key} {vs : List V} {ds : List D} : F a = some (.dK (ks.zip vs)) -> ks.length = vs.length -> Reps K cl F vs ds -> Rep K cl F (.ref a) (.dK ks ds)
  | dT {a : Addr} {ep : Nat} {ks : List (List (Option Key))} {ts : List (List (Option Key) × Addr × V)} {ds : List D} : F a = some (tdO cl.p cl.w a ep ts) -> ks = ts.map (·.1) -> (∀ t ∈ ts, SqT1 K F t.2.1 (t.1.map nkV)) -> Reps K cl F (ts.map (·.2.2)) ds -> Rep K cl F (.ref a) (.dT ep ks ds)
  | obj {a dx : Addr} {c : Nat} {ns : List Str} {vs : List V} {ds : List D} : F a = some (.ins (cl c) dx (ns.zip vs)) -> ns.length = vs.length -> Reps K cl F vs ds -> Rep K cl F (.ref a) (.obj c ns ds)
  | exc {a dd : Addr} {c : Nat} {ns : List Str} {vs : List V} {ds : List D} : F dd = some (.xd (ns.zip vs)) -> ns.length = vs.length -> Reps K cl F vs ds -> Rep K cl F (.ref a) (.exc a dd c ns ds)
  | xob {a : Addr} {c : Nat} {ns : List Str} {vs : List V} {ds : List D} : XoAt F a (cl c) (ns.zip vs) -> ns.length = vs.length -> Reps K cl F vs ds -> Rep K cl F (.ref a) (.xob c ns ds)
  | thk {f c : Addr} {q : Str} {vs : List V} {ds : List D} : F c = some (LamX.CodeO c q) -> Reps K cl F vs ds -> Rep K cl F (.ref f) (.thk f c q vs ds)
  | dN {a : Addr} {ep : Nat} {ks : List (Option Key)} {vs : List V} {ds : List D} : F a = some (ndO cl.p cl.w a ep (ks.zip vs)) -> ks.length = vs.length -> Reps K cl F vs ds -> Rep K cl F (.ref a) (.dN ep ks ds)
  | fn {f c : Addr} {j : Nat} {C : List (Str × Addr)} {L : LamSyn} {dV doc pm ctv : Value} : cl.lam j = some L -> F f = some (ObO f (lamObj L C dV doc pm (.ref c) ctv)) -> F c = some (LamX.CodeO c L.q) -> DfOk F L dV -> Rep K cl F (.ref f) (.fn j C)
  | cel {a : Addr} {o : Obj} {u : Value} {v : V} {d : D} : F a = some (ObO a o) -> o.data = .cell (some u) -> RelV v u -> Rep K cl F v d -> Rep K cl F (.ref a) (.cel o d)
inductive Reps (K : PySem.W.Frag) (cl : ClW) (F : Hp) : List V -> List D -> Prop where
  | nil : Reps K cl F [] []
  | cons {v : V} {d : D} {vs : List V} {ds : List D} : Rep K cl F v d -> Reps K cl F vs ds -> Reps K cl F (v :: vs) (d :: ds)
end
end
section
variable {K : PySem.W.Frag} {cl : ClW} {F F' : Hp}
theorem same_l {H H' : Hp} {a : Addr} {xs : List V} (e : Same H H') (h : SqL K H a xs) : SqL K H' a xs := e.seq h
theorem same_t {H H' : Hp} {a : Addr} {xs : List V} (e : Same H H') (h : SqT K H a xs) : SqT K H' a xs := by
  rcases h with (h | ⟨o, h⟩) | h
  · exact .inl (.inl (e _ _ h))
  · exact .inl (.inr ⟨o, e _ _ h⟩)
  · exact .inr h
mutual
theorem Rep.mono (s : Same F F') : ∀ {v : V} {d : D}, Rep K cl F v d -> Rep K cl F' v d
  | _, _, .non => .non
  | _, _, .bl b => .bl b
  | _, _, .int i => .int i
  | _, _, .str x => .str x
  | _, _, .byt b => .byt b
  | _, _, .ty n => .ty n
  | _, _, .ref a => .ref a
  | _, _, .cls c => .cls c
  | _, _, .lst h r => .lst (same_l s h) (Reps.mono s r)
  | _, _, .tup h r => .tup (h.mono s) (Reps.mono s r)
  | _, _, .dK h l r => .dK (s _ _ h) l (Reps.mono s r)
  | _, _, .dT h l q r => .dT (s _ _ h) l (fun t ht => (q t ht).mono s) (Reps.mono s r)
  | _, _, .obj h l r => .obj (s _ _ h) l (Reps.mono s r)
  | _, _, .exc h l r => .exc (s _ _ h) l (Reps.mono s r)
  | _, _, .xob h l r => .xob (h.mono s) l (Reps.mono s r)
  | _, _, .thk h r => .thk (s _ _ h) (Reps.mono s r)
  | _, _, .dN h l r => .dN (s _ _ h) l (Reps.mono s r)
  | _, _, .fn h1 h2 h3 h4 => .fn h1 (s _ _ h2) (s _ _ h3) (h4.mono s)
  | _, _, .cel h1 h2 h3 r => .cel (s _ _ h1) h2 h3 (Rep.mono s r)
theorem Reps.mono (s : Same F F') : ∀ {vs : List V} {ds : List D}, Reps K cl F vs ds -> Reps K cl F' vs ds
  | _, _, .nil => .nil
  | _, _, .cons h r => .cons (Rep.mono s h) (Reps.mono s r)
end
theorem Reps.length : ∀ {vs : List V} {ds : List D}, Reps K cl F vs ds -> vs.length = ds.length
  | _, _, .nil => rfl
  | _, _, .cons _ r => by simp [Reps.length r]
theorem Reps.get : ∀ {vs : List V} {ds : List D} {i : Nat} {d : D}, Reps K cl F vs ds -> ds[i]? = some d -> ∃ v, vs[i]? = some v /\ Rep K cl F v d
  | _, _, _, _, .nil, e => by simp at e
  | _, _, 0, _, .cons r _, e => by simp at e; subst e; exact ⟨_, rfl, r⟩
  | _, _, i + 1, d, .cons _ t, e => by
    obtain ⟨u, h1, h2⟩ := Reps.get (i := i) (d := d) t (by simpa using e)
    exact ⟨u, by simpa using h1, h2⟩
theorem Reps.append : ∀ {vs ws : List V} {ds es : List D}, Reps K cl F vs ds -> Reps K cl F ws es -> Reps K cl F (vs ++ ws) (ds ++ es)
  | _, _, _, _, .nil, s => s
  | _, _, _, _, .cons r t, s => .cons r (Reps.append t s)
theorem Reps.one {v : V} {d : D} (h : Rep K cl F v d) : Reps K cl F [v] [d] := .cons h .nil
theorem Reps.set {v : V} {d : D} (r : Rep K cl F v d) : ∀ {vs : List V} {ds : List D} (i : Nat), Reps K cl F vs ds -> Reps K cl F (vs.set i v) (ds.set i d)
  | _, _, _, .nil => .nil
  | _, _, 0, .cons _ t => .cons r t
  | _, _, i + 1, .cons q t => .cons q (Reps.set r i t)
theorem Reps.take : ∀ {vs : List V} {ds : List D} (n : Nat), Reps K cl F vs ds -> Reps K cl F (vs.take n) (ds.take n)
  | _, _, 0, _ => .nil
  | _, _, _ + 1, .nil => .nil
  | _, _, n + 1, .cons r t => .cons r (Reps.take n t)
theorem Reps.drop : ∀ {vs : List V} {ds : List D} (n : Nat), Reps K cl F vs ds -> Reps K cl F (vs.drop n) (ds.drop n)
  | _, _, 0, r => r
  | _, _, _ + 1, .nil => .nil
  | _, _, n + 1, .cons _ t => Reps.drop n t
theorem Reps.reverse : ∀ {vs : List V} {ds : List D}, Reps K cl F vs ds -> Reps K cl F vs.reverse ds.reverse
  | _, _, .nil => .nil
  | _, _, .cons r t => by
    rw [List.reverse_cons, List.reverse_cons]
    exact (Reps.reverse t).append (.one r)
theorem Reps.inv {vs : List V} {d : D} {ds : List D} (h : Reps K cl F vs (d :: ds)) : ∃ v ws, vs = v :: ws /\ Rep K cl F v d /\ Reps K cl F ws ds := by
  cases h with
  | cons a b => exact ⟨_, _, rfl, a, b⟩
theorem Reps.inv0 {vs : List V} (h : Reps K cl F vs []) : vs = [] := by
  cases h with
  | nil => rfl
theorem Rep.toInt {v : V} {i : Int} (h : Rep K cl F v (.int i)) : v = .int i := by cases h; rfl
theorem Rep.toBl {v : V} {i : Bool} (h : Rep K cl F v (.bl i)) : v = .bl i := by cases h; rfl
theorem Rep.toStr {v : V} {i : Str} (h : Rep K cl F v (.str i)) : v = .str i := by cases h; rfl
theorem Rep.toByt {v : V} {i : Array UInt8} (h : Rep K cl F v (.byt i)) : v = .byt i := by cases h; rfl
theorem Rep.toNon {v : V} (h : Rep K cl F v .non) : v = .non := by cases h; rfl
theorem Rep.toRef {v : V} {a : Addr} (h : Rep K cl F v (.ref a)) : v = .ref a := by cases h; rfl
theorem Rep.toCls {v : V} {c : Nat} (h : Rep K cl F v (.cls c)) : v = .ref (cl c) := by cases h; rfl
theorem Rep.toTy {v : V} {n : String} (h : Rep K cl F v (.ty n)) : v = .ty n := by cases h; rfl
theorem Rep.toLst {v : V} {ds : List D} (h : Rep K cl F v (.lst ds)) : ∃ a vs, v = .ref a /\ SqL K F a vs /\ Reps K cl F vs ds := by
  cases h with | lst a b => exact ⟨_, _, rfl, a, b⟩
theorem Rep.toTup {v : V} {ds : List D} (h : Rep K cl F v (.tup ds)) : ∃ a vs, v = .ref a /\ SqT K F a vs /\ Reps K cl F vs ds := by
  cases h with | tup a b => exact ⟨_, _, rfl, a.sq, b⟩
theorem Rep.toTup1 {v : V} {ds : List D} (h : Rep K cl F v (.tup ds)) : ∃ a vs, v = .ref a /\ SqT1 K F a vs /\ Reps K cl F vs ds := by
  cases h with | tup a b => exact ⟨_, _, rfl, a, b⟩
theorem Rep.toObj {v : V} {c : Nat} {ns : List Str} {ds : List D} (h : Rep K cl F v (.obj c ns ds)) : ∃ a dx vs, v = .ref a /\ F a = some (.ins (cl c) dx (ns.zip vs)) /\ ns.length = vs.length /\ Reps K cl F vs ds := by
  cases h with | obj a b c => exact ⟨_, _, _, rfl, a, b, c⟩
theorem Reps.ints : ∀ {vs : List V} {ns : List Int}, Reps K cl F vs (ns.map D.int) -> vs = ns.map V.int
  | _, [], h => h.inv0
  | _, n :: ns, h => by
    obtain ⟨v, ws, rfl, a, b⟩ := h.inv
    rw [a.toInt, Reps.ints b]; rfl
theorem Reps.of_ints (ns : List Int) : Reps K cl F (ns.map V.int) (ns.map D.int) := by
  induction ns with
  | nil => exact .nil
  | cons n ns ih => exact .cons (.int n) ih
end
section
variable (K : PySem.W.Frag) (cl : ClW)
def RepTop (F H : Hp) (a : Addr) : D -> Prop
  | .lst ds => ∃ vs, H a = some (.lst vs) /\ Reps K cl F vs ds
  | .dK ks ds => ∃ vs, H a = some (.dK (ks.zip vs)) /\ ks.length = vs.length /\ Reps K cl F vs ds
  | .dT ep ks ds => ∃ ts, H a = some (tdO cl.p cl.w a ep ts) /\ ks = ts.map (·.1) /\ (∀ t ∈ ts, SqT1 K F t.2.1 (t.1.map nkV)) /\ Reps K cl F (ts.map (·.2.2)) ds
  | .obj c ns ds => ∃ dx vs, H a = some (.ins (cl c) dx (ns.zip vs)) /\ ns.length = vs.length /\ Reps K cl F vs ds
  | .dN ep ks ds => ∃ vs, H a = some (ndO cl.p cl.w a ep (ks.zip vs)) /\ ks.length = vs.length /\ Reps K cl F vs ds
  | .cel o d => ∃ v u, H a = some (ObO a o) /\ o.data = .cell (some u) /\ RelV v u /\ Rep K cl F v d
  | _ => False
def tabNames : List Str := ["walk_spans.<locals>.<lambda>", "SpanTable.__init__.<locals>.<lambda>", "PairTable.put_rows.<locals>.<lambda>", "KeyTable.put_rows.<locals>.<lambda>", "law.<locals>.<lambda>", "_law_right.<locals>.<lambda>", "_law_asks.<locals>.<lambda>",
  "_law_wrong.<locals>.<lambda>", "_law_refused.<locals>.<lambda>", "_law_odd.<locals>.<lambda>", "KeyTable.__init__.<locals>.<lambda>", "PairTable.__init__.<locals>.<lambda>", "_law_fit.<locals>.<lambda>", "_law_state_right.<locals>.<lambda>", "_law_steps_right.<locals>.<lambda>", "_law_sizes_right.<locals>.<lambda>"]
def tabsOf (cl : Nat -> Addr) : List (Addr × Str) := tabNames.zipIdx.filterMap fun p => if cl (1000 + p.2) = 0 then none else some (cl (1000 + p.2), p.1)
structure Good (F H : Hp) (M : Mem) : Prop where
  sub : Same F H
  cell : ∀ a d, M a = some d -> F a = none /\ RepTop K cl F H a d
  tab : LamX.Tabs (tabsOf cl) H
  noT : ∀ b ps, F b ≠ some (.tbl ps)
structure Slots (F : Hp) (σ : St) (ρ : Env) : Prop where
  len : σ.length = ρ.length
  get : ∀ (i : Nat) d, ρ[i]? = some (some d) -> ∃ v, σ[i]? = some (some v) /\ Rep K cl F v d
def ExcAt (F : Hp) (dd : Option Addr) (ns : List Str) (ds : List D) : Prop :=
  (dd = none /\ ns = [] /\ ds = []) \/ ∃ d vs, dd = some d /\ F d = some (.xd (ns.zip vs)) /\ ns.length = vs.length /\ Reps K cl F vs ds
end
section
variable {K : PySem.W.Frag} {cl : ClW} {F F' H H' : Hp} {M : Mem}
theorem same_new {H : Hp} {p : Addr} {o : HO} (h : H p = none) : Same H (upd H p o) := fun a u e => by
  rw [upd_ne (ne_of_none e h)]; exact e
theorem RepTop.mono {a : Addr} {d : D} (s : Same F F') (h : RepTop K cl F H a d) (hH : ∀ o, H a = some o -> H' a = some o) : RepTop K cl F' H' a d := by
  cases d with
  | lst ds => obtain ⟨vs, h1, h2⟩ := h; exact ⟨vs, hH _ h1, h2.mono s⟩
  | dK ks ds => obtain ⟨vs, h1, h2, h3⟩ := h; exact ⟨vs, hH _ h1, h2, h3.mono s⟩
  | dT ep ks ds => obtain ⟨ts, h1, h2, h3, h4⟩ := h; exact ⟨ts, hH _ h1, h2, fun t ht => (h3 t ht).mono s, h4.mono s⟩
  | dN ep ks ds => obtain ⟨vs, h1, h2, h3⟩ := h; exact ⟨vs, hH _ h1, h2, h3.mono s⟩
  | obj c ns ds => obtain ⟨dx, vs, h1, h2, h3⟩ := h; exact ⟨dx, vs, hH _ h1, h2, h3.mono s⟩
  | cel o d => obtain ⟨v, u, h1, h2, h3, h4⟩ := h; exact ⟨v, u, hH _ h1, h2, h3, h4.mono s⟩
  | _ => exact h.elim
theorem RepTop.there {a : Addr} {d : D} (h : RepTop K cl F H a d) : ∃ o, H a = some o := by
  cases d with
  | lst ds => obtain ⟨vs, h1, _⟩ := h; exact ⟨_, h1⟩
  | dK ks ds => obtain ⟨vs, h1, _⟩ := h; exact ⟨_, h1⟩
  | dT ep ks ds => obtain ⟨ts, h1, _⟩ := h; exact ⟨_, h1⟩
  | dN ep ks ds => obtain ⟨vs, h1, _⟩ := h; exact ⟨_, h1⟩
  | obj c ns ds => obtain ⟨dx, vs, h1, _⟩ := h; exact ⟨_, h1⟩
  | cel o d => obtain ⟨v, u, h1, _⟩ := h; exact ⟨_, h1⟩
  | _ => exact h.elim
theorem RepTop.plain {a : Addr} {d : D} (h : RepTop K cl F H a d) : ∃ o, H a = some o /\ (∀ ps, o ≠ .tbl ps) /\ ∀ c q, o ≠ LamX.CodeO c q := by
  cases d with
  | lst ds => obtain ⟨vs, h1, _⟩ := h; exact ⟨_, h1, (fun _ e => by cases e), fun _ _ e => by unfold LamX.CodeO at e; cases e⟩
  | dK ks ds => obtain ⟨vs, h1, _⟩ := h; exact ⟨_, h1, (fun _ e => by cases e), fun _ _ e => by unfold LamX.CodeO at e; cases e⟩
  | dT ep ks ds => obtain ⟨ts, h1, _⟩ := h; exact ⟨_, h1, (fun _ e => by cases e), fun _ _ e => td_ne_code e⟩
  | dN ep ks ds => obtain ⟨vs, h1, _⟩ := h; exact ⟨_, h1, (fun _ e => by cases e), fun _ _ e => nd_ne_code e⟩
  | obj c ns ds => obtain ⟨dx, vs, h1, _⟩ := h; exact ⟨_, h1, (fun _ e => by cases e), fun _ _ e => by unfold LamX.CodeO at e; cases e⟩
  | cel o d => obtain ⟨v, u, h1, h2, _⟩ := h; exact ⟨_, h1, (fun _ e => by cases e), fun _ _ e => ob_ne_code (fun vs z => by rw [h2] at z; cases z) e⟩
  | _ => exact h.elim
theorem tabs_put {T : List (Addr × Str)} {p : Addr} {o' : HO} (t : LamX.Tabs T H) {o : HO} (hp : H p = some o) (h1 : ∀ ps, o ≠ .tbl ps) (h2 : ∀ c q, o ≠ LamX.CodeO c q) : LamX.Tabs T (upd H p o') := fun q hq => by
  obtain ⟨ps, a1, a2, a3⟩ := t q hq
  have n1 : q.1 ≠ p := fun z => by rw [z, hp] at a1; exact h1 ps (Option.some.inj a1)
  refine ⟨ps, by rw [upd_ne n1]; exact a1, a2, fun pos cv hcv => ?_⟩
  obtain ⟨c, e1, e2⟩ := a3 pos cv hcv
  have n2 : c ≠ p := fun z => by rw [z, hp] at e2; exact h2 _ _ (Option.some.inj e2)
  exact ⟨c, e1, by rw [upd_ne n2]; exact e2⟩
theorem Good.freshF (g : Good K cl F H M) {p : Addr} (h : H p = none) : F p = none := g.sub.free h
theorem Good.freshM (g : Good K cl F H M) {p : Addr} (h : H p = none) : M p = none := by
  cases e : M p with
  | none => rfl
  | some d => obtain ⟨o, q⟩ := (g.cell p d e).2.there; rw [h] at q; cases q
theorem Good.new (g : Good K cl F H M) {p : Addr} {o : HO} (h : H p = none) (ho : ∀ ps, o ≠ .tbl ps := by intro _ z; cases z) : Good K cl (upd F p o) (upd H p o) M where
  tab := g.tab.ext (same_new h)
  noT := fun b ps e => by
    by_cases q : b = p
    · subst q; rw [upd_same] at e; exact ho ps (Option.some.inj e)
    · rw [upd_ne q] at e; exact g.noT b ps e
  sub := fun a u e => by
    by_cases q : a = p
    · subst q; rw [upd_same] at e ⊢; exact e
    · rw [upd_ne q] at e ⊢; exact g.sub a u e
  cell := fun a d e => by
    obtain ⟨h1, h2⟩ := g.cell a d e
    have ne : a ≠ p := fun z => by rw [z, g.freshM h] at e; cases e
    refine ⟨by rw [upd_ne ne]; exact h1, h2.mono (same_new (g.freshF h)) fun u q => by rw [upd_ne ne]; exact q⟩
theorem Good.junk (g : Good K cl F H M) {p : Addr} {o : HO} (h : H p = none) : Good K cl F (upd H p o) M where
  tab := g.tab.ext (same_new h)
  noT := g.noT
  sub := fun a u e => (same_new h) a u (g.sub a u e)
  cell := fun a d e => by
    obtain ⟨h1, h2⟩ := g.cell a d e
    exact ⟨h1, h2.mono (Same.refl F) (same_new h a)⟩
theorem Good.newM (g : Good K cl F H M) {p : Addr} {o : HO} {d : D} (h : H p = none) (r : RepTop K cl F (upd H p o) p d) : Good K cl F (upd H p o) (updM M p d) where
  tab := g.tab.ext (same_new h)
  noT := g.noT
  sub := fun a u e => (same_new h) a u (g.sub a u e)
  cell := fun a e q => by
    by_cases z : a = p
    · subst z; rw [updM_same] at q; cases q; exact ⟨g.freshF h, r⟩
    · rw [updM_ne z] at q
      obtain ⟨h1, h2⟩ := g.cell a e q
      exact ⟨h1, h2.mono (Same.refl F) (same_new h a)⟩
theorem Good.put (g : Good K cl F H M) {p : Addr} {o : HO} {d e : D} (h : M p = some e) (r : RepTop K cl F (upd H p o) p d) : Good K cl F (upd H p o) (updM M p d) where
  tab := by
    obtain ⟨o', h1, h2, h3⟩ := (g.cell p e h).2.plain
    exact tabs_put g.tab h1 h2 h3
  noT := g.noT
  sub := fun a u q => by
    have ne : a ≠ p := fun z => by rw [z, (g.cell p e h).1] at q; cases q
    rw [upd_ne ne]; exact g.sub a u q
  cell := fun a b q => by
    by_cases z : a = p
    · subst z; rw [updM_same] at q; cases q; exact ⟨(g.cell _ _ h).1, r⟩
    · rw [updM_ne z] at q
      obtain ⟨h1, h2⟩ := g.cell a b q
      exact ⟨h1, h2.mono (Same.refl F) fun u w => by rw [upd_ne z]; exact w⟩
theorem Good.freeze (g : Good K cl F H M) {p : Addr} {d : D} (h : M p = some d) : ∃ F', Same F F' /\ Good K cl F' H (delM M p) /\ Rep K cl F' (.ref p) d := by
  obtain ⟨h1, h2⟩ := g.cell p d h
  obtain ⟨o, ho⟩ := h2.there
  have sm : Same F (upd F p o) := same_new h1
  have gd : Good K cl (upd F p o) H (delM M p) := {
    tab := g.tab
    noT := fun b ps e => by
      by_cases q : b = p
      · subst q
        rw [upd_same] at e
        obtain ⟨o', k1, k2, _⟩ := h2.plain
        rw [ho] at k1
        exact k2 ps (by rw [<- Option.some.inj k1]; exact Option.some.inj e)
      · rw [upd_ne q] at e; exact g.noT b ps e
    sub := fun a u e => by
      by_cases q : a = p
      · subst q; rw [upd_same] at e; rw [<- e]; exact ho
      · rw [upd_ne q] at e; exact g.sub a u e
    cell := fun a b q => by
      by_cases z : a = p
      · subst z; rw [delM_same] at q; cases q
      · rw [delM_ne z] at q
        obtain ⟨k1, k2⟩ := g.cell a b q
        exact ⟨by rw [upd_ne z]; exact k1, k2.mono sm fun u w => w⟩ }
  refine ⟨upd F p o, sm, gd, ?_⟩
  cases d with
  | lst ds => obtain ⟨vs, h1, h2⟩ := h2; rw [h1] at ho; cases ho; exact .lst (SqL.of upd_same) (h2.mono sm)
  | dK ks ds => obtain ⟨vs, h1, h2, h3⟩ := h2; rw [h1] at ho; cases ho; exact .dK upd_same h2 (h3.mono sm)
  | dT ep ks ds => obtain ⟨ts, h1, h2, h3, h4⟩ := h2; rw [h1] at ho; cases ho; exact .dT upd_same h2 (fun t ht => (h3 t ht).mono sm) (h4.mono sm)
  | dN ep ks ds => obtain ⟨vs, h1, h2, h3⟩ := h2; rw [h1] at ho; cases ho; exact .dN upd_same h2 (h3.mono sm)
  | obj c ns ds => obtain ⟨dx, vs, h1, h2, h3⟩ := h2; rw [h1] at ho; cases ho; exact .obj upd_same h2 (h3.mono sm)
  | cel o d => obtain ⟨v, u, h1, h2, h3, h4⟩ := h2; rw [h1] at ho; cases ho; exact .cel upd_same h2 h3 (h4.mono sm)
  | _ => exact h2.elim
theorem Slots.mono {σ : St} {ρ : Env} (s : Same F F') (h : Slots K cl F σ ρ) : Slots K cl F' σ ρ := ⟨h.len, fun i d e => by
  obtain ⟨v, h1, h2⟩ := h.get i d e
  exact ⟨v, h1, h2.mono s⟩⟩
theorem Slots.set {σ : St} {ρ : Env} {v : V} {d : D} (h : Slots K cl F σ ρ) (i : Nat) (r : Rep K cl F v d) : Slots K cl F (σ.set i (some v)) (ρ.set i (some d)) := ⟨by rw [List.length_set, List.length_set]; exact h.len, fun j e q => by
  by_cases z : i = j
  · subst z
    rw [List.getElem?_set_self'] at q ⊢
    cases w : ρ[i]? with
    | none => rw [w] at q; cases q
    | some x =>
      rw [w] at q
      have hi : i < σ.length := by rw [h.len]; exact (List.getElem?_eq_some_iff.mp w).1
      have e1 : some d = some e := Option.some.inj q
      cases e1
      rw [List.getElem?_eq_getElem hi]
      exact ⟨v, rfl, r⟩
  · rw [List.getElem?_set_ne z] at q ⊢
    exact h.get j e q⟩
theorem Slots.setN {σ : St} {ρ : Env} {v : Option V} (h : Slots K cl F σ ρ) (i : Nat) : Slots K cl F (σ.set i v) (ρ.set i none) := ⟨by rw [List.length_set, List.length_set]; exact h.len, fun j e q => by
  by_cases z : i = j
  · subst z
    rw [List.getElem?_set_self'] at q
    cases w : ρ[i]? with
    | none => rw [w] at q; cases q
    | some x => rw [w] at q; cases q
  · rw [List.getElem?_set_ne z] at q ⊢
    exact h.get j e q⟩
end
abbrev DV := D -> Mem -> Prop
abbrev DX := Nat -> List Str -> List D -> Env -> Mem -> Prop
abbrev DTE := Env -> Mem -> DV -> DX -> Prop
abbrev DTT := Env -> Mem -> (Bool -> Mem -> Prop) -> DX -> Prop
abbrev DTA := Env -> Mem -> (List D -> Mem -> Prop) -> DX -> Prop
structure DEnds where
  nx : Env -> Mem -> Prop
  rt : DV
  bk : Env -> Mem -> Prop
  ct : Env -> Mem -> Prop
  ex : DX
abbrev DTS := DEnds -> Env -> Mem -> Prop
abbrev DEK := Nat -> List Str -> List D -> Mem -> Prop
abbrev SpD := List D -> Mem -> DV -> DEK -> Prop
section
variable (K : PySem.W.Frag) (cl : ClW)
def Post (F : Hp) (Q : VK) (Qd : DV) : Prop := ∀ v H' F' d M', Same F F' -> Good K cl F' H' M' -> Rep K cl F' v d -> Qd d M' -> Q v H'
def PostT (F : Hp) (Q : Bool -> Hp -> Prop) (Qd : Bool -> Mem -> Prop) : Prop := ∀ b H' F' M', Same F F' -> Good K cl F' H' M' -> Qd b M' -> Q b H'
def PostA (F : Hp) (Q : List V -> Hp -> Prop) (Qd : List D -> Mem -> Prop) : Prop := ∀ vs H' F' ds M', Same F F' -> Good K cl F' H' M' -> Reps K cl F' vs ds -> Qd ds M' -> Q vs H'
def PostS (F : Hp) (Q : St -> Hp -> Prop) (Qd : Env -> Mem -> Prop) : Prop := ∀ σ H' F' ρ M', Same F F' -> Good K cl F' H' M' -> Slots K cl F' σ ρ -> Qd ρ M' -> Q σ H'
def WOk (W : WX) (F : Hp) (Xd : DX) : Prop := ∀ c ns ds σ H' F' ρ M' dd, Same F F' -> Good K cl F' H' M' -> Slots K cl F' σ ρ -> ExcAt K cl F' dd ns ds -> Xd c ns ds ρ M' -> W (.ref (cl c)) dd σ H'
def EOk (F : Hp) (E : XK) (Ed : DEK) : Prop := ∀ c ns ds H' F' M' dd, Same F F' -> Good K cl F' H' M' -> ExcAt K cl F' dd ns ds -> Ed c ns ds M' -> E (.ref (cl c)) dd H'
structure EndsOk (W : WX) (F : Hp) (D : Ends) (Dd : DEnds) : Prop where
  nx : PostS K cl F D.nx Dd.nx
  rt : Post K cl F D.rt Dd.rt
  bk : PostS K cl F D.bk Dd.bk
  ct : PostS K cl F D.ct Dd.ct
  ex : WOk K cl W F Dd.ex
def lowE (W : WX) (τ : DTE) : TE := fun σ H Q => ∃ F ρ M Qd Xd, Good K cl F H M /\ Slots K cl F σ ρ /\ τ ρ M Qd Xd /\ Post K cl F Q Qd /\ WOk K cl W F Xd
def lowT (W : WX) (τ : DTT) : TT := fun σ H Q => ∃ F ρ M Qd Xd, Good K cl F H M /\ Slots K cl F σ ρ /\ τ ρ M Qd Xd /\ PostT K cl F Q Qd /\ WOk K cl W F Xd
def lowA (W : WX) (τ : DTA) : TA := fun σ H Q => ∃ F ρ M Qd Xd, Good K cl F H M /\ Slots K cl F σ ρ /\ τ ρ M Qd Xd /\ PostA K cl F Q Qd /\ WOk K cl W F Xd
def lowS (W : WX) (τ : DTS) : TS := fun D σ H => ∃ F ρ M Dd, Good K cl F H M /\ Slots K cl F σ ρ /\ τ Dd ρ M /\ EndsOk K cl W F D Dd
def lower (spd : SpD) : Sp := fun vs H Q E => ∃ F M ds Qd Ed, Good K cl F H M /\ Reps K cl F vs ds /\ spd ds M Qd Ed /\ Post K cl F Q Qd /\ EOk K cl F E Ed
end
section
variable {K : PySem.W.Frag} {cl : ClW} {F F' : Hp}
theorem Post.mono {Q : VK} {Qd : DV} (s : Same F F') (h : Post K cl F Q Qd) : Post K cl F' Q Qd := fun v H' G d M' s' => h v H' G d M' (s.trans s')
theorem PostT.mono {Q : Bool -> Hp -> Prop} {Qd : Bool -> Mem -> Prop} (s : Same F F') (h : PostT K cl F Q Qd) : PostT K cl F' Q Qd := fun v H' G M' s' => h v H' G M' (s.trans s')
theorem PostS.mono {Q : St -> Hp -> Prop} {Qd : Env -> Mem -> Prop} (s : Same F F') (h : PostS K cl F Q Qd) : PostS K cl F' Q Qd := fun v H' G d M' s' => h v H' G d M' (s.trans s')
theorem WOk.mono {W : WX} {Xd : DX} (s : Same F F') (h : WOk K cl W F Xd) : WOk K cl W F' Xd := fun c ns ds σ H' G ρ M' dd s' => h c ns ds σ H' G ρ M' dd (s.trans s')
theorem EndsOk.mono {W : WX} {D : Ends} {Dd : DEnds} (s : Same F F') (h : EndsOk K cl W F D Dd) : EndsOk K cl W F' D Dd := ⟨h.nx.mono s, h.rt.mono s, h.bk.mono s, h.ct.mono s, h.ex.mono s⟩
end
structure DE (cl : ClW) (X : Cx) (W : WX) (e : Expr) (τ : DTE) : Prop where
  pe : PE X e (lowE X.K cl W τ)
structure DT (cl : ClW) (X : Cx) (W : WX) (e : Expr) (τ : DTT) : Prop where
  pt : PT X e (lowT X.K cl W τ)
structure DW (cl : ClW) (X : Cx) (W : WX) (e : Expr) (τ : DTT) : Prop where
  pw : PW X e (lowT X.K cl W τ)
structure DA (cl : ClW) (X : Cx) (W : WX) (es : List Expr) (τ : DTA) : Prop where
  pa : PA X es (lowA X.K cl W τ)
structure DS (cl : ClW) (X : Cx) (W : WX) (st : Stmt) (τ : DTS) : Prop where
  ps : PS X st (lowS X.K cl W τ)
structure DSs (cl : ClW) (X : Cx) (W : WX) (st : List Stmt) (τ : DTS) : Prop where
  pss : PSs X st (lowS X.K cl W τ)
section
variable {cl : ClW} {X : Cx} {W : WX}
theorem pe_imp {e : Expr} {t t' : TE} (h : PE X e t) (i : ∀ σ H Q, t' σ H Q -> t σ H Q) : PE X e t' := ⟨fun pins s σ H Q I q => h.run pins s σ H Q I (i σ H Q q)⟩
theorem pt_imp {e : Expr} {t t' : TT} (h : PT X e t) (i : ∀ σ H Q, t' σ H Q -> t σ H Q) : PT X e t' := ⟨fun pins s σ H Q I q => h.run pins s σ H Q I (i σ H Q q)⟩
theorem pw_imp {e : Expr} {t t' : TT} (h : PW X e t) (i : ∀ σ H Q, t' σ H Q -> t σ H Q) : PW X e t' := ⟨fun wh pins s σ H Q I q => h.run wh pins s σ H Q I (i σ H Q q)⟩
theorem pa_imp {es : List Expr} {t t' : TA} (h : PA X es t) (i : ∀ σ H Q, t' σ H Q -> t σ H Q) : PA X es t' := ⟨fun pos pins s σ H Q I q => h.run pos pins s σ H Q I (i σ H Q q)⟩
theorem ps_imp {st : Stmt} {t t' : TS} (h : PS X st t) (i : ∀ D σ H, t' D σ H -> t D σ H) : PS X st t' := ⟨fun pins s σ H D I q => h.run pins s σ H D I (i D σ H q)⟩
theorem pss_imp {st : List Stmt} {t t' : TS} (h : PSs X st t) (i : ∀ D σ H, t' D σ H -> t D σ H) : PSs X st t' := ⟨fun pins s σ H D I q => h.run pins s σ H D I (i D σ H q)⟩
end
end DL
set_option Elab.async false
set_option linter.all false
set_option maxRecDepth 100000
set_option maxHeartbeats 2000000
namespace DL
open PySem L2
def vw (M : Mem) : D -> D
  | .ref a => (M a).getD (.ref a)
  | d => d
def Vw (K : PySem.W.Frag) (cl : ClW) (F H : Hp) (v : V) (d : D) : Prop := Rep K cl F v d \/ ∃ a, v = .ref a /\ RepTop K cl F H a d
section
variable {K : PySem.W.Frag} {cl : ClW} {F F' H H' : Hp} {M : Mem} {v : V} {d : D}
theorem vw_ok (g : Good K cl F H M) (r : Rep K cl F v d) : Vw K cl F H v (vw M d) := by
  cases d with
  | ref a =>
    obtain rfl := r.toRef
    show Vw K cl F H (.ref a) ((M a).getD (.ref a))
    cases e : M a with
    | none => exact .inl (.ref a)
    | some c => exact .inr ⟨a, rfl, (g.cell a c e).2⟩
  | _ => exact .inl r
theorem Vw.int {i : Int} (h : Vw K cl F H v (.int i)) : v = .int i := by
  rcases h with h | ⟨a, _, h⟩
  · exact h.toInt
  · exact h.elim
theorem Vw.bl {i : Bool} (h : Vw K cl F H v (.bl i)) : v = .bl i := by
  rcases h with h | ⟨a, _, h⟩
  · exact h.toBl
  · exact h.elim
theorem Vw.str {i : Str} (h : Vw K cl F H v (.str i)) : v = .str i := by
  rcases h with h | ⟨a, _, h⟩
  · exact h.toStr
  · exact h.elim
theorem Vw.byt {i : Array UInt8} (h : Vw K cl F H v (.byt i)) : v = .byt i := by
  rcases h with h | ⟨a, _, h⟩
  · exact h.toByt
  · exact h.elim
theorem Vw.non (h : Vw K cl F H v .non) : v = .non := by
  rcases h with h | ⟨a, _, h⟩
  · exact h.toNon
  · exact h.elim
theorem Vw.lst {ds : List D} (g : Same F H) (h : Vw K cl F H v (.lst ds)) : ∃ a vs, v = .ref a /\ SqL K H a vs /\ Reps K cl F vs ds := by
  rcases h with h | ⟨a, rfl, vs, h1, h2⟩
  · obtain ⟨a, vs, rfl, h1, h2⟩ := h.toLst
    exact ⟨a, vs, rfl, same_l g h1, h2⟩
  · exact ⟨a, vs, rfl, SqL.of h1, h2⟩
theorem Vw.tup {ds : List D} (g : Same F H) (h : Vw K cl F H v (.tup ds)) : ∃ a vs, v = .ref a /\ SqT K H a vs /\ Reps K cl F vs ds := by
  rcases h with h | ⟨a, rfl, h1⟩
  · obtain ⟨a, vs, rfl, h1, h2⟩ := h.toTup
    exact ⟨a, vs, rfl, same_t g h1, h2⟩
  · exact h1.elim
theorem Vw.obj {c : Nat} {ns : List Str} {ds : List D} (g : Same F H) (h : Vw K cl F H v (.obj c ns ds)) : ∃ a dx vs, v = .ref a /\ H a = some (.ins (cl c) dx (ns.zip vs)) /\ ns.length = vs.length /\ Reps K cl F vs ds := by
  rcases h with h | ⟨a, rfl, dx, vs, h1, h2, h3⟩
  · obtain ⟨a, dx, vs, rfl, h1, h2, h3⟩ := h.toObj
    exact ⟨a, dx, vs, rfl, g _ _ h1, h2, h3⟩
  · exact ⟨a, dx, vs, rfl, h1, h2, h3⟩
theorem Post.val {Q : VK} {Qd : DV} (p : Post K cl F Q Qd) (g : Good K cl F H M) (r : Rep K cl F v d) (q : Qd d M) : Q v H := p v H F d M (Same.refl F) g r q
theorem Post.newL {Q : VK} {Qd : DV} {vs : List V} {ds : List D} (p : Post K cl F Q Qd) (g : Good K cl F H M) (r : Reps K cl F vs ds) (q : Qd (.lst ds) M) {a : Addr} (h : H a = none) : Q (.ref a) (upd H a (.lst vs)) :=
  p _ _ (upd F a (.lst vs)) (.lst ds) M (same_new (g.freshF h)) (g.new h) (.lst (SqL.of upd_same) (r.mono (same_new (g.freshF h)))) q
theorem Post.newT {Q : VK} {Qd : DV} {vs : List V} {ds : List D} (p : Post K cl F Q Qd) (g : Good K cl F H M) (r : Reps K cl F vs ds) (q : Qd (.tup ds) M) {a : Addr} (h : H a = none) : Q (.ref a) (upd H a (.tup vs)) :=
  p _ _ (upd F a (.tup vs)) (.tup ds) M (same_new (g.freshF h)) (g.new h) (.tup (SqT1.of upd_same) (r.mono (same_new (g.freshF h)))) q
end
def LOp (K : PySem.W.Frag) (cl : ClW) (r : R2) (f : D -> D -> Option D) : Prop :=
  ∀ F H M x y d e z Q Qd, Good K cl F H M -> Vw K cl F H x d -> Vw K cl F H y e -> f d e = some z -> Post K cl F Q Qd -> Qd z M -> r x y H Q
def LUn (K : PySem.W.Frag) (cl : ClW) (r : V -> Hp -> VK -> Prop) (f : D -> Option D) : Prop :=
  ∀ F H M x d z Q Qd, Good K cl F H M -> Vw K cl F H x d -> f d = some z -> Post K cl F Q Qd -> Qd z M -> r x H Q
def LCall (K : PySem.W.Frag) (cl : ClW) (r : List V -> Hp -> VK -> Prop) (f : List D -> Option D) : Prop :=
  ∀ F H M xs ds z Q Qd, Good K cl F H M -> Reps K cl F xs ds -> f (ds.map (vw M)) = some z -> Post K cl F Q Qd -> Qd z M -> r xs H Q
@[simp] def dVar (i : Nat) : DTE := fun ρ M Q _ => ∃ d, ρ[i]? = some (some d) /\ Q d M
@[simp] def dC (d : D) : DTE := fun _ M Q _ => Q d M
@[simp] def dOp (f : D -> D -> Option D) (τa τb : DTE) : DTE := fun ρ M Q X => τa ρ M (fun d M1 => τb ρ M1 (fun e M2 => ∃ z, f (vw M2 d) (vw M2 e) = some z /\ Q z M2) X) X
@[simp] def dUn (f : D -> Option D) (τa : DTE) : DTE := fun ρ M Q X => τa ρ M (fun d M1 => ∃ z, f (vw M1 d) = some z /\ Q z M1) X
@[simp] def dTest (τ : DTE) : DTT := fun ρ M Q X => τ ρ M (fun d M1 => ∃ b, d = .bl b /\ Q b M1) X
@[simp] def dAnd (τ υ : DTT) : DTT := fun ρ M Q X => τ ρ M (fun c M1 => if c = true then υ ρ M1 Q X else Q false M1) X
@[simp] def dOr (τ υ : DTT) : DTT := fun ρ M Q X => τ ρ M (fun c M1 => if c = true then Q true M1 else υ ρ M1 Q X) X
@[simp] def dNot (τ : DTT) : DTT := fun ρ M Q X => τ ρ M (fun c M1 => Q (!c) M1) X
@[simp] def dIfE (τ : DTT) (τa τb : DTE) : DTE := fun ρ M Q X => τ ρ M (fun c M1 => if c = true then τa ρ M1 Q X else τb ρ M1 Q X) X
@[simp] def dNil : DTA := fun _ M Q _ => Q [] M
@[simp] def dCons (τ : DTE) (τr : DTA) : DTA := fun ρ M Q X => τ ρ M (fun d M1 => τr ρ M1 (fun ds M2 => Q (d :: ds) M2) X) X
@[simp] def dTup (τ : DTA) : DTE := fun ρ M Q X => τ ρ M (fun ds M1 => ds.length <= sizeLine /\ Q (.tup ds) M1) X
@[simp] def dLst (τ : DTA) : DTE := fun ρ M Q X => τ ρ M (fun ds M1 => ds.length <= sizeLine /\ Q (.lst ds) M1) X
def dLstM (τ : DTA) : DTE := fun ρ M Q X => τ ρ M (fun ds M1 => ds.length <= sizeLine /\ ∀ a, M1 a = none -> Q (.ref a) (updM M1 a (.lst ds))) X
@[simp] def frz (d : D) (M : Mem) (Q : DV) : Prop := match d with
  | .ref a => (match M a with
    | some c => Q c (delM M a)
    | none => Q d M)
  | d => Q d M
@[simp] def dFrz (τ : DTE) : DTE := fun ρ M Q X => τ ρ M (fun d M1 => frz d M1 Q) X
@[simp] def dCB (f : List D -> Option D) (τ : DTA) : DTE := fun ρ M Q X => τ ρ M (fun ds M1 => ∃ z, f (ds.map (vw M1)) = some z /\ Q z M1) X
@[simp] def dSl (f : D -> Option Int -> Option Int -> Option D) (τ : DTE) (lo hi : Env -> Mem -> (Option Int -> Mem -> Prop) -> DX -> Prop) : DTE := fun ρ M Q X => τ ρ M (fun d M1 => lo ρ M1 (fun l M2 => hi ρ M2 (fun h M3 => ∃ z, f (vw M3 d) l h = some z /\ Q z M3) X) X) X
abbrev DTO := Env -> Mem -> (Option Int -> Mem -> Prop) -> DX -> Prop
@[simp] def dNoPart : DTO := fun _ M Q _ => Q none M
@[simp] def dPart (τ : DTE) : DTO := fun ρ M Q X => τ ρ M (fun d M1 => ∃ i, d = .int i /\ Q (some i) M1) X
section
variable {cl : ClW} {X : Cx} {W : WX} {a b e c : Expr} {es rest : List Expr} {pos : Pos} {τ τa τb τc : DTE} {υ υ' : DTT} {α : DTA}
theorem d_var {x : Str} (i : Nat) (hN : X.N[i]? = some x := by rfl) (hv : Vis X.env.scope x := by first | exact Or.inl rfl | exact Or.inr (Or.inl rfl) | exact Or.inr (Or.inr rfl)) (hd : (x == ("__debug__" : Str)) = false := by decide)
    (hcd : (x == ("__classdict__" : Str)) = false := by decide) : DE cl X W (.Name x pos) (dVar i) :=
  ⟨pe_imp (pe_var hN hv hd hcd) fun σ H Q ⟨F, ρ, M, Qd, Xd, g, s, ⟨d, h1, h2⟩, p, w⟩ => by
    obtain ⟨v, e1, r⟩ := s.get i d h1
    exact ⟨v, e1, p.val g r h2⟩⟩
theorem d_c {v : V} {d : D} (h : PE X e (tC v)) (r : ∀ F, Rep X.K cl F v d) : DE cl X W e (dC d) :=
  ⟨pe_imp h fun σ H Q ⟨F, ρ, M, Qd, Xd, g, s, h2, p, w⟩ => p.val g (r F) h2⟩
theorem d_int {i j} : DE cl X W (.Constant (.int i) j pos) (dC (.int i)) := d_c pe_int fun _ => .int i
theorem d_bl {i j} : DE cl X W (.Constant (.bool i) j pos) (dC (.bl i)) := d_c pe_bl fun _ => .bl i
theorem d_str {i j} : DE cl X W (.Constant (.str i) j pos) (dC (.str i)) := d_c pe_str fun _ => .str i
theorem d_non {j} : DE cl X W (.Constant .none j pos) (dC .non) := d_c pe_non fun _ => .non
theorem d_op {op : Operator} {r : R2} {f : D -> D -> Option D} (ho : OpR X (binaryOp op) r) (hf : LOp X.K cl r f) (ha : DE cl X W a τa) (hb : DE cl X W b τb) : DE cl X W (.BinOp a op b pos) (dOp f τa τb) :=
  ⟨pe_imp (pe_op ho ha.pe hb.pe) fun σ H Q ⟨F, ρ, M, Qd, Xd, g, s, t, p, w⟩ =>
    ⟨F, ρ, M, _, Xd, g, s, t, fun v H' F' d M' sm g' r' q => ⟨F', ρ, M', _, Xd, g', s.mono sm, q, fun u H2 F2 e M2 sm2 g2 r2 q2 => by
      obtain ⟨z, e1, e2⟩ := q2
      exact hf F2 H2 M2 v u _ _ z Q Qd g2 (vw_ok g2 (r'.mono sm2)) (vw_ok g2 r2) e1 (p.mono (sm.trans sm2)) e2, w.mono sm⟩, w⟩⟩
theorem d_cmp {op : CmpOp} {r : R2} {f : D -> D -> Option D} (ho : OpR X (compareOp op) r) (hf : LOp X.K cl r f) (ha : DE cl X W a τa) (hb : DE cl X W b τb) (hm : behindInMarks op b = false) : DE cl X W (.Compare a [op] [b] pos) (dOp f τa τb) :=
  ⟨pe_imp (pe_cmpR ho ha.pe hb.pe hm) fun σ H Q ⟨F, ρ, M, Qd, Xd, g, s, t, p, w⟩ =>
    ⟨F, ρ, M, _, Xd, g, s, t, fun v H' F' d M' sm g' r' q => ⟨F', ρ, M', _, Xd, g', s.mono sm, q, fun u H2 F2 e M2 sm2 g2 r2 q2 => by
      obtain ⟨z, e1, e2⟩ := q2
      exact hf F2 H2 M2 v u _ _ z Q Qd g2 (vw_ok g2 (r'.mono sm2)) (vw_ok g2 r2) e1 (p.mono (sm.trans sm2)) e2, w.mono sm⟩, w⟩⟩
theorem PostT.test {K : PySem.W.Frag} {F : Hp} {Q : Bool -> Hp -> Prop} {Qd : Bool -> Mem -> Prop} (p : PostT K cl F Q Qd) : Post K cl F (fun x H' => ∃ k, x = .bl k /\ Q k H') (fun d M1 => ∃ b, d = .bl b /\ Qd b M1) := fun v H' F' d M' sm g r ⟨b, e1, q⟩ => by
  subst e1
  exact ⟨b, r.toBl, p b H' F' M' sm g q⟩
theorem d_tcmp {op : CmpOp} {r : R2} {f : D -> D -> Option D} (ho : OpR X (compareOp op) r) (hf : LOp X.K cl r f) (ha : DE cl X W a τa) (hb : DE cl X W b τb) (hm : behindInMarks op b = false) : DT cl X W (.Compare a [op] [b] pos) (dTest (dOp f τa τb)) :=
  ⟨pt_imp (pt_cmpR ho ha.pe hb.pe hm) fun σ H Q ⟨F, ρ, M, Qd, Xd, g, s, t, p, w⟩ =>
    ⟨F, ρ, M, _, Xd, g, s, t, fun v H' F' d M' sm g' r' q => ⟨F', ρ, M', _, Xd, g', s.mono sm, q, fun u H2 F2 e M2 sm2 g2 r2 q2 => by
      obtain ⟨z, e1, e2⟩ := q2
      exact hf F2 H2 M2 v u _ _ z _ _ g2 (vw_ok g2 (r'.mono sm2)) (vw_ok g2 r2) e1 (PostT.test (p.mono (sm.trans sm2))) e2, w.mono sm⟩, w⟩⟩
@[simp] def dChain (f f' : D -> D -> Option D) (τa τb τc : DTE) : DTE := fun ρ M Q X => τa ρ M (fun d M1 => τb ρ M1 (fun e M2 => ∃ k, f (vw M2 d) (vw M2 e) = some (.bl k) /\ if k = true then τc ρ M2 (fun h M3 => ∃ z, f' (vw M3 e) (vw M3 h) = some z /\ Q z M3) X else Q (.bl false) M2) X) X
theorem d_chain {op op' : CmpOp} {r r' : R2} {f f' : D -> D -> Option D} (ho : OpR X (compareOp op) r) (ho' : OpR X (compareOp op') r') (hf : LOp X.K cl r f) (hf' : LOp X.K cl r' f') (ha : DE cl X W a τa) (hb : DE cl X W b τb) (hc : DE cl X W c τc)
    (hm : lastMarks [op, op'] [b, c] = false := by with_unfolding_all rfl) : DE cl X W (.Compare a [op, op'] [b, c] pos) (dChain f f' τa τb τc) :=
  ⟨pe_imp (pe_chain ho ho' ha.pe hb.pe hc.pe hm) fun σ H Q ⟨F, ρ, M, Qd, Xd, g, s, t, p, w⟩ =>
    ⟨F, ρ, M, _, Xd, g, s, t, fun v H' F' d M' sm g' r' q => ⟨F', ρ, M', _, Xd, g', s.mono sm, q, fun u H2 F2 e M2 sm2 g2 r2 q2 => by
      obtain ⟨k, e1, e2⟩ := q2
      refine hf F2 H2 M2 v u _ _ (.bl k) _ (fun z M3 => z = .bl k /\ M3 = M2) g2 (vw_ok g2 (r'.mono sm2)) (vw_ok g2 r2) e1 ?_ ⟨rfl, rfl⟩
      intro z H3 F3 dz M3 sm3 g3 r3 ⟨h3, h4⟩
      subst h3 h4
      refine ⟨k, r3.toBl, ?_⟩
      cases k with
      | true =>
        rw [if_pos rfl] at e2 ⊢
        refine ⟨F3, ρ, M3, _, Xd, g3, s.mono ((sm.trans sm2).trans sm3), e2, fun y H4 F4 h M4 sm4 g4 r4 ⟨z4, h5, h6⟩ => ?_, w.mono ((sm.trans sm2).trans sm3)⟩
        exact hf' F4 H4 M4 u y _ _ z4 Q Qd g4 (vw_ok g4 (r2.mono (sm3.trans sm4))) (vw_ok g4 r4) h5 (p.mono (((sm.trans sm2).trans sm3).trans sm4)) h6
      | false =>
        rw [if_neg Bool.false_ne_true] at e2 ⊢
        exact p _ _ _ _ _ ((sm.trans sm2).trans sm3) g3 (.bl false) e2, w.mono sm⟩, w⟩⟩
theorem d_tchain {op op' : CmpOp} {r r' : R2} {f f' : D -> D -> Option D} (ho : OpR X (compareOp op) r) (ho' : OpR X (compareOp op') r') (hf : LOp X.K cl r f) (hf' : LOp X.K cl r' f') (ha : DE cl X W a τa) (hb : DE cl X W b τb) (hc : DE cl X W c τc)
    (hm : lastMarks [op, op'] [b, c] = false := by with_unfolding_all rfl) : DT cl X W (.Compare a [op, op'] [b, c] pos) (dTest (dChain f f' τa τb τc)) :=
  ⟨pt_imp (pt_chain ho ho' ha.pe hb.pe hc.pe hm) fun σ H Q ⟨F, ρ, M, Qd, Xd, g, s, t, p, w⟩ =>
    ⟨F, ρ, M, _, Xd, g, s, t, fun v H' F' d M' sm g' r' q => ⟨F', ρ, M', _, Xd, g', s.mono sm, q, fun u H2 F2 e M2 sm2 g2 r2 q2 => by
      obtain ⟨k, e1, e2⟩ := q2
      refine hf F2 H2 M2 v u _ _ (.bl k) _ (fun z M3 => z = .bl k /\ M3 = M2) g2 (vw_ok g2 (r'.mono sm2)) (vw_ok g2 r2) e1 ?_ ⟨rfl, rfl⟩
      intro z H3 F3 dz M3 sm3 g3 r3 ⟨h3, h4⟩
      subst h3 h4
      refine ⟨k, r3.toBl, ?_⟩
      cases k with
      | true =>
        rw [if_pos rfl] at e2 ⊢
        refine ⟨F3, ρ, M3, _, Xd, g3, s.mono ((sm.trans sm2).trans sm3), e2, fun y H4 F4 h M4 sm4 g4 r4 ⟨z4, h5, h6⟩ => ?_, w.mono ((sm.trans sm2).trans sm3)⟩
        exact hf' F4 H4 M4 u y _ _ z4 _ _ g4 (vw_ok g4 (r2.mono (sm3.trans sm4))) (vw_ok g4 r4) h5 (PostT.test (p.mono (((sm.trans sm2).trans sm3).trans sm4))) h6
      | false =>
        rw [if_neg Bool.false_ne_true] at e2 ⊢
        exact PostT.test p _ _ _ _ _ ((sm.trans sm2).trans sm3) g3 (.bl false) e2, w.mono sm⟩, w⟩⟩
theorem d_un {op : UnaryOp} {r : V -> Hp -> VK -> Prop} {f : D -> Option D} (ho : UnR X (unaryOp op) r) (hf : LUn X.K cl r f) (ha : DE cl X W a τa) : DE cl X W (.UnaryOp op a pos) (dUn f τa) :=
  ⟨pe_imp (pe_un ho ha.pe) fun σ H Q ⟨F, ρ, M, Qd, Xd, g, s, t, p, w⟩ =>
    ⟨F, ρ, M, _, Xd, g, s, t, fun v H' F' d M' sm g' r' ⟨z, e1, e2⟩ => hf F' H' M' v _ z Q Qd g' (vw_ok g' r') e1 (p.mono sm) e2, w⟩⟩
theorem d_val (h : DE cl X W e τ) (he : ∀ whole, isTrue e X.env whole = (do let v <- whole; standAt e.pos; holding [v] (truthy v)) := by intro _; rfl) : DT cl X W e (dTest τ) :=
  ⟨pt_imp (pt_val h.pe he) fun σ H Q ⟨F, ρ, M, Qd, Xd, g, s, t, p, w⟩ => ⟨F, ρ, M, _, Xd, g, s, t, p.test, w⟩⟩
theorem dw_and1 (h : DT cl X W a υ) : DW cl X W (.BoolOp .And [a] pos) υ := ⟨pw_and1 h.pt⟩
theorem dw_or1 (h : DT cl X W a υ) : DW cl X W (.BoolOp .Or [a] pos) υ := ⟨pw_or1 h.pt⟩
theorem dw_and (h : DT cl X W a υ) (h' : DW cl X W (.BoolOp .And (b :: rest) pos) υ') : DW cl X W (.BoolOp .And (a :: b :: rest) pos) (dAnd υ υ') :=
  ⟨pw_imp (pw_and h.pt h'.pw) fun σ H Q ⟨F, ρ, M, Qd, Xd, g, s, t, p, w⟩ => ⟨F, ρ, M, _, Xd, g, s, t, fun k H' F' M' sm g' q => by
    cases k with
    | true => rw [if_pos rfl] at q ⊢; exact ⟨F', ρ, M', Qd, Xd, g', s.mono sm, q, p.mono sm, w.mono sm⟩
    | false => rw [if_neg Bool.false_ne_true] at q ⊢; exact p _ _ _ _ sm g' q, w⟩⟩
theorem dw_or (h : DT cl X W a υ) (h' : DW cl X W (.BoolOp .Or (b :: rest) pos) υ') : DW cl X W (.BoolOp .Or (a :: b :: rest) pos) (dOr υ υ') :=
  ⟨pw_imp (pw_or h.pt h'.pw) fun σ H Q ⟨F, ρ, M, Qd, Xd, g, s, t, p, w⟩ => ⟨F, ρ, M, _, Xd, g, s, t, fun k H' F' M' sm g' q => by
    cases k with
    | true => rw [if_pos rfl] at q ⊢; exact p _ _ _ _ sm g' q
    | false => rw [if_neg Bool.false_ne_true] at q ⊢; exact ⟨F', ρ, M', Qd, Xd, g', s.mono sm, q, p.mono sm, w.mono sm⟩, w⟩⟩
theorem DW.dt (h : DW cl X W e υ) : DT cl X W e υ := ⟨h.pw.pt⟩
theorem d_tnot (h : DT cl X W a υ) : DT cl X W (.UnaryOp .Not a pos) (dNot υ) :=
  ⟨pt_imp (pt_not h.pt) fun σ H Q ⟨F, ρ, M, Qd, Xd, g, s, t, p, w⟩ => ⟨F, ρ, M, _, Xd, g, s, t, fun k H' F' M' sm g' q => p _ _ _ _ sm g' q, w⟩⟩
theorem d_ifE (h : DT cl X W c υ) (ha : DE cl X W a τa) (hb : DE cl X W b τb) : DE cl X W (.IfExp c a b pos) (dIfE υ τa τb) :=
  ⟨pe_imp (pe_ifExp h.pt ha.pe hb.pe) fun σ H Q ⟨F, ρ, M, Qd, Xd, g, s, t, p, w⟩ => ⟨F, ρ, M, _, Xd, g, s, t, fun k H' F' M' sm g' q => by
    cases k with
    | true => rw [if_pos rfl] at q ⊢; exact ⟨F', ρ, M', Qd, Xd, g', s.mono sm, q, p.mono sm, w.mono sm⟩
    | false => rw [if_neg Bool.false_ne_true] at q ⊢; exact ⟨F', ρ, M', Qd, Xd, g', s.mono sm, q, p.mono sm, w.mono sm⟩, w⟩⟩
@[simp] def dAndV (τa τb : DTE) : DTE := fun ρ M Q X => τa ρ M (fun d M1 => ∃ c, d = .bl c /\ if c = true then τb ρ M1 Q X else Q (.bl false) M1) X
@[simp] def dOrV (τa τb : DTE) : DTE := fun ρ M Q X => τa ρ M (fun d M1 => ∃ c, d = .bl c /\ if c = true then Q (.bl true) M1 else τb ρ M1 Q X) X
@[simp] def dNotV (τa : DTE) : DTE := fun ρ M Q X => τa ρ M (fun d M1 => ∃ c, d = .bl c /\ Q (.bl (!c)) M1) X
theorem d_one {op} (h : DE cl X W a τ) : DE cl X W (.BoolOp op [a] pos) τ := ⟨pe_one h.pe⟩
theorem d_andV (ha : DE cl X W a τa) (hb : DE cl X W (.BoolOp .And (b :: rest) pos) τb) : DE cl X W (.BoolOp .And (a :: b :: rest) pos) (dAndV τa τb) :=
  ⟨pe_imp (pe_and ha.pe hb.pe) fun σ H Q ⟨F, ρ, M, Qd, Xd, g, s, t, p, w⟩ => ⟨F, ρ, M, _, Xd, g, s, t, fun v H' F' d M' sm g' r ⟨k, e1, q⟩ => by
    subst e1
    refine ⟨k, r.toBl, ?_⟩
    cases k with
    | true => rw [if_pos rfl] at q ⊢; exact ⟨F', ρ, M', Qd, Xd, g', s.mono sm, q, p.mono sm, w.mono sm⟩
    | false => rw [if_neg Bool.false_ne_true] at q ⊢; exact p _ _ _ _ _ sm g' (.bl false) q, w⟩⟩
theorem d_notV (ha : DE cl X W a τa) : DE cl X W (.UnaryOp .Not a pos) (dNotV τa) :=
  ⟨pe_imp (pe_not ha.pe) fun σ H Q ⟨F, ρ, M, Qd, Xd, g, s, t, p, w⟩ => ⟨F, ρ, M, _, Xd, g, s, t, fun v H' F' d M' sm g' r ⟨k, e1, q⟩ => by
    subst e1
    exact ⟨k, r.toBl, p _ _ _ _ _ sm g' (.bl _) q⟩, w⟩⟩
theorem da_nil : DA cl X W [] dNil := ⟨pa_imp pa_nil fun σ H Q ⟨F, ρ, M, Qd, Xd, g, s, t, p, w⟩ => p [] H F [] M (Same.refl F) g .nil t⟩
theorem da_cons (ha : DE cl X W e τ) (hr : DA cl X W es α) (hs : starEach (e :: es) X.env = (false, eval e X.env) :: starEach es X.env := by rfl) : DA cl X W (e :: es) (dCons τ α) :=
  ⟨pa_imp (pa_cons ha.pe hr.pa hs) fun σ H Q ⟨F, ρ, M, Qd, Xd, g, s, t, p, w⟩ => ⟨F, ρ, M, _, Xd, g, s, t, fun v H' F' d M' sm g' r q => ⟨F', ρ, M', _, Xd, g', s.mono sm, q, fun vs H2 F2 ds M2 sm2 g2 r2 q2 => p _ _ _ _ _ (sm.trans sm2) g2 (.cons (r.mono sm2) r2) q2, w.mono sm⟩, w⟩⟩
theorem d_tup {x1} (h : DA cl X W es α) : DE cl X W (.Tuple es x1 pos) (dTup α) :=
  ⟨pe_imp (pe_tup h.pa) fun σ H Q ⟨F, ρ, M, Qd, Xd, g, s, t, p, w⟩ => ⟨F, ρ, M, _, Xd, g, s, t, fun vs H' F' ds M' sm g' r ⟨hl, q⟩ => ⟨by rw [r.length]; exact hl, fun a ha => (p.mono sm).newT g' r q ha⟩, w⟩⟩
theorem d_lst (h : DA cl X W es α) : DE cl X W (.List es pos) (dLst α) :=
  ⟨pe_imp (pe_lst h.pa) fun σ H Q ⟨F, ρ, M, Qd, Xd, g, s, t, p, w⟩ => ⟨F, ρ, M, _, Xd, g, s, t, fun vs H' F' ds M' sm g' r ⟨hl, q⟩ => ⟨by rw [r.length]; exact hl, fun a ha => (p.mono sm).newL g' r q ha⟩, w⟩⟩
theorem d_lstM (h : DA cl X W es α) : DE cl X W (.List es pos) (dLstM α) :=
  ⟨pe_imp (pe_lst h.pa) fun σ H Q ⟨F, ρ, M, Qd, Xd, g, s, t, p, w⟩ => ⟨F, ρ, M, _, Xd, g, s, t, fun vs H' F' ds M' sm g' r ⟨hl, q⟩ => ⟨by rw [r.length]; exact hl, fun a ha =>
    p _ _ F' _ _ sm (g'.newM (d := .lst ds) ha ⟨vs, upd_same, r⟩) (.ref a) (q a (g'.freshM ha))⟩, w⟩⟩
theorem d_frz (h : DE cl X W e τ) : DE cl X W e (dFrz τ) :=
  ⟨pe_imp h.pe fun σ H Q ⟨F, ρ, M, Qd, Xd, g, s, t, p, w⟩ => ⟨F, ρ, M, _, Xd, g, s, t, fun v H' F' d M' sm g' r q => by
    cases d with
    | ref a =>
      obtain rfl := r.toRef
      cases e : M' a with
      | none =>
        have q' : Qd (.ref a) M' := by
          simp only [frz] at q
          rw [e] at q
          exact q
        exact p _ _ _ _ _ sm g' r q'
      | some c =>
        have q' : Qd c (delM M' a) := by
          simp only [frz] at q
          rw [e] at q
          exact q
        obtain ⟨F2, s2, g2, r2⟩ := g'.freeze e
        exact p _ _ _ _ _ (sm.trans s2) g2 r2 q'
    | _ => exact p _ _ _ _ _ sm g' r q, w⟩⟩
theorem d_callB {x : Str} {id : String} {p : Pos} {r : List V -> Hp -> VK -> Prop} {f : List D -> Option D} (hc : CallR X (.builtin id) r) (hf : LCall X.K cl r f) (hg : Gl X x) (hm : X.mg x = none) (hv : bootBuiltins x = some (.builtin id)) (ha : DA cl X W (e :: es) α) (hn : x ≠ "__name__" := by decide) (hdb : (x == ("__debug__" : Str)) = false := by decide)
    (he : starEach (e :: es) X.env = (false, eval e X.env) :: starEach es X.env := by rfl) (hpl : (backTo pos (starEach es X.env)).any (·.1) = false := by rfl) : DE cl X W (.Call (.Name x p) (e :: es) [] pos) (dCB f α) :=
  ⟨pe_imp (pe_callB hc hg hm hv ha.pa hn hdb he hpl) fun σ H Q ⟨F, ρ, M, Qd, Xd, g, s, t, p, w⟩ => ⟨F, ρ, M, _, Xd, g, s, t, fun vs H' F' ds M' sm g' r ⟨z, e1, e2⟩ => hf F' H' M' vs ds z Q Qd g' r e1 (p.mono sm) e2, w⟩⟩
theorem d_callTy {x : Str} {T : String} {p : Pos} {r : List V -> Hp -> VK -> Prop} {f : List D -> Option D} (hc : CallR X (.type T) r) (hf : LCall X.K cl r f) (hg : Gl X x) (hm : X.mg x = none) (hv : bootBuiltins x = some (.type T)) (ha : DA cl X W (e :: es) α) (hn : x ≠ "__name__" := by decide) (hdb : (x == ("__debug__" : Str)) = false := by decide)
    (he : starEach (e :: es) X.env = (false, eval e X.env) :: starEach es X.env := by rfl) (hpl : (backTo pos (starEach es X.env)).any (·.1) = false := by rfl) : DE cl X W (.Call (.Name x p) (e :: es) [] pos) (dCB f α) :=
  ⟨pe_imp (pe_callTy hc hg hm hv ha.pa hn hdb he hpl) fun σ H Q ⟨F, ρ, M, Qd, Xd, g, s, t, p, w⟩ => ⟨F, ρ, M, _, Xd, g, s, t, fun vs H' F' ds M' sm g' r ⟨z, e1, e2⟩ => hf F' H' M' vs ds z Q Qd g' r e1 (p.mono sm) e2, w⟩⟩
end
end DL
set_option Elab.async false
set_option linter.all false
set_option maxRecDepth 100000
set_option maxHeartbeats 2000000
namespace DL
open PySem L2
def addD : D -> D -> Option D
  | .int i, .int j => some (.int (i + j))
  | .str x, .str y => if x.length + y.length <= sizeLine then some (.str (x ++ y)) else none
  | .lst xs, .lst ys => if xs.length + ys.length <= sizeLine then some (.lst (xs ++ ys)) else none
  | .tup xs, .tup ys => if xs.length + ys.length <= sizeLine then some (.tup (xs ++ ys)) else none
  | .byt x, .byt y => if x.size + y.size <= 16777216 then some (.byt (x ++ y)) else none
  | _, _ => none
@[simp] def subD : D -> D -> Option D
  | .int i, .int j => some (.int (i - j))
  | _, _ => none
def mulD : D -> D -> Option D
  | .int i, .int j => if (-(2 ^ 64) < i /\ i < 2 ^ 64) \/ (-(2 ^ 64) < j /\ j < 2 ^ 64) then some (.int (i * j)) else none
  | _, _ => none
def fdivD : D -> D -> Option D
  | .int i, .int j => if 0 < j /\ j < 2 ^ 200 then some (.int (i / j)) else none
  | _, _ => none
def modD : D -> D -> Option D
  | .int i, .int j => if 0 < j then some (.int (i % j)) else none
  | _, _ => none
def powD : D -> D -> Option D
  | .int i, .int j => if 0 <= j /\ j <= 1000000 /\ i.natAbs < 2 ^ 64 then some (.int (i ^ j.toNat)) else none
  | _, _ => none
@[simp] def cmpD (p : Int -> Int -> Bool) : D -> D -> Option D
  | .int i, .int j => some (.bl (p i j))
  | _, _ => none
@[simp] def negD : D -> Option D
  | .int i => some (.int (-i))
  | _ => none
@[simp] def isNonD : D -> D -> Option D
  | .non, .non => some (.bl true)
  | _, .non => some (.bl false)
  | _, _ => none
@[simp] def notNonD : D -> D -> Option D
  | .non, .non => some (.bl false)
  | _, .non => some (.bl true)
  | _, _ => none
section
variable {K : PySem.W.Frag} {cl : ClW} {X : Cx}
def rCatS (K : PySem.W.Frag) : R2 := fun x y H Q => ∃ l b xs zs, x = .ref l /\ y = .ref b /\ SqL K H l xs /\ SqL K H b zs /\ xs.length + zs.length <= sizeLine /\ ∀ p, H p = none -> Q (.ref p) (upd H p (.lst (xs ++ zs)))
theorem op_catS : OpR X (binaryOp .Add) (rCatS X.K) := by
  intro pins s σ H x y v u Q I rx ry h
  obtain ⟨l, b, xs, zs, rfl, rfl, hH, hB, hz, q⟩ := h
  cases rx
  cases ry
  obtain ⟨its, r, ⟨o, n, ho, hc, hd, hs⟩, z⟩ := I.list hH
  obtain ⟨its2, r2, ⟨o2, n2, ho2, hc2, hd2, hs2⟩, z2⟩ := I.list hB
  obtain ⟨c1, d1, t1, sl1⟩ := o
  obtain ⟨c2, d2, t2, sl2⟩ := o2
  simp only at hc hd hs hc2 hd2 hs2
  subst hc hd hs hc2 hd2 hs2
  have l1 := r.length
  have l2 := r2.length
  have ea : its.toArray ++ its2.toArray = (its ++ its2).toArray := by simp
  refine concat_meets ⟨_, ho, rfl⟩ ⟨_, ho2, rfl⟩ noFill_list_add seq_list_add PySem.F.slot_list_add PySem.F.entry_list_add (PySem.F.args_list_add_2 _ _) (PyProof.Rows.list_addW l b its.toArray its2.toArray n n2 none none sl1 sl2 (by simp; omega)) ⟨ho, ho2, ?_⟩
  rw [ea]
  exact ⟨.ref _, _, I.lnew (t' := s.toks) (r.append r2) (by rw [List.length_append]; omega), rfl, q _ I.fresh⟩
def rAddAll (K : PySem.W.Frag) : R2 := fun x y H Q => rI0 (fun i j => .int (i + j)) x y H Q \/ (fun x y H Q => ∃ i j, x = .str i /\ y = .str j /\ i.length + j.length <= sizeLine /\ Q (.str (i ++ j)) H) x y H Q \/ rCatS K x y H Q \/ rCatA K x y H Q \/ (fun x y H Q => ∃ i j, x = .byt i /\ y = .byt j /\ i.size + j.size <= 16777216 /\ Q (.byt (i ++ j)) H) x y H Q
theorem op_addAll : OpR X (binaryOp .Add) (rAddAll X.K) := op_add.or (op_add_str.or (op_catS.or (op_catA.or op_add_byt)))
theorem lop_add : LOp K cl (rAddAll K) addD := by
  intro F H M x y d e z Q Qd g hx hy h p q
  cases d with
  | int i =>
    cases e with
    | int j =>
      cases h
      obtain rfl := hx.int; obtain rfl := hy.int
      exact .inl ⟨i, j, rfl, rfl, p.val g (.int _) q⟩
    | _ => cases h
  | str i =>
    cases e with
    | str j =>
      simp only [addD] at h
      split at h
      · cases h
        obtain rfl := hx.str; obtain rfl := hy.str
        exact .inr (.inl ⟨i, j, rfl, rfl, by assumption, p.val g (.str _) q⟩)
      · cases h
    | _ => cases h
  | lst ds =>
    cases e with
    | lst es =>
      simp only [addD] at h
      split at h
      · cases h
        obtain ⟨a, vs, rfl, h1, h2⟩ := hx.lst g.sub
        obtain ⟨b, us, rfl, h3, h4⟩ := hy.lst g.sub
        exact .inr (.inr (.inl ⟨a, b, vs, us, rfl, rfl, h1, h3, by rw [h2.length, h4.length]; assumption, fun c hc => p.newL g (h2.append h4) q hc⟩))
      · cases h
    | _ => cases h
  | tup ds =>
    cases e with
    | tup es =>
      simp only [addD] at h
      split at h
      · cases h
        rcases hx with hx | ⟨_, _, hx⟩
        · rcases hy with hy | ⟨_, _, hy⟩
          · obtain ⟨a, vs, rfl, h1, h2⟩ := hx.toTup
            obtain ⟨b, us, rfl, h3, h4⟩ := hy.toTup
            refine .inr (.inr (.inr (.inl ⟨a, b, vs, us, rfl, rfl, same_t g.sub h1, same_t g.sub h3, by rw [h2.length, h4.length]; assumption, fun e => ?_, fun _ e => ?_, fun _ _ c hc => p.newT g (h2.append h4) q hc⟩)))
            · subst e
              cases h2
              exact p.val g hy q
            · subst e
              cases h4
              rw [List.append_nil] at q
              exact p.val g hx q
          · exact hy.elim
        · exact hx.elim
      · cases h
    | _ => cases h
  | byt i =>
    cases e with
    | byt j =>
      simp only [addD] at h
      split at h
      · cases h
        obtain rfl := hx.byt; obtain rfl := hy.byt
        exact .inr (.inr (.inr (.inr ⟨i, j, rfl, rfl, by assumption, p.val g (.byt _) q⟩)))
      · cases h
    | _ => cases h
  | _ => cases h
theorem lop_sub : LOp K cl (rI0 fun i j => .int (i - j)) subD := by
  intro F H M x y d e z Q Qd g hx hy h p q
  cases d <;> cases e <;> first | (cases h; obtain rfl := hx.int; obtain rfl := hy.int; exact ⟨_, _, rfl, rfl, p.val g (.int _) q⟩) | cases h
theorem lop_mul : LOp K cl (rI CMul fun i j => .int (i * j)) mulD := by
  intro F H M x y d e z Q Qd g hx hy h p q
  cases d <;> cases e <;> first | (simp only [mulD] at h; split at h <;> first | (cases h; obtain rfl := hx.int; obtain rfl := hy.int; exact ⟨_, _, rfl, rfl, (by assumption), p.val g (.int _) q⟩) | cases h) | cases h
theorem cdivW_of {i j : Int} (h : 0 < j /\ j < 2 ^ 200) : CDivW i j := by
  refine wide_div (b := 200) h.1 ?_ (by decide) (by decide)
  have h2 : ((j.natAbs : Nat) : Int) < ((2 ^ 200 : Nat) : Int) := by
    rw [Int.natAbs_of_nonneg (Int.le_of_lt h.1)]
    exact_mod_cast h.2
  exact Int.ofNat_lt.mp h2
theorem lop_fdiv : LOp K cl (rI CDivW fun i j => .int (i / j)) fdivD := by
  intro F H M x y d e z Q Qd g hx hy h p q
  cases d with
  | int i =>
    cases e with
    | int j =>
      simp only [fdivD] at h
      split at h
      · cases h
        obtain rfl := hx.int; obtain rfl := hy.int
        exact ⟨i, j, rfl, rfl, cdivW_of (by assumption), p.val g (.int _) q⟩
      · cases h
    | _ => cases h
  | _ => cases h
theorem lop_mod : LOp K cl (rI (fun _ j => 0 < j) fun i j => .int (i % j)) modD := by
  intro F H M x y d e z Q Qd g hx hy h p q
  cases d with
  | int i =>
    cases e with
    | int j =>
      simp only [modD] at h
      split at h
      · cases h
        obtain rfl := hx.int; obtain rfl := hy.int
        exact ⟨i, j, rfl, rfl, by assumption, p.val g (.int _) q⟩
      · cases h
    | _ => cases h
  | _ => cases h
theorem lop_pow : LOp K cl (rI CPow fun i j => .int (i ^ j.toNat)) powD := by
  intro F H M x y d e z Q Qd g hx hy h p q
  cases d with
  | int i =>
    cases e with
    | int j =>
      simp only [powD] at h
      split at h
      · cases h
        obtain rfl := hx.int; obtain rfl := hy.int
        exact ⟨i, j, rfl, rfl, by assumption, p.val g (.int _) q⟩
      · cases h
    | _ => cases h
  | _ => cases h
theorem lop_cmp (k : Int -> Int -> Bool) : LOp K cl (rI0 fun i j => .bl (k i j)) (cmpD k) := by
  intro F H M x y d e z Q Qd g hx hy h p q
  cases d with
  | int i =>
    cases e with
    | int j =>
      cases h
      obtain rfl := hx.int; obtain rfl := hy.int
      exact ⟨i, j, rfl, rfl, p.val g (.bl _) q⟩
    | _ => cases h
  | _ => cases h
abbrev ltD := cmpD fun i j => decide (i < j)
abbrev leD := cmpD fun i j => decide (i <= j)
abbrev gtD := cmpD fun i j => decide (j < i)
abbrev geD := cmpD fun i j => decide (j <= i)
theorem lun_neg : LUn K cl (rU fun i => .int (-i)) negD := by
  intro F H M x d z Q Qd g hx h p q
  cases d with
  | int i =>
    cases h
    obtain rfl := hx.int
    exact ⟨i, rfl, p.val g (.int _) q⟩
  | _ => cases h
theorem Vw.ne_non {F H : Hp} {v : V} {d : D} (h : Vw K cl F H v d) (hd : d ≠ .non) : v ≠ .non := by
  intro e
  subst e
  rcases h with h | ⟨a, e, _⟩
  · cases h; exact hd rfl
  · cases e
theorem lop_isN : LOp K cl (fun x y H Q => y = .non /\ Q (.bl (decide (x = .non))) H) isNonD := by
  intro F H M x y d e z Q Qd g hx hy h p q
  cases e with
  | non =>
    refine ⟨hy.non, ?_⟩
    by_cases hd : d = .non
    · subst hd
      cases h
      obtain rfl := hx.non
      rw [decide_eq_true rfl]
      exact p.val g (.bl _) q
    · have hz : z = .bl false := by cases d <;> first | exact absurd rfl hd | (cases h; rfl)
      subst hz
      rw [decide_eq_false (hx.ne_non hd)]
      exact p.val g (.bl _) q
  | _ => cases d <;> cases h
theorem lop_notN : LOp K cl (fun x y H Q => y = .non /\ Q (.bl (!decide (x = .non))) H) notNonD := by
  intro F H M x y d e z Q Qd g hx hy h p q
  cases e with
  | non =>
    refine ⟨hy.non, ?_⟩
    by_cases hd : d = .non
    · subst hd
      cases h
      obtain rfl := hx.non
      rw [decide_eq_true rfl]
      exact p.val g (.bl _) q
    · have hz : z = .bl true := by cases d <;> first | exact absurd rfl hd | (cases h; rfl)
      subst hz
      rw [decide_eq_false (hx.ne_non hd)]
      exact p.val g (.bl _) q
  | _ => cases d <;> cases h
def ixD : D -> D -> Option D
  | .lst xs, .int i => atI xs i
  | .tup xs, .int i => atI xs i
  | .str z, .int i => if z.length <= sizeLine then (atI z.cps.toList i).map fun c => .str ⟨#[c]⟩ else none
  | _, _ => none
theorem reps_atI {F : Hp} {vs : List V} {ds : List D} {i : Int} {d : D} (r : Reps K cl F vs ds) (h : atI ds i = some d) : ∃ v, atI vs i = some v /\ Rep K cl F v d := by
  unfold atI at h ⊢
  rw [r.length]
  cases e : ixN ds.length i with
  | none => rw [e] at h; cases h
  | some j =>
    rw [e] at h
    exact r.get h
theorem lix : LOp K cl (rIx K) ixD := by
  intro F H M x y d e z Q Qd g hx hy h p q
  cases d with
  | lst ds =>
    cases e with
    | int i =>
      obtain rfl := hy.int
      obtain ⟨a, vs, rfl, h1, h2⟩ := hx.lst g.sub
      obtain ⟨v, h3, h4⟩ := reps_atI h2 h
      exact .inl ⟨a, vs, i, v, rfl, rfl, h1, h3, p.val g h4 q⟩
    | _ => cases h
  | tup ds =>
    cases e with
    | int i =>
      obtain rfl := hy.int
      obtain ⟨a, vs, rfl, h1, h2⟩ := hx.tup g.sub
      obtain ⟨v, h3, h4⟩ := reps_atI h2 h
      exact .inr (.inl ⟨a, vs, i, v, rfl, rfl, h1, h3, p.val g h4 q⟩)
    | _ => cases h
  | str w =>
    cases e with
    | int i =>
      obtain rfl := hy.int
      obtain rfl := hx.str
      simp only [ixD] at h
      split at h
      · rename_i hl
        cases e1 : atI w.cps.toList i with
        | none => rw [e1] at h; cases h
        | some c =>
          rw [e1] at h
          cases h
          exact .inr (.inr ⟨w, i, c, rfl, rfl, hl, e1, p.val g (.str _) q⟩)
      · cases h
    | _ => cases h
  | _ => cases h
variable {W : WX} {a b e : Expr} {pos : Pos} {τ τa τb : DTE}
structure DO (cl : ClW) (X : Cx) (W : WX) (e : Option Expr) (τ : DTO) : Prop where
  po : PO X e (fun σ H Q => ∃ F ρ M Qd Xd, Good X.K cl F H M /\ Slots X.K cl F σ ρ /\ τ ρ M Qd Xd /\ (∀ o H' F' M', Same F F' -> Good X.K cl F' H' M' -> Qd o M' -> Q o H') /\ WOk X.K cl W F Xd)
theorem do_none : DO cl X W none dNoPart := ⟨⟨fun pins s σ H Q I ⟨F, ρ, M, Qd, Xd, g, sl, t, p, w⟩ => po_none.run pins s σ H Q I (p none H F M (Same.refl F) g t)⟩⟩
theorem do_some (h : DE cl X W e τ) : DO cl X W (some e) (dPart τ) := ⟨⟨fun pins s σ H Q I ⟨F, ρ, M, Qd, Xd, g, sl, t, p, w⟩ => (po_some h.pe).run pins s σ H Q I
  ⟨F, ρ, M, _, Xd, g, sl, t, fun v H' F' d M' sm g' r ⟨i, e1, q⟩ => by subst e1; exact ⟨i, r.toInt, p _ _ _ _ sm g' q⟩, w⟩⟩⟩
def cutD (xs : List D) (lo hi : Option Int) : List D := (xs.drop (HT.sIx xs.length 0 lo)).take (HT.sIx xs.length xs.length hi - HT.sIx xs.length 0 lo)
def slD : D -> Option Int -> Option Int -> Option D
  | .lst xs, lo, hi => some (.lst (cutD xs lo hi))
  | .tup xs, lo, hi => some (.tup (cutD xs lo hi))
  | .str z, lo, hi => if z.length <= sizeLine then some (.str (cutS z lo hi)) else none
  | _, _, _ => none
theorem reps_cut {F : Hp} {vs : List V} {ds : List D} (r : Reps K cl F vs ds) (lo hi : Option Int) : Reps K cl F (cutV vs lo hi) (cutD ds lo hi) := by
  unfold cutV cutD
  rw [r.length]
  exact (r.drop _).take _
theorem cutD_whole {xs : List D} {lo hi : Option Int} (h : HT.sIx xs.length 0 lo = 0 /\ HT.sIx xs.length xs.length hi = xs.length) : cutD xs lo hi = xs := by
  unfold cutD
  rw [h.1, h.2]
  simp
theorem d_slice {lo hi : Option Expr} {τl τh : DTO} {p2 : Pos} (he : DE cl X W e τ) (hl : DO cl X W lo τl) (hu : DO cl X W hi τh) : DE cl X W (.Subscript e (.Slice lo hi none p2) pos) (dSl slD τ τl τh) :=
  ⟨pe_imp (pe_slice (sl_list.or (sl_tupA.or sl_str)) he.pe hl.po hu.po) fun σ H Q ⟨F, ρ, M, Qd, Xd, g, s, t, p, w⟩ =>
    ⟨F, ρ, M, _, Xd, g, s, t, fun v H1 F1 d M1 sm1 g1 r1 q1 => ⟨F1, ρ, M1, _, Xd, g1, s.mono sm1, q1, fun l H2 F2 M2 sm2 g2 q2 => ⟨F2, ρ, M2, _, Xd, g2, s.mono (sm1.trans sm2), q2, fun h H3 F3 M3 sm3 g3 q3 => (by
      obtain ⟨z, e1, e2⟩ := q3
      have hv := vw_ok g3 (r1.mono (sm2.trans sm3))
      have p' := p.mono ((sm1.trans sm2).trans sm3)
      cases hd : vw M3 d with
      | lst ds =>
        rw [hd] at hv e1
        cases e1
        obtain ⟨a, vs, rfl, h1, h2⟩ := hv.lst g3.sub
        exact .inl ⟨a, vs, rfl, h1, fun c hc => p'.newL g3 (reps_cut h2 l h) e2 hc⟩
      | tup ds =>
        rw [hd] at hv e1
        cases e1
        rcases hv with hv | ⟨_, _, hv⟩
        · obtain ⟨a, vs, rfl, h1, h2⟩ := hv.toTup
          refine .inr (.inl ⟨a, vs, rfl, same_t g3.sub h1, fun hw => ?_, fun _ c hc => p'.newT g3 (reps_cut h2 l h) e2 hc⟩)
          rw [h2.length] at hw
          rw [cutD_whole hw] at e2
          exact p'.val g3 hv e2
        · exact hv.elim
      | str w =>
        rw [hd] at hv e1
        simp only [slD] at e1
        split at e1
        · cases e1
          exact .inr (.inr ⟨w, hv.str, by assumption, p'.val g3 (.str _) e2⟩)
        · cases e1
      | _ =>
        rw [hd] at e1
        cases e1), w.mono (sm1.trans sm2)⟩, w.mono sm1⟩, w⟩⟩
end
end DL
set_option Elab.async false
set_option linter.all false
set_option maxRecDepth 100000
set_option maxHeartbeats 2000000
namespace DL
open PySem L2
@[simp] def dNext : DTS := fun E ρ M => E.nx ρ M
@[simp] def dSeq (t u : DTS) : DTS := fun E ρ M => t { E with nx := u E } ρ M
@[simp] def dIf (υ : DTT) (t u : DTS) : DTS := fun E ρ M => υ ρ M (fun b M1 => if b = true then t E ρ M1 else u E ρ M1) E.ex
@[simp] def dRet (τ : DTE) : DTS := fun E ρ M => τ ρ M E.rt E.ex
@[simp] def dRetN : DTS := fun E _ M => E.rt .non M
@[simp] def dDrop (τ : DTE) : DTS := fun E ρ M => τ ρ M (fun _ M1 => E.nx ρ M1) E.ex
@[simp] def dBrk : DTS := fun E ρ M => E.bk ρ M
@[simp] def dCnt : DTS := fun E ρ M => E.ct ρ M
@[simp] def dNever : DTS := fun _ _ _ => False
abbrev DTG := D -> Env -> Mem -> (Env -> Mem -> Prop) -> DX -> Prop
abbrev DTGs := List D -> Env -> Mem -> (Env -> Mem -> Prop) -> DX -> Prop
@[simp] def gN (i : Nat) : DTG := fun d ρ M Q _ => Q (ρ.set i (some d)) M
@[simp] def gsNil : DTGs := fun ds ρ M Q _ => ds = [] /\ Q ρ M
@[simp] def gsCons (γ : DTG) (γs : DTGs) : DTGs := fun ds ρ M Q X => ∃ d r, ds = d :: r /\ γ d ρ M (fun ρ1 M1 => γs r ρ1 M1 Q X) X
@[simp] def gT (n : Nat) (γs : DTGs) : DTG := fun d ρ M Q X => ∃ ds, (vw M d = .tup ds \/ vw M d = .lst ds) /\ ds.length = n /\ γs ds ρ M Q X
@[simp] def gSubL (τo τi : DTE) : DTG := fun d ρ M Q X => τo ρ M (fun o M1 => τi ρ M1 (fun i M2 => ∃ a xs k j, o = .ref a /\ M2 a = some (.lst xs) /\ i = .int k /\ ixN xs.length k = some j /\ Q ρ (updM M2 a (.lst (xs.set j d)))) X) X
@[simp] def dAsg (τ : DTE) (γ : DTG) : DTS := fun E ρ M => τ ρ M (fun d M1 => γ d ρ M1 E.nx E.ex) E.ex
@[simp] def dPar (i j : Nat) (α : DTA) : DTS := fun E ρ M => α ρ M (fun ds M1 => ∃ d e, ds = [d, e] /\ E.nx ((ρ.set i (some d)).set j (some e)) M1) E.ex
@[simp] def dPar3 (i j l : Nat) (α : DTA) : DTS := fun E ρ M => α ρ M (fun ds M1 => ∃ d e f, ds = [d, e, f] /\ E.nx (((ρ.set i (some d)).set j (some e)).set l (some f)) M1) E.ex
@[simp] def dAug (i : Nat) (f : D -> D -> Option D) (τ : DTE) : DTS := fun E ρ M => ∃ d, ρ[i]? = some (some d) /\ τ ρ M (fun e M1 => ∃ z, f d (vw M1 e) = some z /\ E.nx (ρ.set i (some z)) M1) E.ex
@[simp] def augI : D -> D -> Option D
  | .int i, .int j => some (.int (i + j))
  | _, _ => none
def forD (γ : DTG) (t : DTS) : List D -> DTS
  | [] => fun E ρ M => E.nx ρ M
  | x :: xs => fun E ρ M => γ x ρ M (fun ρ2 M2 => t { E with nx := forD γ t xs E, ct := forD γ t xs E, bk := E.nx } ρ2 M2) E.ex
abbrev DTI := Env -> Mem -> (List D -> Mem -> Prop) -> DX -> Prop
def dFor (ι : DTI) (γ : DTG) (t : DTS) : DTS := fun E ρ M => ι ρ M (fun xs M1 => forD γ t xs E ρ M1) E.ex
def noX : DX := fun _ _ _ _ _ => False
@[simp] def wipeD (ρ : Env) : List Nat -> Env
  | [] => ρ
  | v :: vs => (wipeD ρ vs).set v none
def lcD (γ : DTG) (υ : DTT) (τ : DTE) (vs : List Nat) (a : Addr) : List D -> Env -> Mem -> DV -> Prop
  | [] => fun _ M Q => ∃ ds, M a = some (.lst ds) /\ Q (.lst ds) (delM M a)
  | x :: xs => fun ρ M Q => γ x (wipeD ρ vs) M (fun ρ2 M2 => υ ρ2 M2 (fun b M3 => if b = true then τ ρ2 M3 (fun d M4 => ∃ acc, M4 a = some (.lst acc) /\ acc.length < sizeLine /\ lcD γ υ τ vs a xs ρ (updM M4 a (.lst (acc ++ [d]))) Q) noX else lcD γ υ τ vs a xs ρ M3 Q) noX) noX
def dLc (ι : DTI) (γ : DTG) (υ : DTT) (τ : DTE) (vs : List Nat) : DTE := fun ρ M Q X => ι ρ M (fun xs M1 => ∀ a, M1 a = none -> lcD γ υ τ vs a xs ρ (updM M1 a (.lst [])) Q) X
@[simp] def dYes : DTT := fun _ M Q _ => Q true M
section
variable {cl : ClW} {X : Cx} {W : WX} {a b e c : Expr} {es : List Expr} {st : Stmt} {sts sts' : List Stmt} {pos : Pos} {τ τa τb τc : DTE} {υ : DTT} {α : DTA} {t u : DTS}
theorem dss_nil : DSs cl X W [] dNext := ⟨pss_imp pss_nil fun D σ H ⟨F, ρ, M, E, g, s, q, ok⟩ => ok.nx σ H F ρ M (Same.refl F) g s q⟩
theorem dss_cons (h1 : DS cl X W st t) (h2 : DSs cl X W sts u) : DSs cl X W (st :: sts) (dSeq t u) := ⟨pss_imp (pss_cons h1.ps h2.pss) fun D σ H ⟨F, ρ, M, E, g, s, q, ok⟩ =>
  ⟨F, ρ, M, { E with nx := u E }, g, s, q, ⟨fun σ' H' F' ρ' M' sm g' s' q' => ⟨F', ρ', M', E, g', s', q', ok.mono sm⟩, ok.rt, ok.bk, ok.ct, ok.ex⟩⟩⟩
theorem dss_one (h1 : DS cl X W st t) : DSs cl X W [st] t := ⟨pss_one h1.ps⟩
theorem ds_break : DS cl X W (.Break pos) dBrk := ⟨ps_imp ps_break fun D σ H ⟨F, ρ, M, E, g, s, q, ok⟩ => ok.bk σ H F ρ M (Same.refl F) g s q⟩
theorem ds_never : DS cl X W st dNever := ⟨ps_imp ps_never fun D σ H ⟨_, _, _, _, _, _, q, _⟩ => q⟩
theorem ds_if (h : DT cl X W c υ) (h1 : DSs cl X W sts t) (h2 : DSs cl X W sts' u) : DS cl X W (.If c sts sts' pos) (dIf υ t u) := ⟨ps_imp (ps_if h.pt h1.pss h2.pss) fun D σ H ⟨F, ρ, M, E, g, s, q, ok⟩ =>
  ⟨F, ρ, M, _, E.ex, g, s, q, fun k H' F' M' sm g' q' => by
    cases k with
    | true => rw [if_pos rfl] at q' ⊢; exact ⟨F', ρ, M', E, g', s.mono sm, q', ok.mono sm⟩
    | false => rw [if_neg Bool.false_ne_true] at q' ⊢; exact ⟨F', ρ, M', E, g', s.mono sm, q', ok.mono sm⟩, ok.ex⟩⟩
theorem ds_ret (h : DE cl X W e τ) : DS cl X W (.Return (some e) pos) (dRet τ) := ⟨ps_imp (ps_ret h.pe) fun D σ H ⟨F, ρ, M, E, g, s, q, ok⟩ => ⟨F, ρ, M, _, E.ex, g, s, q, ok.rt, ok.ex⟩⟩
theorem ds_expr (h : DE cl X W e τ) (hs : swapsWith e none pos.line X.env = pure false := by rfl) : DS cl X W (.Expr e pos) (dDrop τ) := ⟨ps_imp (ps_expr h.pe hs) fun D σ H ⟨F, ρ, M, E, g, s, q, ok⟩ =>
  ⟨F, ρ, M, _, E.ex, g, s, q, fun v H' F' d M' sm g' r q' => ok.nx _ _ _ _ _ sm g' (s.mono sm) q', ok.ex⟩⟩
structure DG (cl : ClW) (X : Cx) (W : WX) (tg : Expr) (is : List Nat) (γ : DTG) : Prop where
  pg : PG X tg (fun v σ H Q => ∃ F ρ M d Qd Xd, Good X.K cl F H M /\ Slots X.K cl F σ ρ /\ Rep X.K cl F v d /\ γ d ρ M Qd Xd /\ (∀ σ' H' F' ρ' M', Same F F' -> Good X.K cl F' H' M' -> Slots X.K cl F' σ' ρ' -> (∀ vs : List Nat, (∀ i ∈ is, i ∈ vs) -> wipe σ' vs = wipe σ vs) -> Qd ρ' M' -> Q σ' H') /\ WOk X.K cl W F Xd)
structure DGs (cl : ClW) (X : Cx) (W : WX) (tgs : List Expr) (is : List Nat) (γs : DTGs) : Prop where
  pgs : PGs X tgs (fun vs σ H Q => ∃ F ρ M ds Qd Xd, Good X.K cl F H M /\ Slots X.K cl F σ ρ /\ Reps X.K cl F vs ds /\ γs ds ρ M Qd Xd /\ (∀ σ' H' F' ρ' M', Same F F' -> Good X.K cl F' H' M' -> Slots X.K cl F' σ' ρ' -> (∀ vs : List Nat, (∀ i ∈ is, i ∈ vs) -> wipe σ' vs = wipe σ vs) -> Qd ρ' M' -> Q σ' H') /\ WOk X.K cl W F Xd)
theorem pg_imp {tg : Expr} {t t' : TG} (h : PG X tg t) (i : ∀ v σ H Q, t' v σ H Q -> t v σ H Q) : PG X tg t' := ⟨fun pins s σ H v u Q I r q => h.run pins s σ H v u Q I r (i v σ H Q q)⟩
theorem pgs_imp {tg : List Expr} {t t' : TGs} (h : PGs X tg t) (i : ∀ v σ H Q, t' v σ H Q -> t v σ H Q) : PGs X tg t' := ⟨fun pins s σ H v u Q I r q => h.run pins s σ H v u Q I r (i v σ H Q q)⟩
theorem wipe_set {σ : St} {i : Nat} {x : Option V} : ∀ {vs : List Nat}, i ∈ vs -> wipe (σ.set i x) vs = wipe σ vs
  | v :: vs, h => by
    unfold wipe
    by_cases e : i ∈ vs
    · rw [wipe_set e]
    · have e2 : i = v := by
        rcases List.mem_cons.mp h with h | h
        · exact h
        · exact absurd h e
      subst e2
      have : ∀ (vs : List Nat), i ∉ vs -> wipe (σ.set i x) vs = (wipe σ vs).set i x := by
        intro vs
        induction vs with
        | nil => intro _; rfl
        | cons w ws ih =>
          intro hn
          have h1 : i ≠ w := fun z => hn (z ▸ List.mem_cons_self)
          have h2 : i ∉ ws := fun z => hn (List.mem_cons_of_mem _ z)
          show (wipe (σ.set i x) ws).set w none = ((wipe σ ws).set w none).set i x
          rw [ih h2, List.set_comm _ _ h1]
      rw [this vs e, List.set_set]
theorem dg_name {x : Str} (i : Nat) (hN : X.N.Nodup) (hi : X.N[i]? = some x := by rfl) (hx : Loc X.env.scope x := by first | exact Or.inl rfl | exact Or.inr rfl) (hf : X.fn x = true \/ X.env.scope.names.lookup x = some .local := by first | exact .inl rfl | exact .inr rfl) : DG cl X W (.Name x pos) [i] (gN i) :=
  ⟨pg_imp (pg_name hN hi hx hf) fun v σ H Q ⟨F, ρ, M, d, Qd, Xd, g, s, r, q, p, w⟩ => p _ _ F _ M (Same.refl F) g (s.set i r) (fun vs h => wipe_set (h i (List.mem_singleton.mpr rfl))) q⟩
theorem dgs_nil : DGs cl X W [] [] gsNil := ⟨pgs_imp pgs_nil fun v σ H Q ⟨F, ρ, M, d, Qd, Xd, g, s, r, ⟨e1, q⟩, p, w⟩ => by
  subst e1
  exact ⟨r.inv0, p _ _ F _ M (Same.refl F) g s (fun _ _ => rfl) q⟩⟩
theorem dgs_cons {tgs : List Expr} {is js : List Nat} {γ : DTG} {γs : DTGs} (h1 : DG cl X W e is γ) (h2 : DGs cl X W tgs js γs) (hs : (assignEach (e :: tgs) X.env).map (·.2) = assign e X.env :: (assignEach tgs X.env).map (·.2) := by rfl) : DGs cl X W (e :: tgs) (is ++ js) (gsCons γ γs) :=
  ⟨pgs_imp (pgs_cons h1.pg h2.pgs hs) fun vs σ H Q ⟨F, ρ, M, ds, Qd, Xd, g, s, r, ⟨d, rest, e1, q⟩, p, w⟩ => by
    subst e1
    obtain ⟨v, ws, rfl, r1, r2⟩ := r.inv
    refine ⟨v, ws, rfl, F, ρ, M, d, _, Xd, g, s, r1, q, fun σ1 H1 F1 ρ1 M1 sm1 g1 s1 w1 q1 => ?_, w⟩
    refine ⟨F1, ρ1, M1, rest, Qd, Xd, g1, s1, r2.mono sm1, q1, fun σ2 H2 F2 ρ2 M2 sm2 g2 s2 w2 q2 => ?_, w.mono sm1⟩
    exact p _ _ _ _ _ (sm1.trans sm2) g2 s2 (fun vs hv => (w2 vs fun i hi => hv i (List.mem_append_right _ hi)).trans (w1 vs fun i hi => hv i (List.mem_append_left _ hi))) q2⟩
def gTL (K : PySem.W.Frag) (n : Nat) (t : TGs) : TG := fun v σ H Q => gTup K n t v σ H Q \/ gLst K n t v σ H Q
theorem pg_tl {k : Nat} {t : TGs} {n : Nat} (hc : X.calm = true) (h : PGs X es t) (hn : (assignEach es X.env).length = n := by rfl) (hst : (assignEach es X.env).findIdx? (·.1) = none := by rfl) : PG X (.Tuple es k pos) (gTL X.K n t) :=
  ⟨fun pins s σ H v u Q I r q => q.elim (fun q => (pg_tup hc h hn hst).run pins s σ H v u Q I r q) fun q => (pg_lst hc h hn hst).run pins s σ H v u Q I r q⟩
theorem dg_tup {k n : Nat} {is : List Nat} {γs : DTGs} (hc : X.calm = true) (h : DGs cl X W es is γs) (hn : (assignEach es X.env).length = n := by rfl) (hst : (assignEach es X.env).findIdx? (·.1) = none := by rfl) : DG cl X W (.Tuple es k pos) is (gT n γs) :=
  ⟨pg_imp (pg_tl hc h.pgs hn hst) fun v σ H Q ⟨F, ρ, M, d, Qd, Xd, g, s, r, ⟨ds, e1, e2, q⟩, p, w⟩ => by
    have hv := vw_ok g r
    rcases e1 with e1 | e1
    · rw [e1] at hv
      obtain ⟨a, vs, rfl, h1, h2⟩ := hv.tup g.sub
      exact .inl ⟨a, vs, rfl, h1, by rw [h2.length]; exact e2, F, ρ, M, ds, Qd, Xd, g, s, h2, q, p, w⟩
    · rw [e1] at hv
      obtain ⟨a, vs, rfl, h1, h2⟩ := hv.lst g.sub
      exact .inr ⟨a, vs, rfl, h1, by rw [h2.length]; exact e2, F, ρ, M, ds, Qd, Xd, g, s, h2, q, p, w⟩⟩
theorem dg_subL {o i : Expr} {τo τi : DTE} (ho : DE cl X W o τo) (hi : DE cl X W i τi) (ha : ∀ v, assign (.Subscript o i pos) X.env v = (do
      let ov <- holding [v] (eval o X.env)
      let iv <- holding [v, ov] (eval i X.env)
      standAt pos
      holding [v, ov, iv] (setItem ov iv v)
      release [v, ov, iv] []) := by intro _; rfl) : DG cl X W (.Subscript o i pos) [] (gSubL τo τi) :=
  ⟨pg_imp (pg_sub ho.pe hi.pe set_list ha) fun v σ H Q ⟨F, ρ, M, d, Qd, Xd, g, s, r, q, p, w⟩ =>
    ⟨F, ρ, M, _, Xd, g, s, q, fun x H1 F1 od M1 sm1 g1 r1 q1 => ⟨F1, ρ, M1, _, Xd, g1, s.mono sm1, q1, fun y H2 F2 jd M2 sm2 g2 r2 q2 => (by
      obtain ⟨a, xs, k, j, e1, e2, e3, e4, e5⟩ := q2
      subst e1 e3
      obtain rfl := r1.toRef
      obtain rfl := r2.toInt
      obtain ⟨hF, vs, h1, h2⟩ := g2.cell a _ e2
      refine ⟨a, vs, k, j, rfl, rfl, h1, by rw [h2.length]; exact e4, ?_⟩
      exact p _ _ F2 ρ _ (sm1.trans sm2) (g2.put (d := .lst (xs.set j d)) e2 ⟨vs.set j v, upd_same, h2.set (r.mono (sm1.trans sm2)) j⟩) (s.mono (sm1.trans sm2)) (fun _ _ => rfl) e5), w.mono sm1⟩, w⟩⟩
theorem ds_asg {tg : Expr} {is : List Nat} {γ : DTG} (he : DE cl X W e τ) (hg : DG cl X W tg is γ) (hs : swapsWithSole [tg] e pos.line X.env = pure false := by rfl) (hw : swappedStores [tg] e X.env = pure none := by rfl)
    (h1 : (assignEach [tg] X.env).map (·.2) = [assign tg X.env] := by rfl) : DS cl X W (.Assign [tg] e pos) (dAsg τ γ) := ⟨ps_imp (ps_asg he.pe hg.pg hs hw h1) fun D σ H ⟨F, ρ, M, E, g, s, q, ok⟩ =>
  ⟨F, ρ, M, _, E.ex, g, s, q, fun v H' F' d M' sm g' r q' => ⟨F', ρ, M', d, E.nx, E.ex, g', s.mono sm, r, q', fun σ2 H2 F2 ρ2 M2 sm2 g2 s2 _ q2 => ok.nx _ _ _ _ _ (sm.trans sm2) g2 s2 q2, ok.ex.mono sm⟩, ok.ex⟩⟩
theorem ds_set {x : Str} {pos' : Pos} (i : Nat) (hN : X.N.Nodup) (he : DE cl X W e τ) (hi : X.N[i]? = some x := by rfl) (hx : Loc X.env.scope x := by first | exact Or.inl rfl | exact Or.inr rfl) (hs : swapsWith e (some (.Name x pos')) pos.line X.env = pure false := by rfl) (hf : X.fn x = true \/ X.env.scope.names.lookup x = some .local := by first | exact .inl rfl | exact .inr rfl) :
    DS cl X W (.Assign [.Name x pos'] e pos) (dAsg τ (gN i)) := ⟨ps_imp (ps_set hN hi hx he.pe hs hf) fun D σ H ⟨F, ρ, M, E, g, s, q, ok⟩ =>
  ⟨F, ρ, M, _, E.ex, g, s, q, fun v H' F' d M' sm g' r q' => ok.nx _ _ _ _ _ sm g' ((s.mono sm).set i r) q', ok.ex⟩⟩
theorem ds_par {i j : Nat} {x y : Str} {px py pt : Pos} {kt k2 pt2} (hc : X.calm = true) (hN : X.N.Nodup) (ha : DA cl X W [a, b] α) (hi : X.N[i]? = some x := by rfl) (hj : X.N[j]? = some y := by rfl) (hij : i ≠ j := by decide)
    (hx : X.env.scope.names.lookup x = some .local := by rfl) (hy : X.env.scope.names.lookup y = some .local := by rfl)
    (hw : swappedStores [.Tuple [.Name x px, .Name y py] kt pt] (.Tuple [a, b] k2 pt2) X.env = pure (some [x, y]) := by rfl)
    (hs : swapsWithSole [.Tuple [.Name x px, .Name y py] kt pt] (.Tuple [a, b] k2 pt2) pos.line X.env = pure false := by rfl) :
    DS cl X W (.Assign [.Tuple [.Name x px, .Name y py] kt pt] (.Tuple [a, b] k2 pt2) pos) (dPar i j α) := ⟨ps_imp (ps_par hc hN hi hj hij hx hy ha.pa hw hs) fun D σ H ⟨F, ρ, M, E, g, s, q, ok⟩ =>
  ⟨F, ρ, M, _, E.ex, g, s, q, fun vs H' F' ds M' sm g' r q' => by
    obtain ⟨d, e, e1, q'⟩ := q'
    subst e1
    obtain ⟨v, ws, rfl, r1, r2⟩ := r.inv
    obtain ⟨v2, ws, rfl, r3, r4⟩ := r2.inv
    obtain rfl := r4.inv0
    exact ⟨v, v2, rfl, ok.nx _ _ _ _ _ sm g' (((s.mono sm).set i r1).set j r3) q'⟩, ok.ex⟩⟩
def Walks (K : PySem.W.Frag) (cl : ClW) (J : It) (F : Hp) (xs : List D) : Prop := ∀ i F' H' M', Same F F' -> Good K cl F' H' M' ->
  (∀ d, xs[i]? = some d -> J.go i H' /\ ∀ x H3, J.yld i H' x H3 -> ∃ F3, Same F' F3 /\ Good K cl F3 H3 M' /\ Rep K cl F3 x d) /\ (xs.length <= i -> J.stop i H')
structure DI (cl : ClW) (X : Cx) (W : WX) (tg iter : Expr) (ι : DTI) : Prop where
  pi : PI X tg iter (fun σ H R => ∃ F ρ M Rd Xd, Good X.K cl F H M /\ Slots X.K cl F σ ρ /\ ι ρ M Rd Xd /\ (∀ J H' F' xs M', Same F F' -> Good X.K cl F' H' M' -> Walks X.K cl J F' xs -> Rd xs M' -> R J H') /\ WOk X.K cl W F Xd)
theorem pi_imp {tg it : Expr} {t t' : TI} (h : PI X tg it t) (i : ∀ σ H R, t' σ H R -> t σ H R) : PI X tg it t' := ⟨fun pins s σ H R I q => h.run pins s σ H R I (i σ H R q)⟩
@[simp] def iL (τ : DTE) : DTI := fun ρ M R X => τ ρ M (fun d M1 => ∃ xs, d = .lst xs /\ R xs M1) X
@[simp] def iT (τ : DTE) : DTI := fun ρ M R X => τ ρ M (fun d M1 => ∃ xs, d = .tup xs /\ R xs M1) X
@[simp] def iR1 (τ : DTE) : DTI := fun ρ M R X => τ ρ M (fun d M1 => ∃ n, d = .int n /\ -(2 ^ 62) <= n /\ n < 2 ^ 62 /\ R ((List.range n.toNat).map fun (i : Nat) => D.int (i : Int)) M1) X
@[simp] def iR2 (τ τ' : DTE) : DTI := fun ρ M R X => τ ρ M (fun d M1 => τ' ρ M1 (fun e M2 => ∃ l n, d = .int l /\ e = .int n /\ (-(2 ^ 62) <= l /\ l < 2 ^ 62 /\ -(2 ^ 62) <= n /\ n < 2 ^ 62) /\ R ((List.range (n - l).toNat).map fun (i : Nat) => D.int (l + (i : Int))) M2) X) X
theorem walks_range {K : PySem.W.Frag} {F : Hp} (l : Int) (n : Nat) : Walks K cl (Itr l n) F ((List.range n).map fun (i : Nat) => D.int (l + (i : Int))) := fun i F2 H2 M2 sm2 g2 => by
  refine ⟨fun d hd => ?_, fun hl => (show n <= i by simpa using hl)⟩
  rw [List.getElem?_map] at hd
  cases e : (List.range n)[i]? with
  | none => rw [e] at hd; cases hd
  | some j =>
    obtain ⟨hj, ej⟩ := List.getElem?_eq_some_iff.mp e
    rw [List.getElem_range] at ej
    subst ej
    rw [e] at hd
    cases hd
    refine ⟨(show i < n by simpa using hj), fun x H3 ⟨e1, e2⟩ => ?_⟩
    subst e1 e2
    exact ⟨F2, Same.refl F2, g2, .int _⟩
theorem di_range1 {tg : Expr} {p : Pos} (hg : Gl X "range") (hm : X.mg "range" = none) (ha : DE cl X W a τa) (hs : starEach [a] X.env = [(false, eval a X.env)] := by rfl) : DI cl X W tg (.Call (.Name "range" p) [a] [] pos) (iR1 τa) :=
  ⟨pi_imp (pi_range1 hg hm (da_cons (W := W) (cl := cl) ha da_nil hs).pa hs) fun σ H R ⟨F, ρ, M, Rd, Xd, g, s, q, p, w⟩ =>
    ⟨F, ρ, M, fun ds M1 => ∃ n : Int, ds = [.int n] /\ -(2 ^ 62) <= n /\ n < 2 ^ 62 /\ Rd ((List.range n.toNat).map fun (i : Nat) => D.int (i : Int)) M1, Xd, g, s, (by
      unfold iR1 at q
      unfold dCons dNil
      have mono : (fun d M1 => ∃ n, d = D.int n /\ -(2 ^ 62) <= n /\ n < 2 ^ 62 /\ Rd ((List.range n.toNat).map fun (i : Nat) => D.int (i : Int)) M1) = (fun d M1 => ∃ n : Int, [d] = [.int n] /\ -(2 ^ 62) <= n /\ n < 2 ^ 62 /\ Rd ((List.range n.toNat).map fun (i : Nat) => D.int (i : Int)) M1) := by
        funext d M1
        simp
      rw [mono] at q
      exact q), fun vs H' F' ds M' sm g' r ⟨n, e1, b1, b2, q'⟩ => by
      subst e1
      obtain ⟨v, ws, rfl, r1, r2⟩ := r.inv
      obtain rfl := r2.inv0
      obtain rfl := r1.toInt
      refine ⟨n, rfl, b1, b2, p _ _ F' _ M' sm g' (walks_range 0 n.toNat) ?_⟩
      simpa using q', w⟩⟩
theorem ds_for {tg iter : Expr} {is : List Nat} {ι : DTI} {γ : DTG} (hp : PassesOwn (model X.prog X.w) X.A X.env X.xe) (hc : X.calm = true) (hi : DI cl X W tg iter ι) (hg : DG cl X W tg is γ) (hb : DSs cl X W sts t) (hs : ∀ x, foldedSetIterable iter X.env x = pure x := by intro _; rfl) :
    DS cl X W (.For tg iter sts [] pos) (dFor ι γ t) := ⟨ps_imp (ps_for hp hc hi.pi hg.pg hb.pss hs) fun D σ H ⟨F, ρ, M, E, g, s, q, ok⟩ => by
  refine ⟨F, ρ, M, _, E.ex, g, s, q, fun J H1 F1 xs M1 sm1 g1 wk q1 => ?_, ok.ex⟩
  refine ⟨fun i m σ H => m = xs.length - i /\ i <= xs.length /\ ∃ F' ρ M, Same F1 F' /\ Good X.K cl F' H M /\ Slots X.K cl F' σ ρ /\ forD γ t (xs.drop i) E ρ M, ⟨xs.length, by simp, Nat.zero_le _, F1, ρ, M1, Same.refl F1, g1, s.mono sm1, by simpa using q1⟩, ?_⟩
  rintro i m σ2 H2 ⟨rfl, hi, F2, ρ2, M2, sm2, g2, s2, q2⟩
  have ok2 := ok.mono (sm1.trans sm2)
  by_cases hlt : i < xs.length
  · obtain ⟨go, yl⟩ := (wk i F2 H2 M2 sm2 g2).1 xs[i] (by simp [hlt])
    rw [List.drop_eq_getElem_cons hlt] at q2
    refine .inr ⟨go, fun σ' H' => ∃ F' ρ' M', Same F1 F' /\ Good X.K cl F' H' M' /\ Slots X.K cl F' σ' ρ' /\ forD γ t (xs.drop (i + 1)) E ρ' M', fun σ' H' n => ⟨xs.length - (i + 1), by omega, rfl, hlt, n⟩, fun x H3 y => ?_⟩
    obtain ⟨F3, sm3, g3, r3⟩ := yl x H3 y
    refine ⟨F3, ρ2, M2, xs[i], _, E.ex, g3, s2.mono sm3, r3, q2, fun σ4 H4 F4 ρ4 M4 sm4 g4 s4 _ q4 => ?_, ok2.ex.mono sm3⟩
    have ok4 := ok2.mono (sm3.trans sm4)
    exact ⟨F4, ρ4, M4, _, g4, s4, q4, ⟨fun σ' H' F' ρ' M' sm' g' s' q' => ⟨F', ρ', M', ((sm2.trans sm3).trans sm4).trans sm', g', s', q'⟩, ok4.rt, ok4.nx, fun σ' H' F' ρ' M' sm' g' s' q' => ⟨F', ρ', M', ((sm2.trans sm3).trans sm4).trans sm', g', s', q'⟩, ok4.ex⟩⟩
  · have e : i = xs.length := by omega
    subst e
    rw [List.drop_length] at q2
    exact .inl ⟨(wk _ F2 H2 M2 sm2 g2).2 (Nat.le_refl _), ok2.nx _ _ F2 ρ2 M2 (Same.refl F2) g2 s2 q2⟩⟩
end
end DL
set_option Elab.async false
set_option linter.all false
set_option maxRecDepth 100000
set_option maxHeartbeats 2000000
namespace DL
open PySem L2
abbrev W0 : WX := fun _ _ _ _ => False
theorem wok0 {K : PySem.W.Frag} {cl : ClW} {F : Hp} : WOk K cl W0 F noX := fun _ _ _ _ _ _ _ _ _ _ _ _ _ h => h
theorem wipe_idem (σ : St) : ∀ vs : List Nat, ∀ ws : List Nat, (∀ v ∈ vs, v ∈ ws) -> wipe (wipe σ vs) ws = wipe σ ws
  | [], ws, _ => rfl
  | v :: vs, ws, h => by
    show wipe ((wipe σ vs).set v none) ws = wipe σ ws
    rw [wipe_set (h v List.mem_cons_self), wipe_idem σ vs ws fun x hx => h x (List.mem_cons_of_mem _ hx)]
theorem Slots.wipe {K : PySem.W.Frag} {cl : ClW} {F : Hp} {σ : St} {ρ : Env} (h : Slots K cl F σ ρ) : ∀ vs : List Nat, Slots K cl F (wipe σ vs) (wipeD ρ vs)
  | [] => h
  | v :: vs => (Slots.wipe h vs).setN v
structure DTs (cl : ClW) (X : Cx) (W : WX) (ifs : List Expr) (υ : DTT) : Prop where
  pts : PTs X ifs (lowT X.K cl W υ)
section
variable {cl : ClW} {X : Cx} {W : WX} {c : Expr} {υ : DTT}
theorem dts_nil : DTs cl X W [] dYes := ⟨⟨fun pins s σ H Q I ⟨F, ρ, M, Qd, Xd, g, sl, t, p, w⟩ => pts_nil.run pins s σ H Q I (p true H F M (Same.refl F) g t)⟩⟩
theorem dts_one (h : DT cl X W c υ) : DTs cl X W [c] υ := ⟨pts_one h.pt⟩
end
section
variable {cl : ClW} {X : Cx} {W : WX} {elt tg iter : Expr} {ifs : List Expr} {scope : Scope} {own : List (Str × Nat)} {pos : Pos} {ι : DTI} {is : List Nat} {γ : DTG} {υ : DTT} {τ : DTE}
theorem lc_lift {K : PySem.W.Frag} (his : ∀ i ∈ is, i ∈ own.map (·.2)) {σ : St} {H : Hp} {Q : VK} {F : Hp} {ρ : Env} {M : Mem} {Qd : DV} {Xd : DX} (g : Good K cl F H M) (s : Slots K cl F σ ρ) (q : dLc ι γ υ τ (own.map (·.2)) ρ M Qd Xd) (p : Post K cl F Q Qd) (w : WOk K cl W F Xd) :
    tLc (fun σ H R => ∃ F ρ M Rd Xd, Good K cl F H M /\ Slots K cl F σ ρ /\ ι ρ M Rd Xd /\ (∀ J H' F' xs M', Same F F' -> Good K cl F' H' M' -> Walks K cl J F' xs -> Rd xs M' -> R J H') /\ WOk K cl W F Xd)
      (fun v σ H Q => ∃ F ρ M d Qd Xd, Good K cl F H M /\ Slots K cl F σ ρ /\ Rep K cl F v d /\ γ d ρ M Qd Xd /\ (∀ σ' H' F' ρ' M', Same F F' -> Good K cl F' H' M' -> Slots K cl F' σ' ρ' -> (∀ vs : List Nat, (∀ i ∈ is, i ∈ vs) -> wipe σ' vs = wipe σ vs) -> Qd ρ' M' -> Q σ' H') /\ WOk K cl W0 F Xd)
      (lowT K cl W0 υ) (lowE K cl W0 τ) (own.map (·.2)) σ H Q := by
  refine ⟨F, ρ, M, _, Xd, g, s, q, fun J H1 F1 xs M1 sm1 g1 wk q1 a hD => ?_, w⟩
  refine ⟨fun i m H => m = xs.length - i /\ i <= xs.length /\ ∃ F' M, Same F1 F' /\ Good K cl F' H M /\ lcD γ υ τ (own.map (·.2)) a (xs.drop i) ρ M Qd,
    ⟨xs.length, by simp, Nat.zero_le _, F1, updM M1 a (.lst []), Same.refl F1, g1.newM (d := .lst []) hD ⟨[], upd_same, .nil⟩, by simpa using q1 a (g1.freshM hD)⟩, ?_⟩
  rintro i m H2 ⟨rfl, hi, F2, M2, sm2, g2, q2⟩
  by_cases hlt : i < xs.length
  · obtain ⟨go, yl⟩ := (wk i F2 H2 M2 sm2 g2).1 xs[i] (by simp [hlt])
    rw [List.drop_eq_getElem_cons hlt] at q2
    unfold lcD at q2
    refine .inr ⟨go, fun H' => ∃ F' M', Same F1 F' /\ Good K cl F' H' M' /\ lcD γ υ τ (own.map (·.2)) a (xs.drop (i + 1)) ρ M' Qd, fun H' n => ⟨xs.length - (i + 1), by omega, rfl, hlt, n⟩, fun x H3 y => ?_⟩
    obtain ⟨F3, sm3, g3, r3⟩ := yl x H3 y
    refine ⟨F3, wipeD ρ (own.map (·.2)), M2, xs[i], _, noX, g3, (s.mono ((sm1.trans sm2).trans sm3)).wipe _, r3, q2, fun σ4 H4 F4 ρ4 M4 sm4 g4 s4 w4 q4 => ⟨?_, ?_⟩, wok0⟩
    · rw [w4 _ his]
      exact wipe_idem _ _ _ fun _ h => h
    · refine ⟨F4, ρ4, M4, _, noX, g4, s4, q4, fun k H5 F5 M5 sm5 g5 q5 => ?_, wok0⟩
      cases k with
      | true =>
        rw [if_pos rfl] at q5 ⊢
        refine ⟨F5, ρ4, M5, _, noX, g5, s4.mono sm5, q5, fun y2 H6 F6 d M6 sm6 g6 r6 q6 => ?_, wok0⟩
        obtain ⟨acc, e1, e2, q6⟩ := q6
        obtain ⟨hF, vs, h1, h2⟩ := g6.cell a _ e1
        refine ⟨vs, h1, by rw [h2.length]; exact e2, F6, _, (((sm2.trans sm3).trans sm4).trans sm5).trans sm6, g6.put (d := .lst (acc ++ [d])) e1 ⟨vs ++ [y2], upd_same, h2.append (.one r6)⟩, q6⟩
      | false =>
        rw [if_neg Bool.false_ne_true] at q5 ⊢
        exact ⟨F5, M5, ((sm2.trans sm3).trans sm4).trans sm5, g5, q5⟩
  · have e : i = xs.length := by omega
    subst e
    rw [List.drop_length] at q2
    obtain ⟨ds, e1, q2⟩ := q2
    obtain ⟨F3, sm3, g3, r3⟩ := g2.freeze e1
    exact .inl ⟨(wk _ F2 H2 M2 sm2 g2).2 (Nat.le_refl _), p _ _ _ _ _ ((sm1.trans sm2).trans sm3) g3 r3 q2⟩
theorem d_lc (hc : X.calm = true) (hN : X.N.Nodup) (hi : DI cl X W tg iter ι) (ok : BlkOk X.N X.env.scope scope own)
    (hg : ∀ (s : Shared) (H : Hp) (C : Addr) (cs : List (Str × Addr)) (fp : List Addr), DG cl (X.blk s H scope (compEnvC scope cs C X.env) fp) W0 tg is γ) (ht : ∀ (s : Shared) (H : Hp) (C : Addr) (cs : List (Str × Addr)) (fp : List Addr), DTs cl (X.blk s H scope (compEnvC scope cs C X.env) fp) W0 ifs υ)
    (he : ∀ (s : Shared) (H : Hp) (C : Addr) (cs : List (Str × Addr)) (fp : List Addr), DE cl (X.blk s H scope (compEnvC scope cs C X.env) fp) W0 elt τ) (his : ∀ i ∈ is, i ∈ own.map (·.2) := by decide) (hs : ∀ x, foldedSetIterable iter X.env x = pure x := by intro _; rfl) :
    DE cl X W (.ListComp elt [⟨tg, iter, ifs, 0⟩] scope pos) (dLc ι γ υ τ (own.map (·.2))) :=
  ⟨pe_imp (pe_lc hc hN hi.pi ok (fun s H C cs fp => (hg s H C cs fp).pg) (fun s H C cs fp => (ht s H C cs fp).pts) (fun s H C cs fp => (he s H C cs fp).pe) hs) fun σ H Q ⟨F, ρ, M, Qd, Xd, g, s, q, p, w⟩ => lc_lift his g s q p w⟩
theorem ds_setLc {y : Str} {py spos : Pos} (i : Nat) (hc : X.calm = true) (hN : X.N.Nodup) (hi : DI cl X W tg iter ι) (ok : BlkOk X.N X.env.scope scope own)
    (hg : ∀ (s : Shared) (H : Hp) (C : Addr) (cs : List (Str × Addr)) (fp : List Addr), DG cl (X.blk s H scope (compEnvC scope cs C X.env) fp) W0 tg is γ) (ht : ∀ (s : Shared) (H : Hp) (C : Addr) (cs : List (Str × Addr)) (fp : List Addr), DTs cl (X.blk s H scope (compEnvC scope cs C X.env) fp) W0 ifs υ)
    (he : ∀ (s : Shared) (H : Hp) (C : Addr) (cs : List (Str × Addr)) (fp : List Addr), DE cl (X.blk s H scope (compEnvC scope cs C X.env) fp) W0 elt τ) (hy : X.N[i]? = some y := by rfl) (hyl : X.env.scope.names.lookup y = some .local := by rfl)
    (hsw : swapsWith (.ListComp elt [⟨tg, iter, ifs, 0⟩] scope pos) (some (.Name y py)) spos.line X.env = pure true := by exact sw_true rfl rfl rfl (by decide +kernel)) (his : ∀ i ∈ is, i ∈ own.map (·.2) := by decide) (hs : ∀ x, foldedSetIterable iter X.env x = pure x := by intro _; rfl) :
    DS cl X W (.Assign [.Name y py] (.ListComp elt [⟨tg, iter, ifs, 0⟩] scope pos) spos) (dAsg (dLc ι γ υ τ (own.map (·.2))) (gN i)) :=
  ⟨ps_imp (ps_setLc hc hN hy hyl hsw hi.pi ok (fun s H C cs fp => (hg s H C cs fp).pg) (fun s H C cs fp => (ht s H C cs fp).pts) (fun s H C cs fp => (he s H C cs fp).pe) hs) fun D σ H ⟨F, ρ, M, E, g, s, q, ok⟩ =>
    lc_lift his g s q (fun v H' F' d M' sm g' r q' => ok.nx _ _ _ _ _ sm g' ((s.mono sm).set i r) q') ok.ex⟩
end
structure RoomG (k : Nat) (A : Around) : Prop where
  room : Room k A
  gd : A.guards = some []
theorem RoomG.mono {j k : Nat} {A : Around} (r : RoomG k A) (h : j <= k) : RoomG j A := ⟨r.room.mono h, r.gd⟩
theorem RoomG.deeper {k : Nat} {A : Around} (r : RoomG (k + 1) A) (env : PySem.Env) : RoomG k (A.deeper env) := ⟨r.room.deeper env, r.gd⟩
theorem make_guards {A : Around} {C : Addr} {us : List Value} {kw : List (Str × Value)} : (A.under (.builtin "type.__call__" ⟨.ref C :: us, kw⟩)).guards = A.guards := by
  cases A with
  | mk a b c d e => cases d <;> first | rfl | simp [Around.under, pushGuards, Code.guards, Code.isGuard, guardIds]
theorem RoomG.make {k : Nat} {A : Around} (r : RoomG (k + 1) A) (C : Addr) (us : List Value) (kw : List (Str × Value)) : RoomG k (A.under (.builtin "type.__call__" ⟨.ref C :: us, kw⟩)) := ⟨r.room.make C us kw, make_guards.trans r.gd⟩
structure FnG (cl : ClW) (P : Program) (w : World) (K : PySem.W.Frag) (mg : Str -> Option Value) (base : Heap) (k : Nat) (f : Addr) (fd : FuncData) (ps : List Str) (spd : SpD) : Prop where
  len : ∀ ds M Q E, spd ds M Q E -> ds.length = ps.length
  run : ∀ (A : Around) (outer : List PySem.Env) (s : Shared) (H : Hp) (args : Args) (us : List Value) (vs : List V) (Q : VK) (E : XK), RoomG k A -> Env0 P w K mg base A outer s H -> BindsTo s fd args (ps.zip us) -> Vals vs us -> lower K cl spd vs H Q E ->
    codeAny (model P w) A (.call (.ref f) args) (CR (L2.CX P w) outer P w H s Q E) s
theorem FnG.mono {cl : ClW} {P : Program} {w : World} {K : PySem.W.Frag} {mg : Str -> Option Value} {base : Heap} {j k : Nat} {f : Addr} {fd : FuncData} {ps : List Str} {spd : SpD} (F : FnG cl P w K mg base j f fd ps spd) (h : j <= k) : FnG cl P w K mg base k f fd ps spd :=
  ⟨F.len, fun A outer s H args us vs Q E hr => F.run A outer s H args us vs Q E (hr.mono h)⟩
theorem FnG.lenV {cl : ClW} {P : Program} {w : World} {K : PySem.W.Frag} {mg : Str -> Option Value} {base : Heap} {k : Nat} {f : Addr} {fd : FuncData} {ps : List Str} {spd : SpD} (F : FnG cl P w K mg base k f fd ps spd) {vs : List V} {H : Hp} {Q : VK} {E : XK} (h : lower K cl spd vs H Q E) : vs.length = ps.length := by
  obtain ⟨_, M, ds, Qd, Ed, _, r, q, _⟩ := h
  rw [r.length]
  exact F.len ds M Qd Ed q
structure Cap (X : Cx) (W : WX) (k : Nat) : Prop where
  tk : Takes X W
  hr : RoomG k X.A
  po : PassesOwn (model X.prog X.w) X.A X.env X.xe
  calm : X.calm = true
theorem Cap.blk {X : Cx} {W : WX} {k : Nat} (c : Cap X W k) {s : Shared} {H : Hp} {scope : Scope} {cenv : PySem.Env} {fp : List Addr} : Cap (X.blk s H scope cenv fp) W0 k := ⟨takes0, c.hr, PassesOwn.never, c.calm⟩
@[simp] def startD (N : List Str) (ds : List D) : Env := ds.map some ++ List.replicate (N.length - ds.length) none
theorem slots_start {K : PySem.W.Frag} {cl : ClW} {F : Hp} {vs : List V} {ds : List D} (N : List Str) (r : Reps K cl F vs ds) : Slots K cl F (L2.start N vs) (startD N ds) := by
  have hl := r.length
  refine ⟨by simp [L2.start, startD, hl], fun i d h => ?_⟩
  unfold startD at h
  unfold L2.start
  by_cases hi : i < ds.length
  · rw [List.getElem?_append_left (by simpa using hi)] at h
    rw [List.getElem?_append_left (by simp [hl]; exact hi)]
    rw [List.getElem?_map] at h
    cases e : ds[i]? with
    | none => rw [e] at h; cases h
    | some x =>
      rw [e] at h
      cases h
      obtain ⟨v, hv, rv⟩ := r.get e
      exact ⟨v, by rw [List.getElem?_map, hv]; rfl, rv⟩
  · rw [List.getElem?_append_right (by simpa using Nat.le_of_not_lt hi)] at h
    rw [List.getElem?_replicate] at h
    split at h <;> cases h
@[simp] def dEnds (Q : DV) (E : DEK) : DEnds := { nx := fun _ M => Q .non M, rt := Q, bk := fun _ _ => False, ct := fun _ _ => False, ex := fun c ns ds _ M => E c ns ds M }
theorem fn_d {cl : ClW} {P : Program} {w : World} {K : PySem.W.Frag} {mg : Str -> Option Value} {base : Heap} {k : Nat} {f : Addr} {x qual : Str} {params : Arguments} {body : List Stmt} {scope : Scope} {dvs : List V} {kws : List (Str × V)} {fd : FuncData} {N ps : List Str} {spd : SpD}
    (F : FunD K x qual params body scope dvs kws f fd) (S : FnScope N ps scope) (t : DTS)
    (hbody : ∀ (cdv : Value) (A : Around) (outer : List PySem.Env) (s : Shared) (H : Hp) (E : XK), Cap (cxOf (L2.CX P w) P w K mg base N qual scope f cdv A outer s H E) (fun cls d _ H => E cls d H) k ->
      DSs cl (cxOf (L2.CX P w) P w K mg base N qual scope f cdv A outer s H E) (fun cls d _ H => E cls d H) body t)
    (hsp : ∀ ds M Q E, spd ds M Q E -> ds.length = ps.length /\ t (dEnds Q E) (startD N ds) M) : FnG cl P w K mg base (k + 1) f fd ps spd := by
  refine ⟨fun ds M Q E h => (hsp ds M Q E h).1, fun A outer s H args us vs Q E hr e0 hb r hl => ?_⟩
  obtain ⟨oc, od, dV, kV, doc, pm, an, cdv, ct, osl, rfl, lk, hcd, _, _⟩ := F.ex
  have lenV : ∀ vs H Q E, lower K cl spd vs H Q E -> vs.length = ps.length := fun vs H Q E ⟨_, M, ds, Qd, Ed, _, r, q, _⟩ => by
    rw [r.length]
    exact (hsp ds M Qd Ed q).1
  have hr' := hr.deeper (PyProof.Rows.envOfC qual scope s.heap.objs.size f cdv)
  have KX : K.In s.heap := e0.mod.kin.keeps fun b o e => (e0.bs b o e).1
  have lim : s.heap.NoLimit := e0.mod.nolimit.keeps fun b o e => (e0.bs b o e).1
  have hkind : ∀ y ∈ ps.zip us, scope.names.lookup y.1 = some .local \/ (scope.names.lookup y.1 = some .cell /\ ((cellsFrom (s.heap.objs.size + 1) scope.names []).lookup y.1).isSome = true) := fun ⟨n, v⟩ hy => by
    rcases S.par n (List.of_mem_zip hy).1 with q | q
    · exact .inl q
    · exact .inr ⟨q, PySem.W.cellsFrom_some _ _ _ (.inl q)⟩
  refine codeAny_call_function hr.room.depth (KX _ _ lk) rfl S.co S.gen rfl (PySem.W.codeRec_of KX hcd) (hb _ _ _ _ ?_)
  refine wpAny_newFunctionEnv_cells S.kind hkind fun env he s1 x => ?_
  subst he
  refine ⟨lim.keeps x.toInCall.keep, codeAny_func ?_⟩
  have ht := hbody cdv A outer s H E ⟨takes_of rfl rfl rfl rfl, hr', passes_of rfl, rfl⟩
  have I : Inv (cxOf (L2.CX P w) P w K mg base N qual scope f cdv A outer s H E) [] (L2.start N vs) H s1 := inv_start S hr.room.hd e0 (lenV _ _ _ _ hl) r x
  obtain ⟨F0, M0, ds0, Qd, Ed, g0, r0, q0, p0, ep0⟩ := hl
  have hq : lowS K cl (fun cls d _ H => E cls d H) t { nx := fun _ H' => Q .non H', rt := Q } (L2.start N vs) H :=
    ⟨F0, startD N ds0, M0, dEnds Qd Ed, g0, slots_start N r0, (hsp ds0 M0 Qd Ed q0).2,
      ⟨fun σ' H' F' ρ' M' sm g' s' q' => p0 _ _ _ _ _ sm g' .non q', p0, fun _ _ _ _ _ _ _ _ q' => q', fun _ _ _ _ _ _ _ _ q' => q', fun c ns ds σ' H' F' ρ' M' dd sm g' s' ea q' => ep0 _ _ _ _ _ _ _ sm g' ea q'⟩⟩
  refine wpAny_mono (ht.pss.run [] s1 (L2.start N vs) H _ I hq) (fun fl s' hs => ?_) fun e s' hs => hs
  have fin : ∀ {σ' : St} {H' : Hp} {v : V} {u : Value}, Inv (cxOf (L2.CX P w) P w K mg base N qual scope f cdv A outer s H E) [] σ' H' s' -> RelV v u -> Q v H' -> CE outer P w H s Q u s' :=
    fun {σ' H' v u} J rv q => ⟨v, H', J.os, J.bare, J.base, J.hok, rv, q⟩
  cases fl with
  | ret u =>
    obtain ⟨v, σ', H', J, rv, q⟩ := hs
    exact fin J rv q
  | next =>
    obtain ⟨σ', H', J, q⟩ := hs
    exact fin (v := V.non) (u := Value.none) J rfl q
  | brk =>
    obtain ⟨_, _, _, q⟩ := hs
    exact False.elim q
  | cont =>
    obtain ⟨_, _, _, q⟩ := hs
    exact False.elim q
@[simp] def dCall (spd : SpD) (dds : List D) (α : DTA) : DTE := fun ρ M Q X => α ρ M (fun ds M1 => spd (ds ++ dds) M1 Q (fun c ns es M2 => X c ns es ρ M2)) X
section
variable {cl : ClW} {X : Cx} {W : WX} {k : Nat} {f C : Addr} {fd : FuncData} {ps : List Str} {spd : SpD} {dvs : List V} {ds : List Value} {dds : List D} {x m : Str} {p pos apos : Pos} {e o : Expr} {es : List Expr} {τ : DTE} {α : DTA}
theorem run_g {pins : List (Addr × Obj)} {σ : St} {H : Hp} {s : Shared} {Q : VK} {us : List Value} {vs : List V} (c : Cap X W k) (F : FnG cl X.prog X.w X.K X.mg X.base k f fd ps spd) (hb : Binds X.K fd ps ds) (hd : Vals dvs ds)
    (I : Inv X pins σ H s) (r : Vals vs us) (h : lower X.K cl spd (vs ++ dvs) H Q (WE W σ)) : wpAny (model X.prog X.w) X.A (call (.ref f) us) (EP X pins σ Q) X.xe s := by
  have r2 : Vals (vs ++ dvs) (us ++ ds) := r.append hd
  have hl : (us ++ ds).length = ps.length := by rw [<- r2.length]; exact F.lenV h
  refine wpAny_call (codeAny_mono (F.run X.A X.stack s H ⟨us, []⟩ (us ++ ds) (vs ++ dvs) Q _ c.hr I.env0 (hb s us I.kIn hl) r2 h) fun r s' hq => ?_)
  cases r with
  | error e => exact passAt c.tk σ pins H s e s' I hq
  | ok fl =>
    cases fl with
    | ret u => exact I.after hq
    | next => exact False.elim hq
    | brk => exact False.elim hq
    | cont => exact False.elim hq
theorem low_call {σ : St} {F : Hp} {ρ : Env} {M : Mem} {Qd : DV} {Xd : DX} {vs : List V} {es : List D} {H : Hp} {Q : VK} {K : PySem.W.Frag} (g : Good K cl F H M) (s : Slots K cl F σ ρ) (r : Reps K cl F vs es) (q : spd es M Qd (fun c ns es M2 => Xd c ns es ρ M2)) (p : Post K cl F Q Qd) (w : WOk K cl W F Xd) : lower K cl spd vs H Q (WE W σ) :=
  ⟨F, M, es, Qd, _, g, r, q, p, fun c ns ds H' F' M' dd sm g' ea q' => w c ns ds σ H' F' ρ M' dd sm g' (s.mono sm) ea q'⟩
theorem d_call (c : Cap X W k) (G : FnG cl X.prog X.w X.K X.mg X.base k f fd ps spd) (hg : Gl X x) (hm : X.mg x = some (.ref f)) (hk : PySem.W.keepIn X.K (.ref f) = true) (hb : Binds X.K fd ps ds) (hd : Vals dvs ds) (hdd : ∀ F, Reps X.K cl F dvs dds)
    (ha : DA cl X W (e :: es) α) (hdb : (x == ("__debug__" : Str)) = false := by decide) (he : starEach (e :: es) X.env = (false, eval e X.env) :: starEach es X.env := by rfl) (hpl : (backTo pos (starEach es X.env)).any (·.1) = false := by rfl) :
    DE cl X W (.Call (.Name x p) (e :: es) [] pos) (dCall spd dds α) := ⟨⟨fun pins s σ H Q I h => by
  obtain ⟨F, ρ, M, Qd, Xd, g, sl, q, p, w⟩ := h
  refine wpAny_Call_Name_kw (ld_glob I hg hm ?_ hdb)
  refine PySem.W.callWith_K (h₀ := X.base) I.ok.mod.kin hk (thn (ha.pa.run pos pins s σ H (fun vs H1 => lower X.K cl spd (vs ++ dvs) H1 Q (WE W σ)) I ⟨F, ρ, M, _, Xd, g, sl, q, fun vs H' F' ds M' sm g' r q' => ?_, w⟩) fun us s1 ⟨vs, H1, I1, r, q⟩ => ⟨I1.kIn, ?_⟩) he hpl
  · exact low_call g' (sl.mono sm) (r.append (hdd F')) q' (p.mono sm) (w.mono sm)
  · exact run_g c G hb hd I1 r q⟩⟩
end
end DL
set_option Elab.async false
set_option linter.all false
set_option maxRecDepth 100000
set_option maxHeartbeats 2000000
namespace DL
open PySem L2
mutual
def toPy : D -> Option PyData
  | .non => some .none
  | .bl b => some (.bool b)
  | .int i => some (.int i)
  | .str x => some (.str x)
  | .lst xs => (toPys xs).map .list
  | .tup xs => (toPys xs).map .tuple
  | _ => none
def toPys : List D -> Option (List PyData)
  | [] => some []
  | x :: xs => match toPy x, toPys xs with
    | some p, some ps => some (p :: ps)
    | _, _ => none
end
section
variable {K : PySem.W.Frag} {cl : ClW} {F H : Hp}
mutual
theorem dp_of (s : Same F H) : ∀ (d : D) (v : V) (p : PyData), Rep K cl F v d -> toPy d = some p -> Dp K H v p
  | .non, v, p, r, e => by simp only [toPy] at e; cases e; rw [r.toNon]; exact .non
  | .bl b, v, p, r, e => by simp only [toPy] at e; cases e; rw [r.toBl]; exact .bl b
  | .int i, v, p, r, e => by simp only [toPy] at e; cases e; rw [r.toInt]; exact .int i
  | .str x, v, p, r, e => by simp only [toPy] at e; cases e; rw [r.toStr]; exact .str x
  | .lst xs, v, p, r, e => by
    simp only [toPy] at e
    obtain ⟨a, vs, rfl, h1, h2⟩ := r.toLst
    cases q : toPys xs with
    | none => rw [q] at e; cases e
    | some ps => rw [q] at e; cases e; exact .lst (same_l s h1) (dps_of s xs vs ps h2 q)
  | .tup xs, v, p, r, e => by
    simp only [toPy] at e
    obtain ⟨a, vs, rfl, h1, h2⟩ := r.toTup
    cases q : toPys xs with
    | none => rw [q] at e; cases e
    | some ps => rw [q] at e; cases e; exact .tup (same_t s h1) (dps_of s xs vs ps h2 q)
  | .byt _, v, p, r, e => by simp only [toPy] at e; cases e
  | .ty _, v, p, r, e => by simp only [toPy] at e; cases e
  | .ref _, v, p, r, e => by simp only [toPy] at e; cases e
  | .dK _ _, v, p, r, e => by simp only [toPy] at e; cases e
  | .dT _ _ _, v, p, r, e => by simp only [toPy] at e; cases e
  | .obj _ _ _, v, p, r, e => by simp only [toPy] at e; cases e
  | .cls _, v, p, r, e => by simp only [toPy] at e; cases e
  | .exc _ _ _ _ _, v, p, r, e => by simp only [toPy] at e; cases e
  | .xob _ _ _, v, p, r, e => by simp only [toPy] at e; cases e
  | .thk _ _ _ _ _, v, p, r, e => by simp only [toPy] at e; cases e
  | .dN _ _ _, v, p, r, e => by simp only [toPy] at e; cases e
  | .fn _ _, v, p, r, e => by simp only [toPy] at e; cases e
  | .cel _ _, v, p, r, e => by simp only [toPy] at e; cases e
theorem dps_of (s : Same F H) : ∀ (ds : List D) (vs : List V) (ps : List PyData), Reps K cl F vs ds -> toPys ds = some ps -> DpAll K H vs ps
  | [], vs, ps, r, e => by simp only [toPys] at e; cases e; rw [r.inv0]; exact .nil
  | d :: ds, vs, ps, r, e => by
    obtain ⟨v, ws, rfl, r1, r2⟩ := r.inv
    simp only [toPys] at e
    cases q1 : toPy d with
    | none => rw [q1] at e; cases e
    | some p =>
      cases q2 : toPys ds with
      | none => rw [q1, q2] at e; cases e
      | some qs => rw [q1, q2] at e; cases e; exact .cons (dp_of s d v p r1 q1) (dps_of s ds ws qs r2 q2)
end
theorem dp_vw (s : Same F H) {v : V} {d : D} {p : PyData} (h : Vw K cl F H v d) (e : toPy d = some p) : Dp K H v p := by
  rcases h with h | ⟨a, rfl, h⟩
  · exact dp_of s d v p h e
  · cases d with
    | lst ds =>
      obtain ⟨vs, h1, h2⟩ := h
      simp only [toPy] at e
      cases q : toPys ds with
      | none => rw [q] at e; cases e
      | some ps => rw [q] at e; cases e; exact .lst (SqL.of h1) (dps_of s ds vs ps h2 q)
    | dK _ _ => simp only [toPy] at e; cases e
    | dT _ _ _ => simp only [toPy] at e; cases e
    | obj _ _ _ => simp only [toPy] at e; cases e
    | dN _ _ _ => simp only [toPy] at e; cases e
    | cel _ _ => simp only [toPy] at e; cases e
    | _ => exact h.elim
end
def eqP (d e : D) : Option Bool := match toPy d, toPy e with
  | some p, some q => if SeqAt.shaped p && SeqAt.shaped q then some (PyData.eqv p q) else none
  | _, _ => none
def eqB : D -> D -> Option Bool
  | .int i, .int j => some (i == j)
  | .str x, .str y => some (x == y)
  | .bl x, .bl y => some (x == y)
  | .byt x, .byt y => some (x == y)
  | .non, .non => some true
  | .non, .int _ => some false
  | .non, .str _ => some false
  | .int _, .non => some false
  | .str _, .non => some false
  | .int _, .str _ => some false
  | .str _, .int _ => some false
  | d, e => eqP d e
def eqD (d e : D) : Option D := (eqB d e).map D.bl
def neD (d e : D) : Option D := (eqB d e).map fun b => D.bl !b
section
variable {K : PySem.W.Frag} {cl : ClW} {X : Cx}
theorem eqP_inv {d e : D} {b : Bool} (h : eqP d e = some b) : ∃ p q, toPy d = some p /\ toPy e = some q /\ SeqAt.shaped p = true /\ SeqAt.shaped q = true /\ b = PyData.eqv p q := by
  unfold eqP at h
  cases e1 : toPy d with
  | none => rw [e1] at h; cases h
  | some p =>
    cases e2 : toPy e with
    | none => rw [e1, e2] at h; cases h
    | some q =>
      rw [e1, e2] at h
      simp only at h
      split at h
      · rename_i hs
        cases h
        obtain ⟨h1, h2⟩ := Bool.and_eq_true_iff.mp hs
        exact ⟨p, q, rfl, rfl, h1, h2, rfl⟩
      · cases h
def rEqA (K : PySem.W.Frag) : R2 := fun x y H Q => rEq x y H Q \/ rEqD K x y H Q
def rNeA (K : PySem.W.Frag) : R2 := fun x y H Q => rNe x y H Q \/ rNeD K x y H Q
theorem op_eqA (hu : X.A.units + 64 < cLine) : OpR X (compareOp .Eq) (rEqA X.K) := op_eq.or (op_eqD hu)
theorem op_neA (hu : X.A.units + 64 < cLine) : OpR X (compareOp .NotEq) (rNeA X.K) := op_ne.or (op_neD hu)
theorem eqB_at {F H : Hp} (s : Same F H) {x y : V} {d e : D} {b : Bool} (hx : Vw K cl F H x d) (hy : Vw K cl F H y e) (h : eqB d e = some b) :
    (scal x y = true /\ decide (x = y) = b) \/ ∃ p q, Dp K H x p /\ Dp K H y q /\ SeqAt.shaped p = true /\ SeqAt.shaped q = true /\ b = PyData.eqv p q := by
  unfold eqB at h
  split at h
  · cases h; rw [hx.int, hy.int]; exact .inl ⟨rfl, dec_int⟩
  · cases h; rw [hx.str, hy.str]; exact .inl ⟨rfl, dec_str⟩
  · cases h; rw [hx.bl, hy.bl]; exact .inl ⟨rfl, dec_bl⟩
  · cases h
    rw [hx.byt, hy.byt]
    refine .inl ⟨rfl, ?_⟩
    rename_i x1 y1
    by_cases e : x1 = y1
    · subst e; simp
    · rw [decide_eq_false (fun z => e (V.byt.inj z))]
      exact (beq_eq_false_iff_ne.mpr e).symm
  · cases h; rw [hx.non, hy.non]; exact .inl ⟨rfl, rfl⟩
  · cases h; rw [hx.non, hy.int]; exact .inl ⟨rfl, rfl⟩
  · cases h; rw [hx.non, hy.str]; exact .inl ⟨rfl, rfl⟩
  · cases h; rw [hx.int, hy.non]; exact .inl ⟨rfl, rfl⟩
  · cases h; rw [hx.str, hy.non]; exact .inl ⟨rfl, rfl⟩
  · cases h; rw [hx.int, hy.str]; exact .inl ⟨rfl, rfl⟩
  · cases h; rw [hx.str, hy.int]; exact .inl ⟨rfl, rfl⟩
  · obtain ⟨p, q, h1, h2, h3, h4, h5⟩ := eqP_inv h
    exact .inr ⟨p, q, dp_vw s hx h1, dp_vw s hy h2, h3, h4, h5⟩
theorem lop_eq : LOp K cl (rEqA K) eqD := by
  intro F H M x y d e z Q Qd g hx hy h p q
  unfold eqD at h
  cases e1 : eqB d e with
  | none => rw [e1] at h; cases h
  | some b =>
    rw [e1] at h
    cases h
    rcases eqB_at g.sub hx hy e1 with ⟨h1, h2⟩ | ⟨pd, pe, h1, h2, h3, h4, rfl⟩
    · exact .inl ⟨h1, by rw [h2]; exact p.val g (.bl _) q⟩
    · exact .inr ⟨pd, pe, h1, h2, h3, h4, p.val g (.bl _) q⟩
theorem lop_ne : LOp K cl (rNeA K) neD := by
  intro F H M x y d e z Q Qd g hx hy h p q
  unfold neD at h
  cases e1 : eqB d e with
  | none => rw [e1] at h; cases h
  | some b =>
    rw [e1] at h
    cases h
    rcases eqB_at g.sub hx hy e1 with ⟨h1, h2⟩ | ⟨pd, pe, h1, h2, h3, h4, rfl⟩
    · exact .inl ⟨h1, by rw [h2]; exact p.val g (.bl _) q⟩
    · exact .inr ⟨pd, pe, h1, h2, h3, h4, p.val g (.bl _) q⟩
def absF : List D -> Option D
  | [.int i] => some (.int (if i < 0 then -i else i))
  | _ => none
def intF : List D -> Option D
  | [.int i] => some (.int i)
  | [.bl b] => some (.int (if b then 1 else 0))
  | _ => none
def lenF : List D -> Option D
  | [.lst xs] => some (.int xs.length)
  | [.tup xs] => some (.int xs.length)
  | [.str x] => if x.length <= sizeLine then some (.int x.length) else none
  | [.byt x] => if x.size <= sizeLine then some (.int x.size) else none
  | _ => none
def intsOf : List D -> Option (List Int)
  | [] => some []
  | .int i :: r => (intsOf r).map (i :: ·)
  | _ :: _ => none
theorem intsOf_eq : ∀ {ds : List D} {ns : List Int}, intsOf ds = some ns -> ds = ns.map D.int
  | [], ns, h => by simp only [intsOf] at h; cases h; rfl
  | d :: ds, ns, h => by
    cases d with
    | int i =>
      simp only [intsOf] at h
      cases e : intsOf ds with
      | none => rw [e] at h; cases h
      | some ms => rw [e] at h; cases h; rw [intsOf_eq e]; rfl
    | _ => simp only [intsOf] at h; cases h
theorem intsOf_map (ns : List Int) : intsOf (ns.map D.int) = some ns := by
  induction ns with
  | nil => rfl
  | cons n ns ih => simp only [List.map_cons, intsOf, ih]; rfl
def minF : List D -> Option D
  | [.lst xs] => (intsOf xs).bind fun ns => ns.min?.map D.int
  | [.int i, .int j] => some (.int (if j < i then j else i))
  | _ => none
def maxF : List D -> Option D
  | [.lst xs] => (intsOf xs).bind fun ns => ns.max?.map D.int
  | [.int i, .int j] => some (.int (if j > i then j else i))
  | _ => none
def sumF : List D -> Option D
  | [.lst xs] => (intsOf xs).map fun ns => D.int ns.sum
  | _ => none
theorem reps1 {F : Hp} {M : Mem} {H : Hp} (g : Good K cl F H M) {xs : List V} {ds : List D} {d : D} (r : Reps K cl F xs ds) (e : ds.map (vw M) = [d]) : ∃ x, xs = [x] /\ Vw K cl F H x d := by
  cases ds with
  | nil => cases e
  | cons a t =>
    cases t with
    | nil =>
      obtain ⟨x, ws, rfl, r1, r2⟩ := r.inv
      obtain rfl := r2.inv0
      simp only [List.map_cons, List.map_nil, List.cons.injEq, and_true] at e
      exact ⟨x, rfl, e ▸ vw_ok g r1⟩
    | cons b t => simp at e
theorem reps2 {F : Hp} {M : Mem} {H : Hp} (g : Good K cl F H M) {xs : List V} {ds : List D} {d e' : D} (r : Reps K cl F xs ds) (e : ds.map (vw M) = [d, e']) : ∃ x y, xs = [x, y] /\ Vw K cl F H x d /\ Vw K cl F H y e' := by
  cases ds with
  | nil => cases e
  | cons a t =>
    cases t with
    | nil => simp at e
    | cons b t =>
      cases t with
      | nil =>
        obtain ⟨x, ws, rfl, r1, r2⟩ := r.inv
        obtain ⟨y, ws, rfl, r3, r4⟩ := r2.inv
        obtain rfl := r4.inv0
        simp only [List.map_cons, List.map_nil, List.cons.injEq, and_true] at e
        exact ⟨x, y, rfl, e.1 ▸ vw_ok g r1, e.2 ▸ vw_ok g r3⟩
      | cons c t => simp at e
theorem lc_int : LCall K cl (fun xs H Q => (∃ i, xs = [.int i] /\ Q (.int i) H) \/ ∃ k, xs = [.bl k] /\ Q (.int (if k then 1 else 0)) H) intF := by
  intro F H M xs ds z Q Qd g r h p q
  generalize e : ds.map (vw M) = es at h
  unfold intF at h
  split at h
  · cases h
    obtain ⟨x, rfl, hv⟩ := reps1 g r e
    obtain rfl := hv.int
    exact .inl ⟨_, rfl, p.val g (.int _) q⟩
  · cases h
    obtain ⟨x, rfl, hv⟩ := reps1 g r e
    obtain rfl := hv.bl
    exact .inr ⟨_, rfl, p.val g (.int _) q⟩
  · cases h
theorem lc_len : LCall K cl (fun xs H Q => ∃ x n, xs = [x] /\ LenV K x H n /\ Q (.int n) H) lenF := by
  intro F H M xs ds z Q Qd g r h p q
  generalize e : ds.map (vw M) = es at h
  unfold lenF at h
  split at h
  · cases h
    obtain ⟨x, rfl, hv⟩ := reps1 g r e
    obtain ⟨a, vs, rfl, h1, h2⟩ := hv.lst g.sub
    exact ⟨_, _, rfl, .inl ⟨vs, h1, rfl⟩, by rw [h2.length]; exact p.val g (.int _) q⟩
  · cases h
    obtain ⟨x, rfl, hv⟩ := reps1 g r e
    obtain ⟨a, vs, rfl, h1, h2⟩ := hv.tup g.sub
    exact ⟨_, _, rfl, .inr ⟨vs, h1, rfl⟩, by rw [h2.length]; exact p.val g (.int _) q⟩
  · split at h
    · cases h
      obtain ⟨x, rfl, hv⟩ := reps1 g r e
      obtain rfl := hv.str
      exact ⟨_, _, rfl, ⟨by assumption, rfl⟩, p.val g (.int _) q⟩
    · cases h
  · split at h
    · cases h
      obtain ⟨x, rfl, hv⟩ := reps1 g r e
      obtain rfl := hv.byt
      exact ⟨_, _, rfl, ⟨by assumption, rfl⟩, p.val g (.int _) q⟩
    · cases h
  · cases h
theorem lc_sum : LCall K cl (rSum K) sumF := by
  intro F H M xs ds z Q Qd g r h p q
  generalize e : ds.map (vw M) = es at h
  unfold sumF at h
  split at h
  · obtain ⟨x, rfl, hv⟩ := reps1 g r e
    obtain ⟨a, vs, rfl, h1, h2⟩ := hv.lst g.sub
    rename_i ys
    cases e2 : intsOf ys with
    | none => rw [e2] at h; cases h
    | some ns =>
      rw [e2] at h
      cases h
      rw [intsOf_eq e2] at h2
      exact ⟨a, ns, rfl, by rw [<- h2.ints]; exact h1, p.val g (.int _) q⟩
  · cases h
def tyName : D -> Option String
  | .non => some "NoneType"
  | .bl _ => some "bool"
  | .int _ => some "int"
  | .str _ => some "str"
  | .byt _ => some "bytes"
  | .lst _ => some "list"
  | .tup _ => some "tuple"
  | .dK _ _ => some "dict"
  | _ => none
def tyNames : List String := ["NoneType", "bool", "int", "str", "bytes", "list", "tuple", "dict"]
def isTy (a b : String) : Bool := a == b || (a == "bool" && b == "int")
theorem isTy_kit : ∀ a ∈ tyNames, ∀ b ∈ tyNames, kitB a b = some (isTy a b) := by decide +kernel
theorem tyName_mem {d : D} {n : String} (h : tyName d = some n) : n ∈ tyNames := by
  cases d <;> simp only [tyName] at h <;> first | (cases h; decide) | cases h
theorem tyX_of {F H : Hp} (s : Same F H) {v : V} {d : D} {n : String} (h : Vw K cl F H v d) (e : tyName d = some n) : TyX K H v (.type n) := by
  cases d with
  | non => cases e; rw [h.non]; exact .base .non
  | bl b => cases e; rw [h.bl]; exact .base (.bl b)
  | int i => cases e; rw [h.int]; exact .base (.int i)
  | str x => cases e; rw [h.str]; exact .base (.str x)
  | byt b => cases e; rw [h.byt]; exact .byt b
  | lst ds =>
    cases e
    obtain ⟨a, vs, rfl, h1, h2⟩ := h.lst s
    rcases h1 with (h1 | ⟨o, h1⟩) | ⟨o, its, n, h1, h3, _⟩
    · exact .base (.lst h1)
    · exact .base (.frz h1)
    · exact .kList h1 h3
  | tup ds =>
    cases e
    obtain ⟨a, vs, rfl, h1, h2⟩ := h.tup s
    rcases h1 with (h1 | ⟨o, h1⟩) | ⟨o, its, n, h1, h3, _⟩
    · exact .base (.tup h1)
    · exact .fTuple h1
    · exact .kTuple h1 h3
  | dK ks ds =>
    cases e
    rcases h with h | ⟨a, rfl, vs, h1, _⟩
    · cases h with | dK h1 _ _ => exact .base (.dK (s _ _ h1))
    · exact .base (.dK h1)
  | _ => cases e
def isiF : List D -> Option D
  | [d, .ty n] => match tyName d with
    | some a => if n ∈ tyNames then some (.bl (isTy a n)) else none
    | none => none
  | [d, .tup ts] => match tyName d with
    | some a => if ts.all (fun t => match t with | .ty n => decide (n ∈ tyNames) | _ => false) then some (.bl (ts.any fun t => match t with | .ty n => isTy a n | _ => false)) else none
    | none => none
  | _ => none
theorem kitAny_of {a : String} (ha : a ∈ tyNames) : ∀ {F : Hp} {vs : List V} {ts : List D}, Reps K cl F vs ts -> ts.all (fun t => match t with | .ty n => decide (n ∈ tyNames) | _ => false) = true ->
    ∃ us, Paired ClsV vs us /\ PySem.W.kitAny K (.type a) us = some (ts.any fun t => match t with | .ty n => isTy a n | _ => false)
  | F, vs, [], r, _ => by
    obtain rfl := r.inv0
    exact ⟨[], .nil, kitAny_nil⟩
  | F, vs, t :: ts, r, h => by
    obtain ⟨v, ws, rfl, r1, r2⟩ := r.inv
    rw [List.all_cons] at h
    obtain ⟨h1, h2⟩ := Bool.and_eq_true_iff.mp h
    obtain ⟨us, hp, hk⟩ := kitAny_of ha r2 h2
    cases t with
    | ty n =>
      have hn : n ∈ tyNames := of_decide_eq_true h1
      rw [r1.toTy]
      refine ⟨.type n :: us, .cons (.ty n) hp, ?_⟩
      have k1 : PySem.W.kitOne K (.type a) (.type n) = some (isTy a n) := kit_ty (isTy_kit a ha n hn)
      rw [List.any_cons]
      refine kitAny_cons k1 (fun e => ?_) fun e => ?_
      · simp only [e, Bool.false_or]; exact hk
      · simp only [e, Bool.true_or]
    | _ => cases h1
theorem lc_isi : LCall K cl (fun xs H Q => rIsi K xs H Q \/ rIsiT K xs H Q \/ rIsiK K xs H Q) isiF := by
  intro F H M xs ds z Q Qd g r h p q
  generalize e : ds.map (vw M) = es at h
  unfold isiF at h
  split at h
  · rename_i d n
    obtain ⟨x, y, rfl, hv, hw⟩ := reps2 g r e
    cases e2 : tyName d with
    | none => rw [e2] at h; cases h
    | some a =>
      rw [e2] at h
      simp only at h
      split at h
      · rename_i hn
        cases h
        have hy : y = .ty n := by
          rcases hw with hw | ⟨_, _, hw⟩
          · exact hw.toTy
          · exact hw.elim
        subst hy
        exact .inl ⟨x, .ty n, .type a, .type n, _, rfl, .ty n, tyX_of g.sub hv e2, kit_ty (isTy_kit a (tyName_mem e2) n hn), p.val g (.bl _) q⟩
      · cases h
  · rename_i d ts
    obtain ⟨x, y, rfl, hv, hw⟩ := reps2 g r e
    cases e2 : tyName d with
    | none => rw [e2] at h; cases h
    | some a =>
      rw [e2] at h
      simp only at h
      split at h
      · rename_i hn
        cases h
        rcases hw with hw | ⟨_, _, hw⟩
        · obtain ⟨b, vs, rfl, h1, h2⟩ := hw.toTup1
          obtain ⟨us, hp, hk⟩ := kitAny_of (tyName_mem e2) h2 hn
          rcases h1 with h1 | ⟨⟨oc, od, dt, sl⟩, its, n, h1, h3, h4, h5, h6⟩
          · exact .inr (.inl ⟨x, b, vs, .type a, us, _, rfl, g.sub _ _ h1, hp, tyX_of g.sub hv e2, hk, p.val g (.bl _) q⟩)
          · simp only at h3 h4
            subst h3 h4
            have e3 := ClsV.all hp h6
            refine .inr (.inr ⟨x, b, od, us, n, sl, .type a, _, rfl, ?_, tyX_of g.sub hv e2, hk, p.val g (.bl _) q⟩)
            rw [<- e3]
            simpa using h1
        · exact hw.elim
      · cases h
  · cases h
end
end DL
set_option Elab.async false
set_option linter.all false
set_option autoImplicit false
set_option maxRecDepth 100000
set_option maxHeartbeats 2000000
namespace DL
open PySem L2 PySem.W PySem.Spec
def FnB (cl : ClW) (P : Program) (w : World) (K : Frag) (mg : Str -> Option Value) (base : Heap) (k : Nat) (x : Str) (ps : List Str) (spd : SpD) : Prop :=
  ∃ f fd, mg x = some (.ref f) /\ keepIn K (.ref f) = true /\ Binds K fd ps [] /\ FnG cl P w K mg base k f fd ps spd
section
variable {cl : ClW} {X : Cx} {W : WX} {j k : Nat} {ps : List Str} {spd : SpD} {x : Str} {p pos : Pos} {e : Expr} {es : List Expr} {α : DTA}
theorem d_fn (c : Cap X W k) (G : FnB cl X.prog X.w X.K X.mg X.base j x ps spd) (hj : j <= k) (hg : Gl X x) (ha : DA cl X W (e :: es) α)
    (hdb : (x == ("__debug__" : Str)) = false := by decide) (he : starEach (e :: es) X.env = (false, eval e X.env) :: starEach es X.env := by rfl) (hpl : (backTo pos (starEach es X.env)).any (·.1) = false := by rfl) :
    DE cl X W (.Call (.Name x p) (e :: es) [] pos) (dCall spd [] α) := by
  obtain ⟨f, fd, h1, h2, h3, h4⟩ := G
  exact d_call c (h4.mono hj) hg h1 h2 h3 .nil (fun _ => .nil) ha hdb he hpl
theorem d_bltn {v : V} {u : Value} {d : D} (hg : Gl X x) (hm : X.mg x = none) (hv : bootBuiltins x = some u) (r : RelV v u) (rd : ∀ F, Rep X.K cl F v d) (hn : x ≠ "__name__" := by decide) (hd : (x == ("__debug__" : Str)) = false := by decide) : DE cl X W (.Name x pos) (dC d) :=
  d_c (pe_bltn hg hm hv r hn hd) rd
theorem d_ty {n : String} (hg : Gl X x) (hm : X.mg x = none) (hv : bootBuiltins x = some (.type n)) (hn : x ≠ "__name__" := by decide) (hd : (x == ("__debug__" : Str)) = false := by decide) : DE cl X W (.Name x pos) (dC (.ty n)) :=
  d_bltn (v := .ty n) hg hm hv rfl (fun _ => .ty n) hn hd
theorem d_globI {i : Int} (hg : Gl X x) (hm : ∃ t, X.mg x = some (.int i t)) (hd : (x == ("__debug__" : Str)) = false := by decide) : DE cl X W (.Name x pos) (dC (.int i)) := by
  obtain ⟨t, h⟩ := hm
  exact d_c (v := .int i) (pe_glob hg h ⟨t, rfl⟩ hd) fun _ => .int i
theorem d_globS {z : Str} (hg : Gl X x) (hm : ∃ t, X.mg x = some (.str z t)) (hd : (x == ("__debug__" : Str)) = false := by decide) : DE cl X W (.Name x pos) (dC (.str z)) := by
  obtain ⟨t, h⟩ := hm
  exact d_c (v := .str z) (pe_glob hg h ⟨t, rfl⟩ hd) fun _ => .str z
end
end DL
set_option Elab.async false
set_option linter.all false
set_option autoImplicit false
namespace DL
open PySem L2
@[simp] theorem size_line : sizeLine = 16777216 := sizeLine_eq
@[simp] theorem and_flat (a b c : Prop) : ((a /\ b) /\ c) = (a /\ b /\ c) := propext and_assoc
section
variable {M : Mem} {i j : Int} {b : Bool} {x y : Str} {xs ys : List D} {d e : D} {a : Addr}
@[simp] theorem vw_non : vw M .non = .non := rfl
@[simp] theorem vw_bl : vw M (.bl b) = .bl b := rfl
@[simp] theorem vw_int : vw M (.int i) = .int i := rfl
@[simp] theorem vw_str : vw M (.str x) = .str x := rfl
@[simp] theorem vw_byt {z : Array UInt8} : vw M (.byt z) = .byt z := rfl
@[simp] theorem vw_ty {n : String} : vw M (.ty n) = .ty n := rfl
@[simp] theorem vw_lst : vw M (.lst xs) = .lst xs := rfl
@[simp] theorem vw_tup : vw M (.tup xs) = .tup xs := rfl
@[simp] theorem vw_dK {ks : List Key} : vw M (.dK ks xs) = .dK ks xs := rfl
@[simp] theorem vw_dT {ep : Nat} {ks : List (List (Option Key))} : vw M (.dT ep ks xs) = .dT ep ks xs := rfl
@[simp] theorem vw_obj {c : Nat} {ns : List Str} : vw M (.obj c ns xs) = .obj c ns xs := rfl
@[simp] theorem vw_cls {c : Nat} : vw M (.cls c) = .cls c := rfl
theorem vw_ref (h : M a = some d) : vw M (.ref a) = d := by show (M a).getD _ = d; rw [h]; rfl
@[simp] theorem addD_int : addD (.int i) (.int j) = some (.int (i + j)) := rfl
@[simp] theorem addD_lst (h : xs.length + ys.length <= 16777216) : addD (.lst xs) (.lst ys) = some (.lst (xs ++ ys)) := if_pos (by rw [sizeLine_eq]; exact h)
@[simp] theorem addD_tup (h : xs.length + ys.length <= 16777216) : addD (.tup xs) (.tup ys) = some (.tup (xs ++ ys)) := if_pos (by rw [sizeLine_eq]; exact h)
@[simp] theorem addD_str (h : x.length + y.length <= 16777216) : addD (.str x) (.str y) = some (.str (x ++ y)) := if_pos (by rw [sizeLine_eq]; exact h)
@[simp] theorem mulD_int (h : (-18446744073709551616 < i /\ i < 18446744073709551616) \/ (-18446744073709551616 < j /\ j < 18446744073709551616)) : mulD (.int i) (.int j) = some (.int (i * j)) := if_pos h
@[simp] theorem fdivD_int (h : 0 < j) (h2 : j < 1000000000000000000000000000000000000) : fdivD (.int i) (.int j) = some (.int (i / j)) := if_pos ⟨h, Int.lt_trans h2 (by decide)⟩
@[simp] theorem modD_int (h : 0 < j) : modD (.int i) (.int j) = some (.int (i % j)) := if_pos h
@[simp] theorem absF_int : absF [.int i] = some (.int (if i < 0 then -i else i)) := rfl
@[simp] theorem intF_int : intF [.int i] = some (.int i) := rfl
@[simp] theorem intF_bl : intF [.bl b] = some (.int (if b then 1 else 0)) := rfl
@[simp] theorem vw_upd : vw (updM M a d) (.ref a) = d := by show (updM M a d a).getD _ = d; rw [updM_same]; rfl
@[simp] theorem upd_at : updM M a d a = some d := updM_same
@[simp] theorem powD_int : powD (.int i) (.int j) = if 0 <= j /\ j <= 1000000 /\ i.natAbs < 2 ^ 64 then some (.int (i ^ j.toNat)) else none := rfl
@[simp] theorem ixD_lst : ixD (.lst xs) (.int i) = atI xs i := rfl
@[simp] theorem ixD_tup : ixD (.tup xs) (.int i) = atI xs i := rfl
@[simp] theorem slD_lst {lo hi : Option Int} : slD (.lst xs) lo hi = some (.lst (cutD xs lo hi)) := rfl
@[simp] theorem slD_tup {lo hi : Option Int} : slD (.tup xs) lo hi = some (.tup (cutD xs lo hi)) := rfl
@[simp] theorem lenF_lst : lenF [.lst xs] = some (.int xs.length) := rfl
@[simp] theorem lenF_tup : lenF [.tup xs] = some (.int xs.length) := rfl
@[simp] theorem minF_2 : minF [.int i, .int j] = some (.int (if j < i then j else i)) := rfl
@[simp] theorem maxF_2 : maxF [.int i, .int j] = some (.int (if j > i then j else i)) := rfl
@[simp] theorem minF_l : minF [.lst xs] = (intsOf xs).bind fun ns => ns.min?.map D.int := rfl
@[simp] theorem maxF_l : maxF [.lst xs] = (intsOf xs).bind fun ns => ns.max?.map D.int := rfl
@[simp] theorem intsOf_nil : intsOf [] = some [] := rfl
@[simp] theorem intsOf_cons : intsOf (.int i :: xs) = (intsOf xs).map (i :: ·) := rfl
@[simp] theorem intsOf_ints (ns : List Int) : intsOf (ns.map D.int) = some ns := intsOf_map ns
theorem atI_at {α : Type} {l : List α} {k : Int} (h0 : 0 <= k) (h1 : k < l.length) : atI l k = l[k.toNat]? := by
  obtain ⟨n, rfl⟩ := Int.eq_ofNat_of_zero_le h0
  have hn : n < l.length := by omega
  rw [Int.toNat_natCast, List.getElem?_eq_getElem hn]
  exact atI_nat (List.getElem?_eq_getElem hn)
@[simp] theorem atI_0 {α : Type} {u : α} {l : List α} : atI (u :: l) 0 = some u := atI_nat (j := 0) rfl
@[simp] theorem atI_1 {α : Type} {u v : α} {l : List α} : atI (u :: v :: l) 1 = some v := atI_nat (j := 1) rfl
@[simp] theorem atI_2 {α : Type} {u v w : α} {l : List α} : atI (u :: v :: w :: l) 2 = some w := atI_nat (j := 2) rfl
@[simp] theorem atI_3 {α : Type} {u v w z : α} {l : List α} : atI (u :: v :: w :: z :: l) 3 = some z := atI_nat (j := 3) rfl
@[simp] theorem atI_4 {α : Type} {u v w z y : α} {l : List α} : atI (u :: v :: w :: z :: y :: l) 4 = some y := atI_nat (j := 4) rfl
@[simp] theorem eqD_tup : eqD (.tup xs) (.tup ys) = (eqP (.tup xs) (.tup ys)).map D.bl := rfl
@[simp] theorem neD_tup : neD (.tup xs) (.tup ys) = (eqP (.tup xs) (.tup ys)).map fun b => D.bl !b := rfl
@[simp] theorem eqD_lst : eqD (.lst xs) (.lst ys) = (eqP (.lst xs) (.lst ys)).map D.bl := rfl
@[simp] theorem neD_lst : neD (.lst xs) (.lst ys) = (eqP (.lst xs) (.lst ys)).map fun b => D.bl !b := rfl
@[simp] theorem eqD_int : eqD (.int i) (.int j) = some (.bl (i == j)) := rfl
@[simp] theorem neD_int : neD (.int i) (.int j) = some (.bl (!(i == j))) := rfl
@[simp] theorem eqD_str : eqD (.str x) (.str y) = some (.bl (x == y)) := rfl
@[simp] theorem neD_str : neD (.str x) (.str y) = some (.bl (!(x == y))) := rfl
@[simp] theorem eqD_bl {c : Bool} : eqD (.bl b) (.bl c) = some (.bl (b == c)) := rfl
@[simp] theorem neD_bl {c : Bool} : neD (.bl b) (.bl c) = some (.bl (!(b == c))) := rfl
end
end DL
set_option Elab.async false
set_option linter.all false
set_option maxRecDepth 100000
set_option maxHeartbeats 2000000
set_option autoImplicit false
namespace DL
open PySem L2
def setN (f : Str) : List Str -> List Str
  | [] => [f]
  | g :: r => if g = f then g :: r else g :: setN f r
def setV {α : Type} (f : Str) (d : α) : List Str -> List α -> List α
  | g :: r, e :: es => if g = f then d :: es else e :: setV f d r es
  | _, _ => [d]
def lookN {α : Type} (f : Str) : List Str -> List α -> Option α
  | g :: r, e :: es => if g = f then some e else lookN f r es
  | _, _ => none
theorem putF_zip (f : Str) (y : V) : ∀ (ns : List Str) (vs : List V), ns.length = vs.length -> putF f y (ns.zip vs) = (setN f ns).zip (setV f y ns vs) /\ (setN f ns).length = (setV f y ns vs).length
  | [], [], _ => ⟨rfl, rfl⟩
  | n :: ns, v :: vs, h => by
    obtain ⟨h1, h2⟩ := putF_zip f y ns vs (by simpa using h)
    show (if n = f then (n, y) :: ns.zip vs else (n, v) :: putF f y (ns.zip vs)) = (if n = f then n :: ns else n :: setN f ns).zip (if n = f then y :: vs else v :: setV f y ns vs) /\ (if n = f then n :: ns else n :: setN f ns).length = (if n = f then y :: vs else v :: setV f y ns vs).length
    by_cases e : n = f
    · simp only [if_pos e]
      exact ⟨rfl, by simpa using h⟩
    · simp only [if_neg e]
      exact ⟨by rw [h1]; rfl, by simp [h2]⟩
theorem lookN_zip {α : Type} (f : Str) : ∀ (ns : List Str) (vs : List α), (ns.zip vs).lookup f = lookN f ns vs
  | [], _ => by simp [lookN]
  | _ :: _, [] => by simp [lookN]
  | n :: ns, v :: vs => by
    show (match f == n with | true => some v | false => (ns.zip vs).lookup f) = if n = f then some v else lookN f ns vs
    rw [lookN_zip f ns vs]
    by_cases e : n = f
    · subst e; simp
    · rw [if_neg e, beq_eq_false_iff_ne.mpr (Ne.symm e)]
theorem lookN_none {α : Type} (f : Str) : ∀ (ns : List Str) (vs : List α), f ∉ ns -> lookN f ns vs = none
  | [], _, _ => by simp [lookN]
  | _ :: _, [], _ => by simp [lookN]
  | n :: ns, v :: vs, h => by
    show (if n = f then some v else lookN f ns vs) = none
    have ne : n ≠ f := fun e => h (by rw [e]; exact List.mem_cons_self)
    rw [if_neg ne]
    exact lookN_none f ns vs fun z => h (List.mem_cons_of_mem _ z)
section
variable {K : PySem.W.Frag} {cl : ClW} {F : Hp}
theorem reps_setV {f : Str} {y : V} {d : D} (r : Rep K cl F y d) : ∀ {ns : List Str} {vs : List V} {ds : List D}, Reps K cl F vs ds -> Reps K cl F (setV f y ns vs) (setV f d ns ds)
  | [], [], [], _ => .one r
  | [], _, _, h => by
    cases h <;> exact .one r
  | n :: ns, _, _, .nil => .one r
  | n :: ns, _, _, .cons h t => by
    show Reps K cl F (if n = f then y :: _ else _ :: setV f y ns _) (if n = f then d :: _ else _ :: setV f d ns _)
    by_cases e : n = f
    · simp only [if_pos e]; exact .cons r t
    · simp only [if_neg e]; exact .cons h (reps_setV r t)
theorem reps_lookN {f : Str} : ∀ {ns : List Str} {vs : List V} {ds : List D} {d : D}, Reps K cl F vs ds -> lookN f ns ds = some d -> ∃ v, lookN f ns vs = some v /\ Rep K cl F v d
  | [], vs, ds, d, r, h => by cases ds <;> simp [lookN] at h
  | n :: ns, _, _, d, .nil, h => by simp [lookN] at h
  | n :: ns, _, _, d, .cons (v := v) (d := e) r t, h => by
    have h : (if n = f then some e else lookN f ns _) = some d := h
    show ∃ w, (if n = f then some v else lookN f ns _) = some w /\ Rep K cl F w d
    by_cases q : n = f
    · simp only [if_pos q] at h ⊢
      cases h
      exact ⟨v, rfl, r⟩
    · simp only [if_neg q] at h ⊢
      exact reps_lookN t h
end
def FldOk (K : PySem.W.Frag) (cl : Nat -> Addr) (cs : List Nat) (f : Str) : Prop := ∀ c ∈ cs, Cls K (cl c) /\ NoAttr K (cl c) f
def fldD (cs : List Nat) (f : Str) : D -> Option D
  | .obj c ns ds => if c ∈ cs then lookN f ns ds else none
  | _ => none
def dFldSet (cs : List Nat) (f : Str) (τo τv : DTE) : DTS := fun E ρ M => τv ρ M (fun d M1 => τo ρ M1 (fun o M2 => ∃ a c ns ds, o = .ref a /\ M2 a = some (.obj c ns ds) /\ c ∈ cs /\ ns.length < 1000 /\ E.nx ρ (updM M2 a (.obj c (setN f ns) (setV f d ns ds)))) E.ex) E.ex
section
variable {cl : ClW} {X : Cx} {W : WX} {o e : Expr} {es : List Expr} {pos : Pos} {τ τo τv : DTE} {α : DTA} {f : Str} {cs : List Nat}
theorem d_fld (hf : FldOk X.K cl cs f) (ho : DE cl X W o τ) (hb : attributeBase o f X.env (eval o X.env) = eval o X.env := by rfl) : DE cl X W (.Attribute o f pos) (dUn (fldD cs f) τ) :=
  ⟨pe_imp (pe_fld ho.pe hb) fun σ H Q ⟨F, ρ, M, Qd, Xd, g, s, t, p, w⟩ => ⟨F, ρ, M, _, Xd, g, s, t, fun v H' F' d M' sm g' r ⟨z, e1, q⟩ => (by
    have hv := vw_ok g' r
    cases e2 : vw M' d with
    | obj c ns ds =>
      rw [e2] at hv e1
      simp only [fldD] at e1
      split at e1
      · rename_i hc
        obtain ⟨a, dx, vs, rfl, h1, h2, h3⟩ := hv.obj g'.sub
        obtain ⟨u, h4, h5⟩ := reps_lookN h3 e1
        obtain ⟨k1, k2⟩ := hf c hc
        exact ⟨a, cl c, dx, ns.zip vs, u, rfl, h1, k1, k2, by rw [lookN_zip]; exact h4, (p.mono sm).val g' h5 q⟩
      · cases e1
    | _ =>
      rw [e2] at e1
      cases e1), w⟩⟩
theorem ds_fld {pos' : Pos} (hf : FldOk X.K cl cs f) (ho : DE cl X W o τo) (hv : DE cl X W e τv) (hs : swapsWith e (some (.Attribute o f pos')) pos.line X.env = pure false := by rfl) : DS cl X W (.Assign [.Attribute o f pos'] e pos) (dFldSet cs f τo τv) :=
  ⟨ps_imp (ps_fld ho.pe hv.pe hs) fun D σ H ⟨F, ρ, M, E, g, s, q, ok⟩ => ⟨F, ρ, M, _, E.ex, g, s, q, fun y H1 F1 d M1 sm1 g1 r1 q1 => ⟨F1, ρ, M1, _, E.ex, g1, s.mono sm1, q1, fun x H2 F2 od M2 sm2 g2 r2 q2 => (by
    obtain ⟨a, c, ns, ds, e1, e2, e3, e4, q2⟩ := q2
    subst e1
    obtain rfl := r2.toRef
    obtain ⟨hF, dx, vs, h1, h2, h3⟩ := g2.cell a _ e2
    obtain ⟨k1, k2⟩ := hf c e3
    obtain ⟨z1, z2⟩ := putF_zip f y ns vs h2
    refine ⟨a, cl c, dx, ns.zip vs, rfl, h1, k1, k2, by rw [List.length_zip, <- h2, Nat.min_self]; exact e4, ?_⟩
    rw [z1]
    exact ok.nx _ _ F2 ρ _ (sm1.trans sm2) (g2.put (d := .obj c (setN f ns) (setV f d ns ds)) e2 ⟨dx, setV f y ns vs, upd_same, z2, reps_setV (r1.mono sm2) h3⟩) (s.mono (sm1.trans sm2)) q2), ok.ex.mono sm1⟩, ok.ex⟩⟩
end
def MkB (cl : ClW) (P : Program) (w : World) (K : PySem.W.Frag) (mg : Str -> Option Value) (base : Heap) (k : Nat) (x : Str) (c : Nat) (ps : List Str) (spd : SpD) : Prop :=
  mg x = some (.ref (cl c)) /\ ∃ f fd, Mk K (cl c) f /\ Binds K fd ps [] /\ FnG cl P w K mg base k f fd ps spd
def dMake (c : Nat) (spd : SpD) (α : DTA) : DTE := fun ρ M Q X => α ρ M (fun ds M1 => ∀ x, M1 x = none -> spd (.ref x :: ds) (updM M1 x (.obj c [] [])) (fun d M2 => d = .non /\ frz (.ref x) M2 Q) (fun c' ns es M2 => X c' ns es ρ M2)) X
def dMakeM (c : Nat) (spd : SpD) (α : DTA) : DTE := fun ρ M Q X => α ρ M (fun ds M1 => ∀ x, M1 x = none -> spd (.ref x :: ds) (updM M1 x (.obj c [] [])) (fun d M2 => d = .non /\ Q (.ref x) M2) (fun c' ns es M2 => X c' ns es ρ M2)) X
section
variable {cl : ClW} {X : Cx} {W : WX} {j k c : Nat} {ps : List Str} {spd : SpD} {x : Str} {p pos : Pos} {e : Expr} {es : List Expr} {α : DTA}
theorem run_mk {pins : List (Addr × Obj)} {σ : St} {H : Hp} {s : Shared} {Q : VK} {us : List Value} {kw : List (Str × Value)} {ws : List Value} {zs : List V} {f : Addr} {fd : FuncData} (cp : Cap X W (k + 1)) (M : Mk X.K (cl c) f) (F : FnG cl X.prog X.w X.K X.mg X.base k f fd ps spd)
    (I : Inv X pins σ H s) (r : Vals zs ws) (hb : ∀ (s : Shared) (x : Value), X.K.In s.heap -> ws.length + 1 = ps.length -> BindsTo s fd ⟨x :: us, kw⟩ (ps.zip (x :: ws)))
    (h : ∀ x dx, H x = none -> H dx = none -> dx ≠ x -> lower X.K cl spd (.ref x :: zs) (upd (upd H dx (.own x)) x (.ins (cl c) dx [])) (fun v H2 => v = .non /\ Q (.ref x) H2) (WE W σ)) :
    wpAny (model X.prog X.w) X.A (call (.ref (cl c)) us kw) (EP X pins σ Q) X.xe s := by
  have hq := h (s.heap.objs.size + 1) s.heap.objs.size (I.hok.fresh (Nat.le_succ _)) (I.hok.fresh (Nat.le_refl _)) (Nat.ne_of_lt (Nat.lt_succ_self _))
  have I2 := Inv.made (C := cl c) I
  have r2 : Vals (V.ref (s.heap.objs.size + 1) :: zs) (Value.ref (s.heap.objs.size + 1) :: ws) := .cons rfl r
  have hl : ws.length + 1 = ps.length := by
    have e1 := F.lenV hq
    have e2 := r.length
    simp only [List.length_cons] at e1
    omega
  refine wpAny_call (make_map (f := f) I.kIn M.makes M.init (beq_iff_eq.mp M.fn) (codeAny_mono (F.run _ X.stack _ _ _ (Value.ref (s.heap.objs.size + 1) :: ws) _ _ _ (cp.hr.make (cl c) us kw) (I2.env0.make (cl c) us kw) (hb _ _ I2.kIn hl) r2 hq) fun r s' hq' => ?_))
  cases r with
  | error e => exact passAt cp.tk σ pins _ _ e s' I2 hq'
  | ok fl =>
    cases fl with
    | ret u =>
      obtain ⟨v, H', I3, rv, ev, q3⟩ := I2.after hq'
      subst ev
      exact ⟨rv, V.ref (s.heap.objs.size + 1), H', I3, rfl, q3⟩
    | next => exact False.elim hq'
    | brk => exact False.elim hq'
    | cont => exact False.elim hq'
theorem low_mk {K : PySem.W.Frag} {σ : St} {F : Hp} {ρ : Env} {M : Mem} {Qd : DV} {Xd : DX} {vs : List V} {ds : List D} {H : Hp} {Q : VK} {x dx : Addr} (g : Good K cl F H M) (s : Slots K cl F σ ρ) (r : Reps K cl F vs ds) (hx : H x = none) (hdx : H dx = none) (ne : dx ≠ x)
    (q : spd (.ref x :: ds) (updM M x (.obj c [] [])) (fun d M2 => d = .non /\ Qd (.ref x) M2) (fun c' ns es M2 => Xd c' ns es ρ M2)) (p : Post K cl F Q Qd) (w : WOk K cl W F Xd) :
    lower K cl spd (.ref x :: vs) (upd (upd H dx (.own x)) x (.ins (cl c) dx [])) (fun v H2 => v = .non /\ Q (.ref x) H2) (WE W σ) := by
  have g1 : Good K cl F (upd H dx (.own x)) M := g.junk hdx
  have hx1 : upd H dx (.own x) x = none := by rw [upd_ne (Ne.symm ne)]; exact hx
  have g2 : Good K cl F (upd (upd H dx (.own x)) x (.ins (cl c) dx [])) (updM M x (.obj c [] [])) := g1.newM (d := .obj c [] []) hx1 ⟨dx, [], upd_same, rfl, .nil⟩
  exact ⟨F, _, .ref x :: ds, _, _, g2, .cons (.ref x) r, q, fun v H' F' d M' sm g' rv ⟨e1, q'⟩ => by subst e1; exact ⟨rv.toNon, p _ _ _ _ _ sm g' (.ref x) q'⟩,
    fun c' ns es H' F' M' dd sm g' ea q' => w c' ns es σ H' F' ρ M' dd sm g' (s.mono sm) ea q'⟩
theorem post_frz {K : PySem.W.Frag} {F : Hp} {Q : VK} {Qd : DV} (p : Post K cl F Q Qd) : Post K cl F Q (fun d M => frz d M Qd) := fun v H' F' d M' sm g' r q => by
  cases d with
  | ref a =>
    obtain rfl := r.toRef
    cases e : M' a with
    | none =>
      simp only [frz, e] at q
      exact p _ _ _ _ _ sm g' r q
    | some c =>
      simp only [frz, e] at q
      obtain ⟨F2, s2, g2, r2⟩ := g'.freeze e
      exact p _ _ _ _ _ (sm.trans s2) g2 r2 q
  | _ => exact p _ _ _ _ _ sm g' r q
theorem d_makeM (cp : Cap X W k) (G : MkB cl X.prog X.w X.K X.mg X.base j x c ps spd) (hj : j + 1 <= k) (hg : Gl X x) (ha : DA cl X W (e :: es) α)
    (hdb : (x == ("__debug__" : Str)) = false := by decide) (he : starEach (e :: es) X.env = (false, eval e X.env) :: starEach es X.env := by rfl) (hpl : (backTo pos (starEach es X.env)).any (·.1) = false := by rfl) :
    DE cl X W (.Call (.Name x p) (e :: es) [] pos) (dMakeM c spd α) := ⟨⟨fun pins s σ H Q I h => by
  obtain ⟨hm, f, fd, M, hb, G⟩ := G
  obtain ⟨k', rfl⟩ : ∃ k', k = k' + 1 := ⟨k - 1, by omega⟩
  obtain ⟨F, ρ, M0, Qd, Xd, g, sl, q, pp, w⟩ := h
  refine wpAny_Call_Name_kw (ld_glob I hg hm ?_ hdb)
  refine PySem.W.callWith_K (h₀ := X.base) I.ok.mod.kin M.kp (thn (ha.pa.run pos pins s σ H (fun vs H1 => ∀ x dx, H1 x = none -> H1 dx = none -> dx ≠ x -> lower X.K cl spd (.ref x :: vs) (upd (upd H1 dx (.own x)) x (.ins (cl c) dx [])) (fun v H2 => v = .non /\ Q (.ref x) H2) (WE W σ)) I
    ⟨F, ρ, M0, _, Xd, g, sl, q, fun vs H' F' ds M' sm g' r q' x dx hx hdx ne => ?_, w⟩) fun us s1 ⟨vs, H1, I1, r, q⟩ => ⟨I1.kIn, ?_⟩) he hpl
  · exact low_mk g' (sl.mono sm) r hx hdx ne (q' x (g'.freshM hx)) (pp.mono sm) (w.mono sm)
  · refine run_mk (kw := []) cp M (G.mono (by omega)) I1 r (fun s u hk hl => ?_) q
    have := hb s (u :: us) hk (by have := r.length; simp; omega)
    simpa using this⟩⟩
theorem d_make (cp : Cap X W k) (G : MkB cl X.prog X.w X.K X.mg X.base j x c ps spd) (hj : j + 1 <= k) (hg : Gl X x) (ha : DA cl X W (e :: es) α)
    (hdb : (x == ("__debug__" : Str)) = false := by decide) (he : starEach (e :: es) X.env = (false, eval e X.env) :: starEach es X.env := by rfl) (hpl : (backTo pos (starEach es X.env)).any (·.1) = false := by rfl) :
    DE cl X W (.Call (.Name x p) (e :: es) [] pos) (dMake c spd α) :=
  ⟨pe_imp (d_makeM cp G hj hg ha hdb he hpl).pe fun σ H Q ⟨F, ρ, M, Qd, Xd, g, s, q, p, w⟩ => ⟨F, ρ, M, fun d M => frz d M Qd, Xd, g, s, q, post_frz p, w⟩⟩
end
def MethB (cl : ClW) (P : Program) (w : World) (K : PySem.W.Frag) (mg : Str -> Option Value) (base : Heap) (k : Nat) (c : Nat) (m : Str) (spd : SpD) : Prop :=
  Cls K (cl c) /\ ∃ f fd ps, Meth K (cl c) m f /\ Binds K fd ps [] /\ FnG cl P w K mg base k f fd ps spd
def dMeth (tb : List (Nat × SpD)) (m : Str) (τ : DTE) (α : DTA) : DTE := fun ρ M Q X => τ ρ M (fun o M1 => ∃ c ns ds spd, vw M1 o = .obj c ns ds /\ tb.lookup c = some spd /\ m ∉ ns /\ α ρ M1 (fun as M2 => spd (o :: as) M2 Q (fun c' ns es M3 => X c' ns es ρ M3)) X) X
section
variable {cl : ClW} {X : Cx} {W : WX} {k : Nat} {m : Str} {p pos apos : Pos} {o e : Expr} {es : List Expr} {τ : DTE} {α : DTA} {tb : List (Nat × SpD)} {pl : Sem Bool}
theorem meth_at {K : PySem.W.Frag} {F H : Hp} {M : Mem} {v : V} {d : D} {c : Nat} {ns : List Str} {ds : List D} (g : Good K cl F H M) (r : Rep K cl F v d) (e : vw M d = .obj c ns ds) (hm : m ∉ ns) : ∃ a dx fs, v = .ref a /\ H a = some (.ins (cl c) dx fs) /\ fs.lookup m = none := by
  have hv := vw_ok g r
  rw [e] at hv
  obtain ⟨a, dx, vs, rfl, h1, h2, h3⟩ := hv.obj g.sub
  exact ⟨a, dx, _, rfl, h1, by rw [lookN_zip]; exact lookN_none m ns vs hm⟩
theorem d_meth (cp : Cap X W k) (hm : ∀ c spd, tb.lookup c = some spd -> MethB cl X.prog X.w X.K X.mg X.base k c m spd) (ho : DE cl X W o τ) (ha : DA cl X W (e :: es) α)
    (hst : starEach (e :: es) X.env = (false, eval e X.env) :: starEach es X.env := by rfl) (hpl : (backTo pos (starEach es X.env)).any (·.1) = false := by rfl)
    (ht : eval (.Call (.Attribute o m apos) (e :: es) [] pos) X.env = (do
      let ov <- eval o X.env
      standAt apos.atName
      let (f, first) <- holding [ov] (getMethod ov m pl)
      callWith pos f first (backTo pos (starEach (e :: es) X.env)) (backToKw pos (keywordEach [] X.env))) := by rfl) :
    DE cl X W (.Call (.Attribute o m apos) (e :: es) [] pos) (dMeth tb m τ α) := ⟨⟨fun pins s σ H Q I h => by
  obtain ⟨F, ρ, M, Qd, Xd, g, sl, q, p, w⟩ := h
  refine PySem.W.methodCall_KW (pl := pl) (thn (ho.pe.run pins s σ H (fun v H1 => ∃ F' ρ' M' o, Same F F' /\ Good X.K cl F' H1 M' /\ Rep X.K cl F' v o /\ ρ' = ρ /\ ∃ c ns ds spd, vw M' o = .obj c ns ds /\ tb.lookup c = some spd /\ m ∉ ns /\ α ρ M' (fun as M2 => spd (o :: as) M2 Qd (fun c' ns es M3 => Xd c' ns es ρ M3)) Xd) I
    ⟨F, ρ, M, _, Xd, g, sl, q, fun v H' F' d M' sm g' r q' => ⟨F', ρ, M', d, sm, g', r, rfl, q'⟩, w⟩) fun u s1 ⟨v, H1, I1, rv, F1, ρ1, M1, od, sm1, g1, r1, _, c, ns, ds, spd, e1, e2, e3, q1⟩ => ?_) ht
  obtain ⟨hc, f, fd, ps, mt, hb, G⟩ := hm c spd e2
  obtain ⟨a, dx, fs, rfl, ha1, ha2⟩ := meth_at g1 r1 e1 e3
  obtain rfl : u = Value.ref a := rv
  refine getmeth_ok I1 ha1 hc mt ha2 ?_
  refine PySem.W.callWith_K (first := [.ref a]) (h₀ := X.base) I.ok.mod.kin mt.kp (thn (ha.pa.run pos pins s1 σ H1 (fun vs H2 => lower X.K cl spd ((.ref a :: vs) ++ []) H2 Q (WE W σ)) I1 ⟨F1, ρ, M1, _, Xd, g1, sl.mono sm1, q1, fun vs H' F' as M' sm g' r q' => ?_, w.mono sm1⟩) fun us s2 ⟨vs, H2, I2, r, q2⟩ => ⟨I2.kIn, ?_⟩) hst hpl
  · show lower X.K cl spd ((.ref a :: vs) ++ []) H' Q (WE W σ)
    rw [List.append_nil]
    exact low_call g' (sl.mono (sm1.trans sm)) (.cons (r1.mono sm) r) q' (p.mono (sm1.trans sm)) (w.mono (sm1.trans sm))
  · exact run_g (us := .ref a :: us) (vs := .ref a :: vs) cp G hb .nil I2 (.cons rfl r) q2⟩⟩
theorem d_meth0 (cp : Cap X W k) (hm : ∀ c spd, tb.lookup c = some spd -> MethB cl X.prog X.w X.K X.mg X.base k c m spd) (ho : DE cl X W o τ)
    (ht : eval (.Call (.Attribute o m apos) [] [] pos) X.env = (do
      let ov <- eval o X.env
      standAt apos.atName
      let (f, first) <- holding [ov] (getMethod ov m pl)
      callWith pos f first (backTo pos (starEach [] X.env)) (backToKw pos (keywordEach [] X.env))) := by rfl) :
    DE cl X W (.Call (.Attribute o m apos) [] [] pos) (dMeth tb m τ dNil) := ⟨⟨fun pins s σ H Q I h => by
  obtain ⟨F, ρ, M, Qd, Xd, g, sl, q, p, w⟩ := h
  refine PySem.W.methodCall_KW (pl := pl) (thn (ho.pe.run pins s σ H (fun v H1 => ∃ F' M' o, Same F F' /\ Good X.K cl F' H1 M' /\ Rep X.K cl F' v o /\ ∃ c ns ds spd, vw M' o = .obj c ns ds /\ tb.lookup c = some spd /\ m ∉ ns /\ spd [o] M' Qd (fun c' ns es M3 => Xd c' ns es ρ M3)) I
    ⟨F, ρ, M, _, Xd, g, sl, q, fun v H' F' d M' sm g' r q' => ⟨F', M', d, sm, g', r, q'⟩, w⟩) fun u s1 ⟨v, H1, I1, rv, F1, M1, od, sm1, g1, r1, c, ns, ds, spd, e1, e2, e3, q1⟩ => ?_) ht
  obtain ⟨hc, f, fd, ps, mt, hb, G⟩ := hm c spd e2
  obtain ⟨a, dx, fs, rfl, ha1, ha2⟩ := meth_at g1 r1 e1 e3
  obtain rfl : u = Value.ref a := rv
  refine getmeth_ok I1 ha1 hc mt ha2 ?_
  exact PySem.W.callWith_K0 (first := [.ref a]) I1.kIn mt.kp (run_g (us := [.ref a]) (vs := [.ref a]) cp G hb .nil I1 (.cons rfl .nil) (low_call g1 (sl.mono sm1) (.one r1) q1 (p.mono sm1) (w.mono sm1)))⟩⟩
end
end DL
set_option Elab.async false
set_option linter.all false
set_option maxRecDepth 100000
set_option maxHeartbeats 2000000
set_option autoImplicit false
namespace DL
open PySem L2
def blsOf : List D -> Option (List Bool)
  | [] => some []
  | .bl i :: r => (blsOf r).map (i :: ·)
  | _ :: _ => none
theorem blsOf_eq : ∀ {ds : List D} {ns : List Bool}, blsOf ds = some ns -> ds = ns.map D.bl
  | [], ns, h => by simp only [blsOf] at h; cases h; rfl
  | d :: ds, ns, h => by
    cases d with
    | bl i =>
      simp only [blsOf] at h
      cases e : blsOf ds with
      | none => rw [e] at h; cases h
      | some ms => rw [e] at h; cases h; rw [blsOf_eq e]; rfl
    | _ => simp only [blsOf] at h; cases h
@[simp] theorem blsOf_map (ns : List Bool) : blsOf (ns.map D.bl) = some ns := by
  induction ns with
  | nil => rfl
  | cons n ns ih => simp only [List.map_cons, blsOf, ih]; rfl
def allF : List D -> Option D
  | [.lst xs] => (blsOf xs).map fun bs => .bl (bs.all id)
  | _ => none
def anyF : List D -> Option D
  | [.lst xs] => (blsOf xs).map fun bs => .bl (bs.any id)
  | _ => none
def strF : List D -> Option D
  | [.int i] => if i.natAbs.log2 < 1920 then some (.str (toString i)) else none
  | _ => none
def tupF : List D -> Option D
  | [.lst xs] => some (.tup xs)
  | [.tup xs] => some (.tup xs)
  | _ => none
def lstF : List D -> Option D
  | [.lst xs] => some (.lst xs)
  | [.tup xs] => some (.lst xs)
  | _ => none
section
variable {K : PySem.W.Frag} {cl : ClW} {F : Hp}
theorem Reps.bls : ∀ {vs : List V} {ns : List Bool}, Reps K cl F vs (ns.map D.bl) -> vs = ns.map V.bl
  | _, [], h => h.inv0
  | _, n :: ns, h => by
    obtain ⟨v, ws, rfl, a, b⟩ := h.inv
    rw [a.toBl, Reps.bls b]; rfl
theorem lc_all : LCall K cl (rAll K) allF := by
  intro F H M xs ds z Q Qd g r h p q
  generalize e : ds.map (vw M) = es at h
  unfold allF at h
  split at h
  · obtain ⟨x, rfl, hv⟩ := reps1 g r e
    obtain ⟨a, vs, rfl, h1, h2⟩ := hv.lst g.sub
    rename_i ys
    cases e2 : blsOf ys with
    | none => rw [e2] at h; cases h
    | some ns =>
      rw [e2] at h
      cases h
      rw [blsOf_eq e2] at h2
      exact ⟨a, ns, rfl, by rw [<- h2.bls]; exact h1, p.val g (.bl _) q⟩
  · cases h
theorem lc_str : LCall K cl (fun xs H Q => ∃ i, xs = [.int i] /\ i.natAbs.log2 < 1920 /\ Q (.str (toString i)) H) strF := by
  intro F H M xs ds z Q Qd g r h p q
  generalize e : ds.map (vw M) = es at h
  unfold strF at h
  split at h
  · obtain ⟨x, rfl, hv⟩ := reps1 g r e
    obtain rfl := hv.int
    split at h
    · cases h
      exact ⟨_, rfl, by assumption, p.val g (.str _) q⟩
    · cases h
  · cases h
theorem lc_tup : LCall K cl (fun xs H Q => ∃ p ys, xs = [.ref p] /\ ((SqL K H p ys /\ ∀ l, H l = none -> Q (.ref l) (upd H l (.tup ys))) \/ (SqT K H p ys /\ Q (.ref p) H))) tupF := by
  intro F H M xs ds z Q Qd g r h p q
  generalize e : ds.map (vw M) = es at h
  unfold tupF at h
  split at h
  · obtain ⟨x, rfl, hv⟩ := reps1 g r e
    obtain ⟨a, vs, rfl, h1, h2⟩ := hv.lst g.sub
    cases h
    exact ⟨a, vs, rfl, .inl ⟨h1, fun l hl => p.newT g h2 q hl⟩⟩
  · obtain ⟨x, rfl, hv⟩ := reps1 g r e
    rcases hv with hv | ⟨_, _, hv⟩
    · obtain ⟨a, vs, rfl, h1, h2⟩ := hv.toTup
      cases h
      exact ⟨a, vs, rfl, .inr ⟨same_t g.sub h1, p.val g hv q⟩⟩
    · exact hv.elim
  · cases h
theorem lc_lst : LCall K cl (fun xs H Q => ∃ p ys, xs = [.ref p] /\ (SqL K H p ys \/ SqT K H p ys) /\ ∀ l, H l = none -> Q (.ref l) (upd H l (.lst ys))) lstF := by
  intro F H M xs ds z Q Qd g r h p q
  generalize e : ds.map (vw M) = es at h
  unfold lstF at h
  split at h
  · obtain ⟨x, rfl, hv⟩ := reps1 g r e
    obtain ⟨a, vs, rfl, h1, h2⟩ := hv.lst g.sub
    cases h
    exact ⟨a, vs, rfl, .inl h1, fun l hl => p.newL g h2 q hl⟩
  · obtain ⟨x, rfl, hv⟩ := reps1 g r e
    obtain ⟨a, vs, rfl, h1, h2⟩ := hv.tup g.sub
    cases h
    exact ⟨a, vs, rfl, .inr h1, fun l hl => p.newL g h2 q hl⟩
  · cases h
end
section
variable {cl : ClW} {X : Cx} {W : WX} {e : Expr} {es : List Expr} {pos p : Pos} {α : DTA}
end
@[simp] def flatD : D -> Bool
  | .non => true
  | .bl _ => true
  | .int _ => true
  | .str _ => true
  | _ => false
@[simp] def eqFD : D -> D -> Bool
  | .non, .non => true
  | .bl a, .bl b => a == b
  | .bl a, .int b => (if a then 1 else 0) == b
  | .int a, .bl b => a == (if b then 1 else 0)
  | .int a, .int b => a == b
  | .str a, .str b => a == b
  | _, _ => false
def keyD : D -> Option Key
  | .int i => some (.inl i)
  | .str x => some (.inr x)
  | _ => none
def inStr (x z : Str) : Bool := match x with
  | ⟨⟨[c]⟩⟩ => decide (c ∈ z.cps.toList)
  | x => !(Builtin.Str.occurrences z x 0 z.length 1).isEmpty
def inB (x : D) : D -> Option Bool
  | .lst xs => if flatD x && xs.all flatD then some (xs.any fun y => eqFD y x) else none
  | .tup xs => if flatD x && xs.all flatD then some (xs.any fun y => eqFD y x) else none
  | .str z => match x with
    | .str i => some (inStr i z)
    | _ => none
  | .dK ks _ => (keyD x).map fun k => ks.any fun j => decide (j = k)
  | _ => none
def inD (x y : D) : Option D := (inB x y).map D.bl
def ninD (x y : D) : Option D := (inB x y).map fun b => D.bl !b
section
variable {K : PySem.W.Frag} {cl : ClW} {F H : Hp} {X : Cx}
theorem flat_of {v : V} {d : D} (h : Vw K cl F H v d) (f : flatD d = true) : flatV v = true /\ Rep K cl F v d := by
  cases d with
  | non => obtain rfl := h.non; exact ⟨rfl, .non⟩
  | bl b => obtain rfl := h.bl; exact ⟨rfl, .bl b⟩
  | int b => obtain rfl := h.int; exact ⟨rfl, .int b⟩
  | str b => obtain rfl := h.str; exact ⟨rfl, .str b⟩
  | _ => cases f
theorem eq_of {v u : V} {d e : D} (h : Rep K cl F v d) (k : Rep K cl F u e) (f : flatD d = true) (f' : flatD e = true) : eqV v u = eqFD d e := by
  cases d with
  | non => obtain rfl := h.toNon; cases e with
    | non => obtain rfl := k.toNon; rfl
    | bl b => obtain rfl := k.toBl; rfl
    | int b => obtain rfl := k.toInt; rfl
    | str b => obtain rfl := k.toStr; rfl
    | _ => cases f'
  | bl b => obtain rfl := h.toBl; cases e with
    | non => obtain rfl := k.toNon; rfl
    | bl b => obtain rfl := k.toBl; rfl
    | int b => obtain rfl := k.toInt; rfl
    | str b => obtain rfl := k.toStr; rfl
    | _ => cases f'
  | int b => obtain rfl := h.toInt; cases e with
    | non => obtain rfl := k.toNon; rfl
    | bl b => obtain rfl := k.toBl; rfl
    | int b => obtain rfl := k.toInt; rfl
    | str b => obtain rfl := k.toStr; rfl
    | _ => cases f'
  | str b => obtain rfl := h.toStr; cases e with
    | non => obtain rfl := k.toNon; rfl
    | bl b => obtain rfl := k.toBl; rfl
    | int b => obtain rfl := k.toInt; rfl
    | str b => obtain rfl := k.toStr; rfl
    | _ => cases f'
  | _ => cases f
theorem flats_of {x : V} {d : D} (hx : Rep K cl F x d) (fd : flatD d = true) : ∀ {vs : List V} {ds : List D}, Reps K cl F vs ds -> ds.all flatD = true -> vs.all flatV = true /\ inV x vs = ds.any fun y => eqFD y d
  | _, _, .nil, _ => ⟨rfl, rfl⟩
  | _, _, .cons (v := v) (d := e) r t, f => by
    rw [List.all_cons, Bool.and_eq_true] at f
    obtain ⟨h1, h2⟩ := flats_of hx fd t f.2
    refine ⟨by rw [List.all_cons, (flat_of (H := F) (.inl r) f.1).1, h1]; rfl, ?_⟩
    unfold inV at h2 ⊢
    rw [List.any_cons, List.any_cons, h2, eq_of r hx f.1 fd]
theorem key_rep {v : V} {d : D} {k : Key} (h : Vw K cl F H v d) (e : keyD d = some k) : v = kV k := by
  cases d with
  | int i => cases e; exact h.int
  | str i => cases e; exact h.str
  | _ => cases e
theorem Vw.dK {v : V} {ks : List Key} {ds : List D} (g : Same F H) (h : Vw K cl F H v (.dK ks ds)) : ∃ a vs, v = .ref a /\ H a = some (.dK (ks.zip vs)) /\ ks.length = vs.length /\ Reps K cl F vs ds := by
  rcases h with h | ⟨a, rfl, vs, h1, h2, h3⟩
  · cases h with
    | dK h1 h2 h3 => exact ⟨_, _, rfl, g _ _ h1, h2, h3⟩
  · exact ⟨a, vs, rfl, h1, h2, h3⟩
def atK {α β : Type} [DecidableEq β] (k : β) : List β -> List α -> Option α
  | j :: ks, d :: ds => if j = k then some d else atK k ks ds
  | _, _ => none
theorem valV_zip {β : Type} [DecidableEq β] (k : β) : ∀ (ks : List β) (vs : List V), valV (ks.zip vs) k = atK k ks vs
  | [], _ => by simp [atK, valV]
  | _ :: _, [] => by simp [atK, valV]
  | j :: ks, v :: vs => by
    rw [List.zip_cons_cons]
    unfold atK
    by_cases e : j = k
    · rw [valV_pos e, if_pos e]
    · rw [valV_neg e, if_neg e, valV_zip k ks vs]
theorem atK_some {α β : Type} [DecidableEq β] (k : β) : ∀ (ks : List β) (vs : List α), ks.length = vs.length -> (atK k ks vs).isSome = ks.any fun j => decide (j = k)
  | [], _, _ => by simp [atK]
  | _ :: _, [], h => by simp at h
  | j :: ks, v :: vs, h => by
    unfold atK
    by_cases e : j = k
    · rw [if_pos e]; simp [e]
    · rw [if_neg e, atK_some k ks vs (by simpa using h)]
      simp [e]
theorem reps_atK {β : Type} [DecidableEq β] {k : β} : ∀ {ks : List β} {vs : List V} {ds : List D} {d : D}, Reps K cl F vs ds -> atK k ks ds = some d -> ∃ v, atK k ks vs = some v /\ Rep K cl F v d
  | [], vs, ds, d, r, h => by cases ds <;> simp [atK] at h
  | _ :: _, _, _, d, .nil, h => by simp [atK] at h
  | j :: ks, _, _, d, .cons (v := v) (d := e) r t, h => by
    unfold atK at h ⊢
    by_cases q : j = k
    · simp only [if_pos q] at h ⊢
      cases h
      exact ⟨v, rfl, r⟩
    · simp only [if_neg q] at h ⊢
      exact reps_atK t h
def rDIn (b : Bool) : R2 := fun y x H Q => ∃ a o, x = .ref a /\ DGet H a y o /\ Q (.bl (if b then o.isSome else !o.isSome)) H
theorem op_dIn (hu : X.A.units + 1 < cLine) : OpR X (compareOp .In) (rDIn true) := by
  intro pins s σ H x y v u Q I rx ry h
  obtain ⟨a, o, rfl, g, q⟩ := h
  cases ry
  exact d_in hu I g rx fun s' I' => ⟨.bl _, H, I', rfl, q⟩
theorem op_dNotIn (hu : X.A.units + 1 < cLine) : OpR X (compareOp .NotIn) (rDIn false) := by
  intro pins s σ H x y v u Q I rx ry h
  obtain ⟨a, o, rfl, g, q⟩ := h
  cases ry
  exact d_notIn hu I g rx fun s' I' => ⟨.bl _, H, I', rfl, q⟩
def rSgn (n : Bool) : R2 := fun x y H Q => ∃ (c : Nat) (z : Str), x = .str ⟨#[c]⟩ /\ y = .str z /\ Q (.bl (if n then !decide (c ∈ z.cps.toList) else decide (c ∈ z.cps.toList))) H
def rStrIn (n : Bool) : R2 := fun x y H Q => ∃ i j, x = .str i /\ y = .str j /\ Q (.bl (if n then !(!(Builtin.Str.occurrences j i 0 j.length 1).isEmpty) else (!(Builtin.Str.occurrences j i 0 j.length 1).isEmpty))) H
def rInAll (K : PySem.W.Frag) (n : Bool) : R2 := fun x y H Q => rIn K n x y H Q \/ rSgn n x y H Q \/ rStrIn n x y H Q \/ rDIn (!n) x y H Q
theorem op_inA (hu : X.A.units + 1 < cLine) : OpR X (compareOp .In) (rInAll X.K false) := op_in_seq.or (op_in_sign.or (op_in_str.or (op_dIn hu)))
theorem op_ninA (hu : X.A.units + 1 < cLine) : OpR X (compareOp .NotIn) (rInAll X.K true) := op_notIn_seq.or (op_notIn_sign.or (op_notIn_str.or (op_dNotIn hu)))
theorem in_at (s : Same F H) {n : Bool} {x y : V} {d e : D} {b : Bool} {Q : VK} (hx : Vw K cl F H x d) (hy : Vw K cl F H y e) (h : inB d e = some b) (q : Q (.bl (if n then !b else b)) H) : rInAll K n x y H Q := by
  cases e with
  | lst ds =>
    simp only [inB] at h
    split at h
    · rename_i hf
      cases h
      rw [Bool.and_eq_true] at hf
      obtain ⟨a, vs, rfl, h1, h2⟩ := hy.lst s
      obtain ⟨f1, r1⟩ := flat_of hx hf.1
      obtain ⟨f2, e2⟩ := flats_of r1 hf.1 h2 hf.2
      exact .inl ⟨a, vs, rfl, .inl h1, f1, f2, by rw [e2]; exact q⟩
    · cases h
  | tup ds =>
    simp only [inB] at h
    split at h
    · rename_i hf
      cases h
      rw [Bool.and_eq_true] at hf
      obtain ⟨a, vs, rfl, h1, h2⟩ := hy.tup s
      obtain ⟨f1, r1⟩ := flat_of hx hf.1
      obtain ⟨f2, e2⟩ := flats_of r1 hf.1 h2 hf.2
      exact .inl ⟨a, vs, rfl, .inr h1, f1, f2, by rw [e2]; exact q⟩
    · cases h
  | str z =>
    cases d with
    | str i =>
      simp only [inB] at h
      cases h
      obtain rfl := hx.str
      obtain rfl := hy.str
      by_cases hc : ∃ c, i = ⟨⟨[c]⟩⟩
      · obtain ⟨c, rfl⟩ := hc
        exact .inr (.inl ⟨c, z, rfl, rfl, q⟩)
      · have e1 : inStr i z = !(Builtin.Str.occurrences z i 0 z.length 1).isEmpty := by
          unfold inStr
          split
          · exact absurd ⟨_, rfl⟩ hc
          · rfl
        rw [e1] at q
        exact .inr (.inr (.inl ⟨_, z, rfl, rfl, q⟩))
    | _ => cases h
  | dK ks ds =>
    simp only [inB] at h
    cases e1 : keyD d with
    | none => rw [e1] at h; cases h
    | some k =>
      rw [e1] at h
      cases h
      obtain ⟨a, vs, rfl, h1, h2, h3⟩ := hy.dK s
      refine .inr (.inr (.inr ⟨a, _, rfl, by rw [key_rep hx e1]; exact DGet.k h1, ?_⟩))
      rw [valV_zip, atK_some k ks vs h2]
      cases n <;> exact q
  | _ => cases h
theorem lop_in : LOp K cl (rInAll K false) inD := by
  intro F H M x y d e z Q Qd g hx hy h p q
  unfold inD at h
  cases e1 : inB d e with
  | none => rw [e1] at h; cases h
  | some b => rw [e1] at h; cases h; exact in_at g.sub hx hy e1 (p.val g (.bl _) q)
theorem lop_nin : LOp K cl (rInAll K true) ninD := by
  intro F H M x y d e z Q Qd g hx hy h p q
  unfold ninD at h
  cases e1 : inB d e with
  | none => rw [e1] at h; cases h
  | some b => rw [e1] at h; cases h; exact in_at g.sub hx hy e1 (p.val g (.bl _) q)
def ixA : D -> D -> Option D
  | .dK ks ds, k => (keyD k).bind fun k => atK k ks ds
  | d, e => ixD d e
def rDIx : R2 := fun x y H Q => ∃ a v, x = .ref a /\ DGet H a y (some v) /\ Q v H
theorem ix_dict (hu : X.A.units + 1 < cLine) : IxR X rDIx := by
  intro value slice pins s σ H x y v u Q I rx ry h hs
  obtain ⟨a, z, rfl, g, q⟩ := h
  cases rx
  exact PyProof.Rows.tail_any (dict_typeIs I g) PySem.F.slot_dict_getitem.lookup (d_getItem hu I g ry fun w' s3 I3 rw' => ⟨z, H, I3, rw', q⟩) hs
theorem lixA : LOp K cl (fun x y H Q => rIx K x y H Q \/ rDIx x y H Q) ixA := by
  intro F H M x y d e z Q Qd g hx hy h p q
  unfold ixA at h
  split at h
  · rename_i ks ds
    cases e1 : keyD e with
    | none => rw [e1] at h; cases h
    | some k =>
      rw [e1] at h
      obtain ⟨a, vs, rfl, h1, h2, h3⟩ := hx.dK g.sub
      obtain ⟨v, h4, h5⟩ := reps_atK h3 h
      exact .inr ⟨a, v, rfl, by rw [key_rep hy e1, <- h4, <- valV_zip]; exact DGet.k h1, p.val g h5 q⟩
  · exact .inl (lix F H M x y d e z Q Qd g hx hy h p q)
variable {W : WX} {a b : Expr} {pos : Pos} {τa τb : DTE}
theorem d_ixA (hu : X.A.units + 1 < cLine) (ha : DE cl X W a τa) (hb : DE cl X W b τb) (hs : PlainIx b := by exact fun _ _ => rfl) : DE cl X W (.Subscript a b pos) (dOp ixA τa τb) :=
  ⟨pe_imp (pe_ix (ix_seq.or (ix_dict hu)) ha.pe hb.pe hs) fun σ H Q ⟨F, ρ, M, Qd, Xd, g, s, t, p, w⟩ =>
    ⟨F, ρ, M, _, Xd, g, s, t, fun v H' F' d M' sm g' r' q => ⟨F', ρ, M', _, Xd, g', s.mono sm, q, fun u H2 F2 e M2 sm2 g2 r2 q2 => by
      obtain ⟨z, e1, e2⟩ := q2
      exact lixA F2 H2 M2 v u _ _ z Q Qd g2 (vw_ok g2 (r'.mono sm2)) (vw_ok g2 r2) e1 (p.mono (sm.trans sm2)) e2, w.mono sm⟩, w⟩⟩
end
end DL
set_option Elab.async false
set_option linter.all false
set_option maxRecDepth 100000
set_option maxHeartbeats 4000000
set_option autoImplicit false
namespace DL
open PySem L2
section
open PySem.Spec PyProof.Rows HT
variable {prog : Program} {w : World} {A : Around} {E : Value -> Shared -> Prop} {s : Shared}
theorem rev_places (n : Nat) : Builtin.Slice.slicePlaces ((n : Int) - 1) (-1) (-1) = n := by
  unfold Builtin.Slice.slicePlaces
  have h1 : ¬ ((-1 : Int) > 0) := by omega
  simp only [h1, if_false]
  by_cases h : (n : Int) - 1 > -1
  · simp only [h, if_true]
    rw [show (- -1 : Int) = 1 by decide, Int.ediv_one]
    omega
  · simp only [h, if_false]
    omega
theorem rev_applied {sl : Addr} {vk : Value} {n : Nat} {Q : Int × Int × Nat -> Shared -> Prop} (hs : s.heap.IsSliceOf sl .none .none vk) (pk : IsPart vk (some (-1)))
    (h : Q ((n : Int) - 1, -1, n) s) : wpAny (model prog w) A (Builtin.Slice.sliceApplied (.ref sl) (pure (n : Int))) Q E s := by
  obtain ⟨os, hos, hcs, hds⟩ := id hs
  unfold Builtin.Slice.sliceApplied Builtin.Slice.sliceFields
  refine wpAny_bind (wpAny_bind (wpAny_field hos hds (x := .none) rfl (wpAny_bind (wpAny_field hos hds (x := .none) rfl (wpAny_bind (wpAny_field hos hds (x := vk) rfl (wpAny_pure ?_)))))))
  refine wpAny_bind (HT.slicePart_ pk ?_)
  show wpAny _ _ (if ((-1 : Int) == 0) = true then _ else _) _ _ s
  rw [if_neg (by decide)]
  refine wpAny_bind (HT.slicePart_ .none (wpAny_bind (HT.slicePart_ .none (wpAny_bind (wpAny_pure ?_)))))
  show wpAny _ _ (pure ((n : Int) - 1, (-1 : Int), Builtin.Slice.slicePlaces ((n : Int) - 1) (-1) (-1))) _ _ s
  rw [rev_places]
  exact wpAny_pure h
theorem rev_pick (xs : Array Value) : ((List.range xs.size).filterMap fun (m : Nat) => xs[((xs.size : Int) - 1 + (m : Int) * (-1)).toNat]?).toArray = xs.toList.reverse.toArray := by
  have e : ((List.range xs.size).filterMap fun (m : Nat) => xs[((xs.size : Int) - 1 + (m : Int) * (-1)).toNat]?) = (((List.range xs.size).map fun k => xs.size - 1 - k).filterMap (xs[·]?)) := by
    have go : ∀ l : List Nat, (∀ m ∈ l, m < xs.size) -> (l.filterMap fun (m : Nat) => xs[((xs.size : Int) - 1 + (m : Int) * (-1)).toNat]?) = ((l.map fun k => xs.size - 1 - k).filterMap (xs[·]?)) := by
      intro l
      induction l with
      | nil => intro _; rfl
      | cons m l ih =>
        intro hm
        have h1 := hm m List.mem_cons_self
        have e2 : ((xs.size : Int) - 1 + (m : Int) * (-1)).toNat = xs.size - 1 - m := by omega
        rw [List.map_cons, List.filterMap_cons, List.filterMap_cons, e2, ih fun k hk => hm k (List.mem_cons_of_mem _ hk)]
    exact go _ fun m hm => List.mem_range.mp hm
  rw [e, PySem.W.krv_range, List.filterMap_reverse, PySem.W.krv_all]
theorem getItem_tuple_rev {t sl : Addr} {items : Array Value} {vk : Value} {Q : Value -> Shared -> Prop} (ht : IsTup s.heap t items) (hs : s.heap.IsSliceOf sl .none .none vk) (pk : IsPart vk (some (-1)))
    (h : Q (.ref s.heap.objs.size) { s with heap := s.heap.push { cls := .type "tuple", data := .seq items.toList.reverse.toArray } })
    (hsz : items.size <= sizeLine) : wpAny (model prog w) A (getItem (.ref t) (.ref sl)) Q E s := by
  have htake : sizeOk (.seq items.toList.reverse.toArray) := by
    show items.toList.reverse.toArray.size <= sizeLine
    rw [List.size_toArray, List.length_reverse, Array.length_toList]
    omega
  obtain ⟨os, hos, hcs, hds⟩ := id hs
  have hTs : s.TypeIs (.ref sl) "slice" := ⟨os, hos, hcs⟩
  unfold getItem
  try with_reducible refine wpAny_holding ?_
  first | refine wpAny_bind (wpAny_pure ?_) | skip
  refine wpAny_bind (wpAny_sequenceKey ht.typeIs (by decide) ?_)
  refine wpAny_bind (wpAny_callSpecial?_slot (name := Str.ofString "__getitem__") ht.typeIs PyProof.Rows.slot_tuple_getitem
    (wpAny_call_entry PyProof.Rows.slot_tuple_getitem ht.typeIs PyProof.Rows.entry_tuple_getitem ?_ (PyProof.Rows.args_tuple_getitem _ _)))
  show wpAny _ _ (Builtin.Tuple.tupleItemsOf (.ref t) >>= _) _ _ s
  refine wpAny_bind (tupleItemsOf_ ht ?_)
  refine wpAny_bind (wpAny_typeOf hTs ?_)
  rw [if_pos (by decide)]
  refine wpAny_bind (rev_applied hs pk ?_)
  have hno : ¬ ((((items.size : Int) - 1) == 0 && (-1 : Int) == 1 && items.size == items.size) = true) := by
    simp
  show wpAny _ _ (if (((items.size : Int) - 1) == 0 && (-1 : Int) == 1 && items.size == items.size) = true then _ else _) _ _ s
  rw [if_neg hno, rev_pick]
  first
    | exact wpAny_bind (m := Builtin.Tuple.tupleExact _) (wpAny_newObj_type (wpAny_pure ⟨_, rfl, wpAny_pure h⟩) htake)
    | exact wpAny_bind (m := Builtin.Tuple.tupleExact _) (wpAny_newObj_type (wpAny_bind (wpAny_pure (wpAny_pure ⟨_, rfl, wpAny_pure h⟩))) htake)
    | exact wpAny_bind (wpAny_bind (m := Builtin.Tuple.tupleExact _) (wpAny_newObj_type (wpAny_pure (wpAny_pure ⟨_, rfl, wpAny_pure h⟩)) htake))
    | exact wpAny_bind (wpAny_bind (m := Builtin.Tuple.tupleExact _) (wpAny_newObj_type (wpAny_pure ⟨_, rfl, wpAny_pure h⟩) htake))
end
def tRevA (K : PySem.W.Frag) (te : TE) : TE := fun σ H Q => te σ H fun x H1 => ∃ a xs, x = .ref a /\ ((SqL K H1 a xs /\ ∀ p, H1 p = none -> Q (.ref p) (upd H1 p (.lst xs.reverse))) \/ (SqT K H1 a xs /\ ∀ p, H1 p = none -> Q (.ref p) (upd H1 p (.tup xs.reverse))))
section
open PySem.Spec PyProof.Rows HT
variable {X : Cx}
theorem pe_revA {e : Expr} {te : TE} {k : Nat} {p1 p2 p3 pos : Pos} (he : PE X e te) : PE X (.Subscript e (.Slice none none (some (.UnaryOp .USub (.Constant (.int 1) k p1) p2)) p3) pos) (tRevA X.K te) := by
  refine ⟨fun pins s σ H Q I h => ?_⟩
  refine PyProof.Rows.Subscript_ (thn (he.run pins s σ H _ I h) fun v s1 ⟨x, H1, I1, r1, q1⟩ => ?_)
  obtain ⟨a, xs, ex, q⟩ := q1
  subst ex
  cases r1
  have hst : PO X (some (.UnaryOp .USub (.Constant (.int 1) k p1) p2)) (tPart (tUn (rU fun i => .int (-i)) (tC (.int 1)))) := po_some (pe_un un_neg pe_int)
  refine wpAny_Slice (thn (po_none.run pins s1 σ H1 (fun o H2 => o = none /\ H2 = H1) I1 ⟨rfl, rfl⟩) fun vl s2 ⟨l, H2, I2, pl, el, e2⟩ => ?_)
  subst el e2
  refine thn (po_none.run pins s2 σ H2 (fun o H3 => o = none /\ H3 = H2) I2 ⟨rfl, rfl⟩) fun vu s3 ⟨u, H3, I3, pu, eu, e3⟩ => ?_
  subst eu e3
  refine thn (hst.run pins s3 σ H3 (fun o H4 => o = some (-1) /\ H4 = H3) I3 ⟨1, rfl, -1, rfl, rfl, rfl⟩) fun vs s4 ⟨o, H4, I4, ps, eo, e4⟩ => ?_
  subst eo e4
  have I5 : Inv X pins σ H4 { s4 with heap := s4.heap.push { cls := .type "slice", data := .fields #[vl, vu, vs] } } := I4.kept (t' := s4.toks) fun b ob q => Heap.get?_push_of_some _ q
  show wpAny (model X.prog X.w) X.A (subscriptTail e (.Slice none none (some (.UnaryOp .USub (.Constant (.int 1) k p1) p2)) p3) (.ref a) (.ref s4.heap.objs.size)) (EP X pins σ Q) X.xe { s4 with heap := s4.heap.push { cls := .type "slice", data := .fields #[vl, vu, vs] } }
  rcases q with ⟨hx, q⟩ | ⟨hx, q⟩
  · obtain ⟨its, r, ht, hz⟩ := I5.list hx
    have hlen := r.length
    refine PyProof.Rows.tail_any (ops := [.ref a, .ref s4.heap.objs.size]) ht.isList.typeIs (PySem.slot_list_getitem.lookup) ?_ (by with_unfolding_all rfl)
    refine wpAny_getItem_list_slice ht.isList (Heap.IsSliceOf.new _ vl vu vs) pl pu ps (by decide) ?_ (by rw [List.size_toArray]; omega)
    rw [PySem.W.krv_pick]
    refine ⟨.ref _, _, I5.laid (t' := s4.toks) (o := .lst xs.reverse) (fun b ob q => Heap.get?_push_of_some _ q) (Nat.le_refl _) ?_, rfl, q _ (I5.hok.fresh (Nat.le_refl _))⟩
    exact ⟨by rw [List.length_reverse]; exact hz, _, 0, r.reverse, Heap.get?_push_size _ rfl⟩
  · obtain ⟨its, r, ht, hz⟩ := I5.tuple hx
    have hlen := r.length
    cases pl
    cases pu
    refine PyProof.Rows.tail_any (ops := [.ref a, .ref s4.heap.objs.size]) ht.typeIs (PyProof.Rows.slot_tuple_getitem.lookup) ?_ (by with_unfolding_all rfl)
    refine getItem_tuple_rev ht (Heap.IsSliceOf.new _ _ _ vs) ps ?_ (by rw [List.size_toArray]; omega)
    refine ⟨.ref _, _, I5.laid (t' := s4.toks) (o := .tup xs.reverse) (fun b ob q => Heap.get?_push_of_some _ q) (Nat.le_refl _) (show ObjOk X.prog X.w _ _ _ (.tup xs.reverse) from ⟨by rw [List.length_reverse]; exact hz, its.reverse, r.reverse, IsTup.new _ _⟩), rfl, q _ (I5.hok.fresh (Nat.le_refl _))⟩
end
@[simp] def revD : D -> Option D
  | .lst xs => some (.lst xs.reverse)
  | .tup xs => some (.tup xs.reverse)
  | _ => none
section
variable {cl : ClW} {X : Cx} {W : WX} {e : Expr} {τ : DTE} {pos : Pos}
theorem d_rev {k : Nat} {p1 p2 p3 : Pos} (he : DE cl X W e τ) : DE cl X W (.Subscript e (.Slice none none (some (.UnaryOp .USub (.Constant (.int 1) k p1) p2)) p3) pos) (dUn revD τ) :=
  ⟨pe_imp (pe_revA he.pe) fun σ H Q ⟨F, ρ, M, Qd, Xd, g, s, t, p, w⟩ => ⟨F, ρ, M, _, Xd, g, s, t, fun v H' F' d M' sm g' r ⟨z, e1, q⟩ => (by
    have hv := vw_ok g' r
    cases e2 : vw M' d with
    | lst ds =>
      rw [e2] at hv e1
      cases e1
      obtain ⟨a, vs, rfl, h1, h2⟩ := hv.lst g'.sub
      exact ⟨a, vs, rfl, .inl ⟨h1, fun c hc => (p.mono sm).newL g' h2.reverse q hc⟩⟩
    | tup ds =>
      rw [e2] at hv e1
      cases e1
      obtain ⟨a, vs, rfl, h1, h2⟩ := hv.tup g'.sub
      exact ⟨a, vs, rfl, .inr ⟨h1, fun c hc => (p.mono sm).newT g' h2.reverse q hc⟩⟩
    | _ =>
      rw [e2] at e1
      cases e1), w⟩⟩
end
def tyD (T : String) : D -> Bool
  | .lst _ => T == "list"
  | .str _ => T == "str"
  | .dK _ _ => T == "dict"
  | _ => false
def LMt (K : PySem.W.Frag) (cl : ClW) (r : V -> List V -> Hp -> VK -> Prop) (φ : D -> List D -> Mem -> DV -> Prop) : Prop :=
  ∀ F H M x xs d ds Q Qd, Good K cl F H M -> Rep K cl F x d -> Reps K cl F xs ds -> φ d ds M Qd -> Post K cl F Q Qd -> r x xs H Q
def dBM (T : String) (φ : D -> List D -> Mem -> DV -> Prop) (τ : DTE) (α : DTA) : DTE := fun ρ M Q X => τ ρ M (fun o M1 => tyD T (vw M1 o) = true /\ α ρ M1 (fun ds M2 => φ o ds M2 Q) X) X
section
variable {K : PySem.W.Frag} {cl : ClW} {F H : Hp} {X : Cx} {W : WX}
theorem tyV_of {T : String} {v : V} {d : D} (s : Same F H) (h : Vw K cl F H v d) (e : tyD T d = true) : tyV K T v H := by
  cases d with
  | lst ds =>
    obtain ⟨a, vs, rfl, h1, h2⟩ := h.lst s
    exact .inl ⟨eq_of_beq e, vs, h1⟩
  | str z =>
    obtain rfl := h.str
    exact eq_of_beq e
  | dK ks ds =>
    obtain ⟨a, vs, rfl, h1, h2, h3⟩ := h.dK s
    exact .inr (.inr (.inl ⟨eq_of_beq e, .inl ⟨_, h1⟩⟩))
  | _ => cases e
variable {o e : Expr} {es : List Expr} {τ : DTE} {α : DTA} {name : Str} {apos cpos : Pos} {T id : String} {r : V -> List V -> Hp -> VK -> Prop} {φ : D -> List D -> Mem -> DV -> Prop}
theorem d_bm (pa : PlainAttrs T) (slot : Slot T name id) (hty : typeOf (.builtin id) = pure (.type "method_descriptor")) (hm : MtR X id r) (hl : LMt X.K cl r φ) (ho : DE cl X W o τ) (ha : DA cl X W (e :: es) α)
    (hbase : attributeBase o name X.env (eval o X.env) = eval o X.env := by rfl)
    (hfew : ((backTo cpos (starEach (e :: es) X.env)).all (fun x => !x.1) && (backToKw cpos (keywordEach [] X.env)).all (fun x => x.1.isSome)
      && decide ((e :: es).length + ([] : List Keyword).length + (if ([] : List Keyword).isEmpty then 0 else 1) < 30)) = true := by rfl)
    (hline : (apos.endLine == cpos.line) = true := by rfl) (hs : starEach (e :: es) X.env = (false, eval e X.env) :: starEach es X.env := by rfl) (hplain : (backTo cpos (starEach es X.env)).any (·.1) = false := by rfl) :
    DE cl X W (.Call (.Attribute o name apos) (e :: es) [] cpos) (dBM T φ τ α) :=
  ⟨pe_imp (pe_bm pa slot hty hm ho.pe ha.pa hbase hfew hline hs hplain) fun σ H Q ⟨F, ρ, M, Qd, Xd, g, s, t, p, w⟩ => ⟨F, ρ, M, _, Xd, g, s, t, fun v H' F' d M' sm g' r' ⟨e1, q⟩ =>
    ⟨tyV_of g'.sub (vw_ok g' r') e1, F', ρ, M', _, Xd, g', s.mono sm, q, fun vs H2 F2 ds M2 sm2 g2 r2 q2 => hl F2 H2 M2 v vs d ds Q Qd g2 (r'.mono sm2) r2 q2 (p.mono (sm.trans sm2)), w.mono sm⟩, w⟩⟩
theorem d_bm0 (pa : PlainAttrs T) (slot : Slot T name id) (hty : typeOf (.builtin id) = pure (.type "method_descriptor")) (hm : MtR X id r) (hl : LMt X.K cl r φ) (ho : DE cl X W o τ)
    (hbase : attributeBase o name X.env (eval o X.env) = eval o X.env := by rfl) (hline : (apos.endLine == cpos.line) = true := by rfl) :
    DE cl X W (.Call (.Attribute o name apos) [] [] cpos) (dBM T φ τ dNil) :=
  ⟨pe_imp (pe_bm0 pa slot hty hm ho.pe hbase hline) fun σ H Q ⟨F, ρ, M, Qd, Xd, g, s, t, p, w⟩ => ⟨F, ρ, M, _, Xd, g, s, t, fun v H' F' d M' sm g' r' ⟨e1, q⟩ =>
    ⟨tyV_of g'.sub (vw_ok g' r') e1, hl F' H' M' v [] d [] Q Qd g' r' .nil q (p.mono sm)⟩, w⟩⟩
def φApp : D -> List D -> Mem -> DV -> Prop := fun o ds M Q => ∃ a xs d, o = .ref a /\ ds = [d] /\ M a = some (.lst xs) /\ xs.length < sizeLine /\ Q .non (updM M a (.lst (xs ++ [d])))
theorem lm_app : LMt K cl rAppend φApp := by
  intro F H M x xs d ds Q Qd g rx rs h p
  obtain ⟨a, ys, y, rfl, rfl, h1, h2, q⟩ := h
  obtain rfl := rx.toRef
  obtain ⟨hF, vs, h3, h4⟩ := g.cell a _ h1
  obtain ⟨v, ws, rfl, r1, r2⟩ := rs.inv
  obtain rfl := r2.inv0
  exact ⟨a, vs, v, rfl, rfl, h3, by rw [h4.length]; exact h2, p _ _ F _ _ (Same.refl F) (g.put (d := .lst (ys ++ [y])) h1 ⟨vs ++ [v], upd_same, h4.append (.one r1)⟩) .non q⟩
end
end DL
set_option Elab.async false
set_option linter.all false
set_option maxRecDepth 100000
set_option maxHeartbeats 4000000
set_option autoImplicit false
namespace DL
open PySem L2
theorem RoomG.u1 {k : Nat} {A : Around} (r : RoomG k A) : A.units + 1 < cLine := Nat.lt_of_le_of_lt (by omega) r.room.units
section
open PySem.Spec PyProof.Rows
variable {X : Cx}
end
section
variable {K : PySem.W.Frag} {cl : ClW}
end
@[simp] def iEn (τ : DTE) : DTI := fun ρ M R X => τ ρ M (fun d M1 => ∃ xs, d = .lst xs /\ R (xs.zipIdx.map fun p => D.tup [.int (p.2 : Nat), p.1]) M1) X
@[simp] def iZp (τ τ' : DTE) : DTI := fun ρ M R X => τ ρ M (fun d M1 => τ' ρ M1 (fun e M2 => ∃ xs ys, d = .lst xs /\ e = .lst ys /\ R ((xs.zip ys).map fun p => D.tup [p.1, p.2]) M2) X) X
section
variable {cl : ClW} {X : Cx} {W : WX} {a b : Expr} {pos : Pos} {τa τb : DTE}
theorem di_zip {elts : List Expr} {kk : Nat} {tpos p : Pos} (hg : Gl X "zip") (hm : X.mg "zip" = none) (ha : DE cl X W a τa) (hb : DE cl X W b τb)
    (hs : starEach [a, b] X.env = (false, eval a X.env) :: starEach [b] X.env := by rfl) (hs2 : starEach [b] X.env = [(false, eval b X.env)] := by rfl) (hpl : (backTo pos (starEach [b] X.env)).any (·.1) = false := by rfl) :
    DI cl X W (.Tuple elts kk tpos) (.Call (.Name "zip" p) [a, b] [] pos) (iZp τa τb) :=
  ⟨pi_imp (pi_zip hg hm (da_cons (W := W) (cl := cl) ha (da_cons hb da_nil hs2) hs).pa hs hpl) fun σ H R ⟨F, ρ, M, Rd, Xd, g, s, q, p, w⟩ =>
    ⟨F, ρ, M, fun ds M1 => ∃ xs ys, ds = [.lst xs, .lst ys] /\ Rd ((xs.zip ys).map fun p => D.tup [p.1, p.2]) M1, Xd, g, s, (by
      unfold iZp at q
      unfold dCons dNil
      have mono : (fun d M1 => τb ρ M1 (fun e M2 => ∃ xs ys, d = D.lst xs /\ e = D.lst ys /\ Rd ((xs.zip ys).map fun p => D.tup [p.1, p.2]) M2) Xd) = (fun d M1 => τb ρ M1 (fun e M2 => ∃ xs ys, [d, e] = [D.lst xs, D.lst ys] /\ Rd ((xs.zip ys).map fun p => D.tup [p.1, p.2]) M2) Xd) := by
        funext d M1
        congr 1
        funext e M2
        simp [and_assoc]
      rw [mono] at q
      exact q), fun vs H' F' ds M' sm g' r ⟨xs, ys, e1, q'⟩ => (by
      subst e1
      obtain ⟨v, ws, rfl, r1, r2⟩ := r.inv
      obtain ⟨v2, ws, rfl, r3, r4⟩ := r2.inv
      obtain rfl := r4.inv0
      obtain ⟨a, us, rfl, h1, h2⟩ := r1.toLst
      obtain ⟨b, zs, rfl, k1, k2⟩ := r3.toLst
      refine ⟨a, b, us, zs, rfl, same_l g'.sub h1, same_l g'.sub k1, p _ _ F' _ M' sm g' (fun i F2 H2 M2 sm2 g2 => ⟨fun d hd => ?_, fun hl => ⟨us, zs, same_l (sm2.trans g2.sub) h1, same_l (sm2.trans g2.sub) k1, ?_⟩⟩) q'⟩
      · rw [List.getElem?_map] at hd
        obtain ⟨⟨d0, d1⟩, hz, rfl⟩ := Option.map_eq_some_iff.mp hd
        obtain ⟨z1, z2⟩ := List.getElem?_zip_eq_some.mp hz
        obtain ⟨v0, h3, h4⟩ := h2.get z1
        obtain ⟨v1, k3, k4⟩ := k2.get z2
        refine ⟨⟨us, zs, v0, v1, same_l (sm2.trans g2.sub) h1, same_l (sm2.trans g2.sub) k1, h3, k3⟩, fun x H3 y => ?_⟩
        obtain ⟨T, x0, y0, rfl, hT, rfl, hx, hy⟩ := y
        have h5 := hx us (same_l (sm2.trans g2.sub) h1)
        have k5 := hy zs (same_l (sm2.trans g2.sub) k1)
        rw [h3] at h5
        rw [k3] at k5
        cases h5
        cases k5
        have sm3 : Same F2 (upd F2 T (.tup [v0, v1])) := same_new (g2.freshF hT)
        exact ⟨_, sm3, g2.new hT, .tup (SqT1.of upd_same) (.cons (h4.mono (sm2.trans sm3)) (.one (k4.mono (sm2.trans sm3))))⟩
      · rw [h2.length, k2.length]
        simp at hl
        omega), w⟩⟩
end
end DL
set_option Elab.async false
set_option linter.all false
set_option maxRecDepth 100000
set_option maxHeartbeats 4000000
set_option autoImplicit false
namespace DL
open PySem L2
def FnC (cl : ClW) (P : Program) (w : World) (K : PySem.W.Frag) (mg : Str -> Option Value) (base : Heap) (k : Nat) (x qual : Str) (params : Arguments) (body : List Stmt) (scope : Scope) (f : Addr) (ps : List Str) (spd : SpD) : Prop :=
  ∃ fd, FunD K x qual params body scope [] [] f fd /\ FnG cl P w K mg base k f fd ps spd
def pick {α : Type} (ord : List Nat) (l : List α) : List α := ord.filterMap (l[·]?)
theorem pick_len {α β : Type} (l : List α) (m : List β) (h : l.length = m.length) : ∀ ord : List Nat, (pick ord l).length = (pick ord m).length
  | [] => rfl
  | j :: ord => by
    have ih := pick_len l m h ord
    unfold pick at ih ⊢
    rw [List.filterMap_cons, List.filterMap_cons]
    by_cases hj : j < l.length
    · rw [List.getElem?_eq_getElem hj, List.getElem?_eq_getElem (h ▸ hj)]
      simp [ih]
    · rw [List.getElem?_eq_none (by omega), List.getElem?_eq_none (by omega)]
      exact ih
theorem vals_pick {vs : List V} {us : List Value} (h : Vals vs us) : ∀ ord : List Nat, Vals (pick ord vs) (pick ord us)
  | [] => .nil
  | j :: ord => by
    have ih := vals_pick h ord
    have hl := h.length
    unfold DL.pick at ih ⊢
    rw [List.filterMap_cons, List.filterMap_cons]
    cases e : vs[j]? with
    | none =>
      have : us.length <= j := by have := List.getElem?_eq_none_iff.mp e; omega
      rw [List.getElem?_eq_none this]
      exact ih
    | some v =>
      obtain ⟨u, hu, r⟩ := h.get e
      rw [hu]
      exact .cons r ih
theorem Reps.pick {K : PySem.W.Frag} {cl : ClW} {F : Hp} {vs : List V} {ds : List D} (h : Reps K cl F vs ds) : ∀ ord : List Nat, Reps K cl F (pick ord vs) (pick ord ds)
  | [] => .nil
  | j :: ord => by
    have ih := Reps.pick h ord
    have hl := h.length
    unfold DL.pick at ih ⊢
    rw [List.filterMap_cons, List.filterMap_cons]
    cases e : ds[j]? with
    | none =>
      have : vs.length <= j := by have := List.getElem?_eq_none_iff.mp e; omega
      rw [List.getElem?_eq_none this]
      exact ih
    | some v =>
      obtain ⟨u, hu, r⟩ := h.get e
      rw [hu]
      exact .cons r ih
def KBp (K : PySem.W.Frag) (fd : FuncData) (ps : List Str) (n : Nat) (ks : List Str) (ord : List Nat) : Prop :=
  ∀ (s : Shared) (us ws : List Value), K.In s.heap -> us.length = n -> ws.length = ks.length -> BindsTo s fd ⟨us, ks.zip ws⟩ (ps.zip (pick ord (us ++ ws)))
theorem kb_of {K : PySem.W.Frag} {x qual : Str} {params : Arguments} {body : List Stmt} {scope : Scope} {kws : List (Str × V)} {f : Addr} {fd : FuncData} {ps ks : List Str} {n : Nat} {ord : List Nat} (F : FunD K x qual params body scope [] kws f fd)
    (h : ∀ (kV doc pm : Value) (an : Option Addr) (cdv ct : Value) (us ws : List Value), us.length = n -> ws.length = ks.length -> bindArgs (PySem.W.fnOf x qual params body scope .none kV doc pm an cdv ct) ⟨us, ks.zip ws⟩ = pure (ps.zip (pick ord (us ++ ws)))) : KBp K fd ps n ks ord := by
  obtain ⟨oc, od, dV, kV, doc, pm, an, cdv, ct, osl, rfl, lk, hcd, hD, hK⟩ := F.ex
  rcases hD with ⟨_, rfl⟩ | ⟨e, _⟩
  · exact fun s us ws _ hu hw => .of_eq (h kV doc pm an cdv ct us ws hu hw)
  · exact absurd rfl e
section
variable {cl : ClW} {P : Program} {w : World} {K : PySem.W.Frag} {mg : Str -> Option Value} {base : Heap} {k : Nat} {x qual : Str} {params : Arguments} {body : List Stmt} {scope : Scope} {N ps ks : List Str} {spd : SpD} {f : Addr} {t : DTS} {c n : Nat} {ord : List Nat} {m : Str}
theorem fnC_of (F : ∃ fd, FunD K x qual params body scope [] [] f fd) (S : FnScope N ps scope)
    (hbody : ∀ (cdv : Value) (A : Around) (outer : List PySem.Env) (s : Shared) (H : Hp) (E : XK), Cap (cxOf (L2.CX P w) P w K mg base N qual scope f cdv A outer s H E) (fun cls d _ H => E cls d H) k ->
      DSs cl (cxOf (L2.CX P w) P w K mg base N qual scope f cdv A outer s H E) (fun cls d _ H => E cls d H) body t)
    (hsp : ∀ ds M Q E, spd ds M Q E -> ds.length = ps.length /\ t (dEnds Q E) (startD N ds) M) : FnC cl P w K mg base (k + 1) x qual params body scope f ps spd := by
  obtain ⟨fd, F⟩ := F
  exact ⟨fd, F, fn_d F S t hbody hsp⟩
def MethBK (cl : ClW) (P : Program) (w : World) (K : PySem.W.Frag) (mg : Str -> Option Value) (base : Heap) (k : Nat) (c : Nat) (m : Str) (n : Nat) (ks : List Str) (ord : List Nat) (spd : SpD) : Prop :=
  Cls K (cl c) /\ ∃ f fd ps, Meth K (cl c) m f /\ KBp K fd ps n ks ord /\ FnG cl P w K mg base k f fd ps spd
abbrev HBind (x qual : Str) (params : Arguments) (body : List Stmt) (scope : Scope) (ps : List Str) : Prop := ∀ (kV doc pm : Value) (an : Option Addr) (cdv ct : Value) (us : List Value), us.length = ps.length -> bindArgs (PySem.W.fnOf x qual params body scope .none kV doc pm an cdv ct) ⟨us, []⟩ = pure (ps.zip us)
abbrev HBindK (x qual : Str) (params : Arguments) (body : List Stmt) (scope : Scope) (ps : List Str) (n : Nat) (ks : List Str) (ord : List Nat) : Prop := ∀ (kV doc pm : Value) (an : Option Addr) (cdv ct : Value) (us ws : List Value), us.length = n -> ws.length = ks.length -> bindArgs (PySem.W.fnOf x qual params body scope .none kV doc pm an cdv ct) ⟨us, ks.zip ws⟩ = pure (ps.zip (pick ord (us ++ ws)))
theorem FnC.fn (C : FnC cl P w K mg base k x qual params body scope f ps spd) {y : Str} (hm : mg y = some (.ref f)) (hb : HBind x qual params body scope ps) : FnB cl P w K mg base k y ps spd := by
  obtain ⟨fd, F, G⟩ := C
  exact ⟨f, fd, hm, F.kp, F.bindsN hb, G⟩
theorem FnC.meth (C : FnC cl P w K mg base k x qual params body scope f ps spd) (hc : Cls K (cl c)) (hm : Meth K (cl c) m f) (hb : HBind x qual params body scope ps) {j : Nat} (hj : k <= j) : MethB cl P w K mg base j c m spd := by
  obtain ⟨fd, F, G⟩ := C
  exact ⟨hc, f, fd, ps, hm, F.bindsN hb, G.mono hj⟩
theorem FnC.methK (C : FnC cl P w K mg base k x qual params body scope f ps spd) (hc : Cls K (cl c)) (hm : Meth K (cl c) m f) (hb : HBindK x qual params body scope ps n ks ord) {j : Nat} (hj : k <= j) : MethBK cl P w K mg base j c m n ks ord spd := by
  obtain ⟨fd, F, G⟩ := C
  exact ⟨hc, f, fd, ps, hm, kb_of F hb, G.mono hj⟩
theorem FnC.mk (C : FnC cl P w K mg base k x qual params body scope f ps spd) {y : Str} (hy : mg y = some (.ref (cl c))) (hm : Mk K (cl c) f) (hb : HBind x qual params body scope ps) : MkB cl P w K mg base k y c ps spd := by
  obtain ⟨fd, F, G⟩ := C
  exact ⟨hy, f, fd, hm, F.bindsN hb, G⟩
end
structure DK (cl : ClW) (X : Cx) (W : WX) (kws : List Keyword) (τ : DTA) : Prop where
  pk : PK X kws (lowA X.K cl W τ)
section
variable {cl : ClW} {X : Cx} {W : WX} {e o : Expr} {es : List Expr} {kws : List Keyword} {nm : Option Str} {kpos pos apos p : Pos} {τ : DTE} {α β : DTA} {x m : Str} {n k j c : Nat} {ks ps : List Str} {ord : List Nat} {spd : SpD} {f : Addr} {fd : FuncData} {pl : Sem Bool}
theorem dk_nil : DK cl X W [] dNil := ⟨⟨fun pos pins s σ H Q I ⟨F, ρ, M, Qd, Xd, g, sl, t, p, w⟩ => pk_nil.run pos pins s σ H Q I (p [] H F [] M (Same.refl F) g .nil t)⟩⟩
theorem dk_cons (ha : DE cl X W e τ) (hr : DK cl X W kws α) : DK cl X W (⟨nm, e, kpos⟩ :: kws) (dCons τ α) :=
  ⟨⟨fun pos pins s σ H Q I ⟨F, ρ, M, Qd, Xd, g, sl, t, p, w⟩ => (pk_cons ha.pe hr.pk).run pos pins s σ H Q I ⟨F, ρ, M, _, Xd, g, sl, t, fun v H' F' d M' sm g' r q => ⟨F', ρ, M', _, Xd, g', sl.mono sm, q, fun vs H2 F2 ds M2 sm2 g2 r2 q2 => p _ _ _ _ _ (sm.trans sm2) g2 (.cons (r.mono sm2) r2) q2, w.mono sm⟩, w⟩⟩⟩
theorem run_gk {pins : List (Addr × Obj)} {σ : St} {H : Hp} {s : Shared} {Q : VK} {us ws : List Value} {vs zs : List V} (cp : Cap X W k) (F : FnG cl X.prog X.w X.K X.mg X.base k f fd ps spd) (hb : KBp X.K fd ps n ks ord)
    (I : Inv X pins σ H s) (r : Vals vs us) (rz : Vals zs ws) (hn : us.length = n) (hw : ws.length = ks.length) (h : lower X.K cl spd (pick ord (vs ++ zs)) H Q (WE W σ)) : wpAny (model X.prog X.w) X.A (call (.ref f) us (ks.zip ws)) (EP X pins σ Q) X.xe s := by
  have r2 : Vals (pick ord (vs ++ zs)) (pick ord (us ++ ws)) := vals_pick (r.append rz) ord
  refine wpAny_call (codeAny_mono (F.run X.A X.stack s H ⟨us, ks.zip ws⟩ (pick ord (us ++ ws)) (pick ord (vs ++ zs)) Q _ cp.hr I.env0 (hb s us ws I.kIn hn hw) r2 h) fun r s' hq => ?_)
  cases r with
  | error e => exact passAt cp.tk σ pins H s e s' I hq
  | ok fl =>
    cases fl with
    | ret u => exact I.after hq
    | next => exact False.elim hq
    | brk => exact False.elim hq
    | cont => exact False.elim hq
def dMethK (tb : List (Nat × SpD)) (m : Str) (n : Nat) (ord : List Nat) (τ : DTE) (β : DTA) : DTE := fun ρ M Q X => τ ρ M (fun o M1 => ∃ c ns ds spd, vw M1 o = .obj c ns ds /\ tb.lookup c = some spd /\ m ∉ ns /\ β ρ M1 (fun as M2 => as.length = n /\ spd (pick ord (o :: as)) M2 Q (fun c' ns es M3 => X c' ns es ρ M3)) X) X
theorem d_methK0 {tb : List (Nat × SpD)} (cp : Cap X W k) (hm : ∀ c spd, tb.lookup c = some spd -> MethBK cl X.prog X.w X.K X.mg X.base k c m 1 ks ord spd) (ho : DE cl X W o τ) (hkw : DK cl X W kws β) (hn : ks.length = n := by rfl)
    (hall : (backToKw pos (keywordEach kws X.env)).all (·.1.isSome) = true := by rfl) (hks : (backToKw pos (keywordEach kws X.env)).filterMap (·.1) = ks := by rfl)
    (hpl : ((backTo pos (starEach [] X.env)).any (·.1) || (backToKw pos (keywordEach kws X.env)).any (·.1.isNone)) = false := by rfl)
    (ht : eval (.Call (.Attribute o m apos) [] kws pos) X.env = (do
      let ov <- eval o X.env
      standAt apos.atName
      let (f, first) <- holding [ov] (getMethod ov m pl)
      callWith pos f first (backTo pos (starEach [] X.env)) (backToKw pos (keywordEach kws X.env))) := by rfl) :
    DE cl X W (.Call (.Attribute o m apos) [] kws pos) (dMethK tb m n ord τ β) := ⟨⟨fun pins s σ H Q I h => by
  obtain ⟨F, ρ, M, Qd, Xd, g, sl, q, p, w⟩ := h
  refine PySem.W.methodCall_KW (pl := pl) (thn (ho.pe.run pins s σ H (fun v H1 => ∃ F' ρ' M' o, Same F F' /\ Good X.K cl F' H1 M' /\ Rep X.K cl F' v o /\ ρ' = ρ /\ ∃ c ns ds spd, vw M' o = .obj c ns ds /\ tb.lookup c = some spd /\ m ∉ ns /\ β ρ M' (fun as M2 => as.length = n /\ spd (pick ord (o :: as)) M2 Qd (fun c' ns es M3 => Xd c' ns es ρ M3)) Xd) I
    ⟨F, ρ, M, _, Xd, g, sl, q, fun v H' F' d M' sm g' r q' => ⟨F', ρ, M', d, sm, g', r, rfl, q'⟩, w⟩) fun u s1 ⟨v, H1, I1, rv, F1, ρ1, M1, od, sm1, g1, r1, _, c, ns, ds, spd, e1, e2, e3, q1⟩ => ?_) ht
  obtain ⟨hc, f, fd, ps, mt, hb, G⟩ := hm c spd e2
  obtain ⟨a, dx, fs, rfl, ha1, ha2⟩ := meth_at g1 r1 e1 e3
  obtain rfl : u = Value.ref a := rv
  refine getmeth_ok I1 ha1 hc mt ha2 ?_
  refine PySem.W.callWith_KW0 (h₀ := X.base) (first := [.ref a]) I1.ok.mod.kin mt.kp hall (thn (hkw.pk.run pos pins s1 σ H1 (fun vs H2 => vs.length = n /\ lower X.K cl spd (pick ord (.ref a :: vs)) H2 Q (WE W σ)) I1 ⟨F1, ρ, M1, _, Xd, g1, sl.mono sm1, q1, fun vs H' F' ds M' sm g' r q' => ?_, w.mono sm1⟩) fun ws s2 ⟨vs, H2, I2, r, hl, q⟩ => ⟨I2.kIn, ?_⟩) hpl
  · obtain ⟨e1, q'⟩ := q'
    exact ⟨by rw [r.length]; exact e1, low_call g' (sl.mono (sm1.trans sm)) (Reps.pick (.cons (r1.mono sm) r) ord) q' (p.mono (sm1.trans sm)) (w.mono (sm1.trans sm))⟩
  · rw [hks]
    exact run_gk (us := [.ref a]) (vs := [.ref a]) cp G hb I2 (.cons rfl .nil) r rfl (by have := r.length; omega) q⟩⟩
end
end DL
set_option Elab.async false
set_option linter.all false
set_option maxRecDepth 100000
set_option maxHeartbeats 4000000
set_option autoImplicit false
namespace DL
open PySem L2
theorem forD_run {γ : DTG} {t : DTS} {E : DEnds} (xs : List D) (P : List D -> Env -> Mem -> Prop)
    (step : ∀ (done : List D) (x : D) (rest : List D) (ρ : Env) (M : Mem) (Nx : Env -> Mem -> Prop), xs = done ++ x :: rest -> P done ρ M -> (∀ ρ' M', P (done ++ [x]) ρ' M' -> Nx ρ' M') ->
      γ x ρ M (fun ρ2 M2 => t { E with nx := Nx, ct := Nx, bk := E.nx } ρ2 M2) E.ex)
    (fin : ∀ ρ M, P xs ρ M -> E.nx ρ M) {ρ : Env} {M : Mem} (h0 : P [] ρ M) : forD γ t xs E ρ M := by
  have go : ∀ (rest done : List D) (ρ : Env) (M : Mem), xs = done ++ rest -> P done ρ M -> forD γ t rest E ρ M := by
    intro rest
    induction rest with
    | nil =>
      intro done ρ M e p
      rw [List.append_nil] at e
      subst e
      exact fin ρ M p
    | cons x rest ih =>
      intro done ρ M e p
      exact step done x rest ρ M (forD γ t rest E) e p fun ρ' M' p' => ih (done ++ [x]) ρ' M' (by rw [e]; simp) p'
  exact go xs [] ρ M rfl h0
theorem lcD_run {γ : DTG} {υ : DTT} {τ : DTE} {vs : List Nat} {a : Addr} {Q : DV} {ρ : Env} (xs : List D) (P : List D -> List D -> Mem -> Prop)
    (step : ∀ (done : List D) (x : D) (rest acc : List D) (M : Mem) (Nx : Mem -> Prop), xs = done ++ x :: rest -> M a = some (.lst acc) -> P done acc M -> (∀ acc' M', M' a = some (.lst acc') -> P (done ++ [x]) acc' M' -> Nx M') ->
      γ x (wipeD ρ vs) M (fun ρ2 M2 => υ ρ2 M2 (fun b M3 => if b = true then τ ρ2 M3 (fun d M4 => ∃ acc, M4 a = some (.lst acc) /\ acc.length < sizeLine /\ Nx (updM M4 a (.lst (acc ++ [d])))) noX else Nx M3) noX) noX)
    (fin : ∀ acc M, M a = some (.lst acc) -> P xs acc M -> Q (.lst acc) (delM M a)) {M : Mem} (h0 : P [] [] (updM M a (.lst []))) : lcD γ υ τ vs a xs ρ (updM M a (.lst [])) Q := by
  have go : ∀ (rest done acc : List D) (M : Mem), xs = done ++ rest -> M a = some (.lst acc) -> P done acc M -> lcD γ υ τ vs a rest ρ M Q := by
    intro rest
    induction rest with
    | nil =>
      intro done acc M e ha p
      rw [List.append_nil] at e
      subst e
      exact ⟨acc, ha, fin acc M ha p⟩
    | cons x rest ih =>
      intro done acc M e ha p
      exact step done x rest acc M (fun M' => lcD γ υ τ vs a rest ρ M' Q) e ha p fun acc' M' ha' p' => ih (done ++ [x]) acc' M' (by rw [e]; simp) ha' p'
  exact go xs [] [] _ rfl updM_same h0
theorem lcD_fn {γ : DTG} {υ : DTT} {τ : DTE} {vs : List Nat} {a : Addr} {Q : DV} {ρ : Env} {M : Mem} (f : D -> Option D) (xs : List D) (hl : xs.length <= 16777216) (hM : M a = none)
    (step : ∀ x ∈ xs, ∀ (M1 : Mem) (T : Option D -> Mem -> Prop), (∀ b, b ≠ a -> M1 b = M b) -> T (f x) M1 -> γ x (wipeD ρ vs) M1 (fun ρ2 M2 => υ ρ2 M2 (fun b M3 => if b = true then τ ρ2 M3 (fun d M4 => T (some d) M4) noX else T none M3) noX) noX)
    (q : Q (.lst (xs.filterMap f)) M) : lcD γ υ τ vs a xs ρ (updM M a (.lst [])) Q := by
  refine lcD_run xs (fun done acc M1 => acc = done.filterMap f /\ M1 = updM M a (.lst acc)) ?_ ?_ ⟨rfl, rfl⟩
  · rintro done x rest acc M1 Nx e ha ⟨rfl, rfl⟩ nx
    have hx : x ∈ xs := by rw [e]; simp
    have hlen : (done.filterMap f).length < sizeLine := by
      have h1 := List.length_filterMap_le f done
      have h2 := congrArg List.length e
      rw [List.length_append, List.length_cons] at h2
      rw [sizeLine_eq]
      omega
    refine step x hx (updM M a (.lst (done.filterMap f))) (fun o M4 => match o with | some d => ∃ acc, M4 a = some (.lst acc) /\ acc.length < sizeLine /\ Nx (updM M4 a (.lst (acc ++ [d]))) | none => Nx M4) (fun b hb => updM_ne hb) ?_
    cases ho : f x with
    | none =>
      refine nx _ _ updM_same ⟨?_, rfl⟩
      rw [List.filterMap_append]
      simp [ho]
    | some d =>
      refine ⟨_, updM_same, hlen, nx _ _ updM_same ⟨?_, ?_⟩⟩
      · rw [List.filterMap_append]
        simp [ho]
      · exact updM_updM
  · rintro acc M1 ha ⟨rfl, rfl⟩
    rw [delM_updM hM]
    exact q
section
variable {cl : ClW} {X : Cx} {W : WX} {x f : Str} {p pos : Pos} {c : Nat} {d : D}
theorem d_clsN (hg : Gl X x) (hm : X.mg x = some (.ref (cl c))) (hd : (x == ("__debug__" : Str)) = false := by decide) : DE cl X W (.Name x pos) (dC (.cls c)) :=
  d_c (v := .ref (cl c)) (pe_glob hg hm rfl hd) fun _ => .cls c
def CValB (K : PySem.W.Frag) (cl : Nat -> Addr) (c : Nat) (f : Str) (d : D) : Prop := ∃ mc v u, ClX.CRead K (cl c) mc /\ ClX.CVal K (cl c) mc f v u /\ ∀ (cw : ClW) F, Rep K cw F v d
theorem d_cval (r : CValB X.K cl c f d) (hg : Gl X x) (hm : X.mg x = some (.ref (cl c))) (hd : (x == ("__debug__" : Str)) = false := by decide)
    (hb : attributeBase (.Name x p) f X.env (eval (.Name x p) X.env) = eval (.Name x p) X.env := by rfl) : DE cl X W (.Attribute (.Name x p) f pos) (dC d) := by
  obtain ⟨mc, v, u, h1, h2, h3⟩ := r
  exact ⟨pe_imp (ClX.pe_cval (d_clsN (cl := cl) (W := W) (c := c) hg hm hd).pe hb) fun σ H Q ⟨F, ρ, M, Qd, Xd, g, s, t, p, w⟩ => ⟨F, ρ, M, fun d' M' => d' = .cls c /\ Qd d M', Xd, g, s, ⟨rfl, t⟩, fun v' H' F' d' M' sm g' r' ⟨e1, q⟩ => by
    subst e1
    obtain rfl := r'.toCls
    exact ⟨cl c, mc, v, u, rfl, h1, h2, p _ _ _ _ _ sm g' (h3 _ F') q⟩, w⟩⟩
end
def putKs {β : Type} [DecidableEq β] (k : β) (ks : List β) : List β := if (ks.any fun j => decide (j = k)) = true then ks else ks ++ [k]
def putVs {α β : Type} [DecidableEq β] (k : β) (y : α) (ks : List β) (vs : List α) : List α := if (ks.any fun j => decide (j = k)) = true then List.zipWith (fun j v => if j = k then y else v) ks vs else vs ++ [y]
theorem putK_zip {β : Type} [DecidableEq β] (k : β) (y : V) (ks : List β) (vs : List V) (h : ks.length = vs.length) : putK (ks.zip vs) k y = (putKs k ks).zip (putVs k y ks vs) /\ (putKs k ks).length = (putVs k y ks vs).length := by
  have ha : ((ks.zip vs).any fun kv => decide (kv.1 = k)) = ks.any fun j => decide (j = k) := by
    clear y
    induction ks generalizing vs with
    | nil => simp
    | cons j ks ih =>
      cases vs with
      | nil => simp at h
      | cons v vs => simp only [List.zip_cons_cons, List.any_cons]; rw [ih vs (by simpa using h)]
  unfold putK putKs putVs
  rw [ha]
  split
  · constructor
    · clear ha
      rename_i hh
      clear hh
      induction ks generalizing vs with
      | nil => simp
      | cons j ks ih =>
        cases vs with
        | nil => simp at h
        | cons v vs =>
          simp only [List.zip_cons_cons, List.map_cons, List.zipWith_cons_cons]
          rw [ih vs (by simpa using h)]
          by_cases e : j = k <;> simp [e]
    · simp [h]
  · constructor
    · rw [List.zip_append h]; rfl
    · simp [h]
theorem reps_putVs {K : PySem.W.Frag} {cl : ClW} {F : Hp} {β : Type} [DecidableEq β] {k : β} {y : V} {d : D} (r : Rep K cl F y d) (ks : List β) {vs : List V} {ds : List D} (h : Reps K cl F vs ds) : Reps K cl F (putVs k y ks vs) (putVs k d ks ds) := by
  unfold putVs
  split
  · rename_i hh
    clear hh
    induction ks generalizing vs ds with
    | nil => simp; exact .nil
    | cons j ks ih =>
      cases h with
      | nil => simp; exact .nil
      | cons a b =>
        simp only [List.zipWith_cons_cons]
        refine .cons ?_ (ih b)
        by_cases e : j = k
        · simp only [if_pos e]; exact r
        · simp only [if_neg e]; exact a
  · exact h.append (.one r)
def dcD (γ : DTG) (υ : DTT) (τk τv : DTE) (vs : List Nat) (a : Addr) : List D -> Env -> Mem -> DV -> Prop
  | [] => fun _ M Q => ∃ ks ds, M a = some (.dK ks ds) /\ Q (.dK ks ds) (delM M a)
  | x :: xs => fun ρ M Q => γ x (wipeD ρ vs) M (fun ρ2 M2 => υ ρ2 M2 (fun b M3 => if b = true then τk ρ2 M3 (fun kd M4 => τv ρ2 M4 (fun d M5 => ∃ k ks ds, keyD kd = some k /\ M5 a = some (.dK ks ds) /\ ks.length < sizeLine /\ dcD γ υ τk τv vs a xs ρ (updM M5 a (.dK (putKs k ks) (putVs k d ks ds))) Q) noX) noX else dcD γ υ τk τv vs a xs ρ M3 Q) noX) noX
def dDc (ι : DTI) (γ : DTG) (υ : DTT) (τk τv : DTE) (vs : List Nat) : DTE := fun ρ M Q X => ι ρ M (fun xs M1 => ∀ a, M1 a = none -> dcD γ υ τk τv vs a xs ρ (updM M1 a (.dK [] [])) Q) X
section
variable {cl : ClW} {X : Cx} {W : WX} {kx vx tg iter : Expr} {ifs : List Expr} {scope : Scope} {own : List (Str × Nat)} {pos : Pos} {ι : DTI} {is : List Nat} {γ : DTG} {υ : DTT} {τk τv : DTE}
theorem dc_lift {K : PySem.W.Frag} (his : ∀ i ∈ is, i ∈ own.map (·.2)) {σ : St} {H : Hp} {Q : VK} {F : Hp} {ρ : Env} {M : Mem} {Qd : DV} {Xd : DX} (g : Good K cl F H M) (s : Slots K cl F σ ρ) (q : dDc ι γ υ τk τv (own.map (·.2)) ρ M Qd Xd) (p : Post K cl F Q Qd) (w : WOk K cl W F Xd) :
    tDc (fun σ H R => ∃ F ρ M Rd Xd, Good K cl F H M /\ Slots K cl F σ ρ /\ ι ρ M Rd Xd /\ (∀ J H' F' xs M', Same F F' -> Good K cl F' H' M' -> Walks K cl J F' xs -> Rd xs M' -> R J H') /\ WOk K cl W F Xd)
      (fun v σ H Q => ∃ F ρ M d Qd Xd, Good K cl F H M /\ Slots K cl F σ ρ /\ Rep K cl F v d /\ γ d ρ M Qd Xd /\ (∀ σ' H' F' ρ' M', Same F F' -> Good K cl F' H' M' -> Slots K cl F' σ' ρ' -> (∀ vs : List Nat, (∀ i ∈ is, i ∈ vs) -> wipe σ' vs = wipe σ vs) -> Qd ρ' M' -> Q σ' H') /\ WOk K cl W0 F Xd)
      (lowT K cl W0 υ) (lowE K cl W0 τk) (lowE K cl W0 τv) (own.map (·.2)) σ H Q := by
  refine ⟨F, ρ, M, _, Xd, g, s, q, fun J H1 F1 xs M1 sm1 g1 wk q1 a hD => ?_, w⟩
  refine ⟨fun i m H => m = xs.length - i /\ i <= xs.length /\ ∃ F' M, Same F1 F' /\ Good K cl F' H M /\ dcD γ υ τk τv (own.map (·.2)) a (xs.drop i) ρ M Qd,
    ⟨xs.length, by simp, Nat.zero_le _, F1, updM M1 a (.dK [] []), Same.refl F1, g1.newM (d := .dK [] []) hD ⟨[], upd_same, rfl, .nil⟩, by simpa using q1 a (g1.freshM hD)⟩, ?_⟩
  rintro i m H2 ⟨rfl, hi, F2, M2, sm2, g2, q2⟩
  by_cases hlt : i < xs.length
  · obtain ⟨go, yl⟩ := (wk i F2 H2 M2 sm2 g2).1 xs[i] (by simp [hlt])
    rw [List.drop_eq_getElem_cons hlt] at q2
    unfold dcD at q2
    refine .inr ⟨go, fun H' => ∃ F' M', Same F1 F' /\ Good K cl F' H' M' /\ dcD γ υ τk τv (own.map (·.2)) a (xs.drop (i + 1)) ρ M' Qd, fun H' n => ⟨xs.length - (i + 1), by omega, rfl, hlt, n⟩, fun x H3 y => ?_⟩
    obtain ⟨F3, sm3, g3, r3⟩ := yl x H3 y
    refine ⟨F3, wipeD ρ (own.map (·.2)), M2, xs[i], _, noX, g3, (s.mono ((sm1.trans sm2).trans sm3)).wipe _, r3, q2, fun σ4 H4 F4 ρ4 M4 sm4 g4 s4 w4 q4 => ⟨?_, ?_⟩, wok0⟩
    · rw [w4 _ his]
      exact wipe_idem _ _ _ fun _ h => h
    · refine ⟨F4, ρ4, M4, _, noX, g4, s4, q4, fun k H5 F5 M5 sm5 g5 q5 => ?_, wok0⟩
      cases k with
      | true =>
        rw [if_pos rfl] at q5 ⊢
        refine ⟨F5, ρ4, M5, _, noX, g5, s4.mono sm5, q5, fun y2 H6 F6 d M6 sm6 g6 r6 q6 => ?_, wok0⟩
        refine ⟨F6, ρ4, M6, _, noX, g6, s4.mono (sm5.trans sm6), q6, fun y3 H7 F7 d3 M7 sm7 g7 r7 q7 => ?_, wok0⟩
        obtain ⟨k, ks, ds, e0, e1, e2, q7⟩ := q7
        obtain ⟨hF, us, h1, h2, h3⟩ := g7.cell a _ e1
        obtain ⟨z1, z2⟩ := putK_zip k y3 ks us h2
        have hl : (ks.zip us).length < sizeLine := by rw [List.length_zip, <- h2, Nat.min_self]; exact e2
        refine ⟨ks.zip us, k, key_rep (.inl r6) e0 (H := H7), h1, hl, F7, _, ((((sm2.trans sm3).trans sm4).trans sm5).trans sm6).trans sm7, g7.put (d := .dK (putKs k ks) (putVs k d3 ks ds)) e1 ⟨putVs k y3 ks us, ?_, z2, reps_putVs r7 ks h3⟩, q7⟩
        rw [upd_same, z1]
      | false =>
        rw [if_neg Bool.false_ne_true] at q5 ⊢
        exact ⟨F5, M5, ((sm2.trans sm3).trans sm4).trans sm5, g5, q5⟩
  · have e : i = xs.length := by omega
    subst e
    rw [List.drop_length] at q2
    obtain ⟨ks, ds, e1, q2⟩ := q2
    obtain ⟨F3, sm3, g3, r3⟩ := g2.freeze e1
    exact .inl ⟨(wk _ F2 H2 M2 sm2 g2).2 (Nat.le_refl _), p _ _ _ _ _ ((sm1.trans sm2).trans sm3) g3 r3 q2⟩
theorem d_dc (hc : X.calm = true) (hN : X.N.Nodup) (hi : DI cl X W tg iter ι) (ok : BlkOk X.N X.env.scope scope own)
    (hg : ∀ (s : Shared) (H : Hp) (C : Addr) (cs : List (Str × Addr)) (fp : List Addr), DG cl (X.blk s H scope (compEnvC scope cs C X.env) fp) W0 tg is γ) (ht : ∀ (s : Shared) (H : Hp) (C : Addr) (cs : List (Str × Addr)) (fp : List Addr), DTs cl (X.blk s H scope (compEnvC scope cs C X.env) fp) W0 ifs υ)
    (hk : ∀ (s : Shared) (H : Hp) (C : Addr) (cs : List (Str × Addr)) (fp : List Addr), DE cl (X.blk s H scope (compEnvC scope cs C X.env) fp) W0 kx τk)
    (he : ∀ (s : Shared) (H : Hp) (C : Addr) (cs : List (Str × Addr)) (fp : List Addr), DE cl (X.blk s H scope (compEnvC scope cs C X.env) fp) W0 vx τv) (his : ∀ i ∈ is, i ∈ own.map (·.2) := by decide) (hs : ∀ x, foldedSetIterable iter X.env x = pure x := by intro _; rfl) :
    DE cl X W (.DictComp kx vx [⟨tg, iter, ifs, 0⟩] scope pos) (dDc ι γ υ τk τv (own.map (·.2))) :=
  ⟨pe_imp (pe_dc hc hN hi.pi ok (fun s H C cs fp => (hg s H C cs fp).pg) (fun s H C cs fp => (ht s H C cs fp).pts) (fun s H C cs fp => (hk s H C cs fp).pe) (fun s H C cs fp => (he s H C cs fp).pe) hs) fun σ H Q ⟨F, ρ, M, Qd, Xd, g, s, q, p, w⟩ => dc_lift his g s q p w⟩
end
end DL
set_option Elab.async false
set_option linter.all false
set_option maxRecDepth 100000
set_option maxHeartbeats 4000000
set_option autoImplicit false
namespace DL
open PySem L2
section
open PySem.Spec PyProof.Rows
variable {X : Cx} {tg : Expr}
def iSeqV (K : PySem.W.Frag) (tl : TE) : TI := fun σ H R => tl σ H fun x H1 => (∃ a, x = .ref a /\ (∃ xs, SqL K H1 a xs) /\ R (Itl K a) H1) \/ (∃ a, x = .ref a /\ (∃ xs, SqT K H1 a xs) /\ R (Itt K a) H1) \/ (∃ z, x = .str z /\ R (Its z) H1) \/ (∃ z, x = .byt z /\ R (Itb z) H1)
theorem pi_seqV {l : Expr} {tl : TE} (hl : PE X l tl) : PI X tg l (iSeqV X.K tl) := by
  refine ⟨fun pins s σ H R I h => ?_⟩
  refine thn (hl.run pins s σ H _ I h) fun v s1 ⟨x, H1, I1, r1, q1⟩ => ?_
  rcases q1 with ⟨a, e, ⟨xs, hq⟩, q⟩ | ⟨a, e, ⟨xs, hq⟩, q⟩ | ⟨x, ex, q⟩ | ⟨x, ex, q⟩
  · subst e
    cases r1
    obtain ⟨its, rv, p, hz⟩ := I1.list hq
    refine wpAny_pyIter_list p.isList ?_
    refine ⟨s1.heap.objs.size, [s1.heap.objs.size], _, _, H1, rfl, I1.kept (t' := s1.toks) fun b o e => Heap.get?_push_of_some _ e, turn_list a _, ⟨_, Heap.get?_push_size _ rfl, rfl, rfl⟩, fun b hb => ?_, q⟩
    have e : b = s1.heap.objs.size := by simpa using hb
    subst e
    exact I1.fpOk (Nat.le_refl _) (I1.hok.fresh (Nat.le_refl _))
  · subst e
    cases r1
    obtain ⟨its, rv, p, hz⟩ := I1.tuple hq
    refine wpAny_pyIter_tuple (show s1.heap.IsTuple a its.toArray from p) ?_
    refine ⟨s1.heap.objs.size, [s1.heap.objs.size], _, _, H1, rfl, I1.kept (t' := s1.toks) fun b o e => Heap.get?_push_of_some _ e, turn_tuple a _, ⟨_, Heap.get?_push_size _ rfl, rfl, rfl⟩, fun b hb => ?_, q⟩
    have e : b = s1.heap.objs.size := by simpa using hb
    subst e
    exact I1.fpOk (Nat.le_refl _) (I1.hok.fresh (Nat.le_refl _))
  · subst ex
    obtain ⟨t, rfl⟩ := r1
    cases ha : x.cps.all (· < 128)
    · exact wpAny_pyIter_wide ha (pi_one (tk := s1.toks) I1 _ (turn_str _ x t "str_iterator" (.inr rfl)) ⟨_, Heap.get?_push_size _ rfl, rfl, rfl⟩ q)
    · exact wpAny_pyIter_ascii ha (pi_one (tk := s1.toks) I1 _ (turn_str _ x t "str_ascii_iterator" (.inl rfl)) ⟨_, Heap.get?_push_size _ rfl, rfl, rfl⟩ q)
  · subst ex
    obtain ⟨t, rfl⟩ := r1
    exact PySem.W.KBw.pyIter_bytes (pi_one (tk := s1.toks) I1 _ (turn_byt _ x t) ⟨_, Heap.get?_push_size _ rfl, rfl, rfl⟩ q)
end
@[simp] def itD : D -> Option (List D)
  | .lst xs => some xs
  | .tup xs => some xs
  | .str z => some (z.cps.toList.map fun c => D.str ⟨#[c]⟩)
  | .byt b => some (b.toList.map fun c => D.int ((c.toNat : Nat) : Int))
  | _ => none
@[simp] def iS (τ : DTE) : DTI := fun ρ M R X => τ ρ M (fun d M1 => ∃ xs, itD d = some xs /\ R xs M1) X
section
variable {cl : ClW} {X : Cx} {W : WX} {e : Expr} {τ : DTE}
theorem di_seq {tg : Expr} (h : DE cl X W e τ) : DI cl X W tg e (iS τ) := ⟨pi_imp (pi_seqV h.pe) fun σ H R ⟨F, ρ, M, Rd, Xd, g, s, q, p, w⟩ =>
  ⟨F, ρ, M, _, Xd, g, s, q, fun v H' F' d M' sm g' r ⟨xs, e1, q'⟩ => (by
    cases d with
    | lst ds =>
      cases e1
      obtain ⟨a, vs, rfl, h1, h2⟩ := r.toLst
      refine .inl ⟨a, rfl, ⟨vs, same_l g'.sub h1⟩, p _ _ F' xs M' sm g' (fun i F2 H2 M2 sm2 g2 => ⟨fun d hd => ?_, fun hl => ⟨vs, same_l (sm2.trans g2.sub) h1, by rw [h2.length]; exact hl⟩⟩) q'⟩
      obtain ⟨v, hv, rv⟩ := h2.get hd
      refine ⟨⟨vs, v, same_l (sm2.trans g2.sub) h1, hv⟩, fun x H3 ⟨e1, e2⟩ => ?_⟩
      subst e1
      have := e2 vs (same_l (sm2.trans g2.sub) h1)
      rw [hv] at this
      cases this
      exact ⟨F2, Same.refl F2, g2, rv.mono sm2⟩
    | tup ds =>
      cases e1
      obtain ⟨a, vs, rfl, h1, h2⟩ := r.toTup
      refine .inr (.inl ⟨a, rfl, ⟨vs, same_t g'.sub h1⟩, p _ _ F' xs M' sm g' (fun i F2 H2 M2 sm2 g2 => ⟨fun d hd => ?_, fun hl => ⟨vs, same_t (sm2.trans g2.sub) h1, by rw [h2.length]; exact hl⟩⟩) q'⟩)
      obtain ⟨v, hv, rv⟩ := h2.get hd
      refine ⟨⟨vs, v, same_t (sm2.trans g2.sub) h1, hv⟩, fun x H3 ⟨e1, e2⟩ => ?_⟩
      subst e1
      have := e2 vs (same_t (sm2.trans g2.sub) h1)
      rw [hv] at this
      cases this
      exact ⟨F2, Same.refl F2, g2, rv.mono sm2⟩
    | str z =>
      cases e1
      obtain rfl := r.toStr
      refine .inr (.inr (.inl ⟨z, rfl, p _ _ F' _ M' sm g' (fun i F2 H2 M2 sm2 g2 => ⟨fun d hd => ?_, fun hl => ?_⟩) q'⟩))
      · rw [List.getElem?_map] at hd
        obtain ⟨c, hc, rfl⟩ := Option.map_eq_some_iff.mp hd
        have hc' : z.cps[i]? = some c := by simpa using hc
        refine ⟨(Array.getElem?_eq_some_iff.mp hc').1, fun x H3 ⟨e1, c2, e2, e3⟩ => ?_⟩
        subst e1 e3
        rw [hc'] at e2
        cases e2
        exact ⟨F2, Same.refl F2, g2, .str _⟩
      · show z.cps.size <= i
        simpa using hl
    | byt z =>
      cases e1
      obtain rfl := r.toByt
      refine .inr (.inr (.inr ⟨z, rfl, p _ _ F' _ M' sm g' (fun i F2 H2 M2 sm2 g2 => ⟨fun d hd => ?_, fun hl => ?_⟩) q'⟩))
      · rw [List.getElem?_map] at hd
        obtain ⟨c, hc, rfl⟩ := Option.map_eq_some_iff.mp hd
        have hc' : z[i]? = some c := by simpa using hc
        refine ⟨(Array.getElem?_eq_some_iff.mp hc').1, fun x H3 ⟨e1, c2, e2, e3⟩ => ?_⟩
        subst e1 e3
        rw [hc'] at e2
        cases e2
        exact ⟨F2, Same.refl F2, g2, .int _⟩
      · show z.size <= i
        simpa using hl
    | _ => cases e1), w⟩⟩
end
theorem tb_nil {p : Nat -> SpD -> Prop} : ∀ c spd, ([] : List (Nat × SpD)).lookup c = some spd -> p c spd := fun _ _ h => by cases h
theorem tb_cons {p : Nat -> SpD -> Prop} {c0 : Nat} {s0 : SpD} {l : List (Nat × SpD)} (h : p c0 s0) (t : ∀ c spd, l.lookup c = some spd -> p c spd) : ∀ c spd, ((c0, s0) :: l).lookup c = some spd -> p c spd := fun c spd e => by
  rw [List.lookup_cons] at e
  split at e
  · rename_i q
    cases e
    rw [eq_of_beq q]
    exact h
  · exact t c spd e
def cvalB (K : PySem.W.Frag) (C : Addr) (f : Str) (i : Int) : Bool := PySem.W.readsIn K C (.type "type") && (He.eqO (PySem.W.specialIn K (.ref C) "__getattribute__") (some (some (.builtin "type.__getattribute__"))) && (match PySem.W.findCls K (.ref C) (.type "type") f with
  | some (.val (.int j _)) => decide (j = i)
  | _ => false))
theorem cvalB_ok {K : PySem.W.Frag} {cl : Nat -> Addr} {c : Nat} {f : Str} {i : Int} (h : cvalB K (cl c) f i = true) : CValB K cl c f (.int i) := by
  obtain ⟨h1, h2⟩ := He.ba h
  obtain ⟨h4, h3⟩ := He.ba h2
  split at h3
  · rename_i j t e
    have e2 : j = i := of_decide_eq_true h3
    subst e2
    exact ⟨.type "type", .int j, .int j t, ⟨h1, He.eqO_ok h4⟩, ⟨e, ⟨t, rfl⟩⟩, fun _ _ => .int j⟩
  · cases h3
end DL
set_option Elab.async false
set_option linter.all false
set_option maxRecDepth 100000
set_option maxHeartbeats 2000000
set_option autoImplicit false
namespace DL
open PySem L2
section
variable {M : Mem} {i j : Int} {b : Bool} {x y : Str} {xs ys : List D} {d e : D} {a : Addr} {ks : List Key}
@[simp] theorem ixA_lst : ixA (.lst xs) e = ixD (.lst xs) e := rfl
@[simp] theorem ixA_tup : ixA (.tup xs) e = ixD (.tup xs) e := rfl
@[simp] theorem ixA_str : ixA (.str x) e = ixD (.str x) e := rfl
@[simp] theorem ixA_dK : ixA (.dK ks xs) e = (keyD e).bind fun k => atK k ks xs := rfl
@[simp] theorem keyD_int : keyD (.int i) = some (.inl i) := rfl
@[simp] theorem keyD_str : keyD (.str x) = some (.inr x) := rfl
@[simp] theorem tupF_lst : tupF [.lst xs] = some (.tup xs) := rfl
@[simp] theorem tupF_tup : tupF [.tup xs] = some (.tup xs) := rfl
@[simp] theorem lstF_lst : lstF [.lst xs] = some (.lst xs) := rfl
@[simp] theorem lstF_tup : lstF [.tup xs] = some (.lst xs) := rfl
@[simp] theorem allF_lst : allF [.lst xs] = (blsOf xs).map fun bs => .bl (bs.all id) := rfl
@[simp] theorem anyF_lst : anyF [.lst xs] = (blsOf xs).map fun bs => .bl (bs.any id) := rfl
@[simp] theorem inD_def : inD d e = (inB d e).map D.bl := rfl
@[simp] theorem ninD_def : ninD d e = (inB d e).map fun b => D.bl !b := rfl
@[simp] theorem inB_lst : inB d (.lst xs) = if flatD d && xs.all flatD then some (xs.any fun y => eqFD y d) else none := rfl
@[simp] theorem inB_tup : inB d (.tup xs) = if flatD d && xs.all flatD then some (xs.any fun y => eqFD y d) else none := rfl
@[simp] theorem inB_dK : inB d (.dK ks xs) = (keyD d).map fun k => ks.any fun j => decide (j = k) := rfl
@[simp] theorem inB_str : inB (.str x) (.str y) = some (inStr x y) := rfl
@[simp] theorem tyD_lst : tyD "list" (.lst xs) = true := rfl
end
end DL
set_option Elab.async false
set_option linter.all false
set_option maxRecDepth 100000
set_option autoImplicit false
namespace DL
open PySem L2
end DL
set_option Elab.async false
set_option linter.all false
set_option maxRecDepth 100000
set_option autoImplicit false
namespace DL
open PySem L2
mutual
def plD : Nat -> D -> Bool
  | _, .non => true
  | _, .bl _ => true
  | _, .int _ => true
  | _, .str x => PyData.strOk x
  | n + 1, .lst xs => plDs n xs
  | n + 1, .tup xs => plDs n xs
  | _, _ => false
def plDs : Nat -> List D -> Bool
  | _, [] => true
  | n, x :: xs => plD n x && plDs n xs
end
mutual
def eqT : D -> D -> Bool
  | .non, .non => true
  | .bl a, .bl b => a == b
  | .bl a, .int j => (if a then 1 else 0) == j
  | .int i, .bl b => i == (if b then 1 else 0)
  | .int i, .int j => i == j
  | .str x, .str y => x == y
  | .lst xs, .lst ys => eqTs xs ys
  | .tup xs, .tup ys => eqTs xs ys
  | _, _ => false
def eqTs : List D -> List D -> Bool
  | [], [] => true
  | x :: xs, y :: ys => eqT x y && eqTs xs ys
  | _, _ => false
end
mutual
theorem plD_py : ∀ (n : Nat) (d : D), plD n d = true -> ∃ p, toPy d = some p /\ p.canLay0 = true /\ p.depth <= n
  | n, .non, _ => ⟨.none, rfl, rfl, by simp [PyData.depth]⟩
  | n, .bl b, _ => ⟨.bool b, rfl, rfl, by simp [PyData.depth]⟩
  | n, .int b, _ => ⟨.int b, rfl, rfl, by simp [PyData.depth]⟩
  | n, .str b, h => ⟨.str b, rfl, by simpa [PyData.canLay0, plD] using h, by simp [PyData.depth]⟩
  | n + 1, .lst xs, h => by
    obtain ⟨ps, h1, h2, h3⟩ := plDs_py n xs (by simpa [plD] using h)
    exact ⟨.list ps, by simp [toPy, h1], by simpa [PyData.canLay0] using h2, by simp [PyData.depth]; omega⟩
  | n + 1, .tup xs, h => by
    obtain ⟨ps, h1, h2, h3⟩ := plDs_py n xs (by simpa [plD] using h)
    exact ⟨.tuple ps, by simp [toPy, h1], by simpa [PyData.canLay0] using h2, by simp [PyData.depth]; omega⟩
  | 0, .lst _, h => by simp [plD] at h
  | 0, .tup _, h => by simp [plD] at h
  | _, .byt _, h => by simp [plD] at h
  | _, .ty _, h => by simp [plD] at h
  | _, .ref _, h => by simp [plD] at h
  | _, .dK _ _, h => by simp [plD] at h
  | _, .dT _ _ _, h => by simp [plD] at h
  | _, .obj _ _ _, h => by simp [plD] at h
  | _, .cls _, h => by simp [plD] at h
  | _, .exc _ _ _ _ _, h => by simp [plD] at h
  | _, .xob _ _ _, h => by simp [plD] at h
  | _, .thk _ _ _ _ _, h => by simp [plD] at h
  | _, .dN _ _ _, h => by simp [plD] at h
  | _, .fn _ _, h => by simp [plD] at h
  | _, .cel _ _, h => by simp [plD] at h
theorem plDs_py : ∀ (n : Nat) (ds : List D), plDs n ds = true -> ∃ ps, toPys ds = some ps /\ PyData.canLayAll0 ps = true /\ PyData.depthAll ps <= n
  | n, [], _ => ⟨[], rfl, rfl, by simp [PyData.depthAll]⟩
  | n, x :: xs, h => by
    simp only [plDs, Bool.and_eq_true] at h
    obtain ⟨p, h1, h2, h3⟩ := plD_py n x h.1
    obtain ⟨ps, k1, k2, k3⟩ := plDs_py n xs h.2
    exact ⟨p :: ps, by simp [toPys, h1, k1], by simp [PyData.canLayAll0, h2, k2], by simp [PyData.depthAll]; omega⟩
end
theorem toPy_inv {d : D} {p : PyData} (h : toPy d = some p) : (d = .non /\ p = .none) \/ (∃ b, d = .bl b /\ p = .bool b) \/ (∃ i, d = .int i /\ p = .int i) \/ (∃ x, d = .str x /\ p = .str x) \/ (∃ xs ps, d = .lst xs /\ p = .list ps /\ toPys xs = some ps) \/ (∃ xs ps, d = .tup xs /\ p = .tuple ps /\ toPys xs = some ps) := by
  cases d with
  | non => simp only [toPy] at h; cases h; exact .inl ⟨rfl, rfl⟩
  | bl b => simp only [toPy] at h; cases h; exact .inr (.inl ⟨b, rfl, rfl⟩)
  | int b => simp only [toPy] at h; cases h; exact .inr (.inr (.inl ⟨b, rfl, rfl⟩))
  | str b => simp only [toPy] at h; cases h; exact .inr (.inr (.inr (.inl ⟨b, rfl, rfl⟩)))
  | lst xs =>
    simp only [toPy] at h
    obtain ⟨ps, h1, rfl⟩ := Option.map_eq_some_iff.mp h
    exact .inr (.inr (.inr (.inr (.inl ⟨xs, ps, rfl, rfl, h1⟩))))
  | tup xs =>
    simp only [toPy] at h
    obtain ⟨ps, h1, rfl⟩ := Option.map_eq_some_iff.mp h
    exact .inr (.inr (.inr (.inr (.inr ⟨xs, ps, rfl, rfl, h1⟩))))
  | _ => simp only [toPy] at h; cases h
theorem toPys_cons {x : D} {xs : List D} {ps : List PyData} (h : toPys (x :: xs) = some ps) : ∃ p qs, ps = p :: qs /\ toPy x = some p /\ toPys xs = some qs := by
  simp only [toPys] at h
  cases e1 : toPy x with
  | none => rw [e1] at h; cases h
  | some p =>
    cases e2 : toPys xs with
    | none => rw [e1, e2] at h; cases h
    | some qs => rw [e1, e2] at h; cases h; exact ⟨p, qs, rfl, rfl, rfl⟩
mutual
theorem eqv_T : ∀ (d e : D) (p q : PyData), toPy d = some p -> toPy e = some q -> PyData.eqv p q = eqT d e
  | .non, e, p, q, h, k => by
    simp only [toPy] at h; cases h
    rcases toPy_inv k with ⟨rfl, rfl⟩ | ⟨b, rfl, rfl⟩ | ⟨b, rfl, rfl⟩ | ⟨b, rfl, rfl⟩ | ⟨xs, ps, rfl, rfl, _⟩ | ⟨xs, ps, rfl, rfl, _⟩ <;> rfl
  | .bl a, e, p, q, h, k => by
    simp only [toPy] at h; cases h
    rcases toPy_inv k with ⟨rfl, rfl⟩ | ⟨b, rfl, rfl⟩ | ⟨b, rfl, rfl⟩ | ⟨b, rfl, rfl⟩ | ⟨xs, ps, rfl, rfl, _⟩ | ⟨xs, ps, rfl, rfl, _⟩ <;> rfl
  | .int a, e, p, q, h, k => by
    simp only [toPy] at h; cases h
    rcases toPy_inv k with ⟨rfl, rfl⟩ | ⟨b, rfl, rfl⟩ | ⟨b, rfl, rfl⟩ | ⟨b, rfl, rfl⟩ | ⟨xs, ps, rfl, rfl, _⟩ | ⟨xs, ps, rfl, rfl, _⟩ <;> rfl
  | .str a, e, p, q, h, k => by
    simp only [toPy] at h; cases h
    rcases toPy_inv k with ⟨rfl, rfl⟩ | ⟨b, rfl, rfl⟩ | ⟨b, rfl, rfl⟩ | ⟨b, rfl, rfl⟩ | ⟨xs, ps, rfl, rfl, _⟩ | ⟨xs, ps, rfl, rfl, _⟩ <;> rfl
  | .lst xs, e, p, q, h, k => by
    simp only [toPy] at h
    obtain ⟨ps, h1, rfl⟩ := Option.map_eq_some_iff.mp h
    rcases toPy_inv k with ⟨rfl, rfl⟩ | ⟨b, rfl, rfl⟩ | ⟨b, rfl, rfl⟩ | ⟨b, rfl, rfl⟩ | ⟨ys, qs, rfl, rfl, k1⟩ | ⟨ys, qs, rfl, rfl, k1⟩
    · rfl
    · rfl
    · rfl
    · rfl
    · simp only [PyData.eqv, eqT]
      exact eqvs_T xs ys ps qs h1 k1
    · rfl
  | .tup xs, e, p, q, h, k => by
    simp only [toPy] at h
    obtain ⟨ps, h1, rfl⟩ := Option.map_eq_some_iff.mp h
    rcases toPy_inv k with ⟨rfl, rfl⟩ | ⟨b, rfl, rfl⟩ | ⟨b, rfl, rfl⟩ | ⟨b, rfl, rfl⟩ | ⟨ys, qs, rfl, rfl, k1⟩ | ⟨ys, qs, rfl, rfl, k1⟩
    · rfl
    · rfl
    · rfl
    · rfl
    · rfl
    · simp only [PyData.eqv, eqT]
      exact eqvs_T xs ys ps qs h1 k1
  | .byt _, _, _, _, h, _ => by simp only [toPy] at h; cases h
  | .ty _, _, _, _, h, _ => by simp only [toPy] at h; cases h
  | .ref _, _, _, _, h, _ => by simp only [toPy] at h; cases h
  | .dK _ _, _, _, _, h, _ => by simp only [toPy] at h; cases h
  | .dT _ _ _, _, _, _, h, _ => by simp only [toPy] at h; cases h
  | .obj _ _ _, _, _, _, h, _ => by simp only [toPy] at h; cases h
  | .cls _, _, _, _, h, _ => by simp only [toPy] at h; cases h
  | .exc _ _ _ _ _, _, _, _, h, _ => by simp only [toPy] at h; cases h
  | .xob _ _ _, _, _, _, h, _ => by simp only [toPy] at h; cases h
  | .thk _ _ _ _ _, _, _, _, h, _ => by simp only [toPy] at h; cases h
  | .dN _ _ _, _, _, _, h, _ => by simp only [toPy] at h; cases h
  | .fn _ _, _, _, _, h, _ => by simp only [toPy] at h; cases h
  | .cel _ _, _, _, _, h, _ => by simp only [toPy] at h; cases h
theorem eqvs_T : ∀ (ds es : List D) (ps qs : List PyData), toPys ds = some ps -> toPys es = some qs -> PyData.eqvAll ps qs = eqTs ds es
  | [], [], ps, qs, h, k => by simp only [toPys] at h k; cases h; cases k; simp only [PyData.eqvAll, eqTs]
  | [], e :: es, ps, qs, h, k => by
    obtain ⟨q, qs', rfl, _, _⟩ := toPys_cons k
    simp only [toPys] at h; cases h; simp only [PyData.eqvAll, eqTs]
  | d :: ds, [], ps, qs, h, k => by
    obtain ⟨q, qs', rfl, _, _⟩ := toPys_cons h
    simp only [toPys] at k; cases k; simp only [PyData.eqvAll, eqTs]
  | d :: ds, e :: es, ps, qs, h, k => by
    obtain ⟨p, ps', rfl, h1, h2⟩ := toPys_cons h
    obtain ⟨q, qs', rfl, k1, k2⟩ := toPys_cons k
    simp only [PyData.eqvAll, eqTs]
    rw [eqv_T d e p q h1 k1, eqvs_T ds es ps' qs' h2 k2]
end
theorem eqP_pl {n m : Nat} {d e : D} (hd : plD n d = true) (he : plD m e = true) (hn : n <= 64 := by decide) (hm : m <= 64 := by decide) : eqP d e = some (eqT d e) := by
  obtain ⟨p, h1, h2, h3⟩ := plD_py n d hd
  obtain ⟨q, k1, k2, k3⟩ := plD_py m e he
  unfold eqP
  rw [h1, k1]
  have s1 : SeqAt.shaped p = true := by unfold SeqAt.shaped; rw [h2, decide_eq_true (by omega)]; rfl
  have s2 : SeqAt.shaped q = true := by unfold SeqAt.shaped; rw [k2, decide_eq_true (by omega)]; rfl
  simp only [s1, s2, Bool.and_self, if_true]
  rw [eqv_T d e p q h1 k1]
theorem eqD_lst' {n m : Nat} {xs ys : List D} (hd : plDs n xs = true) (he : plDs m ys = true) (hn : n < 64 := by decide) (hm : m < 64 := by decide) : eqD (.lst xs) (.lst ys) = some (.bl (eqTs xs ys)) := by
  show (eqP _ _).map D.bl = _
  rw [eqP_pl (n := n + 1) (m := m + 1) (by simpa [plD] using hd) (by simpa [plD] using he) hn hm]
  simp only [Option.map_some, eqT]
theorem neD_lst' {n m : Nat} {xs ys : List D} (hd : plDs n xs = true) (he : plDs m ys = true) (hn : n < 64 := by decide) (hm : m < 64 := by decide) : neD (.lst xs) (.lst ys) = some (.bl !(eqTs xs ys)) := by
  show (eqP _ _).map (fun b => D.bl !b) = _
  rw [eqP_pl (n := n + 1) (m := m + 1) (by simpa [plD] using hd) (by simpa [plD] using he) hn hm]
  simp only [Option.map_some, eqT]
theorem plDs_all {n : Nat} : ∀ {ds : List D}, plDs n ds = true ↔ ∀ d ∈ ds, plD n d = true
  | [] => by simp [plDs]
  | d :: ds => by simp [plDs, plDs_all (ds := ds)]
@[simp] theorem plDs_nil {n : Nat} : plDs n [] = true := by simp [plDs]
theorem plDs_map {α : Type} {n : Nat} {f : α -> D} {l : List α} (h : ∀ x ∈ l, plD n (f x) = true) : plDs n (l.map f) = true := plDs_all.mpr fun d hd => by
  obtain ⟨x, hx, rfl⟩ := List.mem_map.mp hd
  exact h x hx
@[simp] theorem eqTs_nilr {xs : List D} : eqTs xs [] = xs.isEmpty := by cases xs <;> simp [eqTs]
end DL
set_option Elab.async false
set_option linter.all false
set_option maxRecDepth 100000
set_option maxHeartbeats 1000000
namespace DL
open PySem L2
theorem toNat_inj {a b : Char} (h : a.toNat = b.toNat) : a = b := by
  have : a.val = b.val := UInt32.toNat_inj.mp h
  exact Char.ext this
@[simp] theorem ofStr_inj (a b : String) : (Str.ofString a = Str.ofString b) = (a = b) := by
  refine propext ⟨fun h => ?_, fun h => by rw [h]⟩
  rw [Str.ofString_eq_toList, Str.ofString_eq_toList] at h
  have h2 : a.toList.map Char.toNat = b.toList.map Char.toNat := by simpa using h
  have h3 : a.toList = b.toList := List.map_inj_right (fun x y e => toNat_inj e) |>.mp h2
  exact String.toList_inj.mp h3
@[simp] theorem ofStr_beq (a b : String) : (Str.ofString a == Str.ofString b) = (a == b) := by
  by_cases h : a = b
  · subst h; simp
  · have h1 : ¬ (Str.ofString a = Str.ofString b) := by rw [ofStr_inj]; exact h
    rw [beq_false_of_ne h1, beq_false_of_ne h]
theorem forD_cons {γ : DTG} {t : DTS} {E : DEnds} {x : D} {xs : List D} {ρ : DL.Env} {M : Mem} (h : ∀ N : DL.Env -> Mem -> Prop, (∀ ρ' M', forD γ t xs E ρ' M' -> N ρ' M') -> γ x ρ M (fun ρ2 M2 => t { E with nx := N, ct := N, bk := E.nx } ρ2 M2) E.ex) : forD γ t (x :: xs) E ρ M :=
  h (forD γ t xs E) fun _ _ h => h
def methAt (tb : List (Nat × SpD)) (m : Str) (o : D) (M : Mem) (R : SpD -> Prop) : Prop := ∃ c ns ds spd, vw M o = .obj c ns ds /\ tb.lookup c = some spd /\ m ∉ ns /\ R spd
theorem methAt_obj {tb : List (Nat × SpD)} {m : Str} {M : Mem} {R : SpD -> Prop} {c : Nat} {ns : List Str} {ds : List D} : methAt tb m (.obj c ns ds) M R ↔ ∃ spd, tb.lookup c = some spd /\ m ∉ ns /\ R spd := by
  constructor
  · rintro ⟨c', ns', ds', spd, h, h1, h2, h3⟩
    rw [vw_obj] at h
    cases h
    exact ⟨spd, h1, h2, h3⟩
  · rintro ⟨spd, h1, h2, h3⟩
    exact ⟨c, ns, ds, spd, rfl, h1, h2, h3⟩
end DL
set_option Elab.async false
set_option linter.all false
set_option maxRecDepth 100000
set_option maxHeartbeats 1000000
set_option autoImplicit false
namespace FL
open PySem L2 DL
def Keep (M M' : Mem) : Prop := ∀ b d, M b = some d -> M' b = some d
theorem Keep.refl (M : Mem) : Keep M M := fun _ _ h => h
theorem Keep.trans {M M1 M2 : Mem} (h : Keep M M1) (k : Keep M1 M2) : Keep M M2 := fun b d e => k b d (h b d e)
theorem Keep.new {M : Mem} {a : Addr} {d : D} (h : M a = none) : Keep M (updM M a d) := fun b e q => by
  rw [updM_ne (fun z => by rw [z, h] at q; cases q)]; exact q
def Well (M : Mem) (r : Addr) (n : Nat) : Prop := ∃ a b c : Int, M r = some (.lst [.int a, .int b, .int c]) /\ 0 <= b /\ b < 2147483629 /\ 0 <= c /\ c <= n
structure WTo (M M' : Mem) (r : Addr) (n : Nat) : Prop where
  ok : Well M' r n
  keep : ∀ b d, b ≠ r -> M b = some d -> M' b = some d
theorem Well.mono {M : Mem} {r : Addr} {n m : Nat} (h : Well M r n) (l : n <= m) : Well M r m := by
  obtain ⟨a, b, c, h1, h2, h3, h4, h5⟩ := h
  exact ⟨a, b, c, h1, h2, h3, h4, by omega⟩
theorem Well.keep {M M' : Mem} {r : Addr} {n : Nat} (h : Well M r n) (k : Keep M M') : Well M' r n := by
  obtain ⟨a, b, c, h1, h2⟩ := h
  exact ⟨a, b, c, k _ _ h1, h2⟩
theorem Well.there {M : Mem} {r : Addr} {n : Nat} (h : Well M r n) : ∃ d, M r = some d := by
  obtain ⟨a, b, c, h1, _⟩ := h
  exact ⟨_, h1⟩
theorem Well.ne {M : Mem} {r a : Addr} {n : Nat} (h : Well M r n) (e : M a = none) : r ≠ a := fun z => by
  obtain ⟨d, q⟩ := h.there
  rw [z, e] at q
  cases q
theorem WTo.refl {M : Mem} {r : Addr} {n : Nat} (h : Well M r n) : WTo M M r n := ⟨h, fun _ _ _ q => q⟩
theorem WTo.trans {M M1 M2 : Mem} {r : Addr} {n m : Nat} (h : WTo M M1 r n) (k : WTo M1 M2 r m) : WTo M M2 r m := ⟨k.ok, fun b d hb q => k.keep b d hb (h.keep b d hb q)⟩
theorem WTo.mono {M M1 : Mem} {r : Addr} {n m : Nat} (h : WTo M M1 r n) (l : n <= m) : WTo M M1 r m := ⟨h.ok.mono l, h.keep⟩
theorem WTo.keep1 {M M1 : Mem} {r a : Addr} {n : Nat} {d : D} (h : WTo M M1 r n) (e : M a = some d) (hne : a ≠ r) : M1 a = some d := h.keep a d hne e
theorem WTo.put {M : Mem} {r : Addr} {n : Nat} {a b c : Int} (hb : 0 <= b) (hb2 : b < 2147483629) (hc : 0 <= c) (hn : c <= n) : WTo M (updM M r (.lst [.int a, .int b, .int c])) r n :=
  ⟨⟨a, b, c, updM_same, hb, hb2, hc, hn⟩, fun _ _ h q => by rw [updM_ne h]; exact q⟩
theorem WTo.upd {M M1 : Mem} {r a : Addr} {n : Nat} {d : D} (h : WTo M M1 r n) (e : M a = none) (hne : a ≠ r) : WTo M (updM M1 a d) r n := by
  refine ⟨?_, fun b c hb q => ?_⟩
  · obtain ⟨x, y, z, h1, h2⟩ := h.ok
    exact ⟨x, y, z, by rw [updM_ne (Ne.symm hne)]; exact h1, h2⟩
  · rw [updM_ne (fun z => by rw [z, e] at q; cases q)]
    exact h.keep b c hb q
theorem WTo.del {M M1 : Mem} {r a : Addr} {n : Nat} (h : WTo M M1 r n) (e : M a = none) (hne : a ≠ r) : WTo M (delM M1 a) r n := by
  refine ⟨?_, fun b c hb q => ?_⟩
  · obtain ⟨x, y, z, h1, h2⟩ := h.ok
    exact ⟨x, y, z, by rw [delM_ne (Ne.symm hne)]; exact h1, h2⟩
  · rw [delM_ne (fun z => by rw [z, e] at q; cases q)]
    exact h.keep b c hb q
def isL (c : Nat) : Bool := decide (97 <= c) && decide (c <= 122)
def isS (c : Nat) : Bool := isL c || (decide (48 <= c) && decide (c <= 57))
def S (cs : List Nat) : Str := ⟨cs.toArray⟩
@[simp] theorem S_inj {a b : List Nat} : S a = S b ↔ a = b := by
  constructor
  · intro h
    have := congrArg (fun x : Str => x.cps.toList) h
    simpa [S] using this
  · rintro rfl; rfl
def NameOk (cs : List Nat) : Prop := ∃ c r, cs = c :: r /\ r.length <= 7 /\ isL c = true /\ ∀ e ∈ r, isS e = true
theorem isS_lt {c : Nat} (h : isS c = true) : c < 1114112 := by simp [isS, isL] at h; omega
theorem isL_S {c : Nat} (h : isL c = true) : isS c = true := by simp [isS, h]
theorem NameOk.all {cs : List Nat} (h : NameOk cs) : ∀ c ∈ cs, isS c = true := by
  obtain ⟨c, r, rfl, _, h1, h2⟩ := h
  intro e he
  rcases List.mem_cons.mp he with rfl | he
  · exact isL_S h1
  · exact h2 e he
theorem NameOk.ok {cs : List Nat} (h : NameOk cs) (n : Nat) : plD n (.str (S cs)) = true := by
  simp [plD, PyData.strOk, S]
  intro c hc
  exact isS_lt (h.all c hc)
theorem NameOk.len {cs : List Nat} (h : NameOk cs) : 1 <= cs.length /\ cs.length <= 8 := by
  obtain ⟨c, r, rfl, h1, _⟩ := h
  simp; omega
theorem S_append (a b : List Nat) : S a ++ S b = S (a ++ b) := by
  show Str.append (S a) (S b) = _
  unfold Str.append S
  simp
@[simp] theorem S_length (a : List Nat) : (S a).length = a.length := by simp [S, Str.length]
theorem S_of (z : Str) : z = S z.cps.toList := by cases z; simp [S]
theorem S_take (e : List Nat) (k : Nat) : cutS (S e) none (some (k : Int)) = S (e.take k) := by
  unfold cutS
  rw [HT.sIx_none, HT.sIx_nat]
  simp [S, Str.length]
theorem S_drop (e : List Nat) (k : Nat) : cutS (S e) (some (k : Int)) none = S (e.drop k) := by
  unfold cutS
  rw [HT.sIx_none, HT.sIx_nat]
  simp [S, Str.length]
  by_cases h : k <= e.length
  · rw [Nat.min_eq_left h, List.take_of_length_le (by simp)]
  · rw [Nat.min_eq_right (by omega), List.drop_length, List.drop_of_length_le (by omega)]; simp
theorem range_at {n : Nat} {f : Nat -> D} {done rest : List D} {x : D} (h : (List.range n).map f = done ++ x :: rest) : done.length < n /\ x = f done.length := by
  have h1 := congrArg List.length h
  simp at h1
  have h2 : done.length < n := by omega
  refine ⟨h2, ?_⟩
  have h3 := congrArg (fun l : List D => l[done.length]?) h
  simp [h2] at h3
  exact h3.symm
def dg (k : Nat) : List Nat := ((toString (k : Int) : String) : Str).cps.toList
theorem dg_ok : ∀ k : Fin 60, (∀ e ∈ dg k.val, 48 <= e /\ e <= 57) /\ (dg k.val).length <= 2 := by decide +kernel
theorem dg_inj : ∀ j k : Fin 60, dg j.val = dg k.val -> j = k := by decide +kernel
structure Row where
  nm : List Nat
  va : Int
  lv : Int
def Row.d (r : Row) : D := .tup [.str (S r.nm), .int r.va, .int r.lv]
def LevOk (ls : List Int) : Prop := ∀ (i : Nat) (l : Int), ls[i]? = some l -> 0 <= l /\ (i = 0 -> l = 0) /\ ∀ k : Nat, i = k + 1 -> ∃ m : Int, ls[k]? = some m /\ l <= m + 1
structure RowsOk (rs : List Row) : Prop where
  len : rs.length <= 60
  names : ∀ r ∈ rs, NameOk r.nm
  vals : ∀ r ∈ rs, -(10 ^ 30) <= r.va /\ r.va <= 10 ^ 30
  nd : (rs.map Row.nm).Nodup
  lev : LevOk (rs.map Row.lv)
theorem LevOk.snoc {ls : List Int} {l : Int} (h : LevOk ls) (h0 : 0 <= l) (h1 : ls = [] -> l = 0) (h2 : ∀ m, ls.getLast? = some m -> l <= m + 1) : LevOk (ls ++ [l]) := by
  intro i x hx
  by_cases hi : i < ls.length
  · rw [List.getElem?_append_left hi] at hx
    obtain ⟨a, b, c⟩ := h i x hx
    refine ⟨a, b, fun k hk => ?_⟩
    obtain ⟨m, hm, hl⟩ := c k hk
    exact ⟨m, by rw [List.getElem?_append_left (by omega)]; exact hm, hl⟩
  · rw [List.getElem?_append_right (by omega)] at hx
    have hi2 : i = ls.length := by
      have := (List.getElem?_eq_some_iff.mp hx).1
      simp at this
      omega
    subst hi2
    simp at hx
    subst hx
    refine ⟨h0, fun z => h1 (List.eq_nil_of_length_eq_zero z), fun k hk => ?_⟩
    have hk2 : k < ls.length := by omega
    refine ⟨ls[k], by rw [List.getElem?_append_left hk2]; simp [hk2], h2 _ ?_⟩
    rw [List.getLast?_eq_getElem?, hk]
    simp [hk2]
def anc (ls : List Int) : Nat -> Int -> List Nat
  | 0, _ => []
  | i + 1, lev => if ls.getD i 0 < lev then i :: anc ls i (ls.getD i 0) else anc ls i lev
def ancs (ls : List Int) (p : Nat) : List Nat := anc ls p (ls.getD p 0)
theorem anc_lt (ls : List Int) : ∀ (i : Nat) (lev : Int), ∀ j ∈ anc ls i lev, j < i
  | 0, _, j, h => by simp [anc] at h
  | i + 1, lev, j, h => by
    unfold anc at h
    split at h
    · rcases List.mem_cons.mp h with rfl | h
      · omega
      · have := anc_lt ls i _ j h; omega
    · have := anc_lt ls i _ j h; omega
theorem anc_step (ls : List Int) : ∀ (i : Nat) (lev : Int) (q : Nat) (r : List Nat), anc ls i lev = q :: r -> r = ancs ls q
  | 0, _, q, r, h => by simp [anc] at h
  | i + 1, lev, q, r, h => by
    unfold anc at h
    split at h
    · cases h; rfl
    · exact anc_step ls i lev q r h
def line (ls : List Int) (p : Nat) : List Nat := p :: ancs ls p
theorem line_le (ls : List Int) (p : Nat) : ∀ j ∈ line ls p, j <= p := by
  intro j hj
  rcases List.mem_cons.mp hj with rfl | h
  · omega
  · exact Nat.le_of_lt (anc_lt ls _ _ j h)
theorem line_cons {ls : List Int} {p q : Nat} {r : List Nat} (h : ancs ls p = q :: r) : line ls p = p :: line ls q := by
  unfold line
  rw [h, anc_step ls _ _ q r h]
theorem ancs_lt {ls : List Int} {p q : Nat} {r : List Nat} (h : ancs ls p = q :: r) : q < p := anc_lt ls p _ q (by unfold ancs at h; rw [h]; simp)
def meetL : Option Nat -> List (Nat × Nat) -> Option Nat
  | f, [] => f
  | f, (a, b) :: r => if a = b then meetL (some a) r else f
theorem meetL_snoc (a b : Nat) (h : a ≠ b) : ∀ (zs : List (Nat × Nat)) (f : Option Nat), meetL f (zs ++ [(a, b)]) = meetL f zs
  | [], f => by simp [meetL, h]
  | (x, y) :: zs, f => by
    simp only [List.cons_append, meetL]
    split
    · exact meetL_snoc a b h zs _
    · rfl
theorem meetL_self : ∀ (l : List Nat) (f : Option Nat), meetL f (l.zip l) = if l = [] then f else l.getLast?
  | [], f => by simp [meetL]
  | x :: l, f => by
    simp only [List.zip_cons_cons, meetL, if_true]
    rw [meetL_self l]
    cases l with
    | nil => simp
    | cons y l => simp [List.getLast?_cons_cons]
theorem zip_snoc_l {α β : Type} (xs : List α) (x : α) (ys : List β) : (xs ++ [x]).zip ys = xs.zip ys ++ (match ys[xs.length]? with | some y => [(x, y)] | none => []) := by
  induction xs generalizing ys with
  | nil => cases ys <;> simp
  | cons a xs ih =>
    cases ys with
    | nil => simp
    | cons b ys => simp [ih ys]
theorem zip_snoc_r {α β : Type} (xs : List α) (ys : List β) (y : β) : xs.zip (ys ++ [y]) = xs.zip ys ++ (match xs[ys.length]? with | some x => [(x, y)] | none => []) := by
  induction xs generalizing ys with
  | nil => cases ys <;> simp
  | cons a xs ih =>
    cases ys with
    | nil => simp
    | cons b ys => simp [ih ys]
theorem meet_eq (ls : List Int) : ∀ (n p q : Nat), p + q <= n -> meetL none ((line ls p).reverse.zip (line ls q).reverse) = ((line ls p).filter fun x => decide (x ∈ line ls q)).head?
  | n, p, q, hn => by
    by_cases e : p = q
    · subst e
      rw [meetL_self]
      have : ((line ls p).filter fun x => decide (x ∈ line ls p)) = line ls p := List.filter_eq_self.mpr fun x hx => decide_eq_true hx
      rw [this]
      simp [line]
    · by_cases h : q < p
      · have hp : p ∉ line ls q := fun z => by have := line_le ls q p z; omega
        cases ha : ancs ls p with
        | nil =>
          have hl : line ls p = [p] := by unfold line; rw [ha]
          rw [hl]
          cases hz : (line ls q).reverse with
          | nil => simp [meetL, hp]
          | cons x r =>
            have hx : x ∈ line ls q := by
              have : x ∈ (line ls q).reverse := by rw [hz]; simp
              simpa using this
            have : p ≠ x := fun z => hp (z ▸ hx)
            simp [meetL, this, hp]
        | cons p' r =>
          have hl := line_cons ha
          have hlt := ancs_lt ha
          obtain ⟨n', rfl⟩ : ∃ n', n = n' + 1 := ⟨n - 1, by omega⟩
          rw [hl, List.reverse_cons, zip_snoc_l, List.filter_cons]
          simp only [decide_eq_false hp, Bool.false_eq_true, if_false]
          rw [<- meet_eq ls n' p' q (by omega)]
          split
          · rename_i y hy
            refine meetL_snoc p y ?_ _ _
            have hy2 : y ∈ line ls q := by
              have := List.mem_of_getElem? hy
              simpa using this
            exact fun z => hp (z ▸ hy2)
          · rw [List.append_nil]
      · have hq : q ∉ line ls p := fun z => by have := line_le ls p q z; omega
        cases ha : ancs ls q with
        | nil =>
          have hl : line ls q = [q] := by unfold line; rw [ha]
          rw [hl]
          have hf : ((line ls p).filter fun x => decide (x ∈ [q])) = [] := List.filter_eq_nil_iff.mpr fun x hx => by
            have : x ≠ q := fun z => hq (z ▸ hx)
            simp [this]
          rw [hf]
          cases hz : (line ls p).reverse with
          | nil => simp [meetL]
          | cons x r =>
            have hx : x ∈ line ls p := by
              have : x ∈ (line ls p).reverse := by rw [hz]; simp
              simpa using this
            have : x ≠ q := fun z => hq (z ▸ hx)
            simp [meetL, this]
        | cons q' r =>
          have hl := line_cons ha
          have hlt := ancs_lt ha
          obtain ⟨n', rfl⟩ : ∃ n', n = n' + 1 := ⟨n - 1, by omega⟩
          rw [hl, List.reverse_cons, zip_snoc_r]
          have hf : ((line ls p).filter fun x => decide (x ∈ q :: line ls q')) = ((line ls p).filter fun x => decide (x ∈ line ls q')) := List.filter_congr fun x hx => by
            have : x ≠ q := fun z => hq (z ▸ hx)
            simp [this]
          rw [hf, <- meet_eq ls n' p q' (by omega)]
          split
          · rename_i y hy
            refine meetL_snoc y q ?_ _ _
            have hy2 : y ∈ line ls p := by
              have := List.mem_of_getElem? hy
              simpa using this
            exact fun z => hq (z ▸ hy2)
          · rw [List.append_nil]
end FL
set_option Elab.async false
set_option linter.all false
set_option maxRecDepth 100000
set_option maxHeartbeats 1000000
namespace FL
open PySem L2 DL
theorem fm_const {α β : Type} (d : β) : ∀ xs : List α, xs.filterMap (fun _ => some d) = List.replicate xs.length d
  | [] => rfl
  | x :: xs => by simp [fm_const d xs, List.replicate_succ]
theorem bls_rep (b : Bool) : ∀ n : Nat, blsOf (List.replicate n (D.bl b)) = some (List.replicate n b)
  | 0 => rfl
  | n + 1 => by simp [List.replicate_succ, blsOf, bls_rep b n]
theorem inStr_1 (c : Nat) (z : Str) : inStr ⟨#[c]⟩ z = decide (c ∈ z.cps.toList) := rfl
def strD (x : List Nat) : D := .str (S x)
theorem mem_made {x : List Nat} (ns : List (List Nat)) : ((ns.map strD).any fun y => eqFD y (.str (S x))) = decide (x ∈ ns) := by
  induction ns with
  | nil => simp
  | cons y ns ih =>
    simp only [List.map_cons, List.any_cons, ih, strD]
    by_cases e : y = x
    · subst e; simp
    · have : ¬ (S y = S x) := by simpa using e
      simp [this, e, Ne.symm e]
theorem strD_add (a b : List Nat) (h : a.length + b.length <= 16777216) : addD (strD a) (strD b) = some (strD (a ++ b)) := by
  unfold strD
  rw [addD_str (by simpa using h), S_append]
theorem lenF_strD {M : Mem} {x : List Nat} (h : x.length <= 16777216) : lenF [vw M (strD x)] = some (.int x.length) := by
  show lenF [D.str (S x)] = _
  simp [lenF, h]
theorem slD_take {M : Mem} {x : List Nat} {k : Nat} (h : x.length <= 16777216) : slD (vw M (strD x)) none (some (k : Int)) = some (strD (x.take k)) := by
  show slD (D.str (S x)) none (some (k : Int)) = _
  simp [slD, h, S_take, strD]
theorem slD_drop {M : Mem} {x : List Nat} {k : Nat} (h : x.length <= 16777216) : slD (vw M (strD x)) (some ((k : Int) + 1)) none = some (strD (x.drop (k + 1))) := by
  show slD (D.str (S x)) (some ((k : Int) + 1)) none = _
  have e : ((k : Int) + 1) = ((k + 1 : Nat) : Int) := by omega
  rw [e]
  simp only [slD]
  rw [if_pos (by simpa using h), S_drop]
  rfl
theorem atI_lastF {α : Type} (l : List α) (x : α) : atI (l ++ [x]) (-1) = some x := by
  unfold atI ixN
  have h : (1 : Int) <= l.length + 1 := by omega
  have h2 : (-1 + ((l.length : Int) + 1)).toNat = l.length := by omega
  simp [h, h2]
theorem take_snoc {α : Type} {l : List α} {k : Nat} (h : k < l.length) : l.take k ++ [l[k]] = l.take (k + 1) := by
  rw [List.take_succ, List.getElem?_eq_getElem h]; rfl
theorem atI_get' {α : Type} {l : List α} {k : Nat} {x : α} (h : l[k]? = some x) : atI l (k : Int) = some x := atI_nat h
def SeqOf (d : D) (xs : List D) : Prop := d = .lst xs \/ d = .tup xs
theorem sIx_nat (n d p : Nat) : HT.sIx n d (some (p : Int)) = min p n := by
  have h0 : ¬ ((p : Int) < 0) := by omega
  unfold HT.sIx
  simp [h0]
theorem cutD_to {xs : List D} {p : Nat} : cutD xs none (some (p : Int)) = xs.take p := by
  unfold cutD
  rw [sIx_nat]
  have e0 : HT.sIx xs.length 0 none = 0 := rfl
  rw [e0]
  simp only [List.drop_zero, Nat.sub_zero]
  by_cases h : p <= xs.length
  · rw [Nat.min_eq_left h]
  · rw [Nat.min_eq_right (by omega), List.take_of_length_le (Nat.le_refl _), List.take_of_length_le (by omega)]
theorem cutD_from {xs : List D} {p : Nat} : cutD xs (some (p : Int)) none = xs.drop p := by
  unfold cutD
  rw [sIx_nat]
  have e0 : HT.sIx xs.length xs.length none = xs.length := rfl
  rw [e0]
  by_cases h : p <= xs.length
  · rw [Nat.min_eq_left h]
    exact List.take_of_length_le (by simp)
  · rw [Nat.min_eq_right (by omega), List.drop_of_length_le (Nat.le_refl _), List.drop_of_length_le (by omega)]
    simp
theorem RowsOk.at {rs : List Row} (h : RowsOk rs) {p : Nat} {x : Row} (hx : rs[p]? = some x) :
    NameOk x.nm /\ (-(10 ^ 30) <= x.va /\ x.va <= 10 ^ 30) /\ 0 <= x.lv /\ (p = 0 -> x.lv = 0) /\ (∀ k : Nat, p = k + 1 -> ∃ y, rs[k]? = some y /\ x.lv <= y.lv + 1) /\ ∀ y ∈ rs.take p, y.nm ≠ x.nm := by
  have hm : x ∈ rs := List.mem_of_getElem? hx
  have hl := h.lev p x.lv (by simp [hx])
  refine ⟨h.names x hm, h.vals x hm, hl.1, hl.2.1, fun k hk => ?_, fun y hy e => ?_⟩
  · obtain ⟨m, h1, h2⟩ := hl.2.2 k hk
    rw [List.getElem?_map] at h1
    cases e : rs[k]? with
    | none => rw [e] at h1; cases h1
    | some y => rw [e] at h1; cases h1; exact ⟨y, rfl, h2⟩
  · obtain ⟨j, hj, hjy⟩ := List.mem_take_iff_getElem.mp hy
    have hp := (List.getElem?_eq_some_iff.mp hx).1
    have e1 : (rs.map Row.nm)[j]? = (rs.map Row.nm)[p]? := by
      simp only [List.getElem?_map, hx]
      rw [List.getElem?_eq_getElem (by omega), hjy]
      simp [e]
    have := (List.getElem?_inj (by simp; omega) h.nd).mp e1
    omega
def spotsK (rs : List Row) : List Key := rs.map fun r => .inr (S r.nm)
def places (n : Nat) : List D := (List.range n).map fun (i : Nat) => D.int (i : Int)
def FD (rs : List Row) : D := .obj 0 ["rows", "order", "spots"] [.tup (rs.map Row.d), .tup (rs.map fun r => strD r.nm), .dK (spotsK rs) (places rs.length)]
@[simp] theorem vw_FD {M : Mem} {rs : List Row} : vw M (FD rs) = FD rs := rfl
@[simp] theorem vw_strD {M : Mem} {x : List Nat} : vw M (strD x) = strD x := rfl
@[simp] theorem methAt_FD {tb : List (Nat × SpD)} {m : Str} {M : Mem} {R : SpD -> Prop} {rs : List Row} : methAt tb m (FD rs) M R ↔ ∃ spd, tb.lookup 0 = some spd /\ m ∉ (["rows", "order", "spots"] : List Str) /\ R spd := methAt_obj
theorem fld_rows {cs : List Nat} {rs : List Row} (h : 0 ∈ cs) : fldD cs "rows" (FD rs) = some (.tup (rs.map Row.d)) := by simp [fldD, FD, lookN, h]
theorem fld_order {cs : List Nat} {rs : List Row} (h : 0 ∈ cs) : fldD cs "order" (FD rs) = some (.tup (rs.map fun r => strD r.nm)) := by simp [fldD, FD, lookN, h]
theorem fld_spots {cs : List Nat} {rs : List Row} (h : 0 ∈ cs) : fldD cs "spots" (FD rs) = some (.dK (spotsK rs) (places rs.length)) := by simp [fldD, FD, lookN, h]
theorem dcD_fn {γ : DTG} {υ : DTT} {τk τv : DTE} {vs : List Nat} {a : Addr} {Q : DV} {ρ : DL.Env} {M : Mem} (kf vf : D -> D) (kk : D -> Key) (xs : List D) (hl : xs.length <= 16777216) (hM : M a = none) (hnd : (xs.map kk).Nodup) (hk : ∀ x ∈ xs, keyD (kf x) = some (kk x))
    (step : ∀ x ∈ xs, ∀ (M1 : Mem) (T : D -> D -> Mem -> Prop) (N : Mem -> Prop), (∀ b, b ≠ a -> M1 b = M b) -> T (kf x) (vf x) M1 -> γ x (wipeD ρ vs) M1 (fun ρ2 M2 => υ ρ2 M2 (fun b M3 => if b = true then τk ρ2 M3 (fun kd M4 => τv ρ2 M4 (fun d M5 => T kd d M5) noX) noX else N M3) noX) noX)
    (q : Q (.dK (xs.map kk) (xs.map vf)) M) : dcD γ υ τk τv vs a xs ρ (updM M a (.dK [] [])) Q := by
  have go : ∀ (rest done : List D), xs = done ++ rest -> dcD γ υ τk τv vs a rest ρ (updM M a (.dK (done.map kk) (done.map vf))) Q := by
    intro rest
    induction rest with
    | nil =>
      intro done e
      rw [List.append_nil] at e
      subst e
      exact ⟨_, _, updM_same, by rw [delM_updM hM]; exact q⟩
    | cons x rest ih =>
      intro done e
      have hx : x ∈ xs := by rw [e]; simp
      refine step x hx _ (fun kd d M5 => ∃ k ks ds, keyD kd = some k /\ M5 a = some (.dK ks ds) /\ ks.length < sizeLine /\ dcD γ υ τk τv vs a rest ρ (updM M5 a (.dK (putKs k ks) (putVs k d ks ds))) Q) (fun M3 => dcD γ υ τk τv vs a rest ρ M3 Q) (fun b hb => updM_ne hb) ?_
      have hn : (List.map kk done).any (fun j => decide (j = kk x)) = false := by
        rw [e, List.map_append, List.map_cons] at hnd
        have := (List.nodup_append.mp hnd).2.2
        rw [Bool.eq_false_iff]
        intro z
        obtain ⟨j, hj, hj2⟩ := List.any_eq_true.mp z
        exact this j hj (kk x) (by simp) (of_decide_eq_true hj2)
      refine ⟨kk x, _, _, hk x hx, updM_same, ?_, ?_⟩
      · have h2 := congrArg List.length e
        rw [List.length_append, List.length_cons] at h2
        rw [List.length_map, sizeLine_eq]
        omega
      · rw [updM_updM]
        unfold putKs putVs
        rw [hn]
        have := ih (done ++ [x]) (by rw [e]; simp)
        simpa using this
  exact go xs [] rfl
def nmAt (rs : List Row) (i : Nat) : D := strD ((rs.map Row.nm).getD i [])
@[simp] theorem vw_nmAt {M : Mem} {rs : List Row} {i : Nat} : vw M (nmAt rs i) = nmAt rs i := rfl
def lvs (rs : List Row) : List Int := rs.map Row.lv
theorem nmAt_of {rs : List Row} {p : Nat} {x : Row} (h : rs[p]? = some x) : nmAt rs p = strD x.nm := by
  unfold nmAt
  simp [List.getD, h]
theorem lvs_of {rs : List Row} {p : Nat} {x : Row} (h : rs[p]? = some x) : (lvs rs).getD p 0 = x.lv := by
  unfold lvs
  simp [List.getD, h]
theorem row_at {rs : List Row} {p : Nat} (h : p < rs.length) : ∃ x, rs[p]? = some x := ⟨rs[p], by simp [h]⟩
theorem nm_inj {rs : List Row} (h : RowsOk rs) {i j : Nat} (hi : i < rs.length) (hj : j < rs.length) : nmAt rs i = nmAt rs j ↔ i = j := by
  constructor
  · intro e
    unfold nmAt strD at e
    have e2 : (rs.map Row.nm).getD i [] = (rs.map Row.nm).getD j [] := by simpa using e
    have e3 : (rs.map Row.nm)[i]? = (rs.map Row.nm)[j]? := by
      simp only [List.getD, List.getElem?_map, List.getElem?_eq_getElem hi, List.getElem?_eq_getElem hj, Option.map_some, Option.getD_some] at e2 ⊢
      rw [e2]
    exact (List.getElem?_inj (by simpa using hi) h.nd).mp e3
  · rintro rfl; rfl
theorem eqF_nm {rs : List Row} (h : RowsOk rs) {i j : Nat} (hi : i < rs.length) (hj : j < rs.length) : eqFD (nmAt rs i) (nmAt rs j) = decide (i = j) := by
  by_cases e : i = j
  · subst e; simp [nmAt, strD]
  · have : nmAt rs i ≠ nmAt rs j := fun z => e ((nm_inj h hi hj).mp z)
    unfold nmAt strD at this ⊢
    have h2 : ¬ ((rs.map Row.nm).getD i [] = (rs.map Row.nm).getD j []) := fun z => this (by rw [z])
    simp only [eqFD]
    rw [decide_eq_false e]
    simpa using h2
theorem ne_nm {rs : List Row} (h : RowsOk rs) {i j : Nat} (hi : i < rs.length) (hj : j < rs.length) : neD (nmAt rs i) (nmAt rs j) = some (.bl (!decide (i = j))) := by
  rw [<- eqF_nm h hi hj]
  rfl
theorem spotsK_nd {rs : List Row} (h : RowsOk rs) : (spotsK rs).Nodup := by
  unfold spotsK
  have e := h.nd
  rw [show (rs.map fun r => (Sum.inr (S r.nm) : Key)) = (rs.map Row.nm).map (fun z => (Sum.inr (S z) : Key)) by simp]
  exact List.Pairwise.map _ (fun a b (hab : a ≠ b) z => hab (by simpa using z)) e
theorem spot_at {rs : List Row} (h : RowsOk rs) {p : Nat} (hp : p < rs.length) : ixA (.dK (spotsK rs) (places rs.length)) (nmAt rs p) = some (.int p) := by
  have key : ∀ (n : Nat) (ks : List Key) (o p : Nat), ks.Nodup -> p < ks.length -> atK (ks.getD p (.inl 0)) ks ((List.range' o ks.length).map fun (i : Nat) => D.int (i : Int)) = some (.int ((o + p : Nat) : Int)) := by
    intro n ks
    induction ks with
    | nil => intro o p _ hp; simp at hp
    | cons k ks ih =>
      intro o p nd hp
      rw [List.length_cons, List.range'_succ, List.map_cons]
      unfold atK
      cases p with
      | zero => simp
      | succ p =>
        have nd2 := List.nodup_cons.mp nd
        have hp2 : p < ks.length := by simpa using hp
        have hm : ks.getD p (.inl 0) ∈ ks := by simp [List.getD, hp2]
        have hne : k ≠ ks.getD p (.inl 0) := fun z => nd2.1 (z ▸ hm)
        have e : (k :: ks).getD (p + 1) (.inl 0) = ks.getD p (.inl 0) := by simp [List.getD]
        rw [e, if_neg hne, ih (o + 1) p nd2.2 hp2]
        congr 3
        omega
  obtain ⟨x, hx⟩ := row_at hp
  have hn := spotsK_nd h
  have hl : (spotsK rs).length = rs.length := by simp [spotsK]
  have e1 := key 0 (spotsK rs) 0 p hn (by omega)
  have e2 : (spotsK rs).getD p (.inl 0) = .inr (S x.nm) := by simp [spotsK, List.getD, hx]
  rw [e2, hl, <- List.range_eq_range'] at e1
  rw [nmAt_of hx, strD, ixA_dK, keyD_str, Option.bind_some]
  simpa [places] using e1
theorem anc_bound {ls : List Int} {i : Nat} {lev : Int} {j n : Nat} (h : j ∈ anc ls i lev) (hi : i <= n) : j < n := Nat.lt_of_lt_of_le (anc_lt ls i lev j h) hi
theorem anc_len (ls : List Int) : ∀ (i : Nat) (lev : Int), (anc ls i lev).length <= i
  | 0, _ => by simp [anc]
  | i + 1, lev => by
    unfold anc
    split
    · have := anc_len ls i (ls.getD i 0); simp; exact this
    · have := anc_len ls i lev; omega
theorem ancs_len (ls : List Int) (p : Nat) : (ancs ls p).length <= p := anc_len ls p _
theorem heads_nm (rs : List Row) : (rs.map Row.d).filterMap (fun y => ixD y (.int 0)) = rs.map fun r => strD r.nm := by
  rw [List.filterMap_map, show ((fun y => ixD y (.int 0)) ∘ Row.d) = (fun r => some (strD r.nm)) by funext r; simp [Row.d, strD]]
  exact congrFun List.filterMap_eq_map rs
theorem enum_rows (rs : List Row) : ((rs.map Row.d).zipIdx.map fun p => D.tup [.int (p.2 : Nat), p.1]) = rs.zipIdx.map fun p => D.tup [.int (p.2 : Nat), Row.d p.1] := by
  refine List.ext_getElem (by simp) fun i h1 h2 => ?_
  simp
def eKey : D -> Key
  | .tup [_, .tup (.str n :: _)] => .inr n
  | _ => .inl 0
def eKd : D -> D
  | .tup [_, .tup (n :: _)] => n
  | _ => .non
def eVal : D -> D
  | .tup (i :: _) => i
  | _ => .non
theorem enum_keys (rs : List Row) : (rs.zipIdx.map fun p => D.tup [.int (p.2 : Nat), Row.d p.1]).map eKey = spotsK rs := by
  refine List.ext_getElem (by simp [spotsK]) fun i h1 h2 => ?_
  simp [spotsK, Row.d, eKey]
theorem enum_places (rs : List Row) : (rs.zipIdx.map fun p => D.tup [.int (p.2 : Nat), Row.d p.1]).map eVal = places rs.length := by
  refine List.ext_getElem (by simp [places]) fun i h1 h2 => ?_
  simp [places, eVal]
theorem not_earlier {rs : List Row} {x : Row} (h : ∀ y ∈ rs, y.nm ≠ x.nm) : inD (.str (S x.nm)) (.lst (rs.map fun r => strD r.nm)) = some (.bl false) := by
  have e4 : (rs.map fun r => strD r.nm).any (fun y => eqFD y (.str (S x.nm))) = false := by
    rw [Bool.eq_false_iff]
    intro z
    obtain ⟨y, hy, hy2⟩ := List.any_eq_true.mp z
    obtain ⟨r, hr, rfl⟩ := List.mem_map.mp hy
    have : ¬ (r.nm = x.nm) := h r hr
    simp [strD, this] at hy2
  have e5 : (rs.map fun r => strD r.nm).all flatD = true := List.all_eq_true.mpr fun y hy => by obtain ⟨r, _, rfl⟩ := List.mem_map.mp hy; rfl
  rw [inD_def, inB_lst, e5, e4]
  rfl
theorem any_nm {rs : List Row} (h : RowsOk rs) {p : Nat} (hp : p < rs.length) (l : List Nat) (hl : ∀ j ∈ l, j < rs.length) : ((l.map (nmAt rs)).any fun y => eqFD y (nmAt rs p)) = decide (p ∈ l) := by
  induction l with
  | nil => simp
  | cons j l ih =>
    rw [List.map_cons, List.any_cons, ih (fun k hk => hl k (by simp [hk])), eqF_nm h (hl j (by simp)) hp]
    by_cases e : j = p
    · subst e; simp
    · simp [e, Ne.symm e]
theorem in_nm {rs : List Row} (h : RowsOk rs) {p : Nat} (hp : p < rs.length) (l : List Nat) (hl : ∀ j ∈ l, j < rs.length) : inD (nmAt rs p) (.lst (l.map (nmAt rs))) = some (.bl (decide (p ∈ l))) := by
  have f1 : flatD (nmAt rs p) = true := rfl
  have f2 : (l.map (nmAt rs)).all flatD = true := by simp [nmAt, strD]
  rw [inD_def, inB_lst, f1, f2, any_nm h hp l hl]
  rfl
def optNm (rs : List Row) : Option Nat -> D
  | some i => nmAt rs i
  | none => .non
def optI : Option Nat -> D
  | some i => .int (i : Int)
  | none => .non
@[simp] theorem optI_some (i : Nat) : optI (some i) = .int (i : Int) := rfl
@[simp] theorem optI_none : optI none = .non := rfl
def keepIn (l : List Nat) : D -> Option D
  | .int i => if i.toNat ∈ l then some (.int i) else none
  | _ => none
@[simp] theorem vw_optNm {M : Mem} {rs : List Row} {o : Option Nat} : vw M (optNm rs o) = optNm rs o := by cases o <;> rfl
end FL
set_option Elab.async false
set_option linter.all false
set_option maxRecDepth 100000
set_option maxHeartbeats 4000000
set_option autoImplicit false
namespace DL
open PySem L2
section
variable {cl : ClW} {X : Cx} {W : WX} {k : Nat} {f : Addr} {fd : FuncData} {ps : List Str} {spd : SpD}
end
abbrev DB2 := D -> D -> DL.Env -> Mem -> DV -> DX -> Prop
def BinG (cl : ClW) (X : Cx) (W : WX) (op : Value -> Value -> Sem Value) (φ : DB2) : Prop :=
  ∀ (pins : List (Addr × Obj)) (s : Shared) (σ : St) (H F : Hp) (ρ : DL.Env) (M : Mem) (v u : Value) (x y : V) (d e : D) (Q : VK) (Qd : DV) (Xd : DX), Inv X pins σ H s -> RelV x v -> RelV y u -> Good X.K cl F H M -> Slots X.K cl F σ ρ -> Rep X.K cl F x d -> Rep X.K cl F y e ->
    φ d e ρ M Qd Xd -> Post X.K cl F Q Qd -> WOk X.K cl W F Xd -> wpAny (model X.prog X.w) X.A (op v u) (EP X pins σ Q) X.xe s
@[simp] def dBin (φ : DB2) (τa τb : DTE) : DTE := fun ρ M Q X => τa ρ M (fun d M1 => τb ρ M1 (fun e M2 => φ d e ρ M2 Q X) X) X
@[simp] def bOp (f : D -> D -> Option D) : DB2 := fun d e _ M Q _ => ∃ z, f (vw M d) (vw M e) = some z /\ Q z M
@[simp] def bOr (φ ψ : DB2) : DB2 := fun d e ρ M Q X => φ d e ρ M Q X \/ ψ d e ρ M Q X
section
variable {cl : ClW} {X : Cx} {W : WX} {pos : Pos} {a b : Expr} {τa τb : DTE}
theorem bin_low {σ : St} {H : Hp} {Q : VK} {φ : DB2} (h : lowE X.K cl W (dBin φ τa τb) σ H Q) : lowE X.K cl W τa σ H (fun x H1 => ∃ F ρ M d Qd Xd, Good X.K cl F H1 M /\ Slots X.K cl F σ ρ /\ Rep X.K cl F x d /\ τb ρ M (fun e M2 => φ d e ρ M2 Qd Xd) Xd /\ Post X.K cl F Q Qd /\ WOk X.K cl W F Xd) := by
  obtain ⟨F, ρ, M, Qd, Xd, g, s, q, p, w⟩ := h
  exact ⟨F, ρ, M, _, Xd, g, s, q, fun x H1 F1 d M1 sm g1 r q1 => ⟨F1, ρ, M1, d, Qd, Xd, g1, s.mono sm, r, q1, p.mono sm, w.mono sm⟩, w⟩
theorem run_bin {op : Value -> Value -> Sem Value} {φ : DB2} (ho : BinG cl X W op φ) (ha : DE cl X W a τa) (hb : DE cl X W b τb) {pins : List (Addr × Obj)} {s : Shared} {σ : St} {H : Hp} {Q : VK} (I : Inv X pins σ H s) (h : lowE X.K cl W (dBin φ τa τb) σ H Q) :
    wpAny (model X.prog X.w) X.A (eval a X.env) (fun v s1 => wpAny (model X.prog X.w) X.A (eval b X.env) (fun u s2 => wpAny (model X.prog X.w) X.A (op v u) (EP X pins σ Q) X.xe s2) X.xe s1) X.xe s := by
  refine thn (ha.pe.run pins s σ H _ I (bin_low h)) fun v s1 ⟨x, H1, I1, r1, F1, ρ, M1, d, Qd, Xd, g1, sl1, rd, q1, p1, w1⟩ => ?_
  refine thn (hb.pe.run pins s1 σ H1 (fun y H2 => ∃ F2 M2 e, Same F1 F2 /\ Good X.K cl F2 H2 M2 /\ Rep X.K cl F2 y e /\ φ d e ρ M2 Qd Xd) I1 ⟨F1, ρ, M1, _, Xd, g1, sl1, q1, fun y H2 F2 e M2 sm g2 r2 q2 => ⟨F2, M2, e, sm, g2, r2, q2⟩, w1⟩) fun u s2 ⟨y, H2, I2, r2, F2, M2, e, sm, g2, re, q2⟩ => ?_
  exact ho pins s2 σ H2 F2 ρ M2 v u x y d e Q Qd Xd I2 r1 r2 g2 (sl1.mono sm) (rd.mono sm) re q2 (p1.mono sm) (w1.mono sm)
theorem d_bin {op : Operator} {φ : DB2} (ho : BinG cl X W (binaryOp op) φ) (ha : DE cl X W a τa) (hb : DE cl X W b τb) : DE cl X W (.BinOp a op b pos) (dBin φ τa τb) := ⟨⟨fun pins s σ H Q I h => wpAny_BinOp (run_bin ho ha hb I h)⟩⟩
theorem d_tcmpG {op : CmpOp} {φ : DB2} (ho : BinG cl X W (compareOp op) φ) (ha : DE cl X W a τa) (hb : DE cl X W b τb) (hm : behindInMarks op b = false) : DT cl X W (.Compare a [op] [b] pos) (dTest (dBin φ τa τb)) := ⟨⟨fun pins s σ H Q I h => by
  obtain ⟨F, ρ, M, Qd, Xd, g, sl, q, p, w⟩ := h
  have h2 : lowE X.K cl W (dBin φ τa τb) σ H (fun x H' => ∃ k, x = .bl k /\ Q k H') := ⟨F, ρ, M, _, Xd, g, sl, q, p.test, w⟩
  refine wpAny_isTrue_Compare1 (thn (run_bin ho ha hb I h2) fun v s1 q1 => thn q1 fun u s2 q2 => thn q2 fun c s3 ⟨z, H3, I3, r3, k, e, q3⟩ => ?_) hm
  subst e
  cases r3
  exact wpAny_truthy_bool ⟨H3, I3, q3⟩⟩⟩
end
end DL
set_option Elab.async false
set_option linter.all false
set_option maxRecDepth 100000
set_option maxHeartbeats 4000000
set_option autoImplicit false
namespace DL
open PySem L2
@[simp] def kB : D -> Option D
  | .bl b => some (.bl b)
  | _ => none
@[simp] def kNB : D -> Option D
  | .bl b => some (.bl !b)
  | _ => none
@[simp] def kV : D -> Option D
  | .bl b => some (.bl b)
  | .obj c ns ds => some (.obj c ns ds)
  | _ => none
section
variable {cl : ClW} {X : Cx} {W : WX} {k : Nat} {tb : List (Nat × SpD)}
end
end DL
set_option Elab.async false
set_option linter.all false
set_option maxRecDepth 100000
set_option maxHeartbeats 4000000
set_option autoImplicit false
namespace DL
open PySem L2
section
variable {prog : Program} {w : World} {A : Around} {E : Value -> Shared -> Prop} {s : Shared} {K : PySem.W.Frag} {x C L f : Addr} {h₀ : Heap} {m : Str -> Option Value} {ox : Obj} {od : Option Obj} {b tb : Value}
end
section
variable {cl : ClW} {X : Cx} {W : WX} {k : Nat} {tb : List (Nat × SpD)}
structure TyC (K : PySem.W.Frag) (C : Addr) : Prop where
  cls : Cls K C
  ha : PySem.W.findIn K (.ref C) "__class__" = some (some (.builtin "object.__class__"))
  hn : PySem.W.specialIn K (.builtin "object.__class__") "__get__" = some (some (.builtin "getset_descriptor.__get__"))
  htk : PySem.W.takesIn K (.builtin "object.__class__") = some true
  hm : PySem.W.mroIn K C (.type "object") = some true
structure IsoOk (K : PySem.W.Frag) (cl : Nat -> Addr) (c : Nat) (yes no : List Nat) : Prop where
  y : ∀ j ∈ yes, TyC K (cl j) /\ PySem.W.kitOne K (.ref (cl j)) (.ref (cl c)) = some true
  n : ∀ j ∈ no, TyC K (cl j) /\ PySem.W.kitOne K (.ref (cl j)) (.ref (cl c)) = some false
  t : ∀ n ∈ tyNames, PySem.W.kitOne K (.type n) (.ref (cl c)) = some false
def isoF (c : Nat) (yes no : List Nat) : List D -> Option D
  | [.obj j _ _, .cls i] => if i = c then if j ∈ yes then some (.bl true) else if j ∈ no then some (.bl false) else none else none
  | [d, .cls i] => if i = c then if (tyName d).isSome then some (.bl false) else none else none
  | _ => none
theorem Vw.cls {K : PySem.W.Frag} {F H : Hp} {v : V} {c : Nat} (h : Vw K cl F H v (.cls c)) : v = .ref (cl c) := by
  rcases h with h | ⟨a, rfl, h⟩
  · exact h.toCls
  · exact h.elim
end
end DL
set_option Elab.async false
set_option linter.all false
set_option maxRecDepth 100000
set_option maxHeartbeats 2000000
set_option autoImplicit false
namespace DL
open PySem L2
theorem Cap.mono {X : Cx} {W : WX} {j k : Nat} (c : Cap X W k) (h : j <= k) : Cap X W j := ⟨c.tk, c.hr.mono h, c.po, c.calm⟩
section
variable {K : PySem.W.Frag} {cl : ClW}
theorem and2 {a b : Bool} (h : (a && b) = true) : a = true /\ b = true := Bool.and_eq_true_iff.mp h
def tycB (K : PySem.W.Frag) (C : Addr) : Bool := He.eqO (PySem.W.findIn K (.ref C) "__class__") (some (some (.builtin "object.__class__"))) && (He.eqO (PySem.W.specialIn K (.builtin "object.__class__") "__get__") (some (some (.builtin "getset_descriptor.__get__"))) && ((PySem.W.takesIn K (.builtin "object.__class__") == some true) && (PySem.W.mroIn K C (.type "object") == some true)))
end
section
variable {cl : ClW} {X : Cx} {W : WX} {pos : Pos}
theorem d_dict0 : DE cl X W (.Dict [] [] pos) (dC (.dK [] [])) := ⟨pe_imp pe_dnewK fun σ H Q ⟨F, ρ, M, Qd, Xd, g, s, q, p, w⟩ a ha => p _ _ _ _ _ (same_new (g.freshF ha)) (g.new ha) (.dK upd_same rfl .nil) q⟩
end
@[simp] theorem isoF_obj {c j : Nat} {yes no : List Nat} {ns : List Str} {ds : List D} : isoF c yes no [.obj j ns ds, .cls c] = if j ∈ yes then some (.bl true) else if j ∈ no then some (.bl false) else none := by simp [isoF]
end DL
set_option Elab.async false
set_option linter.all false
set_option maxRecDepth 100000
set_option maxHeartbeats 4000000
set_option autoImplicit false
namespace DL
open PySem L2
def spX (C : Addr) (fs : List Str) : Sp := fun vs H Q _ => ∃ (a : Addr) (ws : List V), vs = .ref a :: ws /\ ws.length = fs.length /\ H a = some (exo a C none) /\
  ∀ (d : Addr) (H' : Hp), H d = none -> d ≠ a -> H' a = some (exo a C (some d)) -> H' d = some (exd d (fs.reverse.zip ws.reverse)) -> (∀ b, b ≠ a -> b ≠ d -> H' b = H b) -> Q .non H'
structure ExcK (P : Program) (w : World) (K : PySem.W.Frag) (mg : Str -> Option Value) (base : Heap) (x : Str) (C : Addr) (fs : List Str) : Prop where
  oex : OexC K C
  gl : mg x = some (.ref C)
  ini : ∃ fI fd ps, PySem.W.findIn K (.ref C) "__init__" = some (some (.ref fI)) /\ PySem.W.typeIn K (.ref fI) = some (.type "function") /\ FnOk P w K mg base (L2.CX P w) 1 fI fd ps (spX C fs) /\ Binds K fd ps []
section
variable {P : Program} {w : World} {K : PySem.W.Frag} {mg : Str -> Option Value} {base : Heap} {qual : Str} {params : Arguments} {scope : Scope} {f C : Addr} {fd : FuncData}
theorem xinit1 {p1 p2 p3 p4 : Pos} {g : Str} (T : OexC K C) (hno : PySem.W.findIn K (.ref C) g = some none) (F : FunD K "__init__" qual params [.Assign [.Attribute (.Name "self" p1) g p2] (.Name g p3) p4] scope [] [] f fd) (S : FnScope ["self", g] ["self", g] scope)
    (h0 : Vis scope "self" := by first | exact Or.inl rfl | exact Or.inr (Or.inl rfl)) (h1 : Vis scope g := by first | exact Or.inl rfl | exact Or.inr (Or.inl rfl)) (hd : (g == ("__debug__" : Str)) = false := by decide) (hcd : (g == ("__classdict__" : Str)) = false := by decide) : FnOk P w K mg base (L2.CX P w) 1 f fd ["self", g] (spX C [g]) := by
  refine F.ok S (fun vs H Q E ⟨a, ws, e, hl, _⟩ => by rw [e, List.length_cons, hl]; rfl) fun cdv A outer s H vs Q E hr ⟨a, ws, e, hl, ha, q⟩ => ?_
  obtain ⟨v, rfl⟩ : ∃ v, ws = [v] := by
    match ws, hl with
    | [v], _ => exact ⟨v, rfl⟩
  subst e
  refine ⟨_, pss_one (ps_ost (pe_var (i := 0) rfl h0 (by decide)) (pe_var (i := 1) rfl h1 hd hcd)), ?_⟩
  refine ⟨v, rfl, .ref a, rfl, a, C, rfl, T, hno, .inl ⟨ha, fun d hd hne => q d _ hd hne upd_same (by rw [upd_ne hne, upd_same]; rfl) (fun b h1 h2 => by rw [upd_ne h1, upd_ne h2])⟩⟩
end
def dRaise (c : Nat) (fs : List Str) (α : DTA) : DTS := fun E ρ M => α ρ M (fun ds M1 => ds.length = fs.length /\ E.ex c fs.reverse ds.reverse ρ M1) E.ex
section
variable {cl : ClW} {X : Cx} {W : WX} {k : Nat} {x : Str} {c : Nat} {fs : List Str} {e : Expr} {es : List Expr} {α : DTA} {p p2 pos : Pos}
theorem ds_raise (cp : Cap X W k) (hk : 2 <= k) (T : ExcK X.prog X.w X.K X.mg X.base x (cl c) fs) (hf : fs.length <= 900) (hg : Gl X x) (ha : DA cl X W (e :: es) α)
    (hdb : (x == ("__debug__" : Str)) = false := by decide) (he : starEach (e :: es) X.env = (false, eval e X.env) :: starEach es X.env := by rfl) (hpl : (backTo p2 (starEach es X.env)).any (·.1) = false := by rfl) :
    DS cl X W (.Raise (some (.Call (.Name x p) (e :: es) [] p2)) none pos) (dRaise c fs α) := by
  obtain ⟨fI, fd, ps, iC, tI, F1, hb⟩ := T.ini
  refine ⟨ps_imp (ps_raise cp.calm cp.tk (pmk_oex T.oex iC tI F1 (cp.hr.mono hk).room hb .nil (fun pins σ H s e s' I h => ?_) hg T.gl ha.pa hdb he hpl)) fun D σ H ⟨F, ρ, M, E, g, s, q, ok⟩ => ?_⟩
  · obtain ⟨_, _, _, _, _, _, _, _, _, _, _, _, h⟩ := h
    exact h.elim
  · refine ⟨F, ρ, M, _, E.ex, g, s, q, fun vs H1 F1 ds M1 sm g1 r1 ⟨hl, q1⟩ => ⟨by rw [r1.length, hl]; omega, fun a ha => ?_⟩, ok.ex⟩
    refine ⟨a, vs, by rw [List.append_nil], by rw [r1.length, hl], upd_same, fun d H' hd hne h1 h2 h3 => ⟨rfl, d, _, h1, h2, ?_, ?_⟩⟩
    · rw [upd_ne hne] at hd; exact hd
    · rw [upd_ne hne] at hd
      have eH : L2.upd (L2.del H' a) d (.xd (fs.reverse.zip vs.reverse)) = L2.upd H1 d (.xd (fs.reverse.zip vs.reverse)) := by
        funext b
        by_cases hb : b = d
        · rw [hb, upd_same, upd_same]
        · rw [upd_ne hb, upd_ne hb]
          by_cases hb2 : b = a
          · rw [hb2, del_same, ha]
          · rw [del_ne hb2, h3 b hb2 hb, upd_ne hb2]
      rw [eH]
      have sm2 : Same F1 (L2.upd F1 d (.xd (fs.reverse.zip vs.reverse))) := same_new (g1.freshF hd)
      exact ok.ex c _ _ σ _ _ ρ M1 (some d) (sm.trans sm2) (g1.new hd) (s.mono (sm.trans sm2)) (.inr ⟨d, vs.reverse, rfl, upd_same, by rw [List.length_reverse, List.length_reverse, r1.length, hl], (r1.mono sm2).reverse⟩) q1
end
end DL
set_option Elab.async false
set_option linter.all false
set_option maxRecDepth 100000
set_option maxHeartbeats 4000000
set_option autoImplicit false
namespace DL
open PySem L2
abbrev Clause := Value × Option Nat × (Addr -> Value -> Option Addr -> TS)
def endsAt (o : Option Nat) (Dn : Ends) : Ends := match o with
  | none => Dn
  | some i => { nx := fun σ H => Dn.nx (σ.set i none) H, rt := Dn.rt, bk := fun σ H => Dn.bk (σ.set i none) H, ct := fun σ H => Dn.ct (σ.set i none) H }
def setAt (o : Option Nat) (σ : St) (a : Addr) : St := match o with
  | none => σ
  | some i => σ.set i (some (.ref a))
def wMix (K : PySem.W.Frag) (Wo : WX) (Dn : Ends) : List Clause -> WX
  | [] => Wo
  | (c, o, ts) :: r => fun cl d σ H => ∃ b, PySem.W.exmOne K cl c = some b /\ (b = true -> ∀ a, H a = none -> ts a cl d (endsAt o Dn) (setAt o σ a) H) /\ (b = false -> wMix K Wo Dn r cl d σ H)
abbrev SuiteOk (X : Cx) (su : List Stmt) (ts : Addr -> Value -> Option Addr -> TS) : Prop := ∀ (a : Addr) (oe : Obj) (cl : Value) (d : Option Addr) (pn : List (Addr × Obj)), Zc cl d oe -> (∃ vs, oe.data = .fields vs) -> PSs (X.suite a ((a, oe) :: pn)) su (ts a cl d)
inductive Mix (X : Cx) : List ExceptHandler -> List Clause -> Prop
  | nil : Mix X [] []
  | only {x : Str} {c : Value} {ts : Addr -> Value -> Option Addr -> TS} {st : Stmt} {su : List Stmt} {np hp : Pos} {hs : List ExceptHandler} {l : List Clause} (hc : Names X x c) (h : SuiteOk X (st :: su) ts) (r : Mix X hs l) : Mix X (.ExceptHandler (some (.Name x np)) none (st :: su) hp :: hs) ((c, none, ts) :: l)
  | as {x n : Str} {i : Nat} {c : Value} {ts : Addr -> Value -> Option Addr -> TS} {st : Stmt} {su : List Stmt} {np hp : Pos} {hs : List ExceptHandler} {l : List Clause} (hN : X.N.Nodup) (hi : X.N[i]? = some n) (hn : X.env.kindOf n = some .local) (hc : Names X x c) (h : SuiteOk X (st :: su) ts) (r : Mix X hs l) :
      Mix X (.ExceptHandler (some (.Name x np)) (some n) (st :: su) hp :: hs) ((c, some i, ts) :: l)
section
variable {X : Cx} {body : List Stmt} {hd0 : ExceptHandler} {hds : List ExceptHandler} {l : List Clause} {pos : Pos} {tb : WX -> TS} {Wo : WX}
theorem sp_back {pins : List (Addr × Obj)} {pn : List (Addr × Obj)} {xe : Value -> Shared -> Prop} {Dn : Ends} {s0 : Shared} {σ0 : St} {H0 : Hp} (I0 : Inv X pins σ0 H0 s0) {fl : Flow} {s : Shared} (h : SP (X.tr pn xe) [] Dn fl s) (hp : pn = X.pn ++ pins) : SP X pins Dn fl s := by
  subst hp
  cases fl with
  | ret u => exact let ⟨v, σ, H, J, r, q⟩ := h; ⟨v, σ, H, J.ofTry I0.ok, r, q⟩
  | _ => exact let ⟨σ, H, J, q⟩ := h; ⟨σ, H, J.ofTry I0.ok, q⟩
theorem mix_go {pins : List (Addr × Obj)} {Dn : Ends} {a : Addr} {B h3 : Heap} {s1 sI : Shared} {σ1 : St} {H1 : Hp} {cl : Value} {d : Option Addr} (hst : X.stack = X.env :: X.outer) (hfr : X.env.frame = some X.env.locals) (tk : Takes X Wo)
    (J : Inv X pins σ1 H1 sI) (nb : ∀ b o, sI.heap.get? b = some o -> b ∉ frs X.stack -> B.get? b = some o) (up : sI.heap.UpToSlots h3) (fl : HandSPX.FlyingZ B (X.env :: X.outer) a (Zc cl d) h3) (na : H1 a = none) (os : s1.os = sI.os) (ag : PyProof.Rows.AllBare s1.gens)
    (hk : Mix X hds l) (w : wMix X.K Wo Dn l cl d σ1 H1) : wpAny (model X.prog X.w) X.A (handleBy (.ref a) X.env hds) (SP X pins Dn) X.xe { s1 with heap := h3 } := by
  have ok := J.ok
  have land : ∀ {h4 : Heap}, HandSPX.FlyingZ B (X.env :: X.outer) a (Zc cl d) h4 -> sI.heap.UpToSlots h4 -> ∃ oe, Zc cl d oe /\ (∃ vs, oe.data = .fields vs) /\ h4.get? a = some oe /\ Inv X pins σ1 H1 { s1 with heap := h4 } /\ Inv (X.suite a ((a, oe) :: (X.pn ++ pins))) [] σ1 H1 { s1 with heap := h4 } := fun {h4} fl4 up4 => by
    have J4 : Inv X pins σ1 H1 { s1 with heap := h4 } := J.landed nb fl4.1 up4 os ag
    obtain ⟨oe, vs, e1, e2, e3⟩ := fl4.there
    have out : a ∉ frs (X.env :: X.outer) := fun hm => by
      obtain ⟨_, o', e', no⟩ := fl4.2.2.1.mem hm
      rw [e1] at e'
      cases e'
      exact no vs e3
    have nL : a ≠ X.env.locals := fun z => out (List.mem_filterMap.mpr ⟨X.env, List.mem_cons_self, by rw [hfr, z]⟩)
    have nF : a ∉ X.fs := fun hm => by
      obtain ⟨e, he, q⟩ := List.mem_filterMap.mp hm
      exact out (List.mem_filterMap.mpr ⟨e, List.mem_cons_of_mem _ he, q⟩)
    exact ⟨oe, e2, ⟨vs, e3⟩, e1, J4, J4.suite e1 e3 na nL nF⟩
  have ask : ∀ {x : Str} {c : Value} {np : Pos} {b : Bool} {Q : Bool -> Shared -> Prop} {E : Value -> Shared -> Prop}, Names X x c -> PySem.W.exmOne X.K cl c = some b -> Q b { s1 with heap := h3 } ->
      wpAny (model X.prog X.w) (X.A.mark (some (.ref a))) (eval (.Name x np) X.env) (fun v s => wpAny (model X.prog X.w) (X.A.mark (some (.ref a))) (excMatches (.ref a) v) Q E s) E { s1 with heap := h3 } := fun {x c np b Q E} hc hb q => by
    obtain ⟨oe, z1, z2, z3, J3, S3⟩ := land fl up
    have LT : PySem.W.Looks (model X.prog X.w) h3 (typeOf (.ref a)) cl := fun A Q E s k q => wpAny_typeOf_ref (k _ _ z3) (by rw [z1.1]; exact q)
    have yes : wpAny (model X.prog X.w) (X.A.mark (some (.ref a))) (excMatches (.ref a) c) Q E { s1 with heap := h3 } := (PySem.W.exm_one (M := model X.prog X.w) J3.kIn LT hb).here q
    obtain ⟨hg, hdb, hm | ⟨hm, hv, hnn⟩⟩ := hc
    · exact ld_glob (X := X.suite a ((a, oe) :: (X.pn ++ pins))) S3 hg hm yes hdb
    · exact ld_blt (X := X.suite a ((a, oe) :: (X.pn ++ pins))) S3 hg hm hv yes hnn hdb
  induction hk with
  | nil =>
    refine wpAny_handleBy_nil ?_
    obtain ⟨_, _, _, oe, vs, T, oT, ts', he, hz, hd, h1, _⟩ := id fl
    have last : wpAny (model X.prog X.w) X.A (setFlight (.ref a) X.env.frame) (fun _ s4 => wpAny (model X.prog X.w) X.A (throw (.ref a) : Sem Flow) (SP X pins Dn) X.xe s4) X.xe { s1 with heap := h3 } := by
      rw [hfr]
      exact HandSPX.setFlight_upZ fl fun h4 held up4 => wpAny_throw (tk _ _ ⟨a, B, sI, pins, σ1, H1, cl, d, rfl, J, nb, up.trans up4, .inr (.inr (by rw [hst]; exact held)), na, os, ag, w⟩)
    unfold PySem.passOn
    refine wpAny_bind (wpAny_field he hd h1 ?_)
    rw [if_neg (by simp)]
    first | exact wpAny_bind (wpAny_pure (wpAny_bind last)) | exact wpAny_bind last
  | @only x c ts st su np hp hs l hc hsu r ih =>
    obtain ⟨b, hb, hyes, hno⟩ := w
    refine wpAny_handleBy_cons (codeAny_handlers_test ?_) (by intro q; cases q)
    refine ask hc hb ?_
    cases b with
    | false => exact ih (hno rfl)
    | true =>
      refine codeAny_handlers_suite (HandSPX.lands_againZ fl fun h4 fl4 up4 => ?_)
      obtain ⟨oe, z1, z2, z3, J4, S4⟩ := land fl4 (up.trans up4)
      refine wpAny_mono ((hsu a oe cl d (X.pn ++ pins) z1 z2).run [] _ _ H1 _ S4 (hyes rfl a na)) (fun f s6 hsp => ?_) (fun _ _ z => False.elim z)
      cases f with
      | ret u => exact let ⟨v, σ, H, S6, r6, q⟩ := hsp; ⟨v, σ, H, S6.unsuite ok, r6, q⟩
      | _ => exact let ⟨σ, H, S6, q⟩ := hsp; ⟨σ, H, S6.unsuite ok, q⟩
  | @as x n i c ts st su np hp hs l hN hi hn hc hsu r ih =>
    obtain ⟨b, hb, hyes, hno⟩ := w
    refine wpAny_handleBy_cons (codeAny_handlers_test ?_) (by intro q; cases q)
    refine ask hc hb ?_
    cases b with
    | false => exact ih (hno rfl)
    | true =>
      refine codeAny_handlers_suite_as (HandSPX.lands_againZ fl fun h4 fl4 up4 => ?_)
      obtain ⟨oe, z1, z2, z3, J4, S4⟩ := land fl4 (up.trans up4)
      refine store_ok (X := X.suite a ((a, oe) :: (X.pn ++ pins))) (v := .ref a) S4 hN hi (.inl hn) rfl (fun s5 S5 => ?_) (.inr hn)
      refine wpAny_mono ((hsu a oe cl d (X.pn ++ pins) z1 z2).run [] s5 _ H1 _ S5 (hyes rfl a na)) (fun f s6 hsp => ?_) (fun _ _ z => False.elim z)
      have off : ∀ {σ6 : St} {H6 : Hp} {Q : Shared -> Prop}, Inv (X.suite a ((a, oe) :: (X.pn ++ pins))) [] σ6 H6 s6 -> (∀ s7, Inv X pins (σ6.set i none) H6 s7 -> Q s7) ->
          wpAny (model X.prog X.w) X.A (do bindName X.env n .none; unbindBehindTheSuite X.env n hp) (fun _ s7 => Q s7) X.xe s6 := fun {σ6 H6 Q} S6 hq => gone_ok (S6.unsuite ok) hN hi hn hq
      cases f with
      | ret u => exact let ⟨v, σ, H, S6, r6, q⟩ := hsp; off S6 fun s7 J7 => ⟨v, _, H, J7, r6, q⟩
      | _ => exact let ⟨σ, H, S6, q⟩ := hsp; off S6 fun s7 J7 => ⟨_, H, J7, q⟩
theorem ps_try_mix (hst : X.stack = X.env :: X.outer) (hfr : X.env.frame = some X.env.locals) (tk : Takes X Wo)
    (hb : ∀ (W : WX) (pn : List (Addr × Obj)) (xe : Value -> Shared -> Prop), Takes (X.tr pn xe) W -> PassesOwn (model X.prog X.w) X.A X.env xe -> PSs (X.tr pn xe) body (tb W))
    (hk : Mix X (hd0 :: hds) l) : PS X (.Try body (hd0 :: hds) [] [] pos) (fun Dn σ H => tb (wMix X.K Wo Dn l) Dn σ H) := by
  refine ⟨fun pins s σ H Dn I h => wpAny_Try_except ?_⟩
  have frs_ : X.A.frames = some (X.env :: X.outer) := by rw [I.ok.frames, hst]
  refine wpAny_mono ((hb (wMix X.K Wo Dn l) (X.pn ++ pins) (fun e s₁ => wpAny (model X.prog X.w) X.A (noteFrame e X.env) (fun _ s₂ => wpAny (model X.prog X.w) X.A (setFlight e none) (fun _ s₃ =>
    wpAny (model X.prog X.w) X.A (handleBy e X.env (hd0 :: hds)) (SP X pins Dn) X.xe s₃) X.xe s₂) X.xe s₁) (fun u s1 xx => ?_) PassesOwn.looking).run [] s σ H Dn (I.toTry _) h) (fun f s1 hsp => ?_) (fun e s1 he => he)
  · obtain ⟨a, B, sI, pins', σ1, H1, cl, d, rfl, J', nb, up, sky, na, os, ag, w⟩ := xx
    have sky1 : Sky B (X.env :: X.outer) a (Zc cl d) X.env.locals s1.heap := by rw [<- hst]; exact sky
    show wpAny (model X.prog X.w) X.A (noteFrame (.ref a) X.env) _ _ _
    exact Sky.land Zc.steady frs_ hfr sky1 fun h3 fl3 up3 => mix_go hst hfr tk (J'.ofTry I.ok) nb (up.trans up3) fl3 na os ag hk w
  · have z := sp_back I hsp rfl
    cases f with
    | next => exact wpAny_execs_nil z
    | _ => exact z
end
end DL
set_option Elab.async false
set_option linter.all false
set_option maxRecDepth 100000
set_option maxHeartbeats 4000000
set_option autoImplicit false
namespace DL
open PySem L2
structure DClause where
  k : Nat
  slot : Option Nat
  su : D -> DTS
def endsD (o : Option Nat) (E : DEnds) : DEnds := match o with
  | none => { E with ex := noX }
  | some i => { nx := fun ρ M => E.nx (ρ.set i none) M, rt := E.rt, bk := fun ρ M => E.bk (ρ.set i none) M, ct := fun ρ M => E.ct (ρ.set i none) M, ex := noX }
def setD (o : Option Nat) (ρ : DL.Env) (x : D) : DL.Env := match o with
  | none => ρ
  | some i => ρ.set i (some x)
def mtT (tb : List ((Nat × Nat) × Bool)) (c k : Nat) : Option Bool := tb.lookup (c, k)
def dHandle (tb : List ((Nat × Nat) × Bool)) : List DClause -> DEnds -> DX
  | [], E => E.ex
  | q :: r, E => fun c ns ds ρ M => ∃ b, mtT tb c q.k = some b /\ (b = true -> ∀ a dd, M a = none -> q.su (.exc a dd c ns ds) (endsD q.slot E) (setD q.slot ρ (.exc a dd c ns ds)) M) /\ (b = false -> dHandle tb r E c ns ds ρ M)
def dTry (tb : List ((Nat × Nat) × Bool)) (t : DTS) (qs : List DClause) : DTS := fun E ρ M => t { E with ex := fun c ns ds ρ' M' => ns ≠ [] /\ dHandle tb qs E c ns ds ρ' M' } ρ M
def MtOk (K : PySem.W.Frag) (cl : Nat -> Addr) (tb : List ((Nat × Nat) × Bool)) : Prop := ∀ c k b, mtT tb c k = some b -> PySem.W.exmOne K (.ref (cl c)) (.ref (cl k)) = some b
def XOk (cl : ClW) (x : D) (a : Addr) (cls : Value) (d : Option Addr) : Prop := ∃ dd c ns ds, x = .exc a dd c ns ds /\ d = some dd /\ cls = .ref (cl c)
section
variable {cl : ClW} {X : Cx} {W : WX}
theorem pss_ex {α : Type} {p : α -> Prop} {st : List Stmt} {t : α -> TS} (h : ∀ x, p x -> PSs X st (t x)) : PSs X st (fun D σ H => ∃ x, p x /\ t x D σ H) := ⟨fun pins s σ H D I ⟨x, hx, q⟩ => (h x hx).run pins s σ H D I q⟩
inductive DMix (cl : ClW) (X : Cx) : List ExceptHandler -> List DClause -> Prop
  | nil : DMix cl X [] []
  | only {x : Str} {k : Nat} {su : D -> DTS} {st : Stmt} {ss : List Stmt} {np hp : Pos} {hs : List ExceptHandler} {l : List DClause} (hc : Names X x (.ref (cl k)))
      (h : ∀ (x : D) (a : Addr) (oe : Obj) (cls : Value) (d : Option Addr) (pn : List (Addr × Obj)), XOk cl x a cls d -> Zc cls d oe -> (∃ vs, oe.data = .fields vs) -> DSs cl (X.suite a ((a, oe) :: pn)) W0 (st :: ss) (su x)) (r : DMix cl X hs l) :
      DMix cl X (.ExceptHandler (some (.Name x np)) none (st :: ss) hp :: hs) (⟨k, none, su⟩ :: l)
  | as {x n : Str} {i k : Nat} {su : D -> DTS} {st : Stmt} {ss : List Stmt} {np hp : Pos} {hs : List ExceptHandler} {l : List DClause} (hN : X.N.Nodup) (hi : X.N[i]? = some n) (hn : X.env.kindOf n = some .local) (hc : Names X x (.ref (cl k)))
      (h : ∀ (x : D) (a : Addr) (oe : Obj) (cls : Value) (d : Option Addr) (pn : List (Addr × Obj)), XOk cl x a cls d -> Zc cls d oe -> (∃ vs, oe.data = .fields vs) -> DSs cl (X.suite a ((a, oe) :: pn)) W0 (st :: ss) (su x)) (r : DMix cl X hs l) :
      DMix cl X (.ExceptHandler (some (.Name x np)) (some n) (st :: ss) hp :: hs) (⟨k, some i, su⟩ :: l)
def tsOf (K : PySem.W.Frag) (cl : ClW) (su : D -> DTS) : Addr -> Value -> Option Addr -> TS := fun a cls d Dn σ H => ∃ x, XOk cl x a cls d /\ lowS K cl W0 (su x) Dn σ H
def clOf (K : PySem.W.Frag) (cl : ClW) (q : DClause) : Clause := (.ref (cl q.k), q.slot, tsOf K cl q.su)
theorem DMix.mix {hs : List ExceptHandler} {l : List DClause} (h : DMix cl X hs l) : Mix X hs (l.map (clOf X.K cl)) := by
  induction h with
  | nil => exact .nil
  | only hc h r ih => exact .only hc (fun a oe cls d pn hz hf => pss_ex (p := fun x => XOk cl x a cls d) fun x hx => (h x a oe cls d pn hx hz hf).pss) ih
  | as hN hi hn hc h r ih => exact .as hN hi hn hc (fun a oe cls d pn hz hf => pss_ex (p := fun x => XOk cl x a cls d) fun x hx => (h x a oe cls d pn hx hz hf).pss) ih
theorem ends_ok {F : Hp} {Dn : Ends} {E : DEnds} (o : Option Nat) (ok : EndsOk X.K cl W F Dn E) : EndsOk X.K cl W0 F (endsAt o Dn) (endsD o E) := by
  have wx : WOk X.K cl W0 F noX := wok0
  cases o with
  | none => exact ⟨ok.nx, ok.rt, ok.bk, ok.ct, wx⟩
  | some i => exact ⟨fun σ H F' ρ M sm g s q => ok.nx _ H F' _ M sm g (s.setN i) q, ok.rt, fun σ H F' ρ M sm g s q => ok.bk _ H F' _ M sm g (s.setN i) q, fun σ H F' ρ M sm g s q => ok.ct _ H F' _ M sm g (s.setN i) q, wx⟩
theorem mix_ok {tb : List ((Nat × Nat) × Bool)} (mt : MtOk X.K cl tb) {Dn : Ends} {E : DEnds} {F : Hp} (ok : EndsOk X.K cl W F Dn E) : ∀ (l : List DClause), WOk X.K cl (wMix X.K W Dn (l.map (clOf X.K cl))) F (fun c ns ds ρ M => ns ≠ [] /\ dHandle tb l E c ns ds ρ M)
  | [] => fun c ns ds σ H F' ρ M dd sm g s ea ⟨_, q⟩ => ok.ex c ns ds σ H F' ρ M dd sm g s ea q
  | q :: r => fun c ns ds σ H F' ρ M dd sm g s ea ⟨hn, b, e1, e2, e3⟩ => by
    refine ⟨b, mt _ _ _ e1, fun hb a ha => ?_, fun hb => mix_ok mt ok r c ns ds σ H F' ρ M dd sm g s ea ⟨hn, e3 hb⟩⟩
    rcases ea with ⟨_, z, _⟩ | ⟨d, vs, rfl, h1, h2, h3⟩
    · exact absurd z hn
    refine ⟨.exc a d c ns ds, ⟨d, c, ns, ds, rfl, rfl, rfl⟩, F', setD q.slot ρ (.exc a d c ns ds), M, endsD q.slot E, g, ?_, e2 hb a d (g.freshM ha), ends_ok q.slot (ok.mono sm)⟩
    cases ho : q.slot with
    | none => exact s
    | some i => exact s.set i (.exc h1 h2 h3)
theorem ds_try {tb : List ((Nat × Nat) × Bool)} {body : List Stmt} {hd0 : ExceptHandler} {hds : List ExceptHandler} {qs : List DClause} {t : DTS} {pos : Pos} {k : Nat} (cp : Cap X W k) (mt : MtOk X.K cl tb) (hst : X.stack = X.env :: X.outer) (hfr : X.env.frame = some X.env.locals)
    (hb : ∀ (W' : WX) (pn : List (Addr × Obj)) (xe : Value -> Shared -> Prop), Cap (X.tr pn xe) W' k -> DSs cl (X.tr pn xe) W' body t) (hk : DMix cl X (hd0 :: hds) qs) : DS cl X W (.Try body (hd0 :: hds) [] [] pos) (dTry tb t qs) :=
  ⟨ps_imp (ps_try_mix (tb := fun W' => lowS X.K cl W' t) hst hfr cp.tk (fun W' pn xe tk po => (hb W' pn xe ⟨tk, cp.hr, po, cp.calm⟩).pss) hk.mix) fun Dn σ H ⟨F, ρ, M, E, g, s, q, ok⟩ =>
    ⟨F, ρ, M, _, g, s, q, ⟨ok.nx, ok.rt, ok.bk, ok.ct, mix_ok mt ok qs⟩⟩⟩
end
end DL
set_option Elab.async false
set_option linter.all false
set_option maxRecDepth 100000
set_option maxHeartbeats 4000000
set_option autoImplicit false
namespace DL
open PySem L2
structure CapS (A : Around) : Prop where
  un : A.units + 200 < cLine
  gd : A.guards = some []
section
variable {X : Cx}
end
def excF (cs : List Nat) (f : Str) : D -> Option D
  | .exc _ _ c ns ds => if c ∈ cs then lookN f ns ds else none
  | _ => none
@[simp] def dXf (cs : List Nat) (f : Str) (x : D) (τ : DTE) : DTE := fun ρ M Q X => τ ρ M (fun d M1 => d = x /\ ∃ v, excF cs f x = some v /\ Q v M1) X
def XfOk (K : PySem.W.Frag) (cl : Nat -> Addr) (cs : List Nat) (f : Str) : Prop := ∀ c ∈ cs, XfC K (cl c) /\ PySem.W.findIn K (.ref (cl c)) f = some none
def xfOkB (K : PySem.W.Frag) (cl : Nat -> Addr) (cs : List Nat) (f : Str) : Bool := cs.all fun c => xfB K (cl c) && He.eqO (PySem.W.findIn K (.ref (cl c)) f) (some none)
theorem xfOkB_ok {K : PySem.W.Frag} {cl : Nat -> Addr} {cs : List Nat} {f : Str} (h : xfOkB K cl cs f = true) : XfOk K cl cs f := fun c hc => by
  obtain ⟨h1, h2⟩ := and2 (List.all_eq_true.mp h c hc)
  exact ⟨xfB_ok h1, He.eqO_ok h2⟩
section
variable {cl : ClW} {X : Cx} {a : Addr} {oe : Obj} {cls : Value} {d : Option Addr} {pn : List (Addr × Obj)} {x : D} {e : Expr} {τ : DTE} {f : Str} {cs : List Nat} {pos : Pos}
theorem d_xf (T : XfOk X.K cl cs f) (hx : XOk cl x a cls d) (hz : Zc cls d oe) (hf : ∃ vs, oe.data = .fields vs) (he : DE cl (X.suite a ((a, oe) :: pn)) W0 e τ) (hb : attributeBase e f X.env (eval e X.env) = eval e X.env := by rfl) :
    DE cl (X.suite a ((a, oe) :: pn)) W0 (.Attribute e f pos) (dXf cs f x τ) := by
  obtain ⟨dd, c, ns, ds, rfl, rfl, rfl⟩ := hx
  by_cases hc : c ∈ cs
  · obtain ⟨t1, t2⟩ := T c hc
    refine ⟨pe_imp (pe_xf t1 t2 hz hf he.pe hb) fun σ H Q ⟨F, ρ, M, Qd, Xd, g, s, q, p, w⟩ => ⟨F, ρ, M, _, Xd, g, s, q, fun v H1 F1 d1 M1 sm g1 r1 ⟨e1, v2, e2, q1⟩ => ?_, w⟩⟩
    subst e1
    cases r1 with
    | @exc _ _ _ _ vs _ h1 h2 h3 =>
      rw [excF, if_pos hc] at e2
      obtain ⟨y, y1, y2⟩ := reps_lookN h3 e2
      exact ⟨rfl, rfl, dd, _, y, rfl, g1.sub _ _ h1, by rw [lookN_zip]; exact y1, p _ _ _ _ _ sm g1 y2 q1⟩
  · refine ⟨⟨fun pins s σ H Q I ⟨F, ρ, M, Qd, Xd, g, sl, q, p, w⟩ => attr_of hb (thn (he.pe.run pins s σ H (fun _ _ => False) I ⟨F, ρ, M, _, Xd, g, sl, q, fun v H1 F1 d1 M1 sm g1 r1 ⟨e1, v2, e2, q1⟩ => ?_, w⟩) fun u s1 ⟨_, _, _, _, h⟩ => h.elim)⟩⟩
    rw [excF, if_neg hc] at e2
    cases e2
end
def oexB (K : PySem.W.Frag) (C : Addr) : Bool := (match K.lookup C with
  | some ⟨.type "type", _, .cls cd, sl⟩ => (match cd.mro, sl.toList with
    | .ref C' :: bm, [_, _, _, _, some (.builtin n), _] => decide (C' = C) && (decide (n = "ValueError.__new__") && (!cd.hasDel && (cd.hasDict && PySem.HandSPX.refsVE bm)))
    | _, _ => false)
  | _ => false) && (He.eqO (PySem.W.findIn K (.ref C) "__setattr__") (some (some (.builtin "object.__setattr__"))) && ((PySem.W.subIn K (.ref C) (.type "BaseException") == some true) && ((PySem.W.typeIn K (.ref C) == some (.type "type")) && PySem.W.keepIn K (.ref C))))
theorem oexB_ok {K : PySem.W.Frag} {C : Addr} (h : oexB K C = true) : OexC K C := by
  obtain ⟨h0, h⟩ := and2 h
  obtain ⟨h1, h⟩ := and2 h
  obtain ⟨h2, h⟩ := and2 h
  obtain ⟨h3, h4⟩ := and2 h
  refine ⟨?_, He.eqO_ok h1, beq_iff_eq.mp h2, beq_iff_eq.mp h3, h4⟩
  split at h0
  · rename_i dd cd sl ho
    split at h0
    · rename_i C' bm k0 k1 k2 k3 n k5 hm hs
      obtain ⟨g1, h0⟩ := and2 h0
      obtain ⟨g2, h0⟩ := and2 h0
      obtain ⟨g3, h0⟩ := and2 h0
      obtain ⟨g4, g5⟩ := and2 h0
      have e1 := of_decide_eq_true g1
      have e2 := of_decide_eq_true g2
      have e3 : cd.hasDel = false := by simpa using g3
      subst e1 e2
      obtain ⟨nm, bs, mro, ns, qn, hd, sn, sb, ab, col, del⟩ := cd
      dsimp only at hm e3 g4
      subst hm e3 g4
      have hsl : sl = #[k0, k1, k2, k3, some (.builtin "ValueError.__new__"), k5] := by
        cases sl
        dsimp only at hs
        rw [hs]
      subst hsl
      exact ⟨nm, qn, ns, bs, bm, sn, sb, ab, col, dd, k0, k1, k2, k3, k5, ho, g5⟩
    · cases h0
  · cases h0
def xnB (K : PySem.W.Frag) (C : Addr) (fI : Addr) (fs : List Str) : Bool := He.eqO (PySem.W.findIn K (.ref C) "__init__") (some (some (.ref fI))) && ((PySem.W.typeIn K (.ref fI) == some (.type "function")) && (fs.all fun f => He.eqO (PySem.W.findIn K (.ref C) f) (some none)))
theorem xnB_ok {K : PySem.W.Frag} {C fI : Addr} {fs : List Str} (h : xnB K C fI fs = true) : PySem.W.findIn K (.ref C) "__init__" = some (some (.ref fI)) /\ PySem.W.typeIn K (.ref fI) = some (.type "function") /\ ∀ f ∈ fs, PySem.W.findIn K (.ref C) f = some none := by
  obtain ⟨h1, h⟩ := and2 h
  obtain ⟨h2, h3⟩ := and2 h
  exact ⟨He.eqO_ok h1, beq_iff_eq.mp h2, fun f hf => He.eqO_ok (List.all_eq_true.mp h3 f hf)⟩
section
variable {K : PySem.W.Frag} {cl : ClW}
def mtB (K : PySem.W.Frag) (cl : Nat -> Addr) (tb : List ((Nat × Nat) × Bool)) : Bool := tb.all fun p => PySem.W.exmOne K (.ref (cl p.1.1)) (.ref (cl p.1.2)) == some p.2
theorem mtB_ok {cl : Nat -> Addr} {tb : List ((Nat × Nat) × Bool)} (h : mtB K cl tb = true) : MtOk K cl tb := by
  intro c k b e
  induction tb with
  | nil => cases e
  | cons p r ih =>
    obtain ⟨⟨c0, k0⟩, b0⟩ := p
    unfold mtB at h
    rw [List.all_cons] at h
    obtain ⟨h1, h2⟩ := and2 h
    by_cases hc : (c, k) = (c0, k0)
    · cases hc
      unfold mtT at e
      rw [List.lookup, beq_self_eq_true] at e
      cases e
      exact beq_iff_eq.mp h1
    · have : ((c, k) == (c0, k0)) = false := beq_false_of_ne hc
      unfold mtT at e ih
      rw [List.lookup, this] at e
      exact ih h2 e
end
end DL
set_option Elab.async false
set_option linter.all false
set_option maxRecDepth 100000
set_option maxHeartbeats 4000000
namespace DL
open PySem L2
section
variable {cl : ClW} {X : Cx} {W : WX} {elt tg iter : Expr} {ifs : List Expr} {scope : Scope} {own : List (Str × Nat)} {pos : Pos} {ι : DTI} {is : List Nat} {γ : DTG} {υ : DTT} {τ : DTE}
end
section
variable {cl : ClW} {X : Cx} {W : WX} {st : Stmt} {t : DTS}
end
end DL
set_option Elab.async false
set_option linter.all false
set_option maxRecDepth 100000
set_option maxHeartbeats 4000000
set_option autoImplicit false
namespace DL
open PySem L2
theorem meets_enum1 {v : Value} {o : Obj} {H : Heap -> Prop} (B : Begins v o H) :
    Meets (Builtin.«enumerate.__new__» ⟨[.type "enumerate", v], []⟩) (fun _ R s => H s.heap /\
      R (.ok (.ret (.ref (s.heap.push o).objs.size))) { s with heap := (s.heap.push o).push { cls := .type "enumerate", data := .fields #[.none, .bool false, .ref s.heap.objs.size, rawInt 0, .none, .none] } }) :=
  .of_wp fun prog w A R s ⟨h1, h⟩ => by
    obtain ⟨hp, g, d, tk, os⟩ := s
    have sb := sub_enumerate
    have q1 : ∀ {A' : Around} {E : Value -> Shared -> Prop} {Q : Value -> Shared -> Prop}, Q (.ref hp.objs.size) ⟨hp.push o, g, d, tk, os⟩ -> wpAny (model prog w) A' (pyIter v) Q E ⟨hp, g, d, tk, os⟩ :=
      fun q => B.iter prog w _ _ ⟨hp, g, d, tk, os⟩ _ h1 q
    wp_walk using q1
    refine wpAny_stack_any fun st => wpAny_pure ?_
    split
    · rename_i c _ _ _ _ _
      cases (c == Value.type "enumerate")
      · wp_walk using q1
        exact ⟨_, rfl, h⟩
      · wp_walk using q1
        exact ⟨_, rfl, h⟩
    · wp_walk using q1
      exact ⟨_, rfl, h⟩
section
variable {prog : Program} {w : World} {A : Around} {E : Value -> Shared -> Prop} {s : Shared}
theorem call_enum1 {v : Value} {o : Obj} {H : Heap -> Prop} {Q : Value -> Shared -> Prop} (B : Begins v o H) (h1 : H s.heap)
    (h : ∀ h', IsEnum h' (s.heap.objs.size + 1) s.heap.objs.size 0 .none -> h'.get? s.heap.objs.size = some o -> (∀ b o, s.heap.get? b = some o -> h'.get? b = some o) -> Q (.ref (s.heap.objs.size + 1)) { s with heap := h' }) :
    wpAny (model prog w) A (call (.type "enumerate") [v]) Q E s := by
  refine callType_new F.called_enumerate (by decide) (F.typeCall_enumerate_1 _) (F.newCall_enumerate_1 _) (fun obj => F.args_object_init_2 obj _) F.entry_enumerate_new (meets_enum1 B) ⟨h1, ?_⟩
  have hz : (s.heap.push o).objs.size = s.heap.objs.size + 1 := Heap.size_push ..
  show _ /\ _
  rw [hz]
  have at1 := Heap.get?_push_size (s.heap.push o) (o := { cls := .type "enumerate", data := .fields #[.none, .bool false, .ref s.heap.objs.size, rawInt 0, .none, .none] }) rfl
  rw [hz] at at1
  exact ⟨⟨_, at1, rfl⟩, h _ at1 (Heap.get?_push_of_some _ (Heap.get?_push_size _ B.free)) fun b o x => Heap.get?_push_of_some _ (Heap.get?_push_of_some _ x)⟩
end
def IteT (K : PySem.W.Frag) (a : Addr) : It :=
  ⟨fun i H => ∃ (xs : List V) (x : V), SqT K H a xs /\ xs[i]? = some x, fun i H v H' => ∃ T x, v = .ref T /\ H T = none /\ H' = upd H T (.tup [.int (i : Nat), x]) /\ ∀ xs, SqT K H a xs -> xs[i]? = some x, fun i H => ∃ xs : List V, SqT K H a xs /\ xs.length <= i⟩
theorem turn_enumT {P : Program} {w : World} {K : PySem.W.Frag} {elts : List Expr} {kk : Nat} {tpos : Pos} (a e it : Addr) :
    Turn P w K (.Tuple elts kk tpos) (IteT K a) [e, it] e (fun i h => (∃ old, IsEnum h e it ((i : Nat) : Int) old) /\ h.IsTupleIter it a i /\ e ≠ it) where
  mem := by simp
  obj := fun i h ⟨⟨old, he⟩, ⟨o, ho, hc, hd⟩, _⟩ b hb => by
    rcases List.mem_cons.mp hb with rfl | hb
    · exact ⟨_, he, fun v q => nomatch q⟩
    · rw [List.mem_singleton.mp hb]
      exact ⟨o, ho, fun v q => by rw [hd] at q; cases q⟩
  keep := fun i h h' ⟨⟨old, he⟩, hi, hne⟩ k => ⟨⟨old, k e (by simp) _ he⟩, hi.at fun o q => k it (by simp) o q, hne⟩
  item := by
    intro X hP hw hK hc i pins s σ H E I hf ⟨⟨old, he⟩, hit, hne⟩ ⟨xs, x, hq, hx⟩
    subst hP hw hK
    obtain ⟨its, rv, p, hz⟩ := I.tuple hq
    obtain ⟨u, hu, ru⟩ := rv.get hx
    have hel : e < s.heap.objs.size := Heap.lt_size he
    have hil : it < s.heap.objs.size := by obtain ⟨_, q, _⟩ := hit; exact Heap.lt_size q
    have nai : a ≠ it := fun z => by
      obtain ⟨o1, e1, c1, _⟩ := p
      obtain ⟨o2, e2, c2, _⟩ := hit
      rw [z, e2] at e1
      cases e1
      rw [c2] at c1
      exact absurd c1 (by simp)
    have nae : e ∉ [it, a] := fun hm => by
      rcases List.mem_cons.mp hm with z | hm
      · exact hne z
      · have z := List.mem_singleton.mp hm
        obtain ⟨o1, e1, c1, _⟩ := p
        rw [<- z, he] at e1
        cases e1
        exact absurd c1 (by simp)
    have hlt : i < its.toArray.size := by simpa using (List.getElem?_eq_some_iff.mp hu).1
    have hh : X.A.in1.handled = none := I.ok.hd hc
    refine wpAny_pyNext_enum_itemD (Draws.tuple hh it a nai its.toArray) he ⟨hit, p⟩ hlt hne nae fun y h' tk hy ho hst hT hsz hk => ?_
    have hyu : y = u := by
      have : its.toArray[i]? = some u := by simpa using hu
      rw [this] at hy
      exact (Option.some.inj hy).symm
    subst hyu
    refine ⟨_, rfl, wpAny_letOwnedTupleGo_enum (s := { s with heap := h', toks := tk + 1 }) ho fun h'' he' sb => ?_⟩
    have hT2 : h''.get? s.heap.objs.size = some { cls := .type "tuple", data := .seq #[.int i tk, y] } := (sb.2 _ (Nat.ne_of_gt hel)).trans hT
    have new : ObjOk X.prog X.w (upd H s.heap.objs.size (.tup [.int (i : Nat), x])) h'' s.heap.objs.size (.tup [.int (i : Nat), x]) :=
      ⟨by show 2 <= sizeLine; decide, [.int i tk, y], .cons ⟨_, rfl⟩ (.cons ru .nil), ⟨_, hT2, rfl, _, rfl⟩⟩
    have I1 : Inv X pins σ (upd H s.heap.objs.size (.tup [.int (i : Nat), x])) { s with heap := h'', toks := tk + 1 } :=
      I.turnedNew (ch := [e, it]) (fun b ob hb q => (sb.2 b (fun z => hb (by simp [z]))).trans (hk b ob (fun z => hb (by simp [z])) (fun z => hb (by simp [z])) q)) hf (Nat.le_refl _) new
    refine ⟨.ref s.heap.objs.size, _, I1, rfl, ⟨_, x, rfl, I.hok.fresh (Nat.le_refl _), rfl, fun ys hy => by rw [I.tuple_inj hy hq]; exact hx⟩, ⟨⟨y, ?_⟩, hst.1.at fun o q => (sb.2 it (Ne.symm hne)).trans q, hne⟩, fun b hb => ?_⟩
    · rw [show ((i + 1 : Nat) : Int) = (i : Int) + 1 by omega]
      exact he'
    · have hlt2 : b < s.heap.objs.size := by
        rcases List.mem_cons.mp hb with rfl | hb
        · exact hel
        · rw [List.mem_singleton.mp hb]; exact hil
      rw [upd_ne (Nat.ne_of_lt hlt2)]
      exact (hf b hb).1
  done := by
    intro X hP hw hK hc i pins s σ H E I hf ⟨⟨old, he⟩, hit, hne⟩ ⟨xs, hq, hx⟩
    subst hP hw hK
    obtain ⟨its, rv, p, hz⟩ := I.tuple hq
    have hl : xs.length = its.length := Paired.length rv
    have hh : X.A.in1.handled = none := I.ok.hd hc
    have D0 : Draws X.prog X.w X.A.in1 it [it, a] i (fun _ _ => True) (fun j h => j = i /\ h.IsTupleIter it a j /\ h.IsTuple a its.toArray) := {
      live := fun _ _ ⟨_, st, _⟩ => let ⟨o, ho, _⟩ := st; ⟨o, ho⟩
      frame := fun _ _ _ ⟨e, s1, s2⟩ hk => ⟨e, s1.at fun o e => hk it (by simp) o e, s2.at fun o e => hk a (by simp) o e⟩
      item := fun j s Q E hj ⟨e, _⟩ _ => absurd e (by omega)
      done := fun s Q E ⟨_, s1, s2⟩ hE => wpAny_nextOf_tuple_end hh s1 s2 (by simp; omega) hE }
    obtain ⟨f0, f1, f2, f3, f4, f5⟩ := hf it (by simp)
    exact wpAny_pyNext_enum_endD D0 he ⟨rfl, hit, p⟩ fun h' eb => ⟨rfl, I.turned (t' := s.toks) (fun b o hb q => eb b o hb q) f0 f1 f3 f4 f5⟩
  self := fun A i s Q E ⟨⟨_, he⟩, _⟩ h => wpAny_pyIter_enum he h
def iEnumT (K : PySem.W.Frag) (ta : TA) : TI := fun σ H R => ta σ H fun vs H1 => (∃ a xs, vs = [.ref a] /\ SqL K H1 a xs /\ R (Ite K a) H1) \/ ∃ a xs, vs = [.ref a] /\ SqT K H1 a xs /\ R (IteT K a) H1
theorem pi_enumT {X : Cx} {e : Expr} {ta : TA} {p pos tpos : Pos} {elts : List Expr} {kk : Nat} (hg : Gl X "enumerate") (hm : X.mg "enumerate" = none) (ha : PA X [e] ta) (hs : starEach [e] X.env = [(false, eval e X.env)] := by rfl) :
    PI X (.Tuple elts kk tpos) (.Call (.Name "enumerate" p) [e] [] pos) (iEnumT X.K ta) := by
  refine ⟨fun pins s σ H R I h => PyProof.Rows.Call_ (ld_blt I hg hm PyProof.Rows.boot_enumerate (PyProof.Rows.callWith_type1 (thn (ha.run pos pins s σ H _ I h) fun us s1 ⟨vs, H1, I1, r1, q1⟩ => ?_) hs rfl))⟩
  have fps : ∀ b ∈ [s1.heap.objs.size + 1, s1.heap.objs.size], FpOk X pins H1 b := fun b hb => by
    have hle : s1.heap.objs.size <= b := by
      rcases List.mem_cons.mp hb with z | hb
      · rw [z]; exact Nat.le_add_right _ _
      · rw [List.mem_singleton.mp hb]; exact Nat.le_refl _
    exact I1.fpOk hle (I1.hok.fresh hle)
  rcases q1 with ⟨a, xs, rfl, hq, q⟩ | ⟨a, xs, rfl, hq, q⟩
  · obtain ⟨u, rfl, ru⟩ := vals1 r1
    obtain rfl : u = Value.ref a := ru
    obtain ⟨its, rv, pl, hz⟩ := I1.list hq
    exact call_enumerate_list pl.isList fun h' e1 e2 hsz hk => wpAny_pyIter_enum e1 ⟨s1.heap.objs.size + 1, [s1.heap.objs.size + 1, s1.heap.objs.size], _, _, H1, rfl, I1.kept (t' := s1.toks) hk, turn_enum a _ _, ⟨⟨.none, e1⟩, e2, Nat.succ_ne_self _⟩, fps, q⟩
  · obtain ⟨u, rfl, ru⟩ := vals1 r1
    obtain rfl : u = Value.ref a := ru
    obtain ⟨its, rv, pl, hz⟩ := I1.tuple hq
    exact call_enum1 (begins_tuple a its.toArray) pl fun h' e1 e2 hk => wpAny_pyIter_enum e1 ⟨s1.heap.objs.size + 1, [s1.heap.objs.size + 1, s1.heap.objs.size], _, _, H1, rfl, I1.kept (t' := s1.toks) hk, turn_enumT a _ _, ⟨⟨.none, e1⟩, ⟨_, e2, rfl, rfl⟩, Nat.succ_ne_self _⟩, fps, q⟩
@[simp] def enD : D -> Option (List D)
  | .lst xs => some xs
  | .tup xs => some xs
  | _ => none
@[simp] def iEnT (τ : DTE) : DTI := fun ρ M R X => τ ρ M (fun d M1 => ∃ xs, enD d = some xs /\ R (xs.zipIdx.map fun p => D.tup [.int (p.2 : Nat), p.1]) M1) X
section
variable {cl : ClW} {X : Cx} {W : WX} {a : Expr} {pos : Pos} {τa : DTE}
theorem di_enumT {elts : List Expr} {kk : Nat} {tpos p : Pos} (hg : Gl X "enumerate") (hm : X.mg "enumerate" = none) (ha : DE cl X W a τa) (hs : starEach [a] X.env = [(false, eval a X.env)] := by rfl) :
    DI cl X W (.Tuple elts kk tpos) (.Call (.Name "enumerate" p) [a] [] pos) (iEnT τa) :=
  ⟨pi_imp (pi_enumT hg hm (da_cons (W := W) (cl := cl) ha da_nil hs).pa hs) fun σ H R ⟨F, ρ, M, Rd, Xd, g, s, q, p, w⟩ =>
    ⟨F, ρ, M, fun ds M1 => ∃ d xs, ds = [d] /\ enD d = some xs /\ Rd (xs.zipIdx.map fun p => D.tup [.int (p.2 : Nat), p.1]) M1, Xd, g, s, (by
      unfold iEnT at q
      unfold dCons dNil
      have same : (fun d M1 => ∃ xs, enD d = some xs /\ Rd (xs.zipIdx.map fun p => D.tup [.int (p.2 : Nat), p.1]) M1) = (fun d M1 => ∃ d' xs, [d] = [d'] /\ enD d' = some xs /\ Rd (xs.zipIdx.map fun p => D.tup [.int (p.2 : Nat), p.1]) M1) := by
        funext d M1
        simp
      rw [same] at q
      exact q), fun vs H' F' ds M' sm g' r ⟨d, xs, e1, e2, q'⟩ => (by
      subst e1
      obtain ⟨v, ws, rfl, r1, r2⟩ := r.inv
      obtain rfl := r2.inv0
      have item : ∀ (us : List V), Reps X.K cl F' us xs -> ∀ (i : Nat) (F2 H2 : Hp) (M2 : Mem), Same F' F2 -> Good X.K cl F2 H2 M2 -> ∀ d0, (xs.zipIdx.map fun p => D.tup [.int (p.2 : Nat), p.1])[i]? = some d0 ->
          ∃ v0, us[i]? = some v0 /\ ∀ (T : Addr) (x0 : V) (H3 : Hp), H2 T = none -> H3 = upd H2 T (.tup [.int (i : Nat), x0]) -> x0 = v0 -> ∃ F3, Same F2 F3 /\ Good X.K cl F3 H3 M2 /\ Rep X.K cl F3 (.ref T) d0 := fun us hu i F2 H2 M2 sm2 g2 d0 hd => by
        rw [List.getElem?_map, List.getElem?_zipIdx] at hd
        cases e3 : xs[i]? with
        | none => rw [e3] at hd; cases hd
        | some d1 =>
          rw [e3] at hd
          cases hd
          obtain ⟨v0, h3, h4⟩ := hu.get e3
          refine ⟨v0, h3, fun T x0 H3 hT eH ex => ?_⟩
          subst eH ex
          have sm3 : Same F2 (upd F2 T (.tup [.int (i : Nat), x0])) := same_new (g2.freshF hT)
          refine ⟨_, sm3, g2.new hT, .tup (SqT1.of upd_same) (.cons ?_ (.one (h4.mono (sm2.trans sm3))))⟩
          simpa using Rep.int (i : Int)
      cases d with
      | lst ys =>
        have ey : ys = xs := by simpa using e2
        subst ey
        obtain ⟨a, us, rfl, h1, h2⟩ := r1.toLst
        refine .inl ⟨a, us, rfl, same_l g'.sub h1, p _ _ F' _ M' sm g' (fun i F2 H2 M2 sm2 g2 => ⟨fun d0 hd => ?_, fun hl => ⟨us, same_l (sm2.trans g2.sub) h1, by rw [h2.length]; simpa using hl⟩⟩) q'⟩
        obtain ⟨v0, h3, h4⟩ := item us h2 i F2 H2 M2 sm2 g2 d0 hd
        refine ⟨⟨us, v0, same_l (sm2.trans g2.sub) h1, h3⟩, fun x H3 ⟨T, x0, ex, hT, eH, hy⟩ => ?_⟩
        subst ex
        have h5 := hy us (same_l (sm2.trans g2.sub) h1)
        rw [h3] at h5
        exact h4 T x0 H3 hT eH (Option.some.inj h5).symm
      | tup ys =>
        have ey : ys = xs := by simpa using e2
        subst ey
        obtain ⟨a, us, rfl, h1, h2⟩ := r1.toTup
        refine .inr ⟨a, us, rfl, same_t g'.sub h1, p _ _ F' _ M' sm g' (fun i F2 H2 M2 sm2 g2 => ⟨fun d0 hd => ?_, fun hl => ⟨us, same_t (sm2.trans g2.sub) h1, by rw [h2.length]; simpa using hl⟩⟩) q'⟩
        obtain ⟨v0, h3, h4⟩ := item us h2 i F2 H2 M2 sm2 g2 d0 hd
        refine ⟨⟨us, v0, same_t (sm2.trans g2.sub) h1, h3⟩, fun x H3 ⟨T, x0, ex, hT, eH, hy⟩ => ?_⟩
        subst ex
        have h5 := hy us (same_t (sm2.trans g2.sub) h1)
        rw [h3] at h5
        exact h4 T x0 H3 hT eH (Option.some.inj h5).symm
      | _ => cases e2), w⟩⟩
end
end DL
set_option Elab.async false
set_option linter.all false
set_option maxRecDepth 100000
set_option maxHeartbeats 4000000
set_option autoImplicit false
namespace DL
open PySem L2
section
variable {P : Program} {w : World} {A : Around} {E : Value -> Shared -> Prop} {s : Shared} {K : PySem.W.Frag} {x C : Addr} {ox od : Obj}
theorem exc_class {Q : Option Value -> Shared -> Prop} (c : ExcC K C) (X : K.In s.heap) (I : PySem.W.InstAt s.heap x ox C (some od)) (q : Q (some (.ref C)) { s with toks := s.toks + 1 }) : wpAny (model P w) A (getAttr? (.ref x) "__class__") Q E s := by
  have hc : (PySem.W.clsIn K C).isSome = true := by obtain ⟨cd, e, _⟩ := PySem.W.any_some c.hd; rw [e]; rfl
  obtain ⟨hp, gs, dr, tk, os⟩ := s
  have T0 := I.type (M := model P w)
  have T3 := PySem.W.looks_find (M := model P w) X I (PySem.W.findObj_data hc c.ha c.hn c.ht)
  have inst : PySem.W.Looks (model P w) hp (isInstance (.ref x) (.type "BaseException")) true := T0.andThen (PySem.W.looks_subIn X c.hs)
  have no1 : (onTheHeap (Value.ref C) && Value.builtin "BaseException.__getattribute__" == Value.builtin "object.__getattribute__") = false := by
    have e : (Value.builtin "BaseException.__getattribute__" == Value.builtin "object.__getattribute__") = false := by decide +kernel
    rw [e]; rfl
  have body : wpAny (model P w) A (call (.builtin "BaseException.__getattribute__") [.ref x, .str "__class__" tk]) (fun v s' => v = .ref C /\ Q (some (.ref C)) s') (fun _ _ => False) ⟨hp, gs, dr, tk + 1, os⟩ := by
    refine wpAny_call (codeAny_call_builtin PySem.F.excAttr_ValueError.ga.plain PySem.F.entry_bexc_ga (@PySem.W.check_slot (model P w) _ _ ⟨hp, gs, dr, tk + 1, os⟩ "BaseException.__getattribute__" "BaseException" "__getattribute__" (.ref x) [.str "__class__" tk] [] _ (by decide +kernel) (by decide +kernel) inst (PySem.F.args_bexc_ga (.ref x) (.str "__class__" tk)) ?_))
    unfold Builtin.«object.__getattribute__»
    refine wpAny_bind (wpAny_of_eq (a := ((Value.ref x : Value), [Value.str "__class__" tk])) (by first | rfl | (simp only [slotArgs]; rfl)) (wpAny_bind (wpAny_pure (wpAny_bind (T0.at (wpAny_bind (T3.at ?_)))))))
    show wpAny _ _ (holding [Value.builtin "object.__class__"] (call (.builtin "getset_descriptor.__get__") [.builtin "object.__class__", .ref x, .ref C]) >>= ret) _ _ _
    exact wpAny_bind (wpAny_holding (wpAny_call (PySem.W.class_get (s := ⟨hp, gs, dr, tk + 1, os⟩) (ox := ox) (od := some od) X I c.hm (wpAny_pure ⟨rfl, q⟩))))
  unfold getAttr? getAttrBy? getAttrBy; refine wpAny_bind (wpAny_mkText (wpAny_bind (wpAny_attempt (wpAny_holding (wpAny_bind (T0.at (wpAny_bind ((PySem.W.looks_findIn (M := model P w) X c.hg).at ?_))))))))
  show wpAny _ _ (if (onTheHeap (Value.ref C) && Value.builtin "BaseException.__getattribute__" == Value.builtin "object.__getattribute__") = true then _ else _) _ _ _
  rw [no1, if_neg Bool.false_ne_true]
  unfold getAttrByItsOwn hookBefore; refine wpAny_bind ?_
  rw [if_pos (show onTheHeap (Value.ref C) = true from rfl)]
  refine (PySem.W.looks_findIn (M := model P w) X c.hk).at (wpAny_bind (wpAny_attempt (wpAny_holding ?_)))
  unfold callGetattribute; rw [show (false && onTheHeap (Value.builtin "BaseException.__getattribute__")) = false from rfl, if_neg Bool.false_ne_true]
  unfold boundAndCalled; rw [PySem.F.excAttr_ValueError.ga.bind (.ref x)]
  refine wpAny_bind (wpAny_pure (wpAny_mono body (fun v s' ⟨e, z⟩ => ?_) fun _ _ e => ?_))
  · subst e
    show wpAny _ _ (handedOut (.ref C)) _ _ _
    rw [PySem.W.handedOut_of (v := .ref C) rfl]
    first | exact wpAny_pure (wpAny_pure z) | exact wpAny_pure z | exact wpAny_pure (wpAny_bind (wpAny_pure (wpAny_pure z)))
  · exact e.elim
theorem kitx_exc (c : ExcC K C) : PySem.W.KitX K (.ref x) (.ref C) (fun h => PySem.W.InstAt h x ox C (some od)) where
  ty := fun _ _ _ I => I.type
  it := fun M h X _ => by
    obtain ⟨cd, hc, _⟩ := PySem.W.any_some c.hd
    unfold PySem.W.clsIn at hc
    split at hc
    · rename_i ho
      intro A' Q' E' s' k q
      exact wpAny_bind (wpAny_loadPart (k _ _ (X _ _ ho)) (wpAny_pure q))
    · cases hc
  ne := fun h tp dd its n sl X htp => by
    obtain ⟨cd, hc, _⟩ := PySem.W.any_some c.hd
    unfold PySem.W.clsIn at hc
    split at hc
    · rename_i ho
      exact beq_false_of_ne fun z => by
        cases z
        have := (X _ _ ho).symm.trans htp
        cases this
    · cases hc
  ca := fun X I k => exc_class c X I k
end
def excCB (K : PySem.W.Frag) (C : Addr) : Bool := xfB K C && tycB K C
theorem excCB_ok {K : PySem.W.Frag} {C : Addr} (h : excCB K C = true) : ExcC K C := by
  obtain ⟨h1, h2⟩ := and2 h
  have x := xfB_ok h1
  obtain ⟨t1, t⟩ := and2 h2
  obtain ⟨t2, t⟩ := and2 t
  obtain ⟨t3, t4⟩ := and2 t
  exact ⟨x.ga, x.gg, x.exC, x.hdC, He.eqO_ok t1, He.eqO_ok t2, beq_iff_eq.mp t3, beq_iff_eq.mp t4⟩
def isxF (tb : List ((Nat × Nat) × Bool)) (x : D) : List D -> Option D
  | [.exc a dd c ns ds, .cls k] => (mtT tb c k).map D.bl
  | _ => none
def IsxOk (K : PySem.W.Frag) (cl : Nat -> Addr) (tb : List ((Nat × Nat) × Bool)) : Prop := ∀ c k b, mtT tb c k = some b -> ExcC K (cl c) /\ PySem.W.kitOne K (.ref (cl c)) (.ref (cl k)) = some b
def isxB (K : PySem.W.Frag) (cl : Nat -> Addr) (tb : List ((Nat × Nat) × Bool)) : Bool := tb.all fun p => excCB K (cl p.1.1) && (PySem.W.kitOne K (.ref (cl p.1.1)) (.ref (cl p.1.2)) == some p.2)
theorem mtT_mem {tb : List ((Nat × Nat) × Bool)} {c k : Nat} {b : Bool} (h : mtT tb c k = some b) : ((c, k), b) ∈ tb := by
  induction tb with
  | nil => cases h
  | cons p r ih =>
    obtain ⟨q, b0⟩ := p
    unfold mtT at h ih
    by_cases hc : (c, k) = q
    · subst hc
      rw [List.lookup, beq_self_eq_true] at h
      cases h
      exact List.mem_cons_self ..
    · rw [List.lookup, beq_false_of_ne hc] at h
      exact List.mem_cons_of_mem _ (ih h)
theorem isxB_ok {K : PySem.W.Frag} {cl : Nat -> Addr} {tb : List ((Nat × Nat) × Bool)} (h : isxB K cl tb = true) : IsxOk K cl tb := fun c k b e => by
  obtain ⟨h1, h2⟩ := and2 (List.all_eq_true.mp h _ (mtT_mem e))
  exact ⟨excCB_ok h1, beq_iff_eq.mp h2⟩
section
variable {cl : ClW} {X : Cx} {a : Addr} {oe : Obj} {cls : Value} {d : Option Addr} {pn : List (Addr × Obj)} {x : D} {tb : List ((Nat × Nat) × Bool)}
def rIsx (K : PySem.W.Frag) (C a dd : Addr) : List V -> Hp -> VK -> Prop := fun xs H Q => ∃ (c : Addr) (b : Bool) (fs : List (Str × V)), xs = [.ref a, .ref c] /\ H dd = some (.xd fs) /\ PySem.W.kitOne K (.ref C) (.ref c) = some b /\ Q (.bl b) H
theorem call_isx {C dd : Addr} (c : ExcC X.K C) (hz : Zc (.ref C) (some dd) oe) (hf : ∃ vs, oe.data = .fields vs) : CallR (X.suite a ((a, oe) :: pn)) (.builtin "isinstance") (rIsx X.K C a dd) := by
  intro pins s σ H xs us Q I r ⟨c', b, fs, e1, e2, e3, q⟩
  subst e1
  obtain ⟨u1, u2, rfl, r1, r2⟩ := vals2 r
  obtain rfl : u1 = Value.ref a := r1
  obtain rfl : u2 = Value.ref c' := r2
  obtain ⟨ha, _⟩ := I.pin (a, oe) (List.mem_append_left _ List.mem_cons_self)
  obtain ⟨vs, hd⟩ := hf
  have hx : ObjOk X.prog X.w H s.heap dd (.xd fs) := I.hok dd _ e2
  obtain ⟨mA, hns, hr⟩ := hx
  obtain ⟨od, ho, hl⟩ := lookIn_ns hns
  have J : PySem.W.InstAt s.heap a oe C (some od) := ⟨ha, hz.1, by unfold PySem.W.notCls; rw [hd] <;> rfl, by rw [hz.2]; exact ho⟩
  exact PySem.W.kia_one (kitx_exc c) I.kIn J e3 (fun z => nomatch z) fun tk => ⟨.bl b, H, I.kept (t' := tk) fun _ _ z => z, rfl, q⟩
def isxG (tb : List ((Nat × Nat) × Bool)) (a dd : Addr) (c : Nat) : List D -> Option D
  | [.exc a' dd' c' _ _, .cls k] => if a' = a /\ dd' = dd /\ c' = c then (mtT tb c k).map D.bl else none
  | _ => none
theorem lc_isx (ok : IsxOk X.K cl tb) {dd : Addr} {c : Nat} : LCall X.K cl (rIsx X.K (cl c) a dd) (isxG tb a dd c) := by
  intro F H M xs ds z Q Qd g r h p q
  generalize e : ds.map (vw M) = es at h
  unfold isxG at h
  split at h
  · rename_i a' dd' c' ns ds' k
    split at h
    · rename_i hh
      obtain ⟨rfl, rfl, rfl⟩ := hh
      obtain ⟨v, u, h1, hv, hw⟩ := reps2 g r e
      cases hm : mtT tb c' k with
      | none => rw [hm] at h; cases h
      | some b =>
        rw [hm] at h
        cases h
        have hu := hw.cls
        subst hu
        rcases hv with hv | ⟨_, _, hv⟩
        · cases hv with
          | exc k1 k2 k3 => exact ⟨_, b, _, h1, g.sub _ _ k1, (ok _ _ _ hm).2, p.val g (.bl b) q⟩
        · exact hv.elim
    · cases h
  · cases h
theorem call_none {v : Value} : CallR X v (fun _ _ _ => False) := fun _ _ _ _ _ _ _ _ _ h => h.elim
def isxX (tb : List ((Nat × Nat) × Bool)) (cs : List Nat) : D -> List D -> Option D
  | .exc a dd c _ _, ds => if c ∈ cs then isxG tb a dd c ds else none
  | _, _ => none
theorem isx_rule {cs : List Nat} (ok : IsxOk X.K cl tb) (ex : ∀ c ∈ cs, ExcC X.K (cl c)) (hx : XOk cl x a cls d) (hz : Zc cls d oe) (hf : ∃ vs, oe.data = .fields vs) :
    ∃ r, CallR (X.suite a ((a, oe) :: pn)) (.builtin "isinstance") r /\ LCall X.K cl r (isxX tb cs x) := by
  obtain ⟨dd, c, ns, ds, rfl, rfl, rfl⟩ := hx
  by_cases hc : c ∈ cs
  · have e : isxX tb cs (.exc a dd c ns ds) = isxG tb a dd c := by funext l; simp [isxX, hc]
    rw [e]
    exact ⟨_, call_isx (ex c hc) hz hf, lc_isx ok⟩
  · have e : isxX tb cs (.exc a dd c ns ds) = fun _ => none := by funext l; simp [isxX, hc]
    rw [e]
    exact ⟨fun _ _ _ => False, call_none, fun _ _ _ _ _ _ _ _ _ _ h => by cases h⟩
theorem d_isx {cs : List Nat} {e : Expr} {es : List Expr} {α : DTA} {p pos : Pos} (ok : IsxOk X.K cl tb) (ex : ∀ c ∈ cs, ExcC X.K (cl c)) (hx : XOk cl x a cls d) (hz : Zc cls d oe) (hf : ∃ vs, oe.data = .fields vs) (hg : Gl (X.suite a ((a, oe) :: pn)) "isinstance") (hm : X.mg "isinstance" = none)
    (ha : DA cl (X.suite a ((a, oe) :: pn)) W0 (e :: es) α) (hs : starEach (e :: es) X.env = (false, eval e X.env) :: starEach es X.env := by rfl) (hpl : (backTo pos (starEach es X.env)).any (·.1) = false := by rfl) :
    DE cl (X.suite a ((a, oe) :: pn)) W0 (.Call (.Name "isinstance" p) (e :: es) [] pos) (dCB (isxX tb cs x) α) := by
  obtain ⟨r, h1, h2⟩ := isx_rule (pn := pn) ok ex hx hz hf
  exact d_callB (X := X.suite a ((a, oe) :: pn)) h1 h2 hg hm (by decide +kernel) ha (by decide) (by decide) hs hpl
end
end DL
set_option Elab.async false
set_option linter.all false
set_option maxRecDepth 100000
set_option maxHeartbeats 4000000
set_option autoImplicit false
namespace DL
open PySem L2
@[simp] def kLen : D -> Option D
  | .int i => if 0 <= i /\ i < 2 ^ 62 then some (.int i) else none
  | _ => none
section
variable {cl : ClW} {X : Cx} {W : WX} {k : Nat} {tb : List (Nat × SpD)} {e : Expr} {τ : DTE} {p pos : Pos}
end
def excsB (K : PySem.W.Frag) (cl : Nat -> Addr) (cs : List Nat) : Bool := cs.all fun j => excCB K (cl j)
theorem excsB_ok {K : PySem.W.Frag} {cl : Nat -> Addr} {cs : List Nat} (h : excsB K cl cs = true) : ∀ j ∈ cs, ExcC K (cl j) := fun j hj => excCB_ok (List.all_eq_true.mp h j hj)
end DL
set_option Elab.async false
set_option linter.all false
set_option maxRecDepth 100000
set_option maxHeartbeats 1000000
set_option autoImplicit false
namespace FL
open PySem L2 DL
def Rn (M : Mem) (r : Addr) : Prop := ∃ a b c : Int, M r = some (.lst [.int a, .int b, .int c]) /\ 0 <= a /\ 0 <= b /\ b < 2147483629 /\ 0 <= c
structure RTo (M M' : Mem) (r : Addr) : Prop where
  ok : Rn M' r
  keep : ∀ b d, b ≠ r -> M b = some d -> M' b = some d
theorem cells_int (ns : List Int) (k : Nat) : ∀ x : D, x ∈ cutD (ns.map D.int ++ [D.int 0]) none (some (k : Int)) -> ∃ i : Int, x = D.int i := by
  intro x hx
  rw [cutD_to] at hx
  have := List.mem_of_mem_take hx
  simp at this
  rcases this with ⟨a, _, rfl⟩ | rfl
  · exact ⟨a, rfl⟩
  · exact ⟨0, rfl⟩
theorem cells_add (ns : List Int) (h : ns.length <= 63) : addD (.lst (ns.map D.int)) (.lst [.int 0]) = some (.lst (ns.map D.int ++ [.int 0])) := addD_lst (by simp; omega)
end FL
set_option Elab.async false
set_option linter.all false
set_option maxRecDepth 100000
set_option maxHeartbeats 1000000
set_option autoImplicit false
namespace FL
open PySem L2 DL
def clash (rs os : List Row) : Option (List Nat) := ((os.map Row.nm).filter fun x => decide (x ∈ rs.map Row.nm)).head?
theorem spot_mem (rs : List Row) (x : List Nat) : inD (strD x) (.dK (spotsK rs) (places rs.length)) = some (.bl (decide (x ∈ rs.map Row.nm))) := by
  have e : (spotsK rs).any (fun j => decide (j = Sum.inr (S x))) = decide (x ∈ rs.map Row.nm) := by
    rw [Bool.eq_iff_iff, List.any_eq_true]
    constructor
    · rintro ⟨j, hj, hj2⟩
      obtain ⟨r, hr, rfl⟩ := List.mem_map.mp hj
      have e2 : r.nm = x := by simpa using hj2
      simpa using ⟨r, hr, e2⟩
    · intro hx
      obtain ⟨r, hr, e2⟩ := List.mem_map.mp (of_decide_eq_true hx)
      exact ⟨.inr (S r.nm), List.mem_map.mpr ⟨r, hr, rfl⟩, by simp [e2]⟩
  rw [strD, inD_def, inB_dK, keyD_str, Option.map_some, e]
  rfl
def sumD (rs os : List Row) : D := match clash rs os with
  | some x => .tup [.str "twice", strD x]
  | none => if 60 < rs.length + os.length then .tup [.str "forest", .tup [.int (-1), .str "rows"]] else .tup [.str "rows", .tup ((rs ++ os).map Row.d)]
theorem sumD_tup (rs os : List Row) : ∃ xs, sumD rs os = .tup xs := by
  unfold sumD
  split
  · exact ⟨_, rfl⟩
  · split
    · exact ⟨_, rfl⟩
    · exact ⟨_, rfl⟩
@[simp] theorem vw_sumD {M : Mem} {rs os : List Row} : vw M (sumD rs os) = sumD rs os := by
  obtain ⟨xs, e⟩ := sumD_tup rs os
  rw [e]; rfl
theorem anc_nil {ls : List Int} (L : LevOk ls) : ∀ (i : Nat) (lev : Int), lev <= 0 -> anc ls i lev = []
  | 0, _, _ => rfl
  | i + 1, lev, h => by
    unfold anc
    have : ¬ (ls.getD i 0 < lev) := by
      by_cases hi : i < ls.length
      · have := (L i ls[i] (by simp [hi])).1
        simp only [List.getD, List.getElem?_eq_getElem hi, Option.getD_some]
        omega
      · have e : ls[i]? = none := List.getElem?_eq_none (by omega)
        simp only [List.getD, e, Option.getD_none]
        omega
    rw [if_neg this]
    exact anc_nil L i lev h
theorem anc_cons {ls : List Int} (L : LevOk ls) : ∀ (i : Nat) (lev : Int), i <= ls.length -> 0 < i -> 0 < lev -> anc ls i lev ≠ []
  | 0, _, _, h, _ => absurd h (by omega)
  | i + 1, lev, hi, _, hl => by
    unfold anc
    split
    · simp
    · rename_i hn
      by_cases h0 : i = 0
      · subst h0
        have := (L 0 ls[0] (by simp)).2.1 rfl
        simp only [List.getD, List.getElem?_eq_getElem (show 0 < ls.length by omega), Option.getD_some] at hn
        omega
      · exact anc_cons L i lev (by omega) (by omega) hl
theorem ancs_nil {ls : List Int} (L : LevOk ls) {p : Nat} (hp : p < ls.length) : ancs ls p = [] ↔ ls.getD p 0 = 0 := by
  have hg := L p ls[p] (by simp [hp])
  have e : ls.getD p 0 = ls[p] := by simp [List.getD, hp]
  unfold ancs
  rw [e]
  constructor
  · intro h
    by_cases h0 : 0 < ls[p]
    · by_cases hp0 : p = 0
      · have := hg.2.1 hp0; omega
      · exact absurd h (anc_cons L p _ (by omega) (by omega) h0)
    · have := hg.1; omega
  · intro h
    rw [h]
    exact anc_nil L p 0 (Int.le_refl _)
def rootsD (rs : List Row) : List D := (rs.filter fun r => decide (r.lv = 0)).map fun r => strD r.nm
theorem isx_at {M : Mem} {tb : List ((Nat × Nat) × Bool)} {cs : List Nat} {a dd : Addr} {c k : Nat} {ns : List Str} {ds : List D} {b : Bool} (h : c ∈ cs) (hm : mtT tb c k = some b) :
    isxX tb cs (.exc a dd c ns ds) ([.exc a dd c ns ds, .cls k].map (vw M)) = some (.bl b) := by
  show isxX tb cs (.exc a dd c ns ds) [.exc a dd c ns ds, .cls k] = _
  simp [isxX, isxG, h, hm]
theorem exc_fld {cs : List Nat} {f : Str} {a dd : Addr} {c : Nat} {ns : List Str} {ds : List D} {v : D} (h : c ∈ cs) (hv : lookN f ns ds = some v) : excF cs f (.exc a dd c ns ds) = some v := by simp [excF, h, hv]
def unS : D -> List Nat
  | .str z => z.cps.toList
  | _ => []
@[simp] theorem unS_strD (x : List Nat) : unS (strD x) = x := by simp [unS, strD, S]
end FL
set_option Elab.async false
set_option linter.all false
set_option maxRecDepth 100000
set_option maxHeartbeats 4000000
set_option autoImplicit false
namespace DL
open PySem L2
section
variable {K : PySem.W.Frag} {cl : ClW} {F H : Hp} {X : Cx}
def φIndex : D -> List D -> Mem -> DV -> Prop := fun o ds M Q => ∃ xs y j z, vw M o = .lst xs /\ ds = [y] /\ flatD y = true /\ xs.all flatD = true /\ xs[j]? = some z /\ eqFD z y = true /\ (∀ m z', m < j -> xs[m]? = some z' -> eqFD z' y = false) /\ Q (.int (j : Nat)) M
theorem lm_index : LMt K cl (rIndex K) φIndex := by
  intro F H M x xs d ds Q Qd g rx rs h p
  obtain ⟨ys, y, j, z, hv, rfl, fy, fys, hj, hz, hno, q⟩ := h
  have V := vw_ok g rx
  rw [hv] at V
  obtain ⟨a, vs, rfl, h1, h2⟩ := V.lst g.sub
  obtain ⟨u, ws, rfl, r1, r2⟩ := rs.inv
  obtain rfl := r2.inv0
  obtain ⟨f1, _⟩ := flats_of r1 fy h2 fys
  have fl : ∀ {m : Nat} {e : D}, ys[m]? = some e -> flatD e = true := fun {m e} he => List.all_eq_true.mp fys e (List.mem_of_getElem? he)
  obtain ⟨v, h5, h6⟩ := h2.get hj
  refine ⟨a, vs, u, j, v, rfl, rfl, h1, (flat_of (H := F) (.inl r1) fy).1, f1, h5, by rw [eq_of h6 r1 (fl hj) fy]; exact hz, fun m z' hm he => ?_, p _ _ F _ _ (Same.refl F) g (.int _) q⟩
  have hml : m < ys.length := by
    have := (List.getElem?_eq_some_iff.mp he).1
    rw [h2.length] at this; exact this
  have hy : ys[m]? = some ys[m] := List.getElem?_eq_getElem hml
  obtain ⟨v2, h7, h8⟩ := h2.get hy
  rw [h7] at he
  cases he
  rw [eq_of h8 r1 (fl hy) fy]
  exact hno m _ hm hy
end
@[simp] def dListRg (τ : DTE) : DTE := fun ρ M Q X => τ ρ M (fun d M1 => ∃ n : Int, d = .int n /\ 0 <= n /\ n <= 16777216 /\ Q (.lst ((List.range n.toNat).map fun (i : Nat) => D.int (i : Int))) M1) X
section
variable {cl : ClW} {X : Cx} {W : WX} {a : Expr} {τ : DTE} {p1 p2 p3 p4 : Pos}
end
end DL
set_option Elab.async false
set_option linter.all false
set_option maxRecDepth 100000
set_option maxHeartbeats 4000000
set_option autoImplicit false
namespace FL
open PySem L2 DL
def vas (rs : List Row) : List Int := rs.map Row.va
def kids (ls : List Int) (p : Nat) : Nat := ((ls.drop (p + 1)).takeWhile fun l => decide (ls.getD p 0 < l)).length
def belowD (rs : List Row) (p : Nat) : List D := (List.range' (p + 1) (kids (lvs rs) p)).map (nmAt rs)
theorem vas_of {rs : List Row} {p : Nat} {x : Row} (h : rs[p]? = some x) : (vas rs).getD p 0 = x.va := by simp [vas, List.getD, h]
theorem takeWhile_len {α : Type} (f : α -> Bool) (xs : List α) : (xs.takeWhile f).length <= xs.length := (List.takeWhile_prefix f).length_le
theorem kids_le (ls : List Int) (p : Nat) (hp : p < ls.length) : p + 1 + kids ls p <= ls.length := by
  have := takeWhile_len (fun l => decide (ls.getD p 0 < l)) (ls.drop (p + 1))
  rw [List.length_drop] at this
  unfold kids
  omega
theorem kids_rows {rs : List Row} {p : Nat} {x : Row} (h : rs[p]? = some x) : (rs.drop (p + 1)).takeWhile (fun r => decide (x.lv < r.lv)) = (rs.drop (p + 1)).take (kids (lvs rs) p) := by
  have e : kids (lvs rs) p = ((rs.drop (p + 1)).takeWhile (fun r => decide (x.lv < r.lv))).length := by
    unfold kids
    rw [lvs_of h]
    unfold lvs
    rw [<- List.map_drop, List.takeWhile_map, List.length_map]
    rfl
  rw [e]
  exact (List.prefix_iff_eq_take.mp (List.takeWhile_prefix _))
theorem below_nm {rs : List Row} {p : Nat} {x : Row} (h : rs[p]? = some x) : ((rs.drop (p + 1)).takeWhile (fun r => decide (x.lv < r.lv))).map (fun r => strD r.nm) = belowD rs p := by
  rw [kids_rows h]
  have hp := (List.getElem?_eq_some_iff.mp h).1
  have hk := kids_le (lvs rs) p (by simpa [lvs] using hp)
  have hl : (lvs rs).length = rs.length := by simp [lvs]
  unfold belowD
  refine List.ext_getElem (by simp; omega) fun i h1 h2 => ?_
  simp at h1 h2
  have : p + 1 + i < rs.length := by omega
  simp [nmAt, List.getD, this]
theorem anc_count {ls : List Int} (L : LevOk ls) : ∀ (i : Nat) (lev : Int), i <= ls.length -> (i = 0 -> lev <= 0) -> (∀ j, i = j + 1 -> lev <= ls.getD j 0 + 1) -> 0 <= lev -> ((anc ls i lev).length : Int) = lev
  | 0, lev, _, h0, _, h => by have := h0 rfl; simp [anc]; omega
  | i + 1, lev, hi, _, h1, h => by
    have hl := h1 i rfl
    have hi2 : i < ls.length := by omega
    obtain ⟨a, b, c⟩ := L i _ (List.getElem?_eq_getElem hi2)
    have eg : ls.getD i 0 = ls[i] := by simp [List.getD, hi2]
    have hz : i = 0 -> ls.getD i 0 <= 0 := fun z => by rw [eg]; have := b z; omega
    have hs : ∀ j, i = j + 1 -> ls.getD i 0 <= ls.getD j 0 + 1 := fun j z => by
      subst z
      obtain ⟨m, e1, e2⟩ := c j rfl
      rw [eg]
      simp only [List.getD, e1, Option.getD_some]
      omega
    unfold anc
    split
    · rename_i hlt
      have := anc_count L i (ls.getD i 0) (by omega) hz hs (by rw [eg]; exact a)
      simp only [List.length_cons]
      omega
    · rename_i hlt
      exact anc_count L i lev (by omega) (fun z => by have := hz z; omega) (fun j z => by have := hs j z; omega) h
theorem ancs_count {ls : List Int} (L : LevOk ls) {p : Nat} (hp : p < ls.length) : ((ancs ls p).length : Int) = ls.getD p 0 := by
  obtain ⟨a, b, c⟩ := L p _ (List.getElem?_eq_getElem hp)
  have eg : ls.getD p 0 = ls[p] := by simp [List.getD, hp]
  refine anc_count L p _ (by omega) (fun z => ?_) (fun j z => ?_) (by rw [eg]; exact a)
  · rw [eg]; have := b z; omega
  · subst z
    obtain ⟨m, e1, e2⟩ := c j rfl
    rw [eg]
    simp only [List.getD, e1, Option.getD_some]
    omega
theorem names_nm (rs : List Row) : (rs.map fun r => strD r.nm) = (List.range rs.length).map (nmAt rs) := by
  refine List.ext_getElem (by simp) fun i h1 h2 => ?_
  simp at h1 h2
  simp [nmAt, List.getD, h2]
theorem nm_pl {rs : List Row} (h : RowsOk rs) {l : List Nat} (hl : ∀ i ∈ l, i < rs.length) : plDs 0 (l.map (nmAt rs)) = true := plDs_map fun i hi => by
  obtain ⟨z, hz⟩ := row_at (rs := rs) (p := i) (hl i hi)
  rw [nmAt_of hz]
  exact (h.names z (List.mem_of_getElem? hz)).ok 0
theorem below_lt {rs : List Row} {p i : Nat} (hp : p < rs.length) (hi : i ∈ List.range' (p + 1) (kids (lvs rs) p)) : i < rs.length := by
  have hk := kids_le (lvs rs) p (by simpa [lvs] using hp)
  have hl : (lvs rs).length = rs.length := by simp [lvs]
  have := List.mem_range'_1.mp hi
  omega
theorem below_len (rs : List Row) (p : Nat) : (belowD rs p).length = kids (lvs rs) p := by simp [belowD]
def totI (rs : List Row) (p : Nat) : Int := (((vas rs).drop p).take (1 + kids (lvs rs) p)).sum
theorem tot_eq {rs : List Row} {p : Nat} (hp : p < rs.length) : (p :: List.range' (p + 1) (kids (lvs rs) p)).map (fun i => (vas rs).getD i 0) = ((vas rs).drop p).take (1 + kids (lvs rs) p) := by
  have hk := kids_le (lvs rs) p (by simpa [lvs] using hp)
  have hl : (lvs rs).length = rs.length := by simp [lvs]
  have hv : (vas rs).length = rs.length := by simp [vas]
  rw [show p :: List.range' (p + 1) (kids (lvs rs) p) = List.range' p (1 + kids (lvs rs) p) by rw [Nat.add_comm 1, List.range'_succ]]
  refine List.ext_getElem (by simp; omega) fun i h1 h2 => ?_
  simp at h1 h2
  have : p + i < (vas rs).length := by omega
  simp [List.getD, this]
section
variable {α : Type} {γ : DTG} {υ : DTT} {τ : DTE} {vs : List Nat} {a : Addr} {Q : DV} {R : Mem -> Prop} {ρ : DL.Env} {M : Mem}
theorem Keep.updN {M M1 : Mem} {a : Addr} {d : D} (h : Keep M M1) (e : M a = none) : Keep M (updM M1 a d) := fun b c hb => by
  have z : b ≠ a := fun z => by rw [z, e] at hb; cases hb
  rw [updM_ne z]; exact h b c hb
theorem Keep.delN {M M1 : Mem} {a : Addr} (h : Keep M M1) (e : M a = none) : Keep M (delM M1 a) := fun b c hb => by
  have z : b ≠ a := fun z => by rw [z, e] at hb; cases hb
  rw [delM_ne z]; exact h b c hb
theorem lcD_ix (g : α -> D) (f : α -> Option D) (l : List α) (hl : l.length <= 16777216) (hM : M a = none)
    (step : ∀ i ∈ l, ∀ (M1 : Mem) (T : Option D -> Mem -> Prop), Keep M M1 -> (∀ M2, Keep M1 M2 -> T (f i) M2) -> γ (g i) (wipeD ρ vs) M1 (fun ρ2 M2 => υ ρ2 M2 (fun b M3 => if b = true then τ ρ2 M3 (fun d M4 => T (some d) M4) noX else T none M3) noX) noX)
    (q : ∀ M', Keep M M' -> Q (.lst (l.filterMap f)) M') : lcD γ υ τ vs a (l.map g) ρ (updM M a (.lst [])) Q := by
  have go : ∀ (r done : List α) (M1 : Mem), l = done ++ r -> M1 a = some (.lst (done.filterMap f)) -> Keep M M1 -> lcD γ υ τ vs a (r.map g) ρ M1 Q := by
    intro r
    induction r with
    | nil =>
      intro done M1 e ha k
      rw [List.append_nil] at e
      subst e
      exact ⟨_, ha, q _ (k.delN hM)⟩
    | cons i r ih =>
      intro done M1 e ha k
      have hi : i ∈ l := by rw [e]; simp
      have e2 : l = (done ++ [i]) ++ r := by rw [e]; simp
      refine step i hi M1 (fun o M4 => match o with
        | some d => ∃ acc, M4 a = some (.lst acc) /\ acc.length < sizeLine /\ lcD γ υ τ vs a (r.map g) ρ (updM M4 a (.lst (acc ++ [d]))) Q
        | none => lcD γ υ τ vs a (r.map g) ρ M4 Q) k fun M2 k2 => ?_
      have kk : Keep M M2 := fun b c hb => k2 b c (k b c hb)
      cases hf : f i with
      | some d =>
        have hlen : (done.filterMap f).length < sizeLine := by
          have h1 := List.length_filterMap_le f done
          have h2 := congrArg List.length e
          rw [List.length_append, List.length_cons] at h2
          rw [sizeLine_eq]; omega
        refine ⟨_, k2 _ _ ha, hlen, ih (done ++ [i]) _ e2 ?_ (kk.updN hM)⟩
        rw [updM_same, List.filterMap_append]
        simp [hf]
      | none =>
        refine ih (done ++ [i]) _ e2 ?_ kk
        rw [List.filterMap_append]
        simp [hf]
        exact k2 _ _ ha
  exact go l [] _ rfl updM_same (fun b c hb => by
    have z : b ≠ a := fun z => by rw [z, hM] at hb; cases hb
    rw [updM_ne z]; exact hb)
end
end FL
set_option Elab.async false
set_option linter.all false
set_option maxRecDepth 100000
set_option maxHeartbeats 4000000
set_option autoImplicit false
namespace DL
open PySem L2
mutual
inductive Dv (M : Mem) : D -> D -> Prop
  | same (d : D) : Dv M d d
  | ref {a : Addr} {ds es : List D} : M a = some (.lst ds) -> Dvs M ds es -> Dv M (.ref a) (.lst es)
  | lst {ds es : List D} : Dvs M ds es -> Dv M (.lst ds) (.lst es)
  | tup {ds es : List D} : Dvs M ds es -> Dv M (.tup ds) (.tup es)
inductive Dvs (M : Mem) : List D -> List D -> Prop
  | nil : Dvs M [] []
  | cons {d e : D} {ds es : List D} : Dv M d e -> Dvs M ds es -> Dvs M (d :: ds) (e :: es)
end
section
variable {K : PySem.W.Frag} {cl : ClW} {F H : Hp} {M : Mem} {X : Cx} {W : WX}
@[simp] def bDeepEq : DB2 := fun d e _ M Q _ => ∃ d' e' b, Dv M d d' /\ Dv M e e' /\ eqP d' e' = some b /\ Q (.bl b) M
@[simp] def bDeepNe : DB2 := fun d e _ M Q _ => ∃ d' e' b, Dv M d d' /\ Dv M e e' /\ eqP d' e' = some b /\ Q (.bl !b) M
@[simp] def dRevM (τ : DTE) : DTE := fun ρ M Q X => τ ρ M (fun d M1 => ∃ xs, vw M1 d = .lst xs /\ ∀ a, M1 a = none -> Q (.ref a) (updM M1 a (.lst xs.reverse))) X
variable {e : Expr} {τ : DTE} {pos : Pos}
def truD : D -> Option Bool
  | .bl b => some b
  | .int i => some (i != 0)
  | .non => some false
  | .lst xs => some (!xs.isEmpty)
  | .tup xs => some (!xs.isEmpty)
  | _ => none
@[simp] def dOrT (τa τb : DTE) : DTE := fun ρ M Q X => τa ρ M (fun d M1 => ∃ k, truD (vw M1 d) = some k /\ if k = true then Q d M1 else τb ρ M1 Q X) X
theorem tru_of {v : V} {d : D} {k : Bool} (s : Same F H) (h : Vw K cl F H v d) (e : truD d = some k) : TruV K v H k := by
  cases d with
  | bl b => cases e; rw [h.bl]; rfl
  | int i => cases e; rw [h.int]; rfl
  | non => cases e; rw [h.non]; rfl
  | lst xs =>
    cases e
    obtain ⟨a, vs, rfl, h1, h2⟩ := h.lst s
    refine .inl ⟨vs, h1, ?_⟩
    cases h2 <;> rfl
  | tup xs =>
    cases e
    obtain ⟨a, vs, rfl, h1, h2⟩ := h.tup s
    refine .inr (.inl ⟨vs, h1, ?_⟩)
    cases h2 <;> rfl
  | _ => cases e
variable {a b : Expr} {τa τb : DTE} {rest : List Expr}
theorem d_orT (ha : DE cl X W a τa) (hb : DE cl X W (.BoolOp .Or (b :: rest) pos) τb) : DE cl X W (.BoolOp .Or (a :: b :: rest) pos) (dOrT τa τb) :=
  ⟨pe_imp (pe_orT ha.pe hb.pe) fun σ H Q ⟨F, ρ, M, Qd, Xd, g, s, t, p, w⟩ => ⟨F, ρ, M, _, Xd, g, s, t, fun v H' F' d M' sm g' r ⟨k, e1, q⟩ => by
    refine ⟨k, tru_of g'.sub (vw_ok g' r) e1, ?_⟩
    cases k with
    | true =>
      simp only [if_true] at q ⊢
      exact p v H' F' d M' sm g' r q
    | false =>
      simp only [Bool.false_eq_true, if_false] at q ⊢
      exact ⟨F', ρ, M', Qd, Xd, g', s.mono sm, q, p.mono sm, w.mono sm⟩, w⟩⟩
end
end DL
set_option Elab.async false
set_option linter.all false
set_option maxRecDepth 100000
set_option maxHeartbeats 4000000
set_option autoImplicit false
namespace FL
open PySem L2 DL
theorem anc_iff (ls : List Int) (p : Nat) : ∀ (i : Nat) (lev : Int), p ∈ anc ls i lev ↔ p < i /\ ls.getD p 0 < lev /\ ∀ k, p < k -> k < i -> ls.getD p 0 < ls.getD k 0
  | 0, lev => by simp [anc]
  | i + 1, lev => by
    unfold anc
    split
    · rename_i hlt
      rw [List.mem_cons, anc_iff ls p i]
      constructor
      · rintro (rfl | ⟨h1, h2, h3⟩)
        · exact ⟨by omega, hlt, fun k h1 h2 => by omega⟩
        · refine ⟨by omega, by omega, fun k h4 h5 => ?_⟩
          by_cases e : k = i
          · subst e; exact h2
          · exact h3 k h4 (by omega)
      · rintro ⟨h1, h2, h3⟩
        by_cases e : p = i
        · exact .inl e
        · exact .inr ⟨by omega, h3 i (by omega) (by omega), fun k h4 h5 => h3 k h4 (by omega)⟩
    · rename_i hlt
      rw [anc_iff ls p i]
      constructor
      · rintro ⟨h1, h2, h3⟩
        refine ⟨by omega, h2, fun k h4 h5 => ?_⟩
        by_cases e : k = i
        · subst e; omega
        · exact h3 k h4 (by omega)
      · rintro ⟨h1, h2, h3⟩
        have : p ≠ i := fun e => by subst e; exact hlt h2
        exact ⟨by omega, h2, fun k h4 h5 => h3 k h4 (by omega)⟩
theorem takeWhile_iff {α : Type} (f : α -> Bool) : ∀ (xs : List α) (n : Nat), n <= xs.length -> (n <= (xs.takeWhile f).length ↔ ∀ k (h : k < n), ∀ x, xs[k]? = some x -> f x = true)
  | [], n, h => by simp at h; subst h; simp
  | x :: xs, 0, _ => by simp
  | x :: xs, n + 1, h => by
    rw [List.takeWhile_cons]
    by_cases c : f x = true
    · rw [if_pos c, List.length_cons]
      have ih := takeWhile_iff f xs n (by simpa using h)
      constructor
      · intro h1 k hk y hy
        cases k with
        | zero => simp at hy; subst hy; exact c
        | succ k => exact ih.mp (by omega) k (by omega) y (by simpa using hy)
      · intro h1
        have := ih.mpr fun k hk y hy => h1 (k + 1) (by omega) y (by simpa using hy)
        omega
    · rw [if_neg c]
      constructor
      · intro h1; simp at h1
      · intro h1; exact absurd (h1 0 (by omega) x rfl) c
theorem kids_iff (ls : List Int) {p j : Nat} (hj : j < ls.length) (hp : p < j) : j <= p + kids ls p ↔ ∀ k, p < k -> k <= j -> ls.getD p 0 < ls.getD k 0 := by
  have h := takeWhile_iff (fun l => decide (ls.getD p 0 < l)) (ls.drop (p + 1)) (j - p) (by rw [List.length_drop]; omega)
  have e : (j <= p + kids ls p) ↔ (j - p <= ((ls.drop (p + 1)).takeWhile fun l => decide (ls.getD p 0 < l)).length) := by unfold kids; omega
  rw [e, h]
  constructor
  · intro h1 k h2 h3
    have hk : k < ls.length := by omega
    have := h1 (k - (p + 1)) (by omega) ls[k] (by rw [List.getElem?_drop, show p + 1 + (k - (p + 1)) = k by omega]; exact List.getElem?_eq_getElem hk)
    have e2 : ls.getD k 0 = ls[k] := by simp [List.getD, hk]
    rw [e2]
    simpa using this
  · intro h1 k h2 x hx
    rw [List.getElem?_drop] at hx
    have := h1 (p + 1 + k) (by omega) (by omega)
    simp only [List.getD, hx, Option.getD_some] at this
    simpa using this
theorem above_iff (ls : List Int) {p j : Nat} (hj : j < ls.length) : p ∈ ancs ls j ↔ p < j /\ j <= p + kids ls p := by
  unfold ancs
  rw [anc_iff]
  constructor
  · rintro ⟨h1, h2, h3⟩
    refine ⟨h1, (kids_iff ls hj h1).mpr fun k h4 h5 => ?_⟩
    by_cases e : k = j
    · subst e; exact h2
    · exact h3 k h4 (by omega)
  · rintro ⟨h1, h2⟩
    have := (kids_iff ls hj h1).mp h2
    exact ⟨h1, this j h1 (Nat.le_refl _), fun k h4 h5 => this k h4 (by omega)⟩
theorem filter_span (n a m : Nat) (h : a + m <= n) : (List.range n).filter (fun j => decide (a <= j /\ j < a + m)) = List.range' a m := by
  have e : List.range n = List.range' 0 a ++ (List.range' a m ++ List.range' (a + m) (n - (a + m))) := by
    rw [List.range_eq_range', List.range'_append_1, show n = a + (m + (n - (a + m))) by omega, <- List.range'_append_1]
    simp
    omega
  rw [e, List.filter_append, List.filter_append]
  rw [List.filter_eq_nil_iff.mpr, List.filter_eq_self.mpr, List.filter_eq_nil_iff.mpr]
  · simp
  · intro x hx; have := List.mem_range'_1.mp hx; simp; omega
  · intro x hx; have := List.mem_range'_1.mp hx; simp; omega
  · intro x hx; have := List.mem_range'_1.mp hx; simp; omega
theorem below_filter (ls : List Int) {p : Nat} (hp : p < ls.length) : (List.range ls.length).filter (fun j => decide (p ∈ ancs ls j)) = List.range' (p + 1) (kids ls p) := by
  rw [<- filter_span ls.length (p + 1) (kids ls p) (kids_le ls p hp)]
  refine List.filter_congr fun j hj => ?_
  have hj2 : j < ls.length := by simpa using hj
  rw [decide_eq_decide, above_iff ls hj2]
  omega
def sibs (ls : List Int) (o : Option Nat) : List Nat := (List.range ls.length).filter fun j => decide ((ancs ls j).head? = o)
theorem kids_sibs (ls : List Int) {p : Nat} (hp : p < ls.length) : (List.range' (p + 1) (kids ls p)).filter (fun j => decide ((ancs ls j).head? = some p)) = sibs ls (some p) := by
  rw [<- below_filter ls hp, List.filter_filter, sibs]
  refine List.filter_congr fun j hj => ?_
  by_cases e : (ancs ls j).head? = some p
  · have : p ∈ ancs ls j := List.mem_of_head? e
    simp [e, this]
  · simp [e]
theorem idx_at {p : Nat} : ∀ {l : List Nat}, p ∈ l -> l[l.idxOf p]? = some p /\ ∀ m j, m < l.idxOf p -> l[m]? = some j -> j ≠ p
  | [], h => by simp at h
  | x :: l, h => by
    rw [List.idxOf_cons]
    by_cases e : x = p
    · subst e
      simp
    · have e2 : (x == p) = false := beq_false_of_ne e
      rw [e2]
      simp only [cond_false]
      have hl : p ∈ l := by
        rcases List.mem_cons.mp h with rfl | h
        · exact absurd rfl e
        · exact h
      obtain ⟨h1, h2⟩ := idx_at hl
      refine ⟨by rw [List.getElem?_cons_succ]; exact h1, fun m j hm hj => ?_⟩
      cases m with
      | zero => simp at hj; subst hj; exact e
      | succ m => exact h2 m j (by omega) (by simpa using hj)
theorem ancs_bound {ls : List Int} {i j n : Nat} (h : j ∈ ancs ls i) (hi : i <= n) : j < n := anc_bound (ls := ls) (i := i) (lev := ls.getD i 0) h hi
theorem sib_gen (ls : List Int) (g : Nat -> D) (o : Option Nat) : (List.range ls.length).filterMap (fun i => if (ancs ls i).head? = o then some (g i) else none) = (sibs ls o).map g := by
  rw [sibs, <- List.filterMap_eq_filter, List.map_filterMap]
  congr 1
  funext i
  by_cases c : (ancs ls i).head? = o <;> simp [c, Option.guard]
theorem nms_at {rs : List Row} {i : Nat} (h : i < rs.length) : atI ((List.range rs.length).map (nmAt rs)) (i : Int) = some (nmAt rs i) := atI_get' (by simp [h])
end FL
set_option Elab.async false
set_option linter.all false
set_option maxRecDepth 100000
set_option maxHeartbeats 4000000
namespace DL
open PySem L2
abbrev DTIg := DL.Env -> Mem -> ((Mem -> Prop) -> List D -> Mem -> Prop) -> DX -> Prop
def WalksG (K : PySem.W.Frag) (cl : ClW) (J : It) (F : Hp) (C : Mem -> Prop) (xs : List D) : Prop := ∀ i F' H' M', Same F F' -> Good K cl F' H' M' -> C M' ->
  (∀ d, xs[i]? = some d -> J.go i H' /\ ∀ x H3, J.yld i H' x H3 -> ∃ F3, Same F' F3 /\ Good K cl F3 H3 M' /\ Rep K cl F3 x d) /\ (xs.length <= i -> J.stop i H')
structure DIg (cl : ClW) (X : Cx) (W : WX) (tg iter : Expr) (ι : DTIg) : Prop where
  pi : PI X tg iter (fun σ H R => ∃ F ρ M Rd Xd, Good X.K cl F H M /\ Slots X.K cl F σ ρ /\ ι ρ M Rd Xd /\ (∀ J H' F' C xs M', Same F F' -> Good X.K cl F' H' M' -> WalksG X.K cl J F' C xs -> Rd C xs M' -> R J H') /\ WOk X.K cl W F Xd)
def lcG (C : Mem -> Prop) (γ : DTG) (υ : DTT) (τ : DTE) (vs : List Nat) (a : Addr) : List D -> DL.Env -> Mem -> (Mem -> Prop) -> Prop
  | [] => fun _ M R => C M /\ R M
  | x :: xs => fun ρ M R => C M /\ γ x (wipeD ρ vs) M (fun ρ2 M2 => υ ρ2 M2 (fun b M3 => if b = true then τ ρ2 M3 (fun d M4 => ∃ acc, M4 a = some (.lst acc) /\ acc.length < sizeLine /\ lcG C γ υ τ vs a xs ρ (updM M4 a (.lst (acc ++ [d]))) R) noX else lcG C γ υ τ vs a xs ρ M3 R) noX) noX
def endF (a : Addr) (Q : DV) : Mem -> Prop := fun M => ∃ ds, M a = some (.lst ds) /\ Q (.lst ds) (delM M a)
@[simp] def iSG (τ : DTE) : DTIg := fun ρ M R X => τ ρ M (fun d M1 => ∃ xs, itD (vw M1 d) = some xs /\ R (fun M => itD (vw M d) = some xs) xs M1) X
@[simp] def iEnG (τ : DTE) : DTIg := fun ρ M R X => τ ρ M (fun d M1 => ∃ xs, enD (vw M1 d) = some xs /\ R (fun M => enD (vw M d) = some xs) (xs.zipIdx.map fun p => D.tup [.int (p.2 : Nat), p.1]) M1) X
@[simp] def iG (ι : DTI) : DTIg := fun ρ M R X => ι ρ M (fun xs M1 => R (fun _ => True) xs M1) X
section
variable {K : PySem.W.Frag} {cl : ClW} {F H : Hp} {M : Mem}
end
section
variable {cl : ClW} {X : Cx} {W : WX} {e : Expr} {τ : DTE}
variable {elt tg iter kx vx : Expr} {ifs : List Expr} {scope : Scope} {own : List (Str × Nat)} {pos : Pos} {ι : DTIg} {is : List Nat} {γ : DTG} {υ : DTT} {τk τv : DTE} {sts : List Stmt} {t : DTS}
end
end DL
set_option Elab.async false
set_option linter.all false
set_option maxRecDepth 100000
set_option maxHeartbeats 4000000
namespace DL
open PySem L2
open PyProof.Rows (Compare_chain isTrue_chain chain_link chain_last test_link test_last ite_tt ite_ff)
section
variable {cl : ClW} {X : Cx} {a : Addr} {oe : Obj} {cls : Value} {d : Option Addr} {pn : List (Addr × Obj)} {x : D}
def rIsxT (K : PySem.W.Frag) (C a dd : Addr) : List V -> Hp -> VK -> Prop := fun xs H Q => ∃ (n : String) (b : Bool) (fs : List (Str × V)), xs = [.ref a, .ty n] /\ H dd = some (.xd fs) /\ PySem.W.kitOne K (.ref C) (.type n) = some b /\ Q (.bl b) H
theorem call_isxT {C dd : Addr} (c : ExcC X.K C) (hz : Zc (.ref C) (some dd) oe) (hf : ∃ vs, oe.data = .fields vs) : CallR (X.suite a ((a, oe) :: pn)) (.builtin "isinstance") (rIsxT X.K C a dd) := by
  intro pins s σ H xs us Q I r ⟨n, b, fs, e1, e2, e3, q⟩
  subst e1
  obtain ⟨u1, u2, rfl, r1, r2⟩ := vals2 r
  obtain rfl : u1 = Value.ref a := r1
  obtain rfl : u2 = Value.type n := r2
  obtain ⟨ha, _⟩ := I.pin (a, oe) (List.mem_append_left _ List.mem_cons_self)
  obtain ⟨vs, hd⟩ := hf
  have hx : ObjOk X.prog X.w H s.heap dd (.xd fs) := I.hok dd _ e2
  obtain ⟨mA, hns, hr⟩ := hx
  obtain ⟨od, ho, hl⟩ := lookIn_ns hns
  have J : PySem.W.InstAt s.heap a oe C (some od) := ⟨ha, hz.1, by unfold PySem.W.notCls; rw [hd] <;> rfl, by rw [hz.2]; exact ho⟩
  exact PySem.W.kia_one (kitx_exc c) I.kIn J e3 (fun z => nomatch z) fun tk => ⟨.bl b, H, I.kept (t' := tk) fun _ _ z => z, rfl, q⟩
def UtOk (K : PySem.W.Frag) (cl : Nat -> Addr) (ut : List (Nat × String)) : Prop := ∀ p ∈ ut, ExcC K (cl p.1) /\ PySem.W.kitOne K (.ref (cl p.1)) (.type p.2) = some true
def utB (K : PySem.W.Frag) (cl : Nat -> Addr) (ut : List (Nat × String)) : Bool := ut.all fun p => excCB K (cl p.1) && (PySem.W.kitOne K (.ref (cl p.1)) (.type p.2) == some true)
theorem utB_ok {K : PySem.W.Frag} {cl : Nat -> Addr} {ut : List (Nat × String)} (h : utB K cl ut = true) : UtOk K cl ut := fun p hp => by
  obtain ⟨h1, h2⟩ := and2 (List.all_eq_true.mp h _ hp)
  exact ⟨excCB_ok h1, beq_iff_eq.mp h2⟩
def isxTG (ut : List (Nat × String)) (a dd : Addr) (c : Nat) : List D -> Option D
  | [.exc a' dd' c' _ _, .ty n] => if a' = a /\ dd' = dd /\ c' = c /\ (c, n) ∈ ut then some (.bl true) else none
  | _ => none
theorem Vw.ty {K : PySem.W.Frag} {F H : Hp} {v : V} {n : String} (h : Vw K cl F H v (.ty n)) : v = .ty n := by
  rcases h with h | ⟨_, _, h⟩
  · exact h.toTy
  · exact h.elim
theorem lc_isxT {ut : List (Nat × String)} (ok : UtOk X.K cl ut) {dd : Addr} {c : Nat} : LCall X.K cl (rIsxT X.K (cl c) a dd) (isxTG ut a dd c) := by
  intro F H M xs ds z Q Qd g r h p q
  generalize e : ds.map (vw M) = es at h
  unfold isxTG at h
  split at h
  · rename_i a' dd' c' ns ds' n
    split at h
    · rename_i hh
      obtain ⟨rfl, rfl, rfl, hm⟩ := hh
      obtain ⟨v, u, h1, hv, hw⟩ := reps2 g r e
      cases h
      have hu := hw.ty
      subst hu
      rcases hv with hv | ⟨_, _, hv⟩
      · cases hv with
        | exc k1 k2 k3 => exact ⟨_, true, _, h1, g.sub _ _ k1, (ok _ hm).2, p.val g (.bl true) q⟩
      · exact hv.elim
    · cases h
  · cases h
def isxT' (ut : List (Nat × String)) : D -> List D -> Option D
  | .exc a dd c _ _, ds => if c ∈ ut.map (·.1) then isxTG ut a dd c ds else none
  | _, _ => none
theorem d_isxT {ut : List (Nat × String)} {e : Expr} {es : List Expr} {α : DTA} {p pos : Pos} (ok : UtOk X.K cl ut) (hx : XOk cl x a cls d) (hz : Zc cls d oe) (hf : ∃ vs, oe.data = .fields vs) (hg : Gl (X.suite a ((a, oe) :: pn)) "isinstance") (hm : X.mg "isinstance" = none)
    (ha : DA cl (X.suite a ((a, oe) :: pn)) W0 (e :: es) α) (hs : starEach (e :: es) X.env = (false, eval e X.env) :: starEach es X.env := by rfl) (hpl : (backTo pos (starEach es X.env)).any (·.1) = false := by rfl) :
    DE cl (X.suite a ((a, oe) :: pn)) W0 (.Call (.Name "isinstance" p) (e :: es) [] pos) (dCB (isxT' ut x) α) := by
  have hr : ∃ r, CallR (X.suite a ((a, oe) :: pn)) (.builtin "isinstance") r /\ LCall X.K cl r (isxT' ut x) := by
    obtain ⟨dd, c, ns, ds, rfl, rfl, rfl⟩ := hx
    by_cases hc : c ∈ ut.map (·.1)
    · have e : isxT' ut (.exc a dd c ns ds) = isxTG ut a dd c := by funext l; simp only [isxT', if_pos hc]
      rw [e]
      obtain ⟨q, hq, rfl⟩ := List.mem_map.mp hc
      exact ⟨_, call_isxT (ok q hq).1 hz hf, lc_isxT ok⟩
    · have e : isxT' ut (.exc a dd c ns ds) = fun _ => none := by funext l; simp only [isxT', if_neg hc]
      rw [e]
      exact ⟨fun _ _ _ => False, call_none, fun _ _ _ _ _ _ _ _ _ _ h => by cases h⟩
  obtain ⟨r, h1, h2⟩ := hr
  exact d_callB (X := X.suite a ((a, oe) :: pn)) h1 h2 hg hm (by decide +kernel) ha (by decide) (by decide) hs hpl
theorem isxT_at {M : Mem} {ut : List (Nat × String)} {a dd : Addr} {c : Nat} {n : String} {ns : List Str} {ds : List D} (h : (c, n) ∈ ut) :
    isxT' ut (.exc a dd c ns ds) (List.map (vw M) [.exc a dd c ns ds, .ty n]) = some (.bl true) := by
  have h2 : c ∈ ut.map (·.1) := List.mem_map.mpr ⟨_, h, rfl⟩
  have e : List.map (vw M) [.exc a dd c ns ds, .ty n] = [.exc a dd c ns ds, .ty n] := rfl
  rw [e]
  simp only [isxT', if_pos h2]
  unfold isxTG
  exact if_pos ⟨rfl, rfl, rfl, h⟩
end
section
variable {cl : ClW} {X : Cx} {W : WX} {pos : Pos} {a b : Expr} {τa τb : DTE}
theorem Reps.rep {K : PySem.W.Frag} {F : Hp} {vs : List V} {ds : List D} (h : Reps K cl F vs ds) : ∀ n : Nat, Reps K cl F (List.replicate n vs).flatten (List.replicate n ds).flatten
  | 0 => .nil
  | n + 1 => by
    rw [List.replicate_succ, List.replicate_succ, List.flatten_cons, List.flatten_cons]
    exact h.append (Reps.rep h n)
theorem Good.drop {K : PySem.W.Frag} {F H : Hp} {M : Mem} (g : Good K cl F H M) (p : Addr) : Good K cl F H (delM M p) := ⟨g.sub, fun a d e => by
  by_cases h : a = p
  · subst h; rw [delM_same] at e; cases e
  · rw [delM_ne h] at e; exact g.cell a d e, g.tab, g.noT⟩
def bRepD : DB2 := fun d e _ M Q _ => ∃ p xs k, d = .ref p /\ M p = some (.lst xs) /\ e = .int k /\ -(2 ^ 63) <= k /\ k < 2 ^ 63 /\ xs.length * k.toNat <= sizeLine /\ Q (.lst (List.replicate k.toNat xs).flatten) (delM M p)
theorem bin_repD : BinG cl X W (binaryOp .Mult) bRepD := by
  intro pins s σ H F ρ M v u x y d e Q Qd Xd I rx ry g sl r1 r2 h p w
  obtain ⟨b, xs, k, rfl, hM, rfl, k1, k2, hl, q⟩ := h
  obtain rfl := r1.toRef
  obtain rfl := r2.toInt
  obtain ⟨hF, vs, h1, h2⟩ := g.cell b _ hM
  exact op_rep pins s σ H _ _ v u Q I rx ry ⟨b, k, vs, rfl, rfl, h1, k1, k2, by rw [h2.length]; exact hl, fun c hc => p.newL (g.drop b) (h2.rep _) q hc⟩
end
section
variable {X : Cx} {a b c d : Expr} {ta tb tc td : TE} {pos : Pos}
end
section
variable {cl : ClW} {X : Cx} {W : WX} {a b c d : Expr} {τa τb τc τd : DTE} {pos : Pos}
@[simp] def dChain3 (f f' f'' : D -> D -> Option D) (τa τb τc τd : DTE) : DTE := fun ρ M Q X => τa ρ M (fun d M1 => τb ρ M1 (fun e M2 => ∃ k, f (vw M2 d) (vw M2 e) = some (.bl k) /\
  if k = true then τc ρ M2 (fun h M3 => ∃ k, f' (vw M3 e) (vw M3 h) = some (.bl k) /\ if k = true then τd ρ M3 (fun j M4 => ∃ z, f'' (vw M4 h) (vw M4 j) = some z /\ Q z M4) X else Q (.bl false) M3) X else Q (.bl false) M2) X) X
end
end DL
set_option Elab.async false
set_option linter.all false
set_option maxRecDepth 100000
set_option maxHeartbeats 4000000
namespace DL
open PySem L2
open PySem.SeqAt
section
open AutoSeq1 (wpAny_loadPart')
variable {prog : Program} {w : World}
inductive EqL (prog : Program) (w : World) (A : Around) (s : Shared) : List (Value × Value) -> List Bool -> Prop
  | nil : EqL prog w A s [] []
  | cons {p : Value × Value} {b : Bool} {ps : List (Value × Value)} {bs : List Bool} : EqP prog w A s p.1 p.2 b -> EqL prog w A s ps bs -> EqL prog w A s (p :: ps) (b :: bs)
theorem tup_eq_pairs (l b : Addr) (us vs : Array Value) (n m : Nat) (dd de : Option Addr) (sl sm : Array (Option Value)) (bs : List Bool) :
    MeetsIn prog w (Builtin.«tuple.__eq__» ⟨[.ref l, .ref b], []⟩)
      (fun A R s => s.heap.get? l = some { cls := .type "tuple", dict := dd, data := .seq us n, slots := sl } /\ s.heap.get? b = some { cls := .type "tuple", dict := de, data := .seq vs m, slots := sm } /\
        EqL prog w A.in1 s (us.toList.zip vs.toList) bs /\ R (.ok (.ret (.bool (bs.all id && us.size == vs.size)))) s) :=
  .of_wp fun A R s0 h => by
    obtain ⟨h0, g0, d0, t0, o0⟩ := s0
    obtain ⟨hl, hb, he, hR⟩ := h
    have sub := AutoSeq1.sub_tuple_tuple
    wp_walk using wpAny_loadPart' hl, wpAny_loadPart' hb, wpAny_forIn_list _ (fun rest st s1 => st.1 = none /\ s1 = ⟨h0, g0, d0, t0, o0⟩ /\ ∃ cs, EqL prog w A.in1 ⟨h0, g0, d0, t0, o0⟩ rest cs /\ R (.ok (.ret (.bool (cs.all id && us.size == vs.size)))) ⟨h0, g0, d0, t0, o0⟩) _
    case turn =>
      rintro ⟨y, x⟩ rest st s1 ⟨e1, rfl, cs, ep, er⟩
      cases ep with
      | @cons _ c _ cs hp ep =>
        rw [List.all_cons] at er
        refine wpAny_bind (hp _ _ ?_)
        cases c with
        | true => wp_walk; exact ⟨rfl, rfl, cs, ep, by simpa using er⟩
        | false => wp_walk; exact ⟨_, rfl, by simpa using er⟩
    case fin =>
      rintro ⟨x1, x2⟩ s1 ⟨e1, rfl, cs, ep, er⟩
      simp only at e1
      subst e1
      cases ep
      wp_walk
      exact ⟨_, rfl, by simpa [Builtin.Tuple.tupleCompareSizes] using er⟩
    case h => exact ⟨rfl, rfl, bs, he, hR⟩
def RcP (prog : Program) (w : World) (A : Around) (s : Shared) (v u : Value) (k : Bool) : Prop := ∀ (E Q : Value -> Shared -> Prop), Q (.bool k) s -> wpAny (model prog w) A (richCompare .Eq v u) Q E s
theorem RcP.of {A : Around} {s : Shared} {v u : Value} {k : Bool} (h : RcAt A s v u k) : RcP prog w A s v u k := fun E Q q => h prog w E Q q
theorem rcp_tups {A : Around} {s : Shared} {l b : Addr} {us vs : Array Value} (bs : List Bool) (hl : s.heap.IsTuple l us) (hb : s.heap.IsTuple b vs) (hu : A.units < cLine)
    (he : EqL prog w A.in1 s (us.toList.zip vs.toList) bs) : RcP prog w A s (.ref l) (.ref b) (bs.all id && us.size == vs.size) := fun E Q q => by
  obtain ⟨⟨c1, d1, x1, s1⟩, ho, hc, n, hd⟩ := id hl
  obtain ⟨⟨c2, d2, x2, s2⟩, ho2, hc2, n2, hd2⟩ := id hb
  simp only at hc hd hc2 hd2
  subst hc hd hc2 hd2
  exact wpAny_richCompare_same_room (op := .Eq) ⟨_, ho, rfl⟩ ⟨_, ho2, rfl⟩ PySem.F.slot_tuple_eq (call_meetsIn PySem.F.slot_tuple_eq ⟨_, ho, rfl⟩ PySem.F.entry_tuple_eq (PySem.F.args_tuple_eq_2 _ _) (tup_eq_pairs l b us vs n n2 d1 d2 s1 s2 bs)
    ⟨ho, ho2, he, show Value.bool _ ≠ Value.notImplemented /\ Q (.bool _) s from ⟨(fun z => nomatch z), q⟩⟩) hu
theorem dict_no {A : Around} {s : Shared} {K : Type} [DecidableEq K] {knd : KeyKind prog w K} {a : Addr} {ka : List (K × Value)} {v : Value} {T : String} {E Q : Value -> Shared -> Prop} (da : s.heap.DictOf knd a ka) (hv : s.TypeIs v T) (hs : isSubtype (.type T) (.type "dict") = pure false) (q : Q .notImplemented s) :
    wpAny (model prog w) A (call (.builtin "dict.__eq__") [.ref a, v]) Q E s := by
  refine wpAny_call_entry PySem.F.slot_dict_eq da.typeIs PySem.F.entry_dict_eq ?_ (PySem.F.args_dict_eq_2 _ _)
  show wpAny _ _ (Builtin.Dict.dictSlotArgs "__eq__" ⟨[.ref a, v], []⟩ >>= _) _ _ s
  unfold Builtin.Dict.dictSlotArgs
  refine wpAny_bind (wpAny_bind (wpAny_notOrdered_dict da.typeIs ?_))
  refine wpAny_pure (wpAny_bind (wpAny_isInstance (T := T) hv hs ?_))
  simp only [Bool.not_false, if_true]
  exact wpAny_bind (wpAny_rule (wpAny_pure ⟨_, rfl, q⟩))
theorem int_no_dict (i : Int) (u : Tok) (l : Addr) (es : Array DictEntry) (ep : Nat) (dd : Option Addr) (sl : Array (Option Value)) :
    Meets (Builtin.«int.__eq__» ⟨[.int i u, .ref l], []⟩) (fun _ R s => s.heap.get? l = some { cls := .type "dict", dict := dd, data := .dict es ep, slots := sl } /\ R (.ok (.ret .notImplemented)) s) :=
  .of_wp fun prog w A R s q => by obtain ⟨h0, g0, d0, t0, o0⟩ := s; obtain ⟨hl, q⟩ := q; wp_walk using wpAny_loadPart' hl, wpAny_load hl; exact ⟨_, rfl, q⟩
theorem bool_no_dict (i : Bool) (l : Addr) (es : Array DictEntry) (ep : Nat) (dd : Option Addr) (sl : Array (Option Value)) :
    Meets (Builtin.«int.__eq__» ⟨[.bool i, .ref l], []⟩) (fun _ R s => s.heap.get? l = some { cls := .type "dict", dict := dd, data := .dict es ep, slots := sl } /\ R (.ok (.ret .notImplemented)) s) :=
  .of_wp fun prog w A R s q => by obtain ⟨h0, g0, d0, t0, o0⟩ := s; obtain ⟨hl, q⟩ := q; wp_walk using wpAny_loadPart' hl, wpAny_load hl; exact ⟨_, rfl, q⟩
theorem str_no_dict (i : Str) (u : Tok) (l : Addr) (es : Array DictEntry) (ep : Nat) (dd : Option Addr) (sl : Array (Option Value)) :
    Meets (Builtin.«str.__eq__» ⟨[.str i u, .ref l], []⟩) (fun _ R s => s.heap.get? l = some { cls := .type "dict", dict := dd, data := .dict es ep, slots := sl } /\ R (.ok (.ret .notImplemented)) s) :=
  .of_wp fun prog w A R s q => by obtain ⟨h0, g0, d0, t0, o0⟩ := s; obtain ⟨hl, q⟩ := q; wp_walk using wpAny_loadPart' hl, wpAny_load hl; exact ⟨_, rfl, q⟩
theorem list_no_dict (b : Addr) (us : Array Value) (n : Nat) (db : Option Addr) (sb : Array (Option Value)) (l : Addr) (es : Array DictEntry) (ep : Nat) (dd : Option Addr) (sl : Array (Option Value)) :
    Meets (Builtin.«list.__eq__» ⟨[.ref b, .ref l], []⟩) (fun _ R s => s.heap.get? b = some { cls := .type "list", dict := db, data := .seq us n, slots := sb } /\ s.heap.get? l = some { cls := .type "dict", dict := dd, data := .dict es ep, slots := sl } /\ R (.ok (.ret .notImplemented)) s) :=
  .of_wp fun prog w A R s q => by obtain ⟨h0, g0, d0, t0, o0⟩ := s; obtain ⟨hb, hl, q⟩ := q; have f := PySem.F.sub_dict_list; wp_walk using wpAny_loadPart' hb, wpAny_loadPart' hl, wpAny_load hl; exact ⟨_, rfl, q⟩
theorem tup_no_dict (b : Addr) (us : Array Value) (n : Nat) (db : Option Addr) (sb : Array (Option Value)) (l : Addr) (es : Array DictEntry) (ep : Nat) (dd : Option Addr) (sl : Array (Option Value)) :
    Meets (Builtin.«tuple.__eq__» ⟨[.ref b, .ref l], []⟩) (fun _ R s => s.heap.get? b = some { cls := .type "tuple", dict := db, data := .seq us n, slots := sb } /\ s.heap.get? l = some { cls := .type "dict", dict := dd, data := .dict es ep, slots := sl } /\ R (.ok (.ret .notImplemented)) s) :=
  .of_wp fun prog w A R s q => by obtain ⟨h0, g0, d0, t0, o0⟩ := s; obtain ⟨hb, hl, q⟩ := q; have f := PySem.F.sub_dict_tuple; wp_walk using wpAny_loadPart' hb, wpAny_loadPart' hl, wpAny_load hl; exact ⟨_, rfl, q⟩
def NoDict (prog : Program) (w : World) (s : Shared) (a : Addr) (v : Value) : Prop := ∃ T id, s.TypeIs v T /\ (Value.type "dict" != Value.type T) = true /\ (Value.type T != Value.type "dict") = true /\ isSubtype (.type T) (.type "dict") = pure false /\ isSubtype (.type "dict") (.type T) = pure false /\
  Slot T (cmpInfo .Eq).2.1 id /\ Slot T (cmpInfo .Eq).2.2 id /\ (∀ A (E Q : Value -> Shared -> Prop), Q .notImplemented s -> wpAny (model prog w) A (call (.builtin id) [v, .ref a]) Q E s) /\
  (∀ A E (R : Bool -> Shared -> Prop), R false s -> wpAny (model prog w) A (isSame (.ref a) v) R E s) /\ (∀ A E (R : Bool -> Shared -> Prop), R false s -> wpAny (model prog w) A (isSame v (.ref a)) R E s)
section
variable {K : Type} [DecidableEq K] {knd : KeyKind prog w K} {a : Addr} {ka : List (K × Value)} {A : Around} {s : Shared} {v : Value}
theorem rcp_dict_no (da : s.heap.DictOf knd a ka) (nd : NoDict prog w s a v) (hu : A.units < cLine) : RcP prog w A s (.ref a) v false := fun E Q q => by
  obtain ⟨T, id, h1, h2, h3, h4, h5, h6, h7, h8, h9, h10⟩ := nd
  exact rc_eq_decline_or (k := false) da.typeIs h1 h2 h4 PySem.F.slot_dict_eq h7 (fun _ z => dict_no da h1 h4 z) (fun _ z => h8 _ _ _ z) (fun _ z => h9 _ _ _ z) (.inr hu) q
theorem rcp_no_dict (da : s.heap.DictOf knd a ka) (nd : NoDict prog w s a v) (hu : A.units < cLine) : RcP prog w A s v (.ref a) false := fun E Q q => by
  obtain ⟨T, id, h1, h2, h3, h4, h5, h6, h7, h8, h9, h10⟩ := nd
  exact rc_eq_decline_or (k := false) h1 da.typeIs h3 h5 h6 PySem.F.slot_dict_eq_refl (fun _ z => h8 _ _ _ z) (fun _ z => dict_no da h1 h4 z) (fun _ z => h10 _ _ _ z) (.inr hu) q
theorem dict_obj (da : s.heap.DictOf knd a ka) : ∃ es ep, s.heap.get? a = some { cls := .type "dict", dict := none, data := .dict es ep, slots := #[] } := by
  obtain ⟨⟨c, d, x, sl⟩, es, ep, ho, ⟨hc, hd, hs⟩, hx, _⟩ := da
  simp only at hc hd hs hx
  subst hc hd hs hx
  exact ⟨es, ep, ho⟩
theorem nd_none (da : s.heap.DictOf knd a ka) : NoDict prog w s a .none :=
  ⟨"NoneType", _, rfl, by decide, by decide, PySem.F.sub_NoneType_dict, PySem.F.sub_dict_NoneType, PySem.F.slot_NoneType_eq, PySem.F.slot_NoneType_eq_refl, fun A E Q q => call_gives PySem.F.slot_NoneType_eq rfl PySem.F.entry_NoneType_eq (PySem.F.args_NoneType_eq_2 _ _) (NoneType___eq___none_ref_0 a) q,
    fun A E R r => wpAny_of_eq (rfl : isSame (.ref a) .none = pure false) r, fun A E R r => wpAny_of_eq (rfl : isSame .none (.ref a) = pure false) r⟩
theorem nd_bool (da : s.heap.DictOf knd a ka) (b : Bool) : NoDict prog w s a (.bool b) := by
  obtain ⟨es, ep, ho⟩ := dict_obj da
  exact ⟨"bool", _, rfl, by decide, by decide, PySem.F.sub_bool_dict, PySem.F.sub_dict_bool, PySem.F.slot_bool_eq, PySem.F.slot_bool_eq_refl, fun A E Q q => call_meets PySem.F.slot_bool_eq rfl PySem.F.entry_int_eq (PySem.F.args_int_eq_2 _ _) (bool_no_dict b a es ep _ _) ⟨ho, q⟩,
    fun A E R r => wpAny_of_eq (rfl : isSame (.ref a) (.bool b) = pure false) r, fun A E R r => wpAny_of_eq (rfl : isSame (.bool b) (.ref a) = pure false) r⟩
theorem nd_int (da : s.heap.DictOf knd a ka) (i : Int) (t : Tok) : NoDict prog w s a (.int i t) := by
  obtain ⟨es, ep, ho⟩ := dict_obj da
  exact ⟨"int", _, rfl, by decide, by decide, PySem.F.sub_int_dict, PySem.F.sub_dict_int, PySem.F.slot_int_eq, PySem.F.slot_int_eq_refl, fun A E Q q => call_meets PySem.F.slot_int_eq rfl PySem.F.entry_int_eq (PySem.F.args_int_eq_2 _ _) (int_no_dict i t a es ep _ _) ⟨ho, q⟩,
    fun A E R r => wpAny_of_eq (rfl : isSame (.ref a) (.int i t) = pure false) r, fun A E R r => wpAny_of_eq (rfl : isSame (.int i t) (.ref a) = pure false) r⟩
theorem nd_str (da : s.heap.DictOf knd a ka) (i : Str) (t : Tok) : NoDict prog w s a (.str i t) := by
  obtain ⟨es, ep, ho⟩ := dict_obj da
  exact ⟨"str", _, rfl, by decide, by decide, PySem.F.sub_str_dict, PySem.F.sub_dict_str, PySem.F.slot_str_eq, PySem.F.slot_str_eq_refl, fun A E Q q => call_meets PySem.F.slot_str_eq rfl PySem.F.entry_str_eq (PySem.F.args_str_eq_2 _ _) (str_no_dict i t a es ep _ _) ⟨ho, q⟩,
    fun A E R r => wpAny_of_eq (rfl : isSame (.ref a) (.str i t) = pure false) r, fun A E R r => wpAny_of_eq (rfl : isSame (.str i t) (.ref a) = pure false) r⟩
theorem nd_list (da : s.heap.DictOf knd a ka) {b : Addr} {us : Array Value} (hl : s.heap.IsList b us) : NoDict prog w s a (.ref b) := by
  obtain ⟨es, ep, ho⟩ := dict_obj da
  obtain ⟨⟨c1, d1, x1, s1⟩, hb, hc, n, hd⟩ := id hl
  simp only at hc hd
  subst hc hd
  have ne : a ≠ b := fun z => by subst z; rw [ho] at hb; exact absurd (congrArg (Option.map Obj.cls) hb) (by simp)
  exact ⟨"list", _, ⟨_, hb, rfl⟩, by decide, by decide, PySem.F.sub_list_dict, PySem.F.sub_dict_list, PySem.F.slot_list_eq, PySem.F.slot_list_eq_refl, fun A E Q q => call_meets PySem.F.slot_list_eq ⟨_, hb, rfl⟩ PySem.F.entry_list_eq (PySem.F.args_list_eq_2 _ _) (list_no_dict b us n _ _ a es ep _ _) ⟨hb, ho, q⟩,
    fun A E R r => wpAny_isSame_ref_other' ne ho hb (by simp) r, fun A E R r => wpAny_isSame_ref_other' ne.symm hb ho (by simp) r⟩
theorem nd_tup (da : s.heap.DictOf knd a ka) {b : Addr} {us : Array Value} (hl : s.heap.IsTuple b us) : NoDict prog w s a (.ref b) := by
  obtain ⟨es, ep, ho⟩ := dict_obj da
  obtain ⟨⟨c1, d1, x1, s1⟩, hb, hc, n, hd⟩ := id hl
  simp only at hc hd
  subst hc hd
  have ne : a ≠ b := fun z => by subst z; rw [ho] at hb; exact absurd (congrArg (Option.map Obj.cls) hb) (by simp)
  exact ⟨"tuple", _, ⟨_, hb, rfl⟩, by decide, by decide, PySem.F.sub_tuple_dict, PySem.F.sub_dict_tuple, PySem.F.slot_tuple_eq, PySem.F.slot_tuple_eq_refl, fun A E Q q => call_meets PySem.F.slot_tuple_eq ⟨_, hb, rfl⟩ PySem.F.entry_tuple_eq (PySem.F.args_tuple_eq_2 _ _) (tup_no_dict b us n _ _ a es ep _ _) ⟨hb, ho, q⟩,
    fun A E R r => wpAny_isSame_ref_other ne ho hb (by simp) r, fun A E R r => wpAny_isSame_ref_other' ne.symm hb ho (by simp) r⟩
end
end
mutual
def eqX : D -> D -> Bool
  | .non, .non => true
  | .bl a, .bl b => a == b
  | .bl a, .int j => (if a then 1 else 0) == j
  | .int i, .bl b => i == (if b then 1 else 0)
  | .int i, .int j => i == j
  | .str x, .str y => x == y
  | .lst xs, .lst ys => eqXs xs ys
  | .tup xs, .tup ys => eqXs xs ys
  | .dK ks ds, .dK ls es => ks.length == ls.length && eqKs ks ds ls es
  | _, _ => false
def eqXs : List D -> List D -> Bool
  | [], [] => true
  | x :: xs, y :: ys => eqX x y && eqXs xs ys
  | _, _ => false
def eqKs : List Key -> List D -> List Key -> List D -> Bool
  | k :: ks, d :: ds, ls, es => (match atK k ls es with
    | some e => eqX d e
    | none => false) && eqKs ks ds ls es
  | _, _, _, _ => true
end
mutual
def plX : Nat -> D -> Bool
  | _, .non => true
  | _, .bl _ => true
  | _, .int _ => true
  | _, .str _ => true
  | n + 1, .lst xs => plXs n xs
  | n + 1, .tup xs => plXs n xs
  | n + 1, .dK ks ds => decide ks.Nodup && ks.length == ds.length && plXs n ds
  | _, _ => false
def plXs : Nat -> List D -> Bool
  | _, [] => true
  | n, x :: xs => plX n x && plXs n xs
end
theorem plXs_all {n : Nat} : ∀ {ds : List D}, plXs n ds = true ↔ ∀ d ∈ ds, plX n d = true
  | [] => by simp [plXs]
  | d :: ds => by simp [plXs, plXs_all (ds := ds)]
theorem atK_self {ks : List Key} (nd : ks.Nodup) : ∀ {ds : List D}, ks.length = ds.length -> ∀ (i : Nat) (k : Key) (d : D), ks[i]? = some k -> ds[i]? = some d -> atK k ks ds = some d := by
  induction ks with
  | nil => intro ds _ i k d h; simp at h
  | cons j ks ih =>
    intro ds hl i k d h1 h2
    cases ds with
    | nil => simp at hl
    | cons d0 ds =>
      cases i with
      | zero =>
        simp at h1 h2
        subst h1 h2
        simp [atK]
      | succ i =>
        simp at h1 h2
        have hm : k ∈ ks := List.mem_of_getElem? h1
        have hne : j ≠ k := fun z => by subst z; exact (List.nodup_cons.mp nd).1 hm
        have := ih (List.nodup_cons.mp nd).2 (by simpa using hl) i k d h1 h2
        simp [atK, hne, this]
mutual
theorem eqX_refl : ∀ (n : Nat) (d : D), plX n d = true -> eqX d d = true
  | _, .non, _ => by simp [eqX]
  | _, .bl _, _ => by simp [eqX]
  | _, .int _, _ => by simp [eqX]
  | _, .str _, _ => by simp [eqX]
  | n + 1, .lst xs, h => by simp only [eqX]; exact eqXs_refl n xs (by simpa [plX] using h)
  | n + 1, .tup xs, h => by simp only [eqX]; exact eqXs_refl n xs (by simpa [plX] using h)
  | n + 1, .dK ks ds, h => by
    simp only [plX, Bool.and_eq_true, decide_eq_true_eq, beq_iff_eq] at h
    simp only [eqX, beq_self_eq_true, Bool.true_and]
    exact eqKs_refl n ds ks ds ks 0 h.2 (by simp) (by simp) h.1.1 h.1.2
  | 0, .lst _, h => by simp [plX] at h
  | 0, .tup _, h => by simp [plX] at h
  | 0, .dK _ _, h => by simp [plX] at h
  | _, .byt _, h => by simp [plX] at h
  | _, .ty _, h => by simp [plX] at h
  | _, .ref _, h => by simp [plX] at h
  | _, .dT _ _ _, h => by simp [plX] at h
  | _, .obj _ _ _, h => by simp [plX] at h
  | _, .cls _, h => by simp [plX] at h
  | _, .exc _ _ _ _ _, h => by simp [plX] at h
  | _, .xob _ _ _, h => by simp [plX] at h
  | _, .thk _ _ _ _ _, h => by simp [plX] at h
  | _, .dN _ _ _, h => by simp [plX] at h
  | _, .fn _ _, h => by simp [plX] at h
  | _, .cel _ _, h => by simp [plX] at h
theorem eqXs_refl : ∀ (n : Nat) (ds : List D), plXs n ds = true -> eqXs ds ds = true
  | _, [], _ => by simp [eqXs]
  | n, d :: ds, h => by
    simp only [plXs, Bool.and_eq_true] at h
    simp only [eqXs, Bool.and_eq_true]
    exact ⟨eqX_refl n d h.1, eqXs_refl n ds h.2⟩
theorem eqKs_refl : ∀ (n : Nat) (ds : List D) (ks : List Key) (es : List D) (ls : List Key) (i : Nat), plXs n ds = true -> ds = es.drop i -> ks = ls.drop i -> ls.Nodup -> ls.length = es.length -> eqKs ks ds ls es = true
  | _, [], ks, es, ls, i, _, _, _, _, _ => by cases ks <;> simp [eqKs]
  | n, d :: ds, [], es, ls, i, _, _, _, _, _ => by simp [eqKs]
  | n, d :: ds, k :: ks, es, ls, i, h, h1, h2, nd, hl => by
    simp only [plXs, Bool.and_eq_true] at h
    have e1 : es[i]? = some d := by have := congrArg List.head? h1; simpa [List.head?_drop] using this.symm
    have e2 : ls[i]? = some k := by have := congrArg List.head? h2; simpa [List.head?_drop] using this.symm
    have e3 := atK_self nd hl i k d e2 e1
    simp only [eqKs, e3, Bool.and_eq_true]
    exact ⟨eqX_refl n d h.1, eqKs_refl n ds ks es ls (i + 1) h.2 (by have := congrArg List.tail h1; simpa [List.tail_drop] using this) (by have := congrArg List.tail h2; simpa [List.tail_drop] using this) nd hl⟩
end
section
variable {X : Cx} {pins : List (Addr × Obj)} {σ : St} {H : Hp} {s : Shared} {cl : ClW}
inductive Side (X : Cx) (cl : ClW) (H : Hp) (s : Shared) : D -> Value -> Prop
  | non : Side X cl H s .non .none
  | bl (b : Bool) : Side X cl H s (.bl b) (.bool b)
  | int (i : Int) (t : Tok) : Side X cl H s (.int i) (.int i t)
  | str (x : Str) (t : Tok) : Side X cl H s (.str x) (.str x t)
  | lst {a : Addr} {us : List Value} {vs : List V} {ds : List D} : s.heap.IsList a us.toArray -> Vals vs us -> Reps X.K cl H vs ds -> Side X cl H s (.lst ds) (.ref a)
  | tup {a : Addr} {us : List Value} {vs : List V} {ds : List D} : s.heap.IsTuple a us.toArray -> Vals vs us -> Reps X.K cl H vs ds -> Side X cl H s (.tup ds) (.ref a)
  | dK {a : Addr} {ks : List Key} {us : List (Key × Value)} {vs : List V} {ds : List D} : (a == sysModules) = false -> s.heap.DictOf (mixKind X.prog X.w) a us -> KV (ks.zip vs) us -> ks.length = vs.length -> Reps X.K cl H vs ds -> Side X cl H s (.dK ks ds) (.ref a)
theorem side_of (I : Inv X pins σ H s) {n : Nat} {d : D} {x : V} {v : Value} (r : Rep X.K cl H x d) (p : plX n d = true) (rv : RelV x v) : Side X cl H s d v := by
  cases r with
  | non => cases (show v = Value.none from rv); exact .non
  | bl b => cases (show v = Value.bool b from rv); exact .bl b
  | int i => obtain ⟨t, rfl⟩ := rv; exact .int i t
  | str x => obtain ⟨t, rfl⟩ := rv; exact .str x t
  | lst h1 h2 =>
    cases (show v = Value.ref _ from rv)
    obtain ⟨us, r1, p1, _⟩ := I.list h1
    exact .lst p1.isList r1 h2
  | tup h1 h2 =>
    cases (show v = Value.ref _ from rv)
    obtain ⟨us, r1, p1, _⟩ := I.tuple h1.sq
    exact .tup p1 r1 h2
  | dK h1 h2 h3 =>
    cases (show v = Value.ref _ from rv)
    obtain ⟨_, y, us, r1, dd⟩ := (show ObjOk X.prog X.w H s.heap _ (.dK _) from I.hok _ _ h1)
    exact .dK y dd r1 h2 h3
  | _ => simp [plX] at p
theorem eqP_of_rcP {A : Around} {v u : Value} {k : Bool} {d : D} (hd : Side X cl H s d v) (h : RcP X.prog X.w A s v u k) (hs : v = u -> k = true) : EqP X.prog X.w A s v u k := fun E Q q => by
  unfold eqBool
  refine wpAny_holding (wpAny_ite_split (fun e => ?_) (fun _ => ?_))
  · have := hs (eq_of_beq e)
    subst this
    exact wpAny_bind (wpAny_rule (wpAny_pure q))
  · cases hd <;> exact wpAny_bind (h E _ (wpAny_truthy_bool q))
def eqZ : List D -> List D -> List Bool
  | x :: xs, y :: ys => eqX x y :: eqZ xs ys
  | _, _ => []
theorem eqXs_Z : ∀ xs ys : List D, eqXs xs ys = ((eqZ xs ys).all id && xs.length == ys.length)
  | [], [] => by simp [eqXs, eqZ]
  | [], _ :: _ => by simp [eqXs, eqZ]
  | _ :: _, [] => by simp [eqXs, eqZ]
  | x :: xs, y :: ys => by
    simp only [eqXs, eqZ, List.all_cons, id, List.length_cons]
    rw [eqXs_Z xs ys, Bool.and_assoc]
    congr 1
    congr 1
    rw [Bool.eq_iff_iff]
    simp
theorem eqZ_at : ∀ (xs ys : List D) (j : Nat), j < xs.length -> j < ys.length -> (eqZ xs ys)[j]? = some (eqX (xs.getD j .non) (ys.getD j .non))
  | [], _, j, h, _ => by simp at h
  | _ :: _, [], j, _, h => by simp at h
  | x :: xs, y :: ys, 0, _, _ => by simp [eqZ]
  | x :: xs, y :: ys, j + 1, h1, h2 => by simpa [eqZ] using eqZ_at xs ys j (by simpa using h1) (by simpa using h2)
theorem eqZ_len : ∀ (xs ys : List D), xs.length = ys.length -> (eqZ xs ys).length = xs.length
  | [], [], _ => rfl
  | [], _ :: _, h => by simp at h
  | _ :: _, [], h => by simp at h
  | x :: xs, y :: ys, h => by simp [eqZ, eqZ_len xs ys (by simpa using h)]
theorem range_all (bs : List Bool) (e : Nat -> Bool) (n : Nat) (hn : bs.length = n) (h : ∀ j < n, bs[j]? = some (e j)) : (List.range n).all e = bs.all id := by
  have : bs = (List.range n).map e := by
    refine List.ext_getElem? fun j => ?_
    by_cases hj : j < n
    · rw [h j hj]; simp [hj]
    · simp [hj]; omega
  rw [this, List.all_map]
  rfl
def unV : Value -> Option V
  | .none => some .non
  | .bool b => some (.bl b)
  | .int i _ => some (.int i)
  | .str x _ => some (.str x)
  | .bytes b _ => some (.byt b)
  | .float b _ => some (.flt b)
  | .ref a => some (.ref a)
  | .type n => some (.ty n)
  | _ => none
theorem unV_of {x : V} {v : Value} (h : RelV x v) : unV v = some x := by
  cases x <;> simp only [RelV] at h <;> first | (subst h; rfl) | (obtain ⟨t, rfl⟩ := h; rfl)
theorem relV_inj {x y : V} {v : Value} (h : RelV x v) (k : RelV y v) : x = y := Option.some.inj ((unV_of h).symm.trans (unV_of k))
theorem vals_inj {vs ws : List V} {us : List Value} (h : Vals vs us) (k : Vals ws us) : vs = ws := by
  induction h generalizing ws with
  | nil => cases k; rfl
  | cons a b ih =>
    cases k with
    | cons c d => rw [relV_inj a c, ih d]
theorem dict_ne_list {a b : Addr} {ka : List (Key × Value)} {us : Array Value} (da : s.heap.DictOf (mixKind X.prog X.w) a ka) (hl : s.heap.IsList b us) : a ≠ b := fun z => by
  obtain ⟨es, ep, ho⟩ := dict_obj da
  obtain ⟨o, hb, hc, n, hd⟩ := hl
  subst z
  rw [ho] at hb
  cases hb
  exact absurd hc (by simp)
theorem dict_ne_tup {a b : Addr} {ka : List (Key × Value)} {us : Array Value} (da : s.heap.DictOf (mixKind X.prog X.w) a ka) (hl : s.heap.IsTuple b us) : a ≠ b := fun z => by
  obtain ⟨es, ep, ho⟩ := dict_obj da
  obtain ⟨o, hb, hc, n, hd⟩ := hl
  subst z
  rw [ho] at hb
  cases hb
  exact absurd hc (by simp)
theorem list_same {a : Addr} {us vs : List Value} (h : s.heap.IsList a us.toArray) (k : s.heap.IsList a vs.toArray) : us = vs := by
  obtain ⟨o, h1, _, n, h2⟩ := h
  obtain ⟨o2, k1, _, m, k2⟩ := k
  rw [h1] at k1
  cases k1
  rw [h2] at k2
  cases k2
  rfl
theorem tup_same {a : Addr} {us vs : List Value} (h : s.heap.IsTuple a us.toArray) (k : s.heap.IsTuple a vs.toArray) : us = vs := by
  obtain ⟨o, h1, _, n, h2⟩ := h
  obtain ⟨o2, k1, _, m, k2⟩ := k
  rw [h1] at k1
  cases k1
  rw [h2] at k2
  cases k2
  rfl
theorem pairs_inj {es : List DictEntry} {us vs : List (Key × Value)} (h : Pairs (mixKind X.prog X.w) es us) (k : Pairs (mixKind X.prog X.w) es vs) : us = vs := by
  induction h generalizing vs with
  | nil => cases k; rfl
  | cons a b c ih =>
    cases k with
    | cons a' b' c' => rw [ih c', Prod.ext ((mixKind X.prog X.w).inj _ _ _ a a') (b.symm.trans b')]
theorem kv_same {a : Addr} {us vs : List (Key × Value)} (h : s.heap.DictOf (mixKind X.prog X.w) a us) (k : s.heap.DictOf (mixKind X.prog X.w) a vs) : us = vs := by
  obtain ⟨o, es, ep, h1, _, h2, _, h3, _⟩ := h
  obtain ⟨o2, es2, ep2, k1, _, k2, _, k3, _⟩ := k
  rw [h1] at k1
  cases k1
  rw [h2] at k2
  cases k2
  exact pairs_inj h3 k3
theorem kv_inj {ks ls : List Key} {vs ws : List V} {us : List (Key × Value)} (h : KV (ks.zip vs) us) (hl : ks.length = vs.length) (k : KV (ls.zip ws) us) (kl : ls.length = ws.length) : ks = ls /\ vs = ws := by
  induction us generalizing ks ls vs ws with
  | nil =>
    have e1 : (ks.zip vs).length = 0 := by rw [KV.length h]; rfl
    have e2 : (ls.zip ws).length = 0 := by rw [KV.length k]; rfl
    rw [List.length_zip] at e1 e2
    have a1 : ks = [] := List.length_eq_zero_iff.mp (by omega)
    have a2 : vs = [] := List.length_eq_zero_iff.mp (by omega)
    have a3 : ls = [] := List.length_eq_zero_iff.mp (by omega)
    have a4 : ws = [] := List.length_eq_zero_iff.mp (by omega)
    simp [a1, a2, a3, a4]
  | cons u us ih =>
    match ks, vs, ls, ws, h, k, hl, kl with
    | k1 :: ks, v1 :: vs, l1 :: ls, w1 :: ws, .cons a b, .cons c d, hl, kl =>
      obtain ⟨e1, e2⟩ := ih (ks := ks) (vs := vs) (ls := ls) (ws := ws) b (by simpa using hl) d (by simpa using kl)
      have e3 : k1 = l1 := a.1.trans c.1.symm
      have e4 : v1 = w1 := relV_inj a.2 c.2
      simp [e1, e2, e3, e4]
theorem kv_vals {ks : List Key} {vs : List V} {us : List (Key × Value)} (h : KV (ks.zip vs) us) (hl : ks.length = vs.length) : ∃ ws, Vals vs ws := by
  induction us generalizing ks vs with
  | nil =>
    have e1 : (ks.zip vs).length = 0 := by rw [KV.length h]; rfl
    rw [List.length_zip] at e1
    have a2 : vs = [] := List.length_eq_zero_iff.mp (by omega)
    exact ⟨[], by rw [a2]; exact .nil⟩
  | cons u us ih =>
    match ks, vs, h, hl with
    | k1 :: ks, v1 :: vs, .cons a b, hl =>
      obtain ⟨ws, h⟩ := ih (ks := ks) (vs := vs) b (by simpa using hl)
      exact ⟨u.2 :: ws, .cons a.2 h⟩
theorem side_reps (I : Inv X pins σ H s) {n : Nat} (ih : ∀ (d e : D) (v : Value), Side X cl H s d v -> Side X cl H s e v -> plX n d = true -> plX n e = true -> d = e) : ∀ {vs : List V} {us : List Value} {ds es : List D}, Vals vs us -> Reps X.K cl H vs ds -> Reps X.K cl H vs es -> plXs n ds = true -> plXs n es = true -> ds = es
  | [], _, _, _, _, r, q, _, _ => by cases r; cases q; rfl
  | v :: vs, _, _, _, .cons a b, .cons r1 r2, .cons q1 q2, h, k => by
    simp only [plXs, Bool.and_eq_true] at h k
    rw [ih _ _ _ (side_of I r1 h.1 a) (side_of I q1 k.1 a) h.1 k.1, side_reps I ih b r2 q2 h.2 k.2]
theorem side_inj (I : Inv X pins σ H s) : ∀ (n : Nat) (d e : D) (v : Value), Side X cl H s d v -> Side X cl H s e v -> plX n d = true -> plX n e = true -> d = e
  | n, _, _, _, .non, .non, _, _ => rfl
  | n, _, _, _, .bl _, .bl _, _, _ => rfl
  | n, _, _, _, .int _ _, .int _ _, _, _ => rfl
  | n, _, _, _, .str _ _, .str _ _, _, _ => rfl
  | n + 1, _, _, _, .lst h1 h2 h3, .lst k1 k2 k3, p, q => by
    have e := list_same h1 k1
    subst e
    have e := vals_inj h2 k2
    subst e
    rw [side_reps I (side_inj I n) h2 h3 k3 (by simpa [plX] using p) (by simpa [plX] using q)]
  | n + 1, _, _, _, .tup h1 h2 h3, .tup k1 k2 k3, p, q => by
    have e := tup_same h1 k1
    subst e
    have e := vals_inj h2 k2
    subst e
    rw [side_reps I (side_inj I n) h2 h3 k3 (by simpa [plX] using p) (by simpa [plX] using q)]
  | n + 1, _, _, _, .dK h0 h1 h2 h3 h4, .dK k0 k1 k2 k3 k4, p, q => by
    have e := kv_same h1 k1
    subst e
    obtain ⟨rfl, rfl⟩ := kv_inj h2 h3 k2 k3
    simp only [plX, Bool.and_eq_true] at p q
    obtain ⟨us, hv⟩ : ∃ us, Vals _ us := kv_vals h2 h3
    rw [side_reps I (side_inj I n) hv h4 k4 p.2 q.2]
  | n, _, _, _, .lst h1 _ _, .tup k1 _ _, _, _ => absurd rfl (ne_of_list_tuple h1 k1)
  | n, _, _, _, .tup h1 _ _, .lst k1 _ _, _, _ => absurd rfl (ne_of_list_tuple k1 h1)
  | n, _, _, _, .lst h1 _ _, .dK _ k1 _ _ _, _, _ => absurd rfl (dict_ne_list k1 h1)
  | n, _, _, _, .dK _ h1 _ _ _, .lst k1 _ _, _, _ => absurd rfl (dict_ne_list h1 k1)
  | n, _, _, _, .tup h1 _ _, .dK _ k1 _ _ _, _, _ => absurd rfl (dict_ne_tup k1 h1)
  | n, _, _, _, .dK _ h1 _ _ _, .tup k1 _ _, _, _ => absurd rfl (dict_ne_tup h1 k1)
  | 0, _, _, _, .lst _ _ _, .lst _ _ _, p, _ => by simp [plX] at p
  | 0, _, _, _, .tup _ _ _, .tup _ _ _, p, _ => by simp [plX] at p
  | 0, _, _, _, .dK _ _ _ _ _, .dK _ _ _ _ _, p, _ => by simp [plX] at p
theorem eqX_at {A : Around} (I : Inv X pins σ H s) {n : Nat} {d e : D} {v u : Value} (h : RcP X.prog X.w A s v u (eqX d e)) (sd : Side X cl H s d v) (se : Side X cl H s e u) (pd : plX n d = true) (pe : plX n e = true) : EqP X.prog X.w A s v u (eqX d e) :=
  eqP_of_rcP sd h fun z => by
    subst z
    rw [side_inj I n d e _ sd se pd pe]
    exact eqX_refl n e pe
theorem atK_mem {β : Type} [DecidableEq β] {k : β} {e : D} : ∀ {ls : List β} {es : List D}, atK k ls es = some e -> e ∈ es
  | [], _, h => by simp [atK] at h
  | _ :: _, [], h => by simp [atK] at h
  | l :: ls, x :: es, h => by
    by_cases c : l = k
    · simp [atK, c] at h; simp [h]
    · simp [atK, c] at h; exact List.mem_cons_of_mem _ (atK_mem h)
theorem keq_hits {A : Around} {n : Nat} (I : Inv X pins σ H s) (ih : ∀ (d e : D) (v u : Value), Side X cl H s d v -> Side X cl H s e u -> plX n d = true -> plX n e = true -> EqP X.prog X.w A s v u (eqX d e)) {ls : List Key} {ws : List V} {ub : List (Key × Value)} {es : List D} (rb : KV (ls.zip ws) ub) (rl : ls.length = ws.length) (re : Reps X.K cl H ws es) (pe : plXs n es = true) :
    ∀ {ks : List Key} {vs : List V} {ua : List (Key × Value)} {ds : List D}, KV (ks.zip vs) ua -> ks.length = vs.length -> Reps X.K cl H vs ds -> plXs n ds = true -> PySem.W.KeqHitsP X.prog X.w A s ub ua (eqKs ks ds ls es)
  | [], [], _, _, .nil, _, rd, _ => by cases rd; simp only [eqKs]; exact .nil
  | k :: ks, v :: vs, (k', u) :: ua, d :: ds, .cons a b, hl, .cons r1 r2, pd => by
    simp only [plXs, Bool.and_eq_true] at pd
    have rest := keq_hits I ih rb rl re pe b (by simpa using hl) r2 pd.2
    have rv := rb.val k
    rw [valV_zip] at rv
    obtain ⟨e0, ru⟩ : k = k' /\ RelV v u := a
    subst e0
    simp only [eqKs]
    cases hm : atK k ls es with
    | none =>
      have e1 : (atK k ls ws).isSome = (atK k ls es).isSome := by rw [atK_some k ls ws rl, atK_some k ls es (rl.trans re.length)]
      rw [hm] at e1
      cases hw : atK k ls ws with
      | some x => rw [hw] at e1; cases e1
      | none =>
        rw [hw] at rv
        cases hu : valueAt ub k with
        | some x => rw [hu] at rv; exact rv.elim
        | none => simp only [Bool.false_and]; exact .miss hu
    | some e =>
      obtain ⟨w', hw, re'⟩ := reps_atK re hm
      rw [hw] at rv
      have pe' : plX n e = true := plXs_all.mp pe e (atK_mem hm)
      cases hu : valueAt ub k with
      | none => rw [hu] at rv; exact rv.elim
      | some y =>
        rw [hu] at rv
        exact .hit hu (ih d e u y (side_of I r1 pd.1 ru) (side_of I re' pe' rv) pd.1 pe') rest
theorem eqL_of {A : Around} {n : Nat} (I : Inv X pins σ H s) (ih : ∀ (d e : D) (v u : Value), Side X cl H s d v -> Side X cl H s e u -> plX n d = true -> plX n e = true -> EqP X.prog X.w A s v u (eqX d e)) :
    ∀ {vs ws : List V} {us ts : List Value} {ds es : List D}, Vals vs us -> Reps X.K cl H vs ds -> Vals ws ts -> Reps X.K cl H ws es -> plXs n ds = true -> plXs n es = true -> EqL X.prog X.w A s (us.zip ts) (eqZ ds es)
  | _, _, _, _, _, _, .nil, .nil, _, _, _, _ => by simp only [eqZ, List.zip_nil_left]; exact .nil
  | _, _, _, _, _, _, .cons _ _, .cons _ _, .nil, .nil, _, _ => by simp only [eqZ, List.zip_nil_right]; exact .nil
  | _, _, _, _, _, _, .cons a b, .cons r1 r2, .cons c d, .cons q1 q2, p, q => by
    simp only [plXs, Bool.and_eq_true] at p q
    simp only [eqZ, List.zip_cons_cons]
    exact .cons (ih _ _ _ _ (side_of I r1 p.1 a) (side_of I q1 q.1 c) p.1 q.1) (eqL_of I ih b r2 d q2 p.2 q.2)
theorem eqL_at {prog : Program} {w : World} {A : Around} {s : Shared} {ps : List (Value × Value)} {bs : List Bool} (h : EqL prog w A s ps bs) : ∀ (j : Nat) (p : Value × Value), ps[j]? = some p -> ∃ b, bs[j]? = some b /\ EqP prog w A s p.1 p.2 b := by
  induction h with
  | nil => intro j p e; simp at e
  | cons a b ih =>
    intro j p e
    cases j with
    | zero => simp at e; subst e; exact ⟨_, rfl, a⟩
    | succ j => simpa using ih j p (by simpa using e)
theorem rc_flat {A : Around} {d e : D} {v u : Value} (sd : Side X cl H s d v) (se : Side X cl H s e u) (pd : plX 0 d = true) (pe : plX 0 e = true) : RcP X.prog X.w A s v u (eqX d e) := by
  cases sd with
  | non =>
    cases se with
    | non => simp only [eqX]; exact .of .none_none
    | bl bb => simp only [eqX]; exact .of (.none_bool bb)
    | int bi bt => simp only [eqX]; exact .of (.none_int bi bt)
    | str bx bt => simp only [eqX]; exact .of (.none_str bx bt)
    | lst => simp [plX] at pe
    | tup => simp [plX] at pe
    | dK => simp [plX] at pe
  | bl pb =>
    cases se with
    | non => simp only [eqX]; exact .of (.bool_none pb)
    | bl bb => simp only [eqX]; exact .of (.bool_bool pb bb)
    | int bi bt => simp only [eqX]; exact .of (.bool_int pb bi bt)
    | str bx bt => simp only [eqX]; exact .of (.bool_str pb bx bt)
    | lst => simp [plX] at pe
    | tup => simp [plX] at pe
    | dK => simp [plX] at pe
  | int pi pt =>
    cases se with
    | non => simp only [eqX]; exact .of (.int_none pi pt)
    | bl bb => simp only [eqX]; exact .of (.int_bool pi pt bb)
    | int bi bt => simp only [eqX]; exact .of (.int_int pi pt bi bt)
    | str bx bt => simp only [eqX]; exact .of (.int_str pi pt bx bt)
    | lst => simp [plX] at pe
    | tup => simp [plX] at pe
    | dK => simp [plX] at pe
  | str px pt =>
    cases se with
    | non => simp only [eqX]; exact .of (.str_none px pt)
    | bl bb => simp only [eqX]; exact .of (.str_bool px pt bb)
    | int bi bt => simp only [eqX]; exact .of (.str_int px pt bi bt)
    | str bx bt => simp only [eqX]; exact .of (.str_str px pt bx bt)
    | lst => simp [plX] at pe
    | tup => simp [plX] at pe
    | dK => simp [plX] at pe
  | lst => simp [plX] at pd
  | tup => simp [plX] at pd
  | dK => simp [plX] at pd
theorem rc_lsts {A : Around} {n : Nat} (I : Inv X pins σ H s) (ihE : ∀ (d e : D) (v u : Value), Side X cl H s d v -> Side X cl H s e u -> plX n d = true -> plX n e = true -> EqP X.prog X.w A.in1 s v u (eqX d e)) {a b : Addr} {us ts : List Value} {vs ws : List V} {ds es : List D}
    (h1 : s.heap.IsList a us.toArray) (h2 : Vals vs us) (h3 : Reps X.K cl H vs ds) (k1 : s.heap.IsList b ts.toArray) (k2 : Vals ws ts) (k3 : Reps X.K cl H ws es) (p : plXs n ds = true) (q : plXs n es = true) (hA : A.units < cLine) : RcP X.prog X.w A s (.ref a) (.ref b) (eqXs ds es) := by
  have l1 := h2.length
  have l2 := k2.length
  have l3 := h3.length
  have l4 := k3.length
  rw [eqXs_Z]
  by_cases hl : ds.length = es.length
  · have L := eqL_of I ihE h2 h3 k2 k3 p q
    have hz := eqZ_len ds es hl
    intro E Q r
    refine SeqAt.rcP_lists (e := fun j => eqX (ds.getD j .non) (es.getD j .non)) h1 k1 (by simp; omega) hA (fun j j1 j2 => ?_) E Q ?_
    · simp at j1 j2
      obtain ⟨b', e1, e2⟩ := eqL_at L j (us[j], ts[j]) (by simp [List.getElem?_zip_eq_some, j1, j2])
      rw [eqZ_at ds es j (by omega) (by omega)] at e1
      cases e1
      simpa using e2
    · rw [range_all (eqZ ds es) _ us.toArray.size (by simp; omega) (fun j hj => eqZ_at ds es j (by simp at hj; omega) (by simp at hj; omega))]
      simpa [hl] using r
  · have e : ((eqZ ds es).all id && ds.length == es.length) = false := by simp [hl]
    rw [e]
    exact .of (.lists_lengths h1 k1 (by simp; omega) hA)
theorem rcX (I : Inv X pins σ H s) : ∀ (n : Nat) (A : Around), A.units + n < cLine -> ∀ (d e : D) (v u : Value), Side X cl H s d v -> Side X cl H s e u -> plX n d = true -> plX n e = true -> RcP X.prog X.w A s v u (eqX d e) := by
  intro n
  induction n with
  | zero =>
    intro A hu d e v u sd se pd pe
    exact rc_flat sd se pd pe
  | succ n ih =>
    intro A hu d e v u sd se pd pe
    have hA : A.units < cLine := by omega
    have ihE : ∀ (d e : D) (v u : Value), Side X cl H s d v -> Side X cl H s e u -> plX n d = true -> plX n e = true -> EqP X.prog X.w A.in1 s v u (eqX d e) := fun d e v u sd se pd pe => eqX_at I (ih A.in1 (by show A.units + 1 + n < cLine; omega) d e v u sd se pd pe) sd se pd pe
    cases sd with
    | non =>
      cases se with
      | non => exact rc_flat (cl := cl) (H := H) (.non) (.non) rfl rfl
      | bl bb => exact rc_flat (cl := cl) (H := H) (.non) (.bl bb) rfl rfl
      | int bi bt => exact rc_flat (cl := cl) (H := H) (.non) (.int bi bt) rfl rfl
      | str bx bt => exact rc_flat (cl := cl) (H := H) (.non) (.str bx bt) rfl rfl
      | lst h1 h2 h3 => simp only [eqX]; exact .of (.none_list h1 hA)
      | tup h1 h2 h3 => simp only [eqX]; exact .of (.none_tuple h1 hA)
      | dK h0 h1 h2 h3 h4 => simp only [eqX]; exact rcp_no_dict h1 (nd_none h1) hA
    | bl pb =>
      cases se with
      | non => exact rc_flat (cl := cl) (H := H) (.bl pb) (.non) rfl rfl
      | bl bb => exact rc_flat (cl := cl) (H := H) (.bl pb) (.bl bb) rfl rfl
      | int bi bt => exact rc_flat (cl := cl) (H := H) (.bl pb) (.int bi bt) rfl rfl
      | str bx bt => exact rc_flat (cl := cl) (H := H) (.bl pb) (.str bx bt) rfl rfl
      | lst h1 h2 h3 => simp only [eqX]; exact .of (.bool_list pb h1 hA)
      | tup h1 h2 h3 => simp only [eqX]; exact .of (.bool_tuple pb h1 hA)
      | dK h0 h1 h2 h3 h4 => simp only [eqX]; exact rcp_no_dict h1 (nd_bool h1 pb) hA
    | int pi pt =>
      cases se with
      | non => exact rc_flat (cl := cl) (H := H) (.int pi pt) (.non) rfl rfl
      | bl bb => exact rc_flat (cl := cl) (H := H) (.int pi pt) (.bl bb) rfl rfl
      | int bi bt => exact rc_flat (cl := cl) (H := H) (.int pi pt) (.int bi bt) rfl rfl
      | str bx bt => exact rc_flat (cl := cl) (H := H) (.int pi pt) (.str bx bt) rfl rfl
      | lst h1 h2 h3 => simp only [eqX]; exact .of (.int_list pi pt h1 hA)
      | tup h1 h2 h3 => simp only [eqX]; exact .of (.int_tuple pi pt h1 hA)
      | dK h0 h1 h2 h3 h4 => simp only [eqX]; exact rcp_no_dict h1 (nd_int h1 pi pt) hA
    | str px pt =>
      cases se with
      | non => exact rc_flat (cl := cl) (H := H) (.str px pt) (.non) rfl rfl
      | bl bb => exact rc_flat (cl := cl) (H := H) (.str px pt) (.bl bb) rfl rfl
      | int bi bt => exact rc_flat (cl := cl) (H := H) (.str px pt) (.int bi bt) rfl rfl
      | str bx bt => exact rc_flat (cl := cl) (H := H) (.str px pt) (.str bx bt) rfl rfl
      | lst h1 h2 h3 => simp only [eqX]; exact .of (.str_list px pt h1 hA)
      | tup h1 h2 h3 => simp only [eqX]; exact .of (.str_tuple px pt h1 hA)
      | dK h0 h1 h2 h3 h4 => simp only [eqX]; exact rcp_no_dict h1 (nd_str h1 px pt) hA
    | lst h1 h2 h3 =>
      cases se with
      | non => simp only [eqX]; exact .of (.list_none h1 hA)
      | bl bb => simp only [eqX]; exact .of (.list_bool bb h1 hA)
      | int bi bt => simp only [eqX]; exact .of (.list_int bi bt h1 hA)
      | str bx bt => simp only [eqX]; exact .of (.list_str bx bt h1 hA)
      | lst k1 k2 k3 =>
        simp only [eqX]
        have p := by simpa [plX] using pd
        have q := by simpa [plX] using pe
        exact rc_lsts I ihE h1 h2 h3 k1 k2 k3 p q hA
      | tup k1 k2 k3 => simp only [eqX]; exact .of (.list_tuple h1 k1 hA)
      | dK k0 k1 k2 k3 k4 => simp only [eqX]; exact rcp_no_dict k1 (nd_list k1 h1) hA
    | tup h1 h2 h3 =>
      cases se with
      | non => simp only [eqX]; exact .of (.tuple_none h1 hA)
      | bl bb => simp only [eqX]; exact .of (.tuple_bool bb h1 hA)
      | int bi bt => simp only [eqX]; exact .of (.tuple_int bi bt h1 hA)
      | str bx bt => simp only [eqX]; exact .of (.tuple_str bx bt h1 hA)
      | lst k1 k2 k3 => simp only [eqX]; exact .of (.tuple_list h1 k1 hA)
      | tup k1 k2 k3 =>
        simp only [eqX]
        have p := by simpa [plX] using pd
        have q := by simpa [plX] using pe
        have r := rcp_tups (A := A) (eqZ _ _) h1 k1 hA (eqL_of I ihE h2 h3 k2 k3 p q)
        rw [eqXs_Z]
        have l1 := h2.length
        have l2 := k2.length
        have l3 := h3.length
        have l4 := k3.length
        simp only [List.size_toArray] at r
        rw [<- l1, <- l2, l3, l4] at r
        exact r
      | dK k0 k1 k2 k3 k4 => simp only [eqX]; exact rcp_no_dict k1 (nd_tup k1 h1) hA
    | dK h0 h1 h2 h3 h4 =>
      cases se with
      | non => simp only [eqX]; exact rcp_dict_no h1 (nd_none h1) hA
      | bl bb => simp only [eqX]; exact rcp_dict_no h1 (nd_bool h1 bb) hA
      | int bi bt => simp only [eqX]; exact rcp_dict_no h1 (nd_int h1 bi bt) hA
      | str bx bt => simp only [eqX]; exact rcp_dict_no h1 (nd_str h1 bx bt) hA
      | lst k1 k2 k3 => simp only [eqX]; exact rcp_dict_no h1 (nd_list h1 k1) hA
      | tup k1 k2 k3 => simp only [eqX]; exact rcp_dict_no h1 (nd_tup h1 k1) hA
      | dK k0 k1 k2 k3 k4 =>
        simp only [eqX]
        simp only [plX, Bool.and_eq_true] at pd pe
        have e1 := KV.length h2
        have e2 := KV.length k2
        rw [List.length_zip, <- h3, Nat.min_self] at e1
        rw [List.length_zip, <- k3, Nat.min_self] at e2
        rw [e1, e2]
        exact fun E Q q => PySem.W.rcP_dicts h0 k0 h1 k1 hA (fun _ => keq_hits I ihE k2 k3 k4 pe.2 h2 h3 h4 pd.2) E Q q
end
end DL
set_option Elab.async false
set_option linter.all false
set_option maxRecDepth 100000
set_option maxHeartbeats 4000000
namespace DL
open PySem L2
open PySem.SeqAt
section
open AutoSeq1 (wpAny_loadPart')
open MeetsSeq MeetsSeq2 MeetsSeq3 SeqRoads2
variable {prog : Program} {w : World}
theorem lst_ne_turns (l b : Addr) (us vs : Array Value) (n m : Nat) (da db : Option Addr) (sa sb : Array (Option Value)) (hz : us.size = vs.size) (k : Nat) : ∀ (i : Nat) (bs : List Bool), us.size - i = k ->
    MeetsIn prog w (Builtin.«list.__eq__.loop» ⟨[.ref l, .ref b, rawInt i, rawInt 3], []⟩)
      (fun A R s => s.heap.get? l = some { cls := .type "list", dict := da, data := .seq us n, slots := sa } /\ s.heap.get? b = some { cls := .type "list", dict := db, data := .seq vs m, slots := sb } /\
        EqL prog w A.in1 s ((us.toList.zip vs.toList).drop i) bs /\ R (.ok (.ret (.bool (!bs.all id)))) s) := by
  have hlen : (us.toList.zip vs.toList).length = us.size := by simp [hz]
  induction k with
  | zero =>
    intro i bs hk A R s0 q
    obtain ⟨h0, g0, d0, t0, o0⟩ := s0
    obtain ⟨ga, gb, he, q⟩ := q
    rw [List.drop_of_length_le (by omega)] at he
    cases he
    have na : us[((i : Nat) : Int).toNat]? = none := by simp; omega
    have nb : vs[((i : Nat) : Int).toNat]? = none := by simp; omega
    wp_walk using wpAny_loadPart' ga, wpAny_loadPart' gb
    rw [na, nb]
    wp_walk using wpAny_loadPart' ga, wpAny_loadPart' gb
    show R (.ok (.ret (.bool (us.size != vs.size)))) _
    simpa [hz] using q
  | succ k ih =>
    intro i bs hk A R s0 q
    obtain ⟨h0, g0, d0, t0, o0⟩ := s0
    obtain ⟨ga, gb, he, q⟩ := q
    have ia : i < us.size := by omega
    have ib : i < vs.size := by omega
    rw [List.drop_eq_getElem_cons (by omega)] at he
    cases he with
    | @cons _ c _ cs hp he =>
      have na : us[((i : Nat) : Int).toNat]? = some us[i] := by simp [ia]
      have nb : vs[((i : Nat) : Int).toNat]? = some vs[i] := by simp [ib]
      have nx : ((i : Int) + 1) = ((i + 1 : Nat) : Int) := by simp
      have hp' : EqP prog w A.in1 ⟨h0, g0, d0, t0, o0⟩ us[i] vs[i] c := by simpa using hp
      wp_walk using wpAny_loadPart' ga, wpAny_loadPart' gb
      rw [na, nb]
      refine wpAny_bind (hp' _ _ ?_)
      cases c with
      | true =>
        wp_walk
        rw [nx]
        refine ⟨plainId_quiet plain_eq_loop _, codeAny_builtin entry_eq_loop ?_⟩
        rw [Around.under_plainId plain_eq_loop _]
        exact ih (i + 1) cs (by omega) A R _ ⟨ga, gb, he, by simpa using q⟩
      | false =>
        wp_walk using wpAny_loadPart' ga, wpAny_loadPart' gb
        rw [na, nb]
        wp_walk
        simpa using q
theorem lst_ne (l b : Addr) (us vs : Array Value) (n m : Nat) (da db : Option Addr) (sa sb : Array (Option Value)) (hz : us.size = vs.size) (bs : List Bool) :
    MeetsIn prog w (Builtin.«list.__ne__» ⟨[.ref l, .ref b], []⟩)
      (fun A R s => s.heap.get? l = some { cls := .type "list", dict := da, data := .seq us n, slots := sa } /\ s.heap.get? b = some { cls := .type "list", dict := db, data := .seq vs m, slots := sb } /\
        EqL prog w A.in1 s (us.toList.zip vs.toList) bs /\ R (.ok (.ret (.bool (!bs.all id)))) s) := by
  intro A R s0 q
  obtain ⟨h0, g0, d0, t0, o0⟩ := s0
  obtain ⟨ga, gb, he, q⟩ := q
  have sub := AutoSeq1.sub_list_list
  have same : ¬ (us.size != vs.size) = true := by simp [hz]
  wp_walk using wpAny_loadPart' ga, wpAny_loadPart' gb
  refine ⟨plainId_quiet plain_eq_loop _, codeAny_builtin entry_eq_loop ?_⟩
  rw [Around.under_plainId plain_eq_loop _]
  exact lst_ne_turns l b us vs n m da db sa sb hz _ 0 bs rfl A R _ ⟨ga, gb, he, q⟩
end
section
variable {X : Cx} {pins : List (Addr × Obj)} {σ : St} {H : Hp} {s : Shared} {cl : ClW}
theorem rcn_lsts {A : Around} {n : Nat} (I : Inv X pins σ H s) (ihE : ∀ (d e : D) (v u : Value), Side X cl H s d v -> Side X cl H s e u -> plX n d = true -> plX n e = true -> EqP X.prog X.w A.in1 s v u (eqX d e)) {a b : Addr} {us ts : List Value} {vs ws : List V} {ds es : List D}
    (h1 : s.heap.IsList a us.toArray) (h2 : Vals vs us) (h3 : Reps X.K cl H vs ds) (k1 : s.heap.IsList b ts.toArray) (k2 : Vals ws ts) (k3 : Reps X.K cl H ws es) (p : plXs n ds = true) (q : plXs n es = true) (hA : A.units < cLine) (E Q : Value -> Shared -> Prop) (r : Q (.bool (!eqXs ds es)) s) :
    wpAny (model X.prog X.w) A (richCompare .NotEq (.ref a) (.ref b)) Q E s := by
  have l1 := h2.length
  have l2 := k2.length
  have l3 := h3.length
  have l4 := k3.length
  rw [eqXs_Z] at r
  by_cases hl : ds.length = es.length
  · have L := eqL_of I ihE h2 h3 k2 k3 p q
    obtain ⟨⟨c1, d1, x1, s1⟩, ho, hc, m1, hd⟩ := id h1
    obtain ⟨⟨c2, d2, x2, s2⟩, ho2, hc2, m2, hd2⟩ := id k1
    simp only at hc hd hc2 hd2
    subst hc hd hc2 hd2
    refine wpAny_richCompare_same_room (op := .NotEq) ⟨_, ho, rfl⟩ ⟨_, ho2, rfl⟩ PySem.F.slot_list_ne (call_meetsIn PySem.F.slot_list_ne ⟨_, ho, rfl⟩ PySem.F.entry_list_ne (PySem.F.args_list_ne_2 _ _) (lst_ne a b us.toArray ts.toArray m1 m2 d1 d2 s1 s2 (by simp; omega) (eqZ ds es))
      ⟨ho, ho2, L, show Value.bool _ ≠ Value.notImplemented /\ Q (.bool _) s from ⟨(fun z => nomatch z), ?_⟩⟩) hA
    simpa [hl] using r
  · have e : (!((eqZ ds es).all id && ds.length == es.length)) = true := by simp [hl]
    rw [e] at r
    exact RcNeAt.lists_lengths h1 k1 (by simp; omega) hA _ _ E Q r
end
section
variable {K : PySem.W.Frag} {cl : ClW} {F H : Hp} {M : Mem} {X : Cx} {W : WX}
mutual
theorem rep_deep (g : Good K cl F H M) {d e : D} (t : Dv M d e) {v : V} (r : Rep K cl F v d) : Rep K cl H v e := by
  cases t with
  | same => exact r.mono g.sub
  | ref ha ts =>
    obtain rfl := r.toRef
    obtain ⟨hF, vs, h3, h4⟩ := g.cell _ _ ha
    exact .lst (SqL.of h3) (reps_deep g ts h4)
  | lst ts =>
    obtain ⟨a, vs, rfl, h1, h2⟩ := r.toLst
    exact .lst (same_l g.sub h1) (reps_deep g ts h2)
  | tup ts =>
    obtain ⟨a, vs, rfl, h1, h2⟩ := r.toTup1
    exact .tup (h1.mono g.sub) (reps_deep g ts h2)
theorem reps_deep (g : Good K cl F H M) {ds es : List D} (t : Dvs M ds es) {vs : List V} (r : Reps K cl F vs ds) : Reps K cl H vs es := by
  cases t with
  | nil =>
    obtain rfl := r.inv0
    exact .nil
  | cons t1 t2 =>
    obtain ⟨v, ws, rfl, r1, r2⟩ := r.inv
    exact .cons (rep_deep g t1 r1) (reps_deep g t2 r2)
end
@[simp] def bEqX : DB2 := fun d e _ M Q _ => ∃ d' e' n, Dv M d d' /\ Dv M e e' /\ n <= 60 /\ plX n d' = true /\ plX n e' = true /\ Q (.bl (eqX d' e')) M
@[simp] def bNeX : DB2 := fun d e _ M Q _ => ∃ xs ys n, Dv M d (.lst xs) /\ Dv M e (.lst ys) /\ n <= 60 /\ plXs n xs = true /\ plXs n ys = true /\ Q (.bl (!eqXs xs ys)) M
theorem bin_neX (hu : X.A.units + 64 < cLine) : BinG cl X W (compareOp .NotEq) bNeX := fun pins s σ H F ρ M v u x y d e Q Qd Xd I rx ry g sl r1 r2 q p w => by
  obtain ⟨xs, ys, n, t1, t2, hn, p1, p2, q⟩ := q
  have p1' : plX (n + 1) (.lst xs) = true := by simpa [plX] using p1
  have p2' : plX (n + 1) (.lst ys) = true := by simpa [plX] using p2
  have s1 := side_of I (rep_deep g t1 r1) p1' rx
  have s2 := side_of I (rep_deep g t2 r2) p2' ry
  cases s1 with
  | lst h1 h2 h3 =>
    cases s2 with
    | lst k1 k2 k3 =>
      exact rcn_lsts I (A := X.A) (n := n) (fun d e v u sd se pd pe => eqX_at I (rcX I n X.A.in1 (by show X.A.units + 1 + n < cLine; omega) d e v u sd se pd pe) sd se pd pe) h1 h2 h3 k1 k2 k3 p1 p2 (by omega) _ _ ⟨.bl _, H, I, rfl, p.val g (.bl _) q⟩
end
end DL
set_option Elab.async false
set_option linter.all false
set_option maxRecDepth 100000
set_option maxHeartbeats 4000000
namespace DL
open PySem L2
end DL
set_option Elab.async false
set_option linter.all false
set_option maxRecDepth 100000
set_option maxHeartbeats 4000000
namespace FL
open PySem L2 DL
def seqs : D -> Option (List D)
  | .lst xs => some xs
  | .tup xs => some xs
  | _ => none
structure Pl (d : D) : Prop where
  ty : ∃ n, tyName d = some n
  st : ∀ z, d = .str z -> z.length <= 1000 /\ ∀ c ∈ z.cps.toList, c < 1114112
structure PlRow (y : D) : Prop where
  pl : Pl y
  it : ∀ l, seqs y = some l -> ∀ c ∈ l, Pl c
structure Handed (M : Mem) (d : D) : Prop where
  ty : ∃ n, tyName (vw M d) = some n
  rows : ∀ xs, seqs (vw M d) = some xs -> xs.length <= 60 -> ∀ y ∈ xs, PlRow (vw M y)
end FL
set_option Elab.async false
set_option linter.all false
set_option maxRecDepth 100000
set_option maxHeartbeats 4000000
namespace DL
open PySem L2
section
variable {X : Cx} {cl : ClW}
end
section
variable {X : Cx} {cl : ClW} {W : WX} {pos : Pos}
structure DPs (cl : ClW) (X : Cx) (W : WX) (pos : Pos) (keys : List (Option Expr)) (values : List Expr) (prs : List (DTE × DTE)) : Prop where
  pps : PPs X pos keys values (prs.map fun q => (lowE X.K cl W q.1, lowE X.K cl W q.2))
inductive Pairs2 (K : PySem.W.Frag) (cl : ClW) (F : Hp) : List (V × V) -> List (D × D) -> Prop
  | nil : Pairs2 K cl F [] []
  | cons {x y : V} {d e : D} {ps : List (V × V)} {qs : List (D × D)} : Rep K cl F x d -> Rep K cl F y e -> Pairs2 K cl F ps qs -> Pairs2 K cl F ((x, y) :: ps) ((d, e) :: qs)
end
end DL
set_option Elab.async false
set_option linter.all false
set_option maxRecDepth 100000
set_option maxHeartbeats 4000000
namespace DL
open PySem L2
section
variable {cl : ClW} {X : Cx} {W : WX} {elt tg iter tg1 iter1 : Expr} {ifs ifs1 : List Expr} {scope : Scope} {own : List (Str × Nat)} {vs1 : List Nat} {pos : Pos} {ι ι1 : DTIg} {is is1 : List Nat} {γ γ1 : DTG} {υ υ1 : DTT} {τ : DTE}
end
end DL
set_option Elab.async false
set_option linter.all false
set_option maxRecDepth 100000
set_option maxHeartbeats 4000000
namespace DL
open PySem L2
section
variable {K : PySem.W.Frag} {cl : ClW}
end
section
variable {X : Cx}
end
section
variable {K : PySem.W.Frag} {cl : ClW} {X : Cx}
end
end DL
set_option Elab.async false
set_option linter.all false
set_option maxRecDepth 100000
set_option maxHeartbeats 4000000
set_option autoImplicit false
namespace DL
open PySem L2
section
variable {cl : ClW} {X : Cx} {W : WX} {x : Str} {pos : Pos}
end
end DL
set_option Elab.async false
set_option linter.all false
set_option maxRecDepth 100000
set_option maxHeartbeats 4000000
set_option autoImplicit false
namespace DL
open PySem L2 PySem.SeqAt
section
variable {A : Around} {s : Shared}
end
def bulky : D -> Bool
  | .lst _ => true
  | .tup _ => true
  | .dK _ _ => true
  | _ => false
@[simp] def bInX (neg : Bool) : DB2 := fun d e _ M Q _ => ∃ (d' : D) (n : Nat) (zs : List Str), Dv M d d' /\ plX n d' = true /\ bulky d' = true /\ vw M e = .lst (zs.map D.str) /\ Q (.bl neg) M
section
variable {cl : ClW} {X : Cx} {W : WX} {pins : List (Addr × Obj)} {σ : St} {H : Hp} {s : Shared}
end
end DL
set_option Elab.async false
set_option linter.all false
set_option maxRecDepth 100000
set_option autoImplicit false
namespace DL
open PySem L2
theorem opt_pair {α β γ : Type} {o : Option α} {f : α -> β} {g : α -> γ} {a : β} {b : γ} (h1 : o.map f = some a) (h2 : o.map g = some b) : ∃ s, o = some s /\ f s = a /\ g s = b := by
  cases o with
  | none => cases h1
  | some s => exact ⟨s, rfl, Option.some.inj h1, Option.some.inj h2⟩
end DL
set_option Elab.async false
set_option linter.all false
set_option maxRecDepth 100000
set_option maxHeartbeats 4000000
namespace DL
open PySem L2
section
variable {cl : ClW} {X : Cx} {W : WX} {e : Expr} {τ : DTE} {pos : Pos}
end
@[simp] def bEqE : DB2 := fun d e _ M Q _ => ∃ xs ys, vw M d = .lst xs /\ vw M e = .lst ys /\ (xs = [] \/ ys = []) /\ Q (.bl (xs.isEmpty && ys.isEmpty)) M
@[simp] def bNeE : DB2 := fun d e _ M Q _ => ∃ xs ys, vw M d = .lst xs /\ vw M e = .lst ys /\ (xs = [] \/ ys = []) /\ Q (.bl (!(xs.isEmpty && ys.isEmpty))) M
section
open PySem.SeqAt
variable {cl : ClW} {X : Cx} {W : WX}
end
end DL
set_option Elab.async false
set_option linter.all false
set_option maxRecDepth 100000
set_option maxHeartbeats 4000000
namespace DL
open PySem L2
end DL
set_option Elab.async false
set_option linter.all false
set_option maxRecDepth 100000
set_option maxHeartbeats 4000000
namespace DL
open PySem L2
mutual
def toPyX : D -> Option PyData
  | .non => some .none
  | .bl b => some (.bool b)
  | .int i => some (.int i)
  | .str x => some (.str x)
  | .lst xs => (toPyXs xs).map .list
  | .tup xs => (toPyXs xs).map .tuple
  | .dK [] [] => some (.dict [])
  | _ => none
def toPyXs : List D -> Option (List PyData)
  | [] => some []
  | d :: ds => (toPyX d).bind fun p => (toPyXs ds).map fun ps => p :: ps
end
section
variable {X : Cx} {cl : ClW} {pins : List (Addr × Obj)} {σ : St} {H : Hp} {s : Shared}
end
section
variable {K : PySem.W.Frag} {cl : ClW} {X : Cx}
end
end DL
set_option Elab.async false
set_option linter.all false
set_option maxRecDepth 100000
set_option maxHeartbeats 4000000
set_option autoImplicit false
namespace DL
open PySem L2 PyProof.Rows
structure KeyS (x : Str) (scope : Scope) : Prop where
  kind : scope.kind = .function
  co : scope.isCoroutine = false
  gen : scope.isGenerator = false
  own : scope.names.lookup x = some .local
  nc : ∀ y ∈ scope.names, y.2 ≠ .cell
  nf : ∀ y ∈ scope.names, y.2 ≠ .free
section
variable {P : Program} {w : World} {A : Around} {s : Shared}
end
theorem Good.extN {K : PySem.W.Frag} {cl : ClW} {F H H2 : Hp} {M : Mem} (g : Good K cl F H M) (e : LamX.ExtN H H2) (t : LamX.Tabs (tabsOf cl) H2) : Good K cl F H2 M :=
  ⟨fun a u h => e a u (g.sub a u h) fun ps z => g.noT a ps (by rw [h, z]), fun a d h => by
    obtain ⟨h1, h2⟩ := g.cell a d h
    obtain ⟨o, k1, k2, _⟩ := h2.plain
    refine ⟨h1, h2.mono (Same.refl F) fun u hu => e a u hu ?_⟩
    rw [k1] at hu
    rw [<- Option.some.inj hu]
    exact k2, t, g.noT⟩
section
variable {cl : ClW} {X : Cx} {W : WX} {e : Expr} {α : DTA} {p p1 p2 p3 pos lpos kpos : Pos} {k i j : Nat} {cc P : Addr} {x : Str} {params : Arguments} {scope : Scope}
end
end DL
set_option Elab.async false
set_option linter.all false
set_option maxRecDepth 100000
set_option maxHeartbeats 4000000
set_option autoImplicit false
namespace DL
open PySem L2
section
variable {K : PySem.W.Frag} {cl : ClW}
end
inductive DJ (cl : ClW) (X : Cx) (W : WX) : List Expr -> List DTE -> Prop where
  | nil : DJ cl X W [] []
  | cons {e : Expr} {τ : DTE} {es : List Expr} {ts : List DTE} (h : DE cl X W e τ) (r : DJ cl X W es ts) : DJ cl X W (e :: es) (τ :: ts)
section
variable {cl : ClW} {X : Cx} {W : WX} {e e1 e2 o : Expr} {es : List Expr} {ts : List DTE} {pos tpos : Pos} {τ τo τv : DTE} {f : Str} {cs : List Nat}
end
end DL
set_option Elab.async false
set_option linter.all false
set_option maxRecDepth 100000
set_option maxHeartbeats 4000000
set_option autoImplicit false
namespace DL
open PySem L2
section
variable {cl : ClW} {X : Cx} {W : WX} {j k c : Nat} {ps : List Str} {spd : SpD} {x : Str} {p sp_ pos : Pos} {e : Expr} {τ : DTE}
end
section
variable {K : PySem.W.Frag} {cl : ClW}
end
end DL
set_option Elab.async false
set_option linter.all false
set_option autoImplicit false
set_option maxRecDepth 100000
set_option maxHeartbeats 2000000
namespace DL
open PySem L2 PySem.W PySem.Spec
structure TabsAt (K : Frag) (h : Heap) (cs : List (Addr × Addr)) : Prop where
  at_ : ∀ p ∈ cs, h.get? p.2 = some { cls := .none, data := .fields #[] }
  off : ∀ p ∈ cs, K.lookup p.2 = none
  code : ∀ p ∈ cs, CodeHd h p.1 p.2
theorem law_endT {cl : ClW} {P : Program} {w : World} {K : Frag} {mg mb : Str -> Option Value} {k : Nat} {fa a : Addr} {x : Str} {spd : SpD} {s0 : Shared} {vs : List Value} {ns : List Int} {cs : List (Addr × Addr)} {F0 : Hp}
    (KX : K.In s0.heap) (hns : s0.heap.Ns mainGlobals mg) (hb : s0.heap.Ns builtinsNs mb) (hbb : ∀ x : Str, x ≠ "__name__" -> mb x = bootBuiltins x) (hlim : s0.heap.NoLimit) (hg : s0.gens = #[]) (T : TabsAt K s0.heap cs)
    (hbm : ∃ (bm : Addr) (ob : Obj), mg "__builtins__" = some (.ref bm) /\ bm ≠ builtinsNs /\ s0.heap.get? bm = some ob /\ ob.cls = .type "module" /\ ob.dict = some builtinsNs /\ ob.data = .plain)
    (ha : s0.heap.get? a = some { cls := .type "list", data := .seq vs.toArray }) (hr : RoomG k callerA)
    (F : ∀ base : Heap, K.In base -> base.Ns mainGlobals mg -> (∀ p ∈ cs, LamX.TabB base mg p.1 p.2) -> ∃ fd, Binds K fd [x] [] /\ FnG cl P w K mg base k fa fd [x] spd)
    (hF : ∀ b, F0 b = none \/ ∃ o xs, F0 b = some (.frz o (.lst xs))) (hS : SqL K F0 a (ns.map V.int)) (hFa : ∀ b, F0 b ≠ none -> b = a) (hok : HOk P w (fun b => if b ∈ cs.map (·.2) then some (.tbl #[]) else F0 b) s0.heap) (hK : F0 a ≠ none -> K.lookup a = none)
    (hT : ∀ q ∈ tabsOf cl, q.1 ∈ cs.map (·.2)) (hsp : ∀ (M : Mem) (Qd : DV) (Ed : DEK), (∀ M', Qd (.bl true) M') -> spd [.lst (ns.map D.int)] M Qd Ed) :
    codeAny (model P w) callerA (.call (.ref fa) ⟨[.ref a], []⟩) (fun r s' => r = .ok (.ret (.bool true)) /\ OldK s0.heap s'.heap /\ s'.os = s0.os /\ PyProof.Rows.AllBare s'.gens) s0 := by
  have isT : ∀ b ∈ cs.map (·.2), s0.heap.get? b = some { cls := .none, data := .fields #[] } := fun b hbm => by
    obtain ⟨p, hp, rfl⟩ := List.mem_map.mp hbm
    exact T.at_ p hp
  have aT : a ∉ cs.map (·.2) := fun z => by
    have e := isT a z
    rw [ha] at e
    cases congrArg Obj.data (Option.some.inj e)
  generalize hH : (fun b => if b ∈ cs.map (·.2) then some (.tbl #[]) else F0 b : Hp) = H at hok
  have Ht : ∀ {b}, b ∈ cs.map (·.2) -> H b = some (.tbl #[]) := fun h => by rw [<- hH]; exact if_pos h
  have Hn : ∀ {b}, b ∉ cs.map (·.2) -> H b = F0 b := fun h => by rw [<- hH]; exact if_neg h
  have dom : ∀ {b}, H b ≠ none -> b = a \/ b ∈ cs.map (·.2) := fun {b} h => by
    by_cases hm : b ∈ cs.map (·.2)
    · exact .inr hm
    · rw [Hn hm] at h
      exact .inl (hFa b h)
  -- what is neither a list nor an empty table is not tracked
  have free : ∀ {b : Addr} {o : Obj}, s0.heap.get? b = some o -> (∀ xs n, o.data ≠ .seq xs n) -> o.data ≠ .fields #[] -> H b = none := fun {b o} e h1 h2 => by
    cases q : H b with
    | none => rfl
    | some u =>
      rcases dom (b := b) (by rw [q]; exact nofun) with z | z
      · subst z
        rw [ha] at e
        cases e
        exact (h1 _ _ rfl).elim
      · rw [isT b z] at e
        cases e
        exact (h2 rfl).elim
  have freeD : ∀ {b : Addr} {o : Obj} {es ep}, s0.heap.get? b = some o -> o.data = Data.dict es ep -> H b = none := fun e d =>
    free e (fun _ _ z => by rw [d] at z; cases z) (fun z => by rw [d] at z; cases z)
  have ns2 : ∀ {b m}, s0.heap.Ns b m -> (hidT s0.heap H).Ns b m := by
    rintro b m ⟨o, es, ep, e1, e2, r⟩
    exact ⟨o, es, ep, hidT_get e1 (freeD e1 e2), e2, r⟩
  have kin : K.In (hidT s0.heap H) := fun b o e => hidT_get (KX b o e) (by
    cases q : H b with
    | none => rfl
    | some u =>
      rcases dom (b := b) (by rw [q]; exact nofun) with z | z
      · subst z
        rw [Hn aT] at q
        rw [hK (by rw [q]; exact nofun)] at e
        cases e
      · obtain ⟨p, hp, rfl⟩ := List.mem_map.mp z
        rw [T.off p hp] at e
        cases e)
  have TB : ∀ p ∈ cs, LamX.TabB (hidT s0.heap H) mg p.1 p.2 := fun p hp => by
    have hTp := T.at_ p hp
    refine ⟨?_, ?_, fun z => ?_⟩
    · obtain ⟨o, us, file, tf, flags, tg, inF, text, tt, e1, r1, r2, r3, rest⟩ := T.code p hp
      exact ⟨o, us, file, tf, flags, tg, inF, text, tt, hidT_get e1 (free e1 (fun _ _ z => by rw [r2] at z; cases z) fun z => by rw [r2] at z; cases z; simp at r3), r1, r2, r3, rest⟩
    · obtain ⟨bm, ob, b1, b2, b3, b4, b5, b6⟩ := hbm
      have nG : bm ≠ mainGlobals := fun q => by
        obtain ⟨o, es, ep, e, hd, _⟩ := hns
        rw [q, e] at b3
        cases b3
        rw [hd] at b6
        cases b6
      have nP : bm ≠ p.2 := fun q => by
        rw [q, hTp] at b3
        cases b3
        cases b6
      exact ⟨bm, ob, b1, b2, nG, nP, hidT_get b3 (free b3 (fun _ _ z => by rw [b6] at z; cases z) fun z => by rw [b6] at z; cases z), b4, b5, b6⟩
    · obtain ⟨o, es, ep, e, hd, _⟩ := hns
      rw [z, hTp] at e
      cases e
      cases hd
  obtain ⟨mc, l1, l2⟩ := hlim
  have md : Mod K mg (hidT s0.heap H) := ⟨kin, ns2 hns, ⟨mb, ns2 hb, hbb⟩, mc, ns2 l1, l2⟩
  have env : Env0 P w K mg (hidT s0.heap H) callerA [] s0 H := ⟨rfl, md, fun _ _ e => of_hidT e, Nat.le_of_eq (hidT_size _ _), trivial, fun b z => (by cases z), hok, .of_eq hg⟩
  have noTbl : ∀ b ps, F0 b ≠ some (.tbl ps) := fun b ps z => by
    rcases hF b with e | ⟨o, xs, e⟩ <;> rw [e] at z <;> cases z
  have offT : ∀ {b u}, F0 b = some u -> b ∉ cs.map (·.2) := fun {b u} e z => by
    have := hFa b (by rw [e]; exact nofun)
    subst this
    exact aT z
  have good : Good K cl F0 H (fun _ => none) := ⟨fun b o e => by rw [Hn (offT e)]; exact e, (fun _ _ e => by cases e), fun q hq => LamX.TabS.nil (Ht (hT q hq)), noTbl⟩
  have low : lower K cl spd [.ref a] H (fun v _ => v = .bl true) (fun _ _ _ => False) :=
    ⟨F0, fun _ => none, [.lst (ns.map D.int)], fun d _ => d = .bl true, fun _ _ _ _ => False, good, .one (.lst hS (.of_ints ns)), hsp _ _ _ fun _ => rfl, fun v _ _ d _ _ _ r e => by subst e; exact r.toBl, fun _ _ _ _ _ _ _ _ _ _ z => z⟩
  obtain ⟨fd, hbd, G⟩ := F _ kin (ns2 hns) TB
  refine codeAny_mono (G.run callerA [] s0 H _ [.ref a] [.ref a] _ _ hr env (hbd s0 [.ref a] KX rfl) (.cons rfl .nil) low) fun r s' h => ?_
  cases r with
  | error e =>
    obtain ⟨_, _, _, _, _, _, _, _, _, _, _, _, z⟩ := (show L2.CX P w [] H s0 (fun _ _ _ => False) e s' from h)
    exact z.elim
  | ok fl =>
    cases fl with
    | ret u =>
      obtain ⟨v, H', os, bare, un, hok', rv, q⟩ := (show CE [] P w H s0 (fun v _ => v = .bl true) u s' from h)
      subst q
      cases rv
      have same : ∀ b o, b ∉ cs.map (·.2) -> s0.heap.get? b = some o -> s'.heap.get? b = some o := fun b o nb e => by
        rcases hF b with z | ⟨ob, xs, z⟩
        · exact un.keep b o e (by rw [Hn nb]; exact z) (fun y => by cases y) (fun y => by cases y)
        · rw [<- Hn nb] at z
          have h1 := (hok b _ z).1
          have h2 := (hok' b _ (un.frzs b ob _ z)).1
          rw [e] at h1
          cases h1
          exact h2
      have grown : ∀ p ∈ cs, ∃ more : Array Value, s'.heap.get? p.2 = some { cls := .none, data := .fields more } := fun p hp => by
        obtain ⟨more, z⟩ := un.tbls p.2 #[] (Ht (List.mem_map_of_mem hp))
        exact ⟨_, hok' p.2 _ z⟩
      refine ⟨rfl, ⟨fun b o e => ?_, fun b o e => ?_⟩, os, bare⟩
      · by_cases hm : b ∈ cs.map (·.2)
        · obtain ⟨p, hp, rfl⟩ := List.mem_map.mp hm
          obtain ⟨more, hmo⟩ := grown p hp
          rw [T.at_ p hp] at e
          cases e
          exact .inr (.inl ⟨((T.code p hp).tab (T.at_ p hp)).isCodeTable, rfl, #[], more, rfl, by rw [Array.empty_append]; exact hmo⟩)
        · exact .inl (same b o hm e)
      · by_cases hm : b ∈ cs.map (·.2)
        · obtain ⟨p, hp, rfl⟩ := List.mem_map.mp hm
          obtain ⟨more, hmo⟩ := grown p hp
          exact ⟨_, hmo⟩
        · exact ⟨o, same b o hm e⟩
    | next => exact False.elim h
    | brk => exact False.elim h
    | cont => exact False.elim h
theorem law_callDT {cl : ClW} {P : Program} {w : World} {K : Frag} {mg mb : Str -> Option Value} {k : Nat} {fa a : Addr} {x : Str} {spd : SpD} {s0 : Shared} {vs : List Value} {ns : List Int} {cs : List (Addr × Addr)}
    (KX : K.In s0.heap) (hns : s0.heap.Ns mainGlobals mg) (hb : s0.heap.Ns builtinsNs mb) (hbb : ∀ x : Str, x ≠ "__name__" -> mb x = bootBuiltins x) (hlim : s0.heap.NoLimit) (hg : s0.gens = #[]) (T : TabsAt K s0.heap cs)
    (hbm : ∃ (bm : Addr) (ob : Obj), mg "__builtins__" = some (.ref bm) /\ bm ≠ builtinsNs /\ s0.heap.get? bm = some ob /\ ob.cls = .type "module" /\ ob.dict = some builtinsNs /\ ob.data = .plain)
    (ha : s0.heap.get? a = some { cls := .type "list", data := .seq vs.toArray }) (hi : PyProof.Rows.IntsAre vs ns) (hl : ns.length <= sizeLine) (hr : RoomG k callerA)
    (F : ∀ base : Heap, K.In base -> base.Ns mainGlobals mg -> (∀ p ∈ cs, LamX.TabB base mg p.1 p.2) -> ∃ fd, Binds K fd [x] [] /\ FnG cl P w K mg base k fa fd [x] spd)
    (hsp : ∀ (M : Mem) (Qd : DV) (Ed : DEK), (∀ M', Qd (.bl true) M') -> spd [.lst (ns.map D.int)] M Qd Ed) (hT : ∀ q ∈ tabsOf cl, q.1 ∈ cs.map (·.2)) :
    codeAny (model P w) callerA (.call (.ref fa) ⟨[.ref a], []⟩) (fun r s' => r = .ok (.ret (.bool true)) /\ OldK s0.heap s'.heap /\ s'.os = s0.os /\ PyProof.Rows.AllBare s'.gens) s0 := by
  have hv := vals_ints hi
  have hle : vs.length <= sizeLine := by rw [hi.length]; exact hl
  have tblOk : ∀ {b}, b ∈ cs.map (·.2) -> s0.heap.get? b = some { cls := .none, data := .fields #[] } := fun {b} h => by
    obtain ⟨p, hp, rfl⟩ := List.mem_map.mp h
    exact T.at_ p hp
  cases hk : K.lookup a with
  | some o =>
    have e := KX a o hk
    rw [ha] at e
    cases e
    refine law_endT (F0 := fun _ => none) KX hns hb hbb hlim hg T hbm ha hr F (fun _ => .inl rfl) (.inr ⟨_, vs.toArray, _, hk, rfl, rfl, rfl, by simpa using hle, by simpa using hv⟩) (fun _ z => (z rfl).elim) (fun b u z => ?_) (fun z => (z rfl).elim) hT hsp
    simp only at z
    by_cases h : b ∈ cs.map (·.2)
    · rw [if_pos h] at z
      cases z
      exact tblOk h
    · rw [if_neg h] at z
      cases z
  | none =>
    let o : Obj := { cls := .type "list", data := .seq vs.toArray }
    have at_ : upd (fun _ => none) a (.frz o (.lst (ns.map V.int))) a = some (.frz o (.lst (ns.map V.int))) := upd_same
    have off : ∀ {b}, b ≠ a -> upd (fun _ => none) a (.frz o (.lst (ns.map V.int))) b = none := fun h => upd_ne h
    refine law_endT (F0 := upd (fun _ => none) a (.frz o (.lst (ns.map V.int)))) KX hns hb hbb hlim hg T hbm ha hr F (fun b => ?_) (.inl (.inr ⟨o, at_⟩)) (fun b z => ?_) (fun b u z => ?_) (fun _ => hk) hT hsp
    · by_cases h : b = a
      · subst h; exact .inr ⟨_, _, at_⟩
      · exact .inl (off h)
    · by_cases h : b = a
      · exact h
      · exact (z (off h)).elim
    · simp only at z
      by_cases hm : b ∈ cs.map (·.2)
      · rw [if_pos hm] at z
        cases z
        exact tblOk hm
      · rw [if_neg hm] at z
        by_cases h : b = a
        · subst h
          rw [at_] at z
          cases z
          exact ⟨ha, by rw [List.length_map]; exact hl, vs, _, hv, ha⟩
        · rw [off h] at z
          cases z
theorem walk_DT {l : OpenLaw} {n k : Nat} {q : Program} {loose : List Str} {XP : (Str -> Option Value) -> Heap -> Prop} {YP : World -> Heap -> Prop} {d : DefRec} {x : Str}
    (hn : l.most = some n) (hn2 : n <= sizeLine) (hdf : d.params.defaults = []) (hr : RoomG k callerA)
    (F : ∀ (w : World) (mg : Str -> Option Value) (fa : Addr) (h : Heap), YP w h -> h.Ns mainGlobals mg -> mg d.name = some (.ref fa) ->
      ∃ (cl : ClW) (K : Frag) (spd : SpD) (cs : List (Addr × Addr)), (∀ q ∈ tabsOf cl, q.1 ∈ cs.map (·.2)) /\ K.In h /\ TabsAt K h cs /\
        (∀ (ns : List Int) (M : Mem) (Qd : DV) (Ed : DEK), ns.length <= n -> (∀ M', Qd (.bl true) M') -> spd [.lst (ns.map D.int)] M Qd Ed) /\
        ∀ base : Heap, K.In base -> base.Ns mainGlobals mg -> (∀ p ∈ cs, LamX.TabB base mg p.1 p.2) -> ∃ fd, Binds K fd [x] [] /\ FnG cl l.prog w K mg base k fa fd [x] spd) :
    WalkO q loose XP YP l.row.toRowW d [] (fun f vs => PySem.call f vs) := by
  refine Att.attach_callB hn hdf fun w s₀ s₁ mg mb fa o pm cd doc a vs ns G Y ho hd hcd hmg hobj hints hlen hbits hg => ?_
  obtain ⟨cl, K, spd, cs, hT, KX, T, hsp, hF⟩ := F w mg fa _ Y G.T.g hmg
  exact law_callDT KX G.T.g G.T.b G.T.builtins G.T.nolimit hg T G.T.bmain hobj hints (Nat.le_trans hlen hn2) hr hF (fun M Qd Ed h => hsp ns M Qd Ed hlen h) hT
end DL
set_option Elab.async false
set_option linter.all false
set_option maxRecDepth 100000
set_option maxHeartbeats 2000000
set_option autoImplicit false
namespace DL
open PySem L2
def codeF (K : PySem.W.Frag) (f : Addr) : Addr := match K.lookup f with
  | some o => match o.data with
    | .func fd => match fd.code with
      | .ref c => c
      | _ => 0
    | _ => 0
  | none => 0
def tabF (K : PySem.W.Frag) (c : Addr) : Addr := match K.lookup c with
  | some o => match o.data with
    | .fields vs => match vs[11]? with
      | some (Value.ref p) => p
      | _ => 0
    | _ => 0
  | none => 0
def tabD (K : PySem.W.Frag) (d : Str × Option Str) : Addr := tabF K (codeF K (He.fAd K d))
def cutTab (K : PySem.W.Frag) (ds : List (Str × Option Str)) : PySem.W.Frag := K.filter fun p => !(ds.map (tabD K)).contains p.1
def emptyT (o : Obj) : Bool := match o with
  | ⟨.none, none, .fields vs, sl⟩ => vs.isEmpty && sl.isEmpty
  | _ => false
def tabOk (K0 : PySem.W.Frag) (K : PySem.W.Frag) (d : Str × Option Str) : Bool :=
  PySem.W.codeHdIn K (codeF K (He.fAd K d)) (tabD K d) && ((match K0.lookup (tabD K d) with | some o => emptyT o | none => false) && ((K.lookup (tabD K d)).isNone && (!(mainGlobals == tabD K d) && (!(tabD K d == 0) &&
    match K.lookup (He.fAd K d) with
    | some o => (match o.data with | .func fd => (match fd.code with | .ref _ => true | _ => false) | _ => false)
    | none => false))))
def obsT (n : Nat) (ts : List (Str × Option Str)) (fa : List He.Fa) (fn : List He.DefD) (ex : PySem.W.Frag -> Bool) (g : Addr -> Option Obj) : He.AlD × (Bool × Bool) :=
  (He.obsD fa fn (cutTab (He.frG g (List.range n)) ts), ex (cutTab (He.frG g (List.range n)) ts), ts.all (tabOk (He.frG g (List.range n)) (cutTab (He.frG g (List.range n)) ts)))
def hookT (n : Nat) (ts : List (Str × Option Str)) (fa : List He.Fa) (fn : List He.DefD) (ex : PySem.W.Frag -> Bool) : PySem.W.Hook where
  α := He.AlD × (Bool × Bool)
  obs := fun s => obsT n ts fa fn ex s.heap.get?
  val := fun _ => (He.valD fn, true, true)
  says := fun _ h => ∃ K0 : PySem.W.Frag, K0.In h /\ He.SaysD fa fn (cutTab K0 ts) /\ ex (cutTab K0 ts) = true /\ ts.all (tabOk K0 (cutTab K0 ts)) = true
  of := fun _ _ e => ⟨_, He.frG_in, congrArg Prod.fst e, congrArg (fun z => z.2.1) e, congrArg (fun z => z.2.2) e⟩
  keeps := fun _ _ _ ⟨K0, hK, c⟩ k => ⟨K0, PySem.W.Frag.In.keeps hK k, c⟩
theorem obsT_eq {n : Nat} {ts : List (Str × Option Str)} {fa : List He.Fa} {fn : List He.DefD} {ex : PySem.W.Frag -> Bool} {g : Addr -> Option Obj} {s : Shared} (h : ∀ a, g a = s.heap.get? a) : obsT n ts fa fn ex g = (hookT n ts fa fn ex).obs s := by
  have e : g = s.heap.get? := funext h
  rw [e] <;> rfl
theorem lookup_filter {K : PySem.W.Frag} {q : Addr × Obj -> Bool} {b : Addr} {o : Obj} (hq : ∀ o o' : Obj, q (b, o) = q (b, o')) (h : (K.filter q).lookup b = some o) : K.lookup b = some o := by
  induction K with
  | nil => cases h
  | cons p r ih =>
    obtain ⟨c, u⟩ := p
    by_cases e : b = c
    · subst e
      by_cases hp : q (b, u) = true
      · rw [List.filter_cons_of_pos hp, List.lookup_cons_self] at h
        rw [List.lookup_cons_self]
        exact h
      · rw [List.filter_cons_of_neg hp] at h
        have : ∀ r : PySem.W.Frag, (r.filter q).lookup b = none := fun r => by
          induction r with
          | nil => rfl
          | cons p2 r2 ih2 =>
            obtain ⟨c2, u2⟩ := p2
            by_cases hp2 : q (c2, u2) = true
            · rw [List.filter_cons_of_pos hp2]
              by_cases e2 : b = c2
              · subst e2
                rw [hq u u2] at hp
                exact absurd hp2 hp
              · rw [List.lookup_cons, show (b == c2) = false by simpa using e2]
                exact ih2
            · rw [List.filter_cons_of_neg hp2]
              exact ih2
        rw [this r] at h
        cases h
    · rw [List.lookup_cons, show (b == c) = false by simpa using e]
      by_cases hp : q (c, u) = true
      · rw [List.filter_cons_of_pos hp, List.lookup_cons, show (b == c) = false by simpa using e] at h
        exact ih h
      · rw [List.filter_cons_of_neg hp] at h
        exact ih h
theorem cut_in {K : PySem.W.Frag} {ts : List (Str × Option Str)} {h : Heap} (k : K.In h) : (cutTab K ts).In h := fun b o e => k b o (lookup_filter (fun _ _ => rfl) e)
theorem emptyT_eq {o : Obj} (h : emptyT o = true) : o = { cls := .none, data := .fields #[] } := by
  obtain ⟨c, d, t, sl⟩ := o
  unfold emptyT at h
  split at h
  · rename_i vs sl' e
    cases e
    simp only [Bool.and_eq_true, Array.isEmpty_iff] at h
    obtain ⟨h1, h2⟩ := h
    subst h1 h2
    rfl
  · cases h
structure TabK (h : Heap) (K : PySem.W.Frag) (d : Str × Option Str) : Prop where
  hd : PySem.W.codeHdIn K (codeF K (He.fAd K d)) (tabD K d) = true
  at_ : h.get? (tabD K d) = some { cls := .none, data := .fields #[] }
  off : K.lookup (tabD K d) = none
  gl : mainGlobals ≠ tabD K d
  nz : tabD K d ≠ 0
  code : ∀ fd o, K.lookup (He.fAd K d) = some o -> o.data = .func fd -> fd.code = .ref (codeF K (He.fAd K d))
theorem tabK_of {h : Heap} {K0 K : PySem.W.Frag} {d : Str × Option Str} (k : K0.In h) (e : tabOk K0 K d = true) : TabK h K d := by
  unfold tabOk at e
  simp only [Bool.and_eq_true] at e
  obtain ⟨e1, e2, e3, e4, e6, e5⟩ := e
  refine ⟨e1, ?_, by simpa using e3, fun z => by rw [z] at e4; simp at e4, fun z => by rw [z] at e6; simp at e6, fun fd o h1 h2 => ?_⟩
  · cases q : K0.lookup (tabD K d) with
    | none => rw [q] at e2; cases e2
    | some o =>
      rw [q] at e2
      have := k _ _ q
      rw [emptyT_eq e2] at this
      exact this
  · rw [h1] at e5
    simp only [h2] at e5
    cases hc : fd.code with
    | ref c =>
      have : codeF K (He.fAd K d) = c := by unfold codeF; rw [h1]; simp only [h2, hc]
      rw [this]
    | _ => rw [hc] at e5; cases e5
def csOf (K : PySem.W.Frag) (ts : List (Str × Option Str)) : List (Addr × Addr) := ts.map fun d => (codeF K (He.fAd K d), tabD K d)
theorem tabs_at {h : Heap} {K : PySem.W.Frag} {ts : List (Str × Option Str)} (X : K.In h) (t : ∀ d ∈ ts, TabK h K d) : TabsAt K h (csOf K ts) := by
  refine ⟨fun p hp => ?_, fun p hp => ?_, fun p hp => ?_⟩ <;> obtain ⟨d, hd, rfl⟩ := List.mem_map.mp hp
  · exact (t d hd).at_
  · exact (t d hd).off
  · exact PySem.W.codeHd_of_K X (t d hd).hd
open PySem.W PySem.Calls PyProof.Rows HandSHeadRun in
theorem runT_of {r : OpenRow} {q : Program} {n : Nat} {ts : List (Str × Option Str)} {fa : List He.Fa} {fn : List He.DefD} {ex : PySem.W.Frag -> Bool} {M : Nat} {loose : List PySem.Str} {w : World}
    (h1 : ∀ os, (HandSHeadRun.endF (stepQ (denQ tabQ) r.prog w) M r.prog w os).map (fun s => (looksF r.prog (boot_heap w.params) s.abs, seenQ q loose (importedModules r.prog.main.body) (fun s => xlAt q [] s && recOk r.toRowW.records s) s.abs)) = some (true, openGood q loose))
    (h2 : ∀ os, (HandSHeadRun.endF (stepQ (denQ tabQ) r.prog w) M r.prog w os).map (fun s => fa.all fun f => f.ok (cutTab (He.frG (getT s) (List.range n)) ts)) = some true)
    (h3 : ∀ os, (HandSHeadRun.endF (stepQ (denQ tabQ) r.prog w) M r.prog w os).map (fun s => (fn.all fun d => d.ok (cutTab (He.frG (getT s) (List.range n)) ts), fn.map fun d => He.fnW (cutTab (He.frG (getT s) (List.range n)) ts) d.at_)) = some (true, fn.map He.DefD.val))
    (h4 : ∀ os, (HandSHeadRun.endF (stepQ (denQ tabQ) r.prog w) M r.prog w os).map (fun s => (ex (cutTab (He.frG (getT s) (List.range n)) ts), ts.all (tabOk (He.frG (getT s) (List.range n)) (cutTab (He.frG (getT s) (List.range n)) ts)))) = some (true, true)) :
    RunEq r q (hookT n ts fa fn ex) (fun s => obsT n ts fa fn ex (getT s)) M loose w := by
  intro os
  obtain ⟨s, e, a1, a2⟩ := opt_pair (h1 os) (h2 os)
  have b3 := h3 os
  have b4 := h4 os
  rw [e] at b3 b4 ⊢
  have b3 := Option.some.inj b3
  have b4 := Option.some.inj b4
  have c1 := congrArg Prod.fst a1
  have c2 := congrArg Prod.snd a1
  have d1 := congrArg Prod.fst b3
  have d2 := congrArg Prod.snd b3
  have f1 := congrArg Prod.fst b4
  have f2 := congrArg Prod.snd b4
  simp only at c1 c2 d1 d2 f1 f2 a2
  show some (looksF r.prog (boot_heap w.params) s.abs, seenQ q loose (importedModules r.prog.main.body) (fun s => xlAt q [] s && recOk r.toRowW.records s) s.abs, ((((fa.all fun f => f.ok (cutTab (He.frG (getT s) (List.range n)) ts)) && fn.all fun d => d.ok (cutTab (He.frG (getT s) (List.range n)) ts)), fn.map fun d => He.fnW (cutTab (He.frG (getT s) (List.range n)) ts) d.at_), (ex (cutTab (He.frG (getT s) (List.range n)) ts), ts.all (tabOk (He.frG (getT s) (List.range n)) (cutTab (He.frG (getT s) (List.range n)) ts))))) = _
  rw [c1, c2, a2, d1, d2, f1, f2]
  rfl
theorem fnD_code {K : PySem.W.Frag} {h : Heap} {d : Str × Option Str} {x qual : Str} {params : Arguments} {body : List Stmt} {scope : Scope} {dvs : List V} {kws : List (Str × V)} {fd : FuncData} (T : TabK h K d) (F : FunD K x qual params body scope dvs kws (He.fAd K d) fd) : fd.code = .ref (codeF K (He.fAd K d)) := by
  obtain ⟨oc, od, dV, kV, doc, pm, an, cdv, ct, osl, rfl, lk, _⟩ := F.ex
  exact T.code _ _ lk rfl
end DL
set_option Elab.async false
set_option linter.all false
set_option maxRecDepth 100000
set_option maxHeartbeats 2000000
set_option autoImplicit false
namespace DL
open PySem L2
theorem fn_dC {cl : ClW} {P : Program} {w : World} {K : PySem.W.Frag} {mg : Str -> Option Value} {base : Heap} {k : Nat} {f : Addr} {x qual : Str} {params : Arguments} {body : List Stmt} {scope : Scope} {dvs : List V} {kws : List (Str × V)} {fd : FuncData} {N ps : List Str} {spd : SpD}
    (F : FunD K x qual params body scope dvs kws f fd) (S : FnScope N ps scope) (t : DTS)
    (hbody : ∀ (cdv : Value), fd.code = cdv -> ∀ (A : Around) (outer : List PySem.Env) (s : Shared) (H : Hp) (E : XK), Cap (cxOf (L2.CX P w) P w K mg base N qual scope f cdv A outer s H E) (fun cls d _ H => E cls d H) k ->
      DSs cl (cxOf (L2.CX P w) P w K mg base N qual scope f cdv A outer s H E) (fun cls d _ H => E cls d H) body t)
    (hsp : ∀ ds M Q E, spd ds M Q E -> ds.length = ps.length /\ t (dEnds Q E) (startD N ds) M) : FnG cl P w K mg base (k + 1) f fd ps spd := by
  refine ⟨fun ds M Q E h => (hsp ds M Q E h).1, fun A outer s H args us vs Q E hr e0 hb r hl => ?_⟩
  obtain ⟨oc, od, dV, kV, doc, pm, an, cdv, ct, osl, rfl, lk, hcd, _, _⟩ := F.ex
  have lenV : ∀ vs H Q E, lower K cl spd vs H Q E -> vs.length = ps.length := fun vs H Q E ⟨_, M, ds, Qd, Ed, _, r, q, _⟩ => by
    rw [r.length]
    exact (hsp ds M Qd Ed q).1
  have hr' := hr.deeper (PyProof.Rows.envOfC qual scope s.heap.objs.size f cdv)
  have KX : K.In s.heap := e0.mod.kin.keeps fun b o e => (e0.bs b o e).1
  have lim : s.heap.NoLimit := e0.mod.nolimit.keeps fun b o e => (e0.bs b o e).1
  have hkind : ∀ y ∈ ps.zip us, scope.names.lookup y.1 = some .local \/ (scope.names.lookup y.1 = some .cell /\ ((cellsFrom (s.heap.objs.size + 1) scope.names []).lookup y.1).isSome = true) := fun ⟨n, v⟩ hy => by
    rcases S.par n (List.of_mem_zip hy).1 with q | q
    · exact .inl q
    · exact .inr ⟨q, PySem.W.cellsFrom_some _ _ _ (.inl q)⟩
  refine codeAny_call_function hr.room.depth (KX _ _ lk) rfl S.co S.gen rfl (PySem.W.codeRec_of KX hcd) (hb _ _ _ _ ?_)
  refine wpAny_newFunctionEnv_cells S.kind hkind fun env he s1 x => ?_
  subst he
  refine ⟨lim.keeps x.toInCall.keep, codeAny_func ?_⟩
  have ht := hbody cdv rfl A outer s H E ⟨takes_of rfl rfl rfl rfl, hr', passes_of rfl, rfl⟩
  have I : Inv (cxOf (L2.CX P w) P w K mg base N qual scope f cdv A outer s H E) [] (L2.start N vs) H s1 := inv_start S hr.room.hd e0 (lenV _ _ _ _ hl) r x
  obtain ⟨F0, M0, ds0, Qd, Ed, g0, r0, q0, p0, ep0⟩ := hl
  have hq : lowS K cl (fun cls d _ H => E cls d H) t { nx := fun _ H' => Q .non H', rt := Q } (L2.start N vs) H :=
    ⟨F0, startD N ds0, M0, dEnds Qd Ed, g0, slots_start N r0, (hsp ds0 M0 Qd Ed q0).2,
      ⟨fun σ' H' F' ρ' M' sm g' s' q' => p0 _ _ _ _ _ sm g' .non q', p0, fun _ _ _ _ _ _ _ _ q' => q', fun _ _ _ _ _ _ _ _ q' => q', fun c ns ds σ' H' F' ρ' M' dd sm g' s' ea q' => ep0 _ _ _ _ _ _ _ sm g' ea q'⟩⟩
  refine wpAny_mono (ht.pss.run [] s1 (L2.start N vs) H _ I hq) (fun fl s' hs => ?_) fun e s' hs => hs
  have fin : ∀ {σ' : St} {H' : Hp} {v : V} {u : Value}, Inv (cxOf (L2.CX P w) P w K mg base N qual scope f cdv A outer s H E) [] σ' H' s' -> RelV v u -> Q v H' -> CE outer P w H s Q u s' :=
    fun {σ' H' v u} J rv q => ⟨v, H', J.os, J.bare, J.base, J.hok, rv, q⟩
  cases fl with
  | ret u =>
    obtain ⟨v, σ', H', J, rv, q⟩ := hs
    exact fin J rv q
  | next =>
    obtain ⟨σ', H', J, q⟩ := hs
    exact fin (v := V.non) (u := Value.none) J rfl q
  | brk =>
    obtain ⟨_, _, _, q⟩ := hs
    exact False.elim q
  | cont =>
    obtain ⟨_, _, _, q⟩ := hs
    exact False.elim q
section
variable {cl : ClW} {P : Program} {w : World} {K : PySem.W.Frag} {mg : Str -> Option Value} {base h : Heap} {k : Nat} {x qual : Str} {params : Arguments} {body : List Stmt} {scope : Scope} {N ps : List Str} {spd : SpD} {d : Str × Option Str} {t : DTS}
theorem fnC_ofT (T : TabK h K d) (F : ∃ fd, FunD K x qual params body scope [] [] (He.fAd K d) fd) (S : FnScope N ps scope)
    (hbody : ∀ (A : Around) (outer : List PySem.Env) (s : Shared) (H : Hp) (E : XK), Cap (cxOf (L2.CX P w) P w K mg base N qual scope (He.fAd K d) (.ref (codeF K (He.fAd K d))) A outer s H E) (fun cls d _ H => E cls d H) k ->
      DSs cl (cxOf (L2.CX P w) P w K mg base N qual scope (He.fAd K d) (.ref (codeF K (He.fAd K d))) A outer s H E) (fun cls d _ H => E cls d H) body t)
    (hsp : ∀ ds M Q E, spd ds M Q E -> ds.length = ps.length /\ t (dEnds Q E) (startD N ds) M) : FnC cl P w K mg base (k + 1) x qual params body scope (He.fAd K d) ps spd := by
  obtain ⟨fd, F⟩ := F
  refine ⟨fd, F, fn_dC F S t (fun cdv hc A outer s H E c => ?_) hsp⟩
  rw [fnD_code T F] at hc
  subst hc
  exact hbody A outer s H E c
end
end DL
set_option Elab.async false
set_option linter.all false
set_option maxRecDepth 100000
set_option maxHeartbeats 2000000
set_option autoImplicit false
namespace DL
open PySem L2
section
variable {X : Cx} {o e : Expr} {to ta : TE} {apos cpos : Pos}
end
section
variable {cl : ClW} {X : Cx} {W : WX} {o e : Expr} {τo τ : DTE} {apos cpos : Pos}
end
end DL
set_option Elab.async false
set_option linter.all false
set_option maxRecDepth 100000
set_option maxHeartbeats 4000000
set_option autoImplicit false
namespace DLB
open PySem PySem.W
theorem slot_bi_next : Slot "bytes_iterator" "__next__" "bytes_iterator.__next__" :=
  .of (owner := "bytes_iterator") (n := "__next__") (by rw [typeLookup_type, builtinLookup_eq_fast]; kernel_rfl) (by decide +kernel) (by decide +kernel) (by decide +kernel)
    (by first | exact .inl (by decide +kernel) | exact .inr (by decide +kernel)) (by rw [isSubtype_type]; kernel_rfl)
def IsBi (h : Heap) (it : Addr) (b : Array UInt8) (t : Tok) (i : Nat) : Prop := ∃ o, h.get? it = some o /\ o.cls = .type "bytes_iterator" /\ o.data = .fields #[.bytes b t, .int i 0]
section
variable {prog : Program} {w : World} {A : Around} {E : Value -> Shared -> Prop} {s : Shared} {it : Addr} {b : Array UInt8} {t : Tok} {i : Nat}
theorem pyIter_bytes {Q : Value -> Shared -> Prop} (hQ : Q (.ref s.heap.objs.size) { s with heap := s.heap.push { cls := .type "bytes_iterator", data := .fields #[.bytes b t, .int 0 0] } }) : wpAny (model prog w) A (pyIter (.bytes b t)) Q E s := by
  refine wpAny_pyIter_slot (typeIs_bytes s b t) FB.slot_bytes_iter (wpAny_call_entry FB.slot_bytes_iter (typeIs_bytes s b t) FB.entry_bytes_iter ?_ (FB.args_bytes_iter_1 _))
  show wpAny _ _ (do ret (<- newFields "bytes_iterator" [.bytes b t, rawInt 0])) _ _ s
  exact wpAny_bind (wpAny_newObj_type (wpAny_pure ⟨_, rfl, "bytes_iterator", _, ⟨_, Heap.get?_push_size _ rfl, rfl⟩, slot_bi_next.lookup, hQ⟩))
end
end DLB
set_option Elab.async false
set_option linter.all false
set_option maxRecDepth 100000
set_option maxHeartbeats 4000000
set_option autoImplicit false
namespace DLC
open PySem PySem.W Builtin PyProof.Rows SeqAt
theorem slot_bytes_eq_refl : Slot "bytes" (cmpInfo .Eq).2.2 "bytes.__eq__" :=
  .of (owner := "bytes") (n := "__eq__") (by rw [typeLookup_type, builtinLookup_eq_fast]; kernel_rfl) (by decide +kernel) (by decide +kernel) (by decide +kernel)
    (by first | exact .inl (by decide +kernel) | exact .inr (by decide +kernel)) (by rw [isSubtype_type]; kernel_rfl)
theorem bytes_eq_none (b : Array UInt8) (t : Tok) : Gives («bytes.__eq__» ⟨[.bytes b t, .none], []⟩) (.val (Value.notImplemented)) := .of_wp fun M A E s Q hq => by
  show wpAny M A (isInstance .none (.type "bytes") >>= fun r => _) _ E s
  refine wpAny_bind (wpAny_isInstance (T := "NoneType") rfl F.sub_NoneType_bytes ?_)
  refine wpAny_bind (wpAny_isInstance (T := "NoneType") rfl F.sub_NoneType_bytes ?_)
  simp only [Bool.not_false, if_true]
  exact wpAny_bind (wpAny_rule (wpAny_pure ⟨_, rfl, hq⟩))
theorem none_eq_bytes (b : Array UInt8) (t : Tok) : Gives (Builtin.«NoneType.__eq__» ⟨[.none, .bytes b t], []⟩) (.val (Value.notImplemented)) :=
  .of_wp fun M A E s Q h => by obtain ⟨hp, g, d, tk, os⟩ := s; wp_walk; exact ⟨_, rfl, h⟩
section
variable {prog : Program} {w : World} {A : Around} {E Q : Value -> Shared -> Prop} {s : Shared} {b c : Array UInt8} {t u : Tok}
theorem rc_bytes (hu : A.units < cLine) (q : Q (.bool (b == c)) s) : wpAny (model prog w) A (richCompare .Eq (.bytes b t) (.bytes c u)) Q E s := by
  refine wpAny_richCompare_same_room (op := .Eq) (typeIs_bytes s b t) (typeIs_bytes s c u) FB.slot_bytes_eq (call_gives FB.slot_bytes_eq (typeIs_bytes s b t) FB.entry_bytes_eq (FB.args_bytes_eq_2 _ _) (gives_bytes_eq b c t u) ⟨(fun z => nomatch z), ?_⟩) hu
  have e : (b.toList == c.toList) = (b == c) := by
    rw [Bool.eq_iff_iff]; simp [Array.toList_inj]
  rw [e]; exact q
theorem rc_bytes_none (q : Q (.bool false) s) : wpAny (model prog w) A (richCompare .Eq (.bytes b t) .none) Q E s :=
  rc_eq_decline_or (k := false) (typeIs_bytes s b t) (Tb := "NoneType") rfl (by decide) F.sub_NoneType_bytes FB.slot_bytes_eq PySem.F.slot_NoneType_eq_refl
    (fun _ z => call_gives FB.slot_bytes_eq (typeIs_bytes s b t) FB.entry_bytes_eq (FB.args_bytes_eq_2 _ _) (bytes_eq_none b t) z)
    (fun _ z => call_gives PySem.F.slot_NoneType_eq_refl rfl PySem.F.entry_NoneType_eq (PySem.F.args_NoneType_eq_2 _ _) (none_eq_bytes b t) z)
    (fun _ z => wpAny_of_eq (rfl : isSame (.bytes b t) .none = pure false) z) (.inl rfl) q
theorem rc_none_bytes (q : Q (.bool false) s) : wpAny (model prog w) A (richCompare .Eq .none (.bytes b t)) Q E s :=
  rc_eq_decline_or (k := false) (Ta := "NoneType") rfl (typeIs_bytes s b t) (by decide) F.sub_bytes_NoneType PySem.F.slot_NoneType_eq slot_bytes_eq_refl
    (fun _ z => call_gives PySem.F.slot_NoneType_eq rfl PySem.F.entry_NoneType_eq (PySem.F.args_NoneType_eq_2 _ _) (none_eq_bytes b t) z)
    (fun _ z => call_gives slot_bytes_eq_refl (typeIs_bytes s b t) FB.entry_bytes_eq (FB.args_bytes_eq_2 _ _) (bytes_eq_none b t) z)
    (fun _ z => wpAny_of_eq (rfl : isSame .none (.bytes b t) = pure false) z) (.inl rfl) q
end
end DLC
set_option Elab.async false
set_option linter.all false
set_option maxRecDepth 100000
set_option maxHeartbeats 4000000
set_option autoImplicit false
namespace DL
open PySem L2
inductive Wkd where
  | txt (z : Str)
  | byt (b : Array UInt8)
  | lst (a : Addr)
  | tup (a : Addr)
namespace Wkd
def v : Wkd -> V
  | .txt z => .str z
  | .byt b => .byt b
  | .lst a => .ref a
  | .tup a => .ref a
def val (t : Tok) : Wkd -> Value
  | .txt z => .str z t
  | .byt b => .bytes b t
  | .lst a => .ref a
  | .tup a => .ref a
def has (K : PySem.W.Frag) (H : Hp) : Wkd -> List V -> Prop
  | .txt z, xs => xs = z.cps.toList.map fun c => V.str ⟨#[c]⟩
  | .byt b, xs => xs = b.toList.map fun c => V.int (c.toNat : Nat)
  | .lst a, xs => SqL K H a xs
  | .tup a, xs => SqT K H a xs
def st (t : Tok) (it : Addr) (i : Nat) (h : Heap) : Wkd -> Prop
  | .txt z => h.IsStrIter it (strIterType z) z t i
  | .byt b => DLB.IsBi h it b t i
  | .lst a => h.IsListIter it a i
  | .tup a => h.IsTupleIter it a i
def ads : Wkd -> List Addr
  | .txt _ => []
  | .byt _ => []
  | .lst a => [a]
  | .tup a => [a]
def mk (t : Tok) : Wkd -> Obj
  | .txt z => { cls := .type (strIterType z), data := .fields #[.str z t, .int 0 0] }
  | .byt b => { cls := .type "bytes_iterator", data := .fields #[.bytes b t, .int 0 0] }
  | .lst a => { cls := .type "list_iterator", data := .fields #[.ref a, .int 0 0] }
  | .tup a => { cls := .type "tuple_iterator", data := .fields #[.ref a, .int 0 0] }
variable {k : Wkd} {t : Tok} {it : Addr} {i : Nat} {h h' : Heap}
variable {X : Cx} {pins : List (Addr × Obj)} {σ : St} {H : Hp} {s : Shared} {xs ys : List V}
theorem inj (I : Inv X pins σ H s) (q : k.has X.K H xs) (q' : k.has X.K H ys) : ys = xs := by
  cases k with
  | txt z => exact q'.trans q.symm
  | byt b => exact q'.trans q.symm
  | lst a => exact I.list_inj q' q
  | tup a => exact I.tuple_inj q' q
theorem lt (I : Inv X pins σ H s) (q : k.has X.K H xs) : ∀ a ∈ k.ads, a < s.heap.objs.size := by
  intro a ha
  cases k with
  | txt z => cases ha
  | byt b => cases ha
  | lst b =>
    obtain rfl := List.mem_singleton.mp ha
    obtain ⟨its, rv, p, _⟩ := I.list q
    obtain ⟨o, e, _⟩ := p.isList
    exact Heap.lt_size e
  | tup b =>
    obtain rfl := List.mem_singleton.mp ha
    obtain ⟨its, rv, p, _⟩ := I.tuple q
    obtain ⟨o, e, _⟩ := p
    exact Heap.lt_size e
theorem weak {P : Program} {w : World} {A : Around} {fp : List Addr} {n : Nat} {φ ψ : Nat -> Value -> Prop} {S : Nat -> Heap -> Prop} (D : Draws P w A it fp n φ S) (h : ∀ i v, φ i v -> ψ i v) : Draws P w A it fp n ψ S :=
  ⟨D.live, D.frame, fun i s Q E hi hs hQ => D.item i s Q E hi hs fun x h' tk hp => hQ x h' tk (h _ _ hp), D.done⟩
end Wkd
structure Five (k1 k2 : Wkd) (z TI TO i1 i2 : Addr) : Prop where
  nd : [z, TI, TO, i1, i2].Nodup
  f1 : ∀ a ∈ k1.ads, a ∉ [z, TI, TO, i1, i2]
  f2 : ∀ a ∈ k2.ads, a ∉ [z, TI, TO, i1, i2]
end DL
set_option Elab.async false
set_option linter.all false
set_option maxRecDepth 100000
set_option maxHeartbeats 4000000
set_option autoImplicit false
namespace DL
open PySem L2
@[simp] def wkD : D -> Option (List D)
  | .lst xs => some xs
  | .tup xs => some xs
  | .str z => some (z.cps.toList.map fun c => D.str ⟨#[c]⟩)
  | .byt b => some (b.toList.map fun c => D.int (c.toNat : Nat))
  | _ => none
@[simp] def iZpW (τ τ' : DTE) : DTI := fun ρ M R X => τ ρ M (fun d M1 => τ' ρ M1 (fun e M2 => ∃ xs ys, wkD d = some xs /\ wkD e = some ys /\ R ((xs.zip ys).map fun p => D.tup [p.1, p.2]) M2) X) X
@[simp] def iEnN (c : Nat) (τ : DTE) : DTI := fun ρ M R X => τ ρ M (fun d M1 => ∃ xs, wkD d = some xs /\ R (xs.zipIdx.map fun p => D.tup [.int ((p.2 + c : Nat)), p.1]) M1) X
section
variable {cl : ClW} {X : Cx} {W : WX} {a b : Expr} {pos : Pos} {τa τb : DTE}
end
end DL
set_option Elab.async false
set_option linter.all false
set_option maxRecDepth 100000
set_option maxHeartbeats 4000000
set_option autoImplicit false
namespace DL
open PySem L2
structure KTab (K : PySem.W.Frag) (w : World) (d : Addr) (tb : List (Str × Str)) : Prop where
  kd : ∃ es n, KDict K w d es n
  get : ∀ z : Str, match tb.lookup z with
    | some v => ∃ t, PySem.W.nsIn K d z = some (some (.str v t))
    | none => PySem.W.nsIn K d z = some none
section
variable {cl : ClW} {X : Cx} {W : WX} {x : Str} {d : Addr} {tb : List (Str × Str)} {a : Expr} {τ : DTE} {p pos : Pos}
end
end DL
set_option Elab.async false
set_option linter.all false
set_option maxRecDepth 100000
set_option maxHeartbeats 4000000
set_option autoImplicit false
namespace DL
open PySem L2
section
variable {K : PySem.W.Frag} {cl : ClW}
end
section
variable {K : PySem.W.Frag} {cl : ClW}
end
end DL
set_option Elab.async false
set_option linter.all false
set_option maxRecDepth 100000
set_option maxHeartbeats 4000000
set_option autoImplicit false
namespace DL
open PySem L2
section
variable {K : PySem.W.Frag} {cl : ClW} {X : Cx}
end
end DL
set_option Elab.async false
set_option linter.all false
set_option maxRecDepth 100000
set_option maxHeartbeats 4000000
set_option autoImplicit false
namespace DL
open PySem L2
section
variable {X : Cx} {e : Expr} {es : List Expr} {ta : TA} {p pos : Pos}
end
section
variable {cl : ClW} {X : Cx} {W : WX} {k : Nat} {x : Str} {c : Nat} {fs : List Str} {e : Expr} {es : List Expr} {α : DTA} {p pos : Pos}
end
def xoF (cs : List Nat) (f : Str) : D -> Option D
  | .xob c ns ds => if c ∈ cs then lookN f ns ds else none
  | _ => none
@[simp] def dXo (cs : List Nat) (f : Str) (τ : DTE) : DTE := fun ρ M Q X => τ ρ M (fun d M1 => ∃ v, xoF cs f d = some v /\ Q v M1) X
section
variable {P : Program} {w : World} {A : Around} {E : Value -> Shared -> Prop} {s : Shared} {K : PySem.W.Frag} {x C f : Addr} {ox : Obj} {od : Option Obj} {m : Str}
end
structure MethX (cl : ClW) (P : Program) (w : World) (K : PySem.W.Frag) (mg : Str -> Option Value) (base : Heap) (k c : Nat) (m : Str) (spd : SpD) : Prop where
  xf : XfC K (cl c)
  ex : ∃ f fd ps, PySem.W.findIn K (.ref (cl c)) m = some (some (.ref f)) /\ PySem.W.typeIn K (.ref f) = some (.type "function") /\ PySem.W.keepIn K (.ref f) = true /\ Binds K fd ps [] /\ FnG cl P w K mg base k f fd ps spd
section
variable {cl : ClW} {X : Cx} {W : WX} {k : Nat} {m : Str} {o : Expr} {τ : DTE} {apos pos : Pos}
end
end DL
set_option Elab.async false
set_option linter.all false
set_option maxRecDepth 100000
set_option maxHeartbeats 4000000
set_option autoImplicit false
namespace DLC
open PySem PySem.W Builtin PyProof.Rows SeqAt
@[reducible] def bytKind : PyProof.Rows.KeyKind where
  α := List Nat
  blt a b := decide (a < b)
  irrefl a := by simpa using List.lt_irrefl a
  trans a b c h1 h2 := by simp only [decide_eq_true_eq] at *; exact List.lt_trans h1 h2
  negTrans a b c h := by
    simp only [decide_eq_true_eq] at *
    by_cases hab : a < b
    · exact .inl hab
    · exact .inr (List.lt_of_le_of_lt (List.not_lt.mp hab) h)
  total a b h1 h2 := by simp only [decide_eq_false_iff_not] at *; exact List.le_antisymm (List.not_lt.mp h2) (List.not_lt.mp h1)
  keyOf v := match v with | .bytes x _ => some (x.toList.map UInt8.toNat) | _ => none
  dflt := []
section
variable {prog : Program} {w : World} {A : Around} {E : Value -> Shared -> Prop} {s : Shared}
end
end DLC
set_option Elab.async false
set_option linter.all false
set_option maxRecDepth 100000
set_option maxHeartbeats 4000000
set_option autoImplicit false
namespace DL
open PySem L2 PyProof.Rows
def keyB : D -> List Nat
  | .byt x => x.toList.map UInt8.toNat
  | _ => []
def leByt (a b : D) : Bool := !decide (keyB b < keyB a)
inductive SortBy : List D -> (D -> D -> Bool) -> Prop where
  | byt (bs : List (Array UInt8)) : SortBy (bs.map D.byt) leByt
  | py (xs : List D) (enc : D -> PyData) : (∀ x ∈ xs, toPyX x = some (enc x)) -> PySem.W.AllAlike (xs.map enc) -> PySem.W.Sortable (xs.map enc) -> (∀ x ∈ xs, (enc x).depth <= 32) -> SortBy xs (PySem.W.dataLe false enc)
section
variable {cl : ClW} {X : Cx} {W : WX} {e : Expr} {τ : DTE} {p pos : Pos} {k : Nat}
end
end DL
set_option Elab.async false
set_option linter.all false
set_option maxRecDepth 100000
set_option maxHeartbeats 4000000
set_option autoImplicit false
namespace DL
open PySem L2
open PySem.SeqAt
mutual
def eqY : Nat -> D -> D -> Option Bool
  | _, .byt a, .byt b => some (a == b)
  | _, .byt _, .non => some false
  | _, .non, .byt _ => some false
  | n + 1, .lst xs, .lst ys => if xs.length = ys.length then eqYs n xs ys else some false
  | n + 1, .tup xs, .tup ys => eqYs n xs ys
  | n, d, e => if plX n d && plX n e then some (eqX d e) else none
def eqYs : Nat -> List D -> List D -> Option Bool
  | _, [], [] => some true
  | n, x :: xs, y :: ys => match eqY n x y, eqYs n xs ys with
    | some a, some b => some (a && b)
    | _, _ => none
  | _, [], _ :: _ => some false
  | _, _ :: _, [] => some false
end
theorem eqYs_cons {n : Nat} {x y : D} {xs ys : List D} {b : Bool} (h : eqYs n (x :: xs) (y :: ys) = some b) : ∃ c e, eqY n x y = some c /\ eqYs n xs ys = some e /\ b = (c && e) := by
  rw [eqYs] at h
  cases h1 : eqY n x y with
  | none => rw [h1] at h; simp at h
  | some c =>
    cases h2 : eqYs n xs ys with
    | none => rw [h1, h2] at h; simp at h
    | some e => rw [h1, h2] at h; simp at h; exact ⟨c, e, rfl, rfl, h.symm⟩
theorem eqY_cases {n : Nat} {d e : D} {b : Bool} (h : eqY n d e = some b) :
    (∃ x y, d = .byt x /\ e = .byt y /\ b = (x == y)) \/ (∃ x, d = .byt x /\ e = .non /\ b = false) \/ (∃ x, d = .non /\ e = .byt x /\ b = false) \/
    (∃ m xs ys, n = m + 1 /\ d = .lst xs /\ e = .lst ys /\ ((xs.length = ys.length /\ eqYs m xs ys = some b) \/ (xs.length ≠ ys.length /\ b = false))) \/
    (∃ m xs ys, n = m + 1 /\ d = .tup xs /\ e = .tup ys /\ eqYs m xs ys = some b) \/ (plX n d = true /\ plX n e = true /\ b = eqX d e) := by
  rw [eqY.eq_def] at h
  split at h
  · cases h; exact .inl ⟨_, _, rfl, rfl, rfl⟩
  · cases h; exact .inr (.inl ⟨_, rfl, rfl, rfl⟩)
  · cases h; exact .inr (.inr (.inl ⟨_, rfl, rfl, rfl⟩))
  · refine .inr (.inr (.inr (.inl ⟨_, _, _, rfl, rfl, rfl, ?_⟩)))
    split at h
    · exact .inl ⟨by assumption, h⟩
    · cases h; exact .inr ⟨by assumption, rfl⟩
  · exact .inr (.inr (.inr (.inr (.inl ⟨_, _, _, rfl, rfl, rfl, h⟩))))
  · split at h
    · rename_i hp
      rw [Bool.and_eq_true] at hp
      cases h
      exact .inr (.inr (.inr (.inr (.inr ⟨hp.1, hp.2, rfl⟩))))
    · cases h
section
variable {X : Cx} {pins : List (Addr × Obj)} {σ : St} {H : Hp} {s : Shared} {cl : ClW}
theorem sameY (I : Inv X pins σ H s) : ∀ (n : Nat) (d e : D) (x : V) (v : Value) (b : Bool), RelV x v -> Rep X.K cl H x d -> Rep X.K cl H x e -> eqY n d e = some b -> b = true := by
  intro n
  induction n with
  | zero =>
    intro d e x v b rv r1 r2 h
    rcases eqY_cases h with ⟨a, c, rfl, rfl, rfl⟩ | ⟨a, rfl, rfl, rfl⟩ | ⟨a, rfl, rfl, rfl⟩ | ⟨m, _, _, hm, _⟩ | ⟨m, _, _, hm, _⟩ | ⟨p1, p2, rfl⟩
    · have := r1.toByt; rw [r2.toByt] at this; cases this; simp
    · have := r1.toByt; rw [r2.toNon] at this; cases this
    · have := r1.toNon; rw [r2.toByt] at this; cases this
    · cases hm
    · cases hm
    · rw [side_inj I 0 d e v (side_of I r1 p1 rv) (side_of I r2 p2 rv) p1 p2]
      exact eqX_refl 0 e p2
  | succ n ih =>
    intro d e x v b rv r1 r2 h
    rcases eqY_cases h with ⟨a, c, rfl, rfl, rfl⟩ | ⟨a, rfl, rfl, rfl⟩ | ⟨a, rfl, rfl, rfl⟩ | ⟨m, xs, ys, hm, rfl, rfl, h2⟩ | ⟨m, xs, ys, hm, rfl, rfl, h2⟩ | ⟨p1, p2, rfl⟩
    · have := r1.toByt; rw [r2.toByt] at this; cases this; simp
    · have := r1.toByt; rw [r2.toNon] at this; cases this
    · have := r1.toNon; rw [r2.toByt] at this; cases this
    · cases hm
      obtain ⟨a, vs, rfl, h3, h4⟩ := r1.toLst
      obtain ⟨a', vs', e1, h5, h6⟩ := r2.toLst
      cases e1
      obtain rfl := I.list_inj h3 h5
      rcases h2 with ⟨_, h2⟩ | ⟨hn, _⟩
      · obtain ⟨its, rv2, _, _⟩ := I.list h3
        have : ∀ {vs : List V} {us : List Value} {ds es : List D} {b : Bool}, Vals vs us -> Reps X.K cl H vs ds -> Reps X.K cl H vs es -> eqYs n ds es = some b -> b = true := by
          intro vs
          induction vs with
          | nil => intro us ds es b _ r q h; cases r; cases q; rw [eqYs] at h; cases h; rfl
          | cons v vs ihv =>
            intro us ds es b rr r q h
            cases rr with
            | cons rr1 rr2 =>
              cases r with
              | cons r1 r2 =>
                cases q with
                | cons q1 q2 =>
                  obtain ⟨c, f, k1, k2, rfl⟩ := eqYs_cons h
                  rw [ih _ _ _ _ _ rr1 r1 q1 k1, ihv rr2 r2 q2 k2]; rfl
        exact this rv2 h4 h6 h2
      · exact absurd (h4.length.symm.trans h6.length) hn
    · cases hm
      obtain ⟨a, vs, rfl, h3, h4⟩ := r1.toTup
      obtain ⟨a', vs', e1, h5, h6⟩ := r2.toTup
      cases e1
      obtain rfl := I.tuple_inj h3 h5
      obtain ⟨its, rv2, _, _⟩ := I.tuple h3
      have : ∀ {vs : List V} {us : List Value} {ds es : List D} {b : Bool}, Vals vs us -> Reps X.K cl H vs ds -> Reps X.K cl H vs es -> eqYs n ds es = some b -> b = true := by
        intro vs
        induction vs with
        | nil => intro us ds es b _ r q h; cases r; cases q; rw [eqYs] at h; cases h; rfl
        | cons v vs ihv =>
          intro us ds es b rr r q h
          cases rr with
          | cons rr1 rr2 =>
            cases r with
            | cons r1 r2 =>
              cases q with
              | cons q1 q2 =>
                obtain ⟨c, f, k1, k2, rfl⟩ := eqYs_cons h
                rw [ih _ _ _ _ _ rr1 r1 q1 k1, ihv rr2 r2 q2 k2]; rfl
      exact this rv2 h4 h6 h2
    · rw [side_inj I (n + 1) d e v (side_of I r1 p1 rv) (side_of I r2 p2 rv) p1 p2]
      exact eqX_refl (n + 1) e p2
theorem eqP_of_rcY {A : Around} {v u : Value} {x : V} {k : Bool} {d : D} (rv : RelV x v) (rd : Rep X.K cl H x d) (h : RcP X.prog X.w A s v u k) (hs : v = u -> k = true) : EqP X.prog X.w A s v u k := fun E Q q => by
  unfold eqBool
  refine wpAny_holding (wpAny_ite_split (fun e => ?_) (fun _ => ?_))
  · have hv : v = u := by
      first
        | exact eq_of_beq e
        | skip
    have := hs hv
    subst this
    exact wpAny_bind (wpAny_rule (wpAny_pure q))
  · cases rd with
    | non => obtain rfl := (show v = Value.none from rv); exact wpAny_bind (h E _ (wpAny_truthy_bool q))
    | bl b => obtain rfl := (show v = Value.bool b from rv); exact wpAny_bind (h E _ (wpAny_truthy_bool q))
    | int i => obtain ⟨t, rfl⟩ := rv; exact wpAny_bind (h E _ (wpAny_truthy_bool q))
    | str i => obtain ⟨t, rfl⟩ := rv; exact wpAny_bind (h E _ (wpAny_truthy_bool q))
    | byt i => obtain ⟨t, rfl⟩ := rv; exact wpAny_bind (h E _ (wpAny_truthy_bool q))
    | ty n => obtain rfl := (show v = Value.type n from rv); exact wpAny_bind (h E _ (wpAny_truthy_bool q))
    | _ => obtain rfl := (show v = Value.ref _ from rv); exact wpAny_bind (h E _ (wpAny_truthy_bool q))
theorem eqL_Y {A : Around} {n : Nat} (ih : ∀ (d e : D) (x y : V) (v u : Value) (b : Bool), Rep X.K cl H x d -> Rep X.K cl H y e -> RelV x v -> RelV y u -> eqY n d e = some b -> EqP X.prog X.w A s v u b) :
    ∀ {vs ws : List V} {us ts : List Value} {ds es : List D} {b : Bool}, Vals vs us -> Reps X.K cl H vs ds -> Vals ws ts -> Reps X.K cl H ws es -> eqYs n ds es = some b -> ∃ bs : List Bool, EqL X.prog X.w A s (us.zip ts) bs /\ bs.length = min ds.length es.length /\ b = (bs.all id && ds.length == es.length)
  | _, _, _, _, _, _, b, .nil, .nil, .nil, .nil, h => by rw [eqYs] at h; cases h; exact ⟨[], .nil, rfl, rfl⟩
  | _, _, _, _, _, _, b, .nil, .nil, .cons _ _, .cons _ _, h => by rw [eqYs] at h; cases h; exact ⟨[], .nil, by simp, by simp⟩
  | _, _, _, _, _, _, b, .cons _ _, .cons _ _, .nil, .nil, h => by rw [eqYs] at h; cases h; exact ⟨[], by first | exact .nil | (rw [List.zip_nil_right]; exact .nil), by simp, by simp⟩
  | _, _, _, _, _, _, b, .cons a1 a2, .cons r1 r2, .cons c1 c2, .cons q1 q2, h => by
    obtain ⟨c, f, h1, h2, rfl⟩ := eqYs_cons h
    obtain ⟨bs, k1, k2, rfl⟩ := eqL_Y ih a2 r2 c2 q2 h2
    refine ⟨c :: bs, ?_, by simp [k2], ?_⟩
    · rw [List.zip_cons_cons]
      exact .cons (ih _ _ _ _ _ _ _ r1 q1 a1 c1 h1) k1
    · simp only [List.all_cons, id, Bool.and_assoc, List.length_cons]
      congr 2
      rw [Bool.eq_iff_iff]; simp
theorem rc_lstsY {A : Around} {a b : Addr} {us ts : List Value} {bs : List Bool} (h1 : s.heap.IsList a us.toArray) (k1 : s.heap.IsList b ts.toArray) (hl : us.length = ts.length) (L : EqL X.prog X.w A.in1 s (us.zip ts) bs) (hz : bs.length = us.length) (hA : A.units < cLine) : RcP X.prog X.w A s (.ref a) (.ref b) (bs.all id) := fun E Q r => by
  refine SeqAt.rcP_lists (e := fun j => bs.getD j false) h1 k1 (by simp; omega) hA (fun j j1 j2 => ?_) E Q ?_
  · simp at j1 j2
    obtain ⟨b', e1, e2⟩ := eqL_at L j (us[j], ts[j]) (by simp [List.getElem?_zip_eq_some, j1, j2])
    have : bs.getD j false = b' := by simp [List.getD, e1]
    simp only [this]
    simpa using e2
  · rw [range_all bs _ us.toArray.size (by simp; omega) (fun j hj => by simp at hj; rw [List.getElem?_eq_getElem (by omega)]; simp [List.getD, List.getElem?_eq_getElem (show j < bs.length by omega)])]
    exact r
theorem rcY (I : Inv X pins σ H s) : ∀ (n : Nat) (A : Around), A.units + n < cLine -> ∀ (d e : D) (x y : V) (v u : Value) (b : Bool), Rep X.K cl H x d -> Rep X.K cl H y e -> RelV x v -> RelV y u -> eqY n d e = some b -> RcP X.prog X.w A s v u b := by
  intro n
  induction n with
  | zero =>
    intro A hu d e x y v u b r1 r2 rv ru h
    have hA : A.units < cLine := by omega
    rcases eqY_cases h with ⟨a, c, rfl, rfl, rfl⟩ | ⟨a, rfl, rfl, rfl⟩ | ⟨a, rfl, rfl, rfl⟩ | ⟨m, _, _, hm, _⟩ | ⟨m, _, _, hm, _⟩ | ⟨p1, p2, rfl⟩
    · obtain rfl := r1.toByt; obtain rfl := r2.toByt
      obtain ⟨t, rfl⟩ := rv; obtain ⟨t2, rfl⟩ := ru
      exact fun E Q q => DLC.rc_bytes hA q
    · obtain rfl := r1.toByt; obtain rfl := r2.toNon
      obtain ⟨t, rfl⟩ := rv; cases (show u = Value.none from ru)
      exact fun E Q q => DLC.rc_bytes_none q
    · obtain rfl := r1.toNon; obtain rfl := r2.toByt
      obtain ⟨t, rfl⟩ := ru; cases (show v = Value.none from rv)
      exact fun E Q q => DLC.rc_none_bytes q
    · cases hm
    · cases hm
    · exact rcX I 0 A hu d e v u (side_of I r1 p1 rv) (side_of I r2 p2 ru) p1 p2
  | succ n ih =>
    intro A hu d e x y v u b r1 r2 rv ru h
    have hA : A.units < cLine := by omega
    have ihE : ∀ (d e : D) (x y : V) (v u : Value) (b : Bool), Rep X.K cl H x d -> Rep X.K cl H y e -> RelV x v -> RelV y u -> eqY n d e = some b -> EqP X.prog X.w A.in1 s v u b := fun d e x y v u b r1 r2 rv ru h =>
      eqP_of_rcY rv r1 (ih A.in1 (by show A.units + 1 + n < cLine; omega) d e x y v u b r1 r2 rv ru h) fun z => by
        subst z
        obtain rfl := relV_inj rv ru
        exact sameY I n d e x v b rv r1 r2 h
    rcases eqY_cases h with ⟨a, c, rfl, rfl, rfl⟩ | ⟨a, rfl, rfl, rfl⟩ | ⟨a, rfl, rfl, rfl⟩ | ⟨m, xs, ys, hm, rfl, rfl, h2⟩ | ⟨m, xs, ys, hm, rfl, rfl, h2⟩ | ⟨p1, p2, rfl⟩
    · obtain rfl := r1.toByt; obtain rfl := r2.toByt
      obtain ⟨t, rfl⟩ := rv; obtain ⟨t2, rfl⟩ := ru
      exact fun E Q q => DLC.rc_bytes hA q
    · obtain rfl := r1.toByt; obtain rfl := r2.toNon
      obtain ⟨t, rfl⟩ := rv; cases (show u = Value.none from ru)
      exact fun E Q q => DLC.rc_bytes_none q
    · obtain rfl := r1.toNon; obtain rfl := r2.toByt
      obtain ⟨t, rfl⟩ := ru; cases (show v = Value.none from rv)
      exact fun E Q q => DLC.rc_none_bytes q
    · cases hm
      obtain ⟨a, vs, rfl, h3, h4⟩ := r1.toLst
      obtain ⟨a', ws, rfl, h5, h6⟩ := r2.toLst
      cases (show v = Value.ref a from rv)
      cases (show u = Value.ref a' from ru)
      obtain ⟨us, r3, p3, _⟩ := I.list h3
      obtain ⟨ts, r4, p4, _⟩ := I.list h5
      have l1 := r3.length
      have l2 := r4.length
      have l3 := h4.length
      have l4 := h6.length
      rcases h2 with ⟨hl, h2⟩ | ⟨hn, rfl⟩
      · obtain ⟨bs, L, hz, rfl⟩ := eqL_Y ihE r3 h4 r4 h6 h2
        have e : (bs.all id && xs.length == ys.length) = bs.all id := by simp [hl]
        rw [e]
        exact rc_lstsY p3.isList p4.isList (by omega) L (by omega) hA
      · exact .of (.lists_lengths p3.isList p4.isList (by simp; omega) hA)
    · cases hm
      obtain ⟨a, vs, rfl, h3, h4⟩ := r1.toTup
      obtain ⟨a', ws, rfl, h5, h6⟩ := r2.toTup
      cases (show v = Value.ref a from rv)
      cases (show u = Value.ref a' from ru)
      obtain ⟨us, r3, p3, _⟩ := I.tuple h3
      obtain ⟨ts, r4, p4, _⟩ := I.tuple h5
      have l1 := r3.length
      have l2 := r4.length
      have l3 := h4.length
      have l4 := h6.length
      obtain ⟨bs, L, hz, rfl⟩ := eqL_Y ihE r3 h4 r4 h6 h2
      have r := rcp_tups (A := A) bs p3 p4 hA L
      simp only [List.size_toArray] at r
      rw [<- l1, <- l2, l3, l4] at r
      exact r
    · exact rcX I (n + 1) A hu d e v u (side_of I r1 p1 rv) (side_of I r2 p2 ru) p1 p2
@[simp] def bEqY : DB2 := fun d e _ M Q _ => ∃ d' e' n b, Dv M d d' /\ Dv M e e' /\ n <= 60 /\ eqY n d' e' = some b /\ Q (.bl b) M
@[simp] def bNeY : DB2 := fun d e _ M Q _ => ∃ d' e', Dv M d d' /\ Dv M e e' /\ ((∃ a b, d' = .byt a /\ e' = .byt b /\ Q (.bl (a != b)) M) \/ (∃ a, d' = .byt a /\ e' = .non /\ Q (.bl true) M) \/ (∃ a, d' = .non /\ e' = .byt a /\ Q (.bl true) M) \/
  ∃ xs ys n b, d' = .lst xs /\ e' = .lst ys /\ n <= 60 /\ eqY (n + 1) d' e' = some b /\ Q (.bl (!b)) M)
end
end DL
set_option Elab.async false
set_option linter.all false
set_option maxRecDepth 100000
set_option maxHeartbeats 4000000
set_option autoImplicit false
namespace DL
open PySem L2 PyProof.Rows
section
variable {X : Cx} {a b c : Expr} {ta : TA} {p1 p2 p3 p4 : Pos}
end
def rgD (a c : Int) (n : Nat) : List D := (List.range n).map fun i => D.int (a + (i : Nat) * c)
@[simp] def dListRg3 (α : DTA) : DTE := fun ρ M Q X => α ρ M (fun ds M1 => ∃ (i j k : Int) (n : Nat), ds = [.int i, .int j, .int k] /\ RgC i j k n /\ n <= 2 ^ 24 /\ Q (.lst (rgD i k n)) M1) X
@[simp] def iR3 (α : DTA) : DTI := fun ρ M R X => α ρ M (fun ds M1 => ∃ (i j k : Int) (n : Nat), ds = [.int i, .int j, .int k] /\ RgC i j k n /\ R (rgD i k n) M1) X
section
variable {cl : ClW} {X : Cx} {W : WX} {a b c : Expr} {α : DTA} {p1 p2 p3 p4 p pos : Pos}
end
end DL
set_option Elab.async false
set_option linter.all false
set_option maxRecDepth 100000
set_option maxHeartbeats 4000000
set_option autoImplicit false
namespace DL
open PySem L2 PyProof.Rows
section
variable {X : Cx} {a b : Expr} {ta : TA} {p1 p2 p3 p4 : Pos}
end
@[simp] def dListRg2 (α : DTA) : DTE := fun ρ M Q X => α ρ M (fun ds M1 => ∃ (i j : Int) (n : Nat), ds = [.int i, .int j] /\ RgC i j 1 n /\ n <= 2 ^ 24 /\ Q (.lst (rgD i 1 n)) M1) X
section
variable {cl : ClW} {X : Cx} {W : WX} {a b : Expr} {α : DTA} {p1 p2 p3 p4 p pos : Pos}
end
end DL
set_option Elab.async false
set_option linter.all false
set_option maxRecDepth 100000
set_option maxHeartbeats 4000000
set_option autoImplicit false
namespace DL
open PySem L2 PySem.W
end DL
set_option Elab.async false
set_option linter.all false
set_option maxRecDepth 100000
set_option maxHeartbeats 4000000
set_option autoImplicit false
namespace DL
open PySem PySem.Spec PyProof.Rows L2 LamX
abbrev lamFd (q : Str) (params : Arguments) (body : Expr) (scope : Scope) (clo : List (Str × Addr)) (dV doc pm cv ctv : Value) : FuncData := PySem.W.kdv_fn "<lambda>" q params (.expr body) scope clo dV doc pm cv ctv
inductive LamDf (params : Arguments) (body : Expr) (scope : Scope) (env : PySem.Env) : Prop
  | no : defaultsOf params env = ([], []) -> (∀ (q : Str) (cl : List (Str × Addr)) (pm cv ctv : Value), bindArgs (lamFd q params body scope cl .none .none pm cv ctv) ⟨[], []⟩ = pure []) -> LamDf params body scope env
  | one (y : Str) (i : Int) (j : Nat) (p : Pos) : defaultsOf params env = ([eval (.Constant (.int i) j p) env], []) -> scope.names.lookup y = some .local ->
      (∀ (q : Str) (cl : List (Str × Addr)) (doc pm cv ctv : Value) (T : Addr) (t : Tok), ∃ k, bindArgs (lamFd q params body scope cl (.ref T) doc pm cv ctv) ⟨[], []⟩ = seqItems? (.ref T) >>= k /\ k (some #[.int i t]) = pure [(y, .int i t)]) -> LamDf params body scope env
def KpO (fs : List Addr) (H : Hp) (s s2 : Shared) : Prop := ∀ b o, s.heap.get? b = some o -> H b = none -> b ∉ fs -> s2.heap.get? b = some o
def BindsL (fs : List Addr) (H : Hp) (s : Shared) (scope : Scope) (fd : FuncData) : Prop := ∀ s2, KpO fs H s s2 -> ∃ bs : List (Str × Value), (∀ b ∈ bs, scope.names.lookup b.1 = some .local) /\
  ∀ (M : Model) (A : Around) (E : Value -> Shared -> Prop) (R : List (Str × Value) -> Shared -> Prop), R bs s2 -> wpAny M A (bindArgs fd ⟨[], []⟩) R E s2
section
variable {X : Cx} {pins : List (Addr × Obj)} {σ : L2.St} {H : Hp} {s : Shared}
theorem lam_makeD {T : List (Addr × Str)} {c P : Addr} {params : Arguments} {body : Expr} {scope : Scope} {pos : Pos} {Q : Value -> Shared -> Prop} (I : Inv X pins σ H s) (TB : TabB X.base X.mg c P) (hcode : X.env.code = .ref c)
    (hm : (P, X.env.qual ++ "<lambda>") ∈ T) (hu : ∀ p ∈ T, p.1 = P -> p.2 = X.env.qual ++ "<lambda>") (hT : Tabs T H) (df : LamDf params body scope X.env) (hfree : ∀ y ∈ scope.names, y.2 = .free -> ∃ c, X.env.cells.lookup y.1 = some c)
    (h : ∀ (f c' : Addr) (dV doc pm ctv : Value) (H1 : Hp) (s' : Shared), Inv X pins σ H1 s' -> ExtN H H1 -> Tabs T H1 ->
      s'.heap.get? f = some { cls := .type "function", data := .func (lamFd (X.env.qual ++ "<lambda>") params body scope (cloFrom X.env.cells scope.names []) dV doc pm (.ref c') ctv) } -> H1 f = none -> f ∉ frs X.stack -> H1 c' = some (CodeO c' (X.env.qual ++ "<lambda>")) ->
      BindsL (frs X.stack) H1 s' scope (lamFd (X.env.qual ++ "<lambda>") params body scope (cloFrom X.env.cells scope.names []) dV doc pm (.ref c') ctv) -> Q (.ref f) s') :
    wpAny (model X.prog X.w) X.A (eval (.Lambda params body scope pos) X.env) Q X.xe s := by
  cases df with
  | no hdef hb =>
    refine lam_make2 I TB hcode hm hu hT hdef hfree fun f c' pm ctv H1 s' I1 e t hf hn hfr hc => h f c' .none .none pm ctv H1 s' I1 e t hf hn hfr hc fun s2 _ => ⟨[], (fun _ z => nomatch z), fun M A E R r => ?_⟩
    rw [hb]
    exact wpAny_pure r
  | one y i j p hdef hy hb =>
    obtain ⟨ps, hP0, ht, ha⟩ := hT _ hm
    rw [PySem.arm_eval_Lambda, hdef]
    show wpAny _ _ (do let dv <- evalAll [eval (.Constant (.int i) j p) X.env]; let kdv <- holding dv (evalAllOpt []); makeFunction "<lambda>" (X.env.qual ++ "<lambda>") params (.expr body) scope X.env dv kdv [] pos pos.line) _ _ s
    refine wpAny_bind (wpAny_evalAll_cons (thn ((pe_int (X := X) (i := i) (j := j) (pos := p)).run pins s σ H (fun v H' => v = .int i /\ H' = H) I ⟨rfl, rfl⟩) fun u s0 ⟨v, H', I0, r0, ev, eH⟩ => wpAny_evalAll_nil ?_))
    subst ev eH
    obtain ⟨t, rfl⟩ := r0
    refine wpAny_bind (wpAny_holding (wpAny_pure ?_))
    rw [PySem.makeFunction_eq]
    simp only [List.zip_nil_right, List.filterMap_nil, List.isEmpty_nil, List.isEmpty_cons, if_true, pure_bind, Bool.false_eq_true, if_false]
    refine wpAny_bind (wpAny_newTextTuple ?_)
    have IT : Inv X pins σ H' { s0 with heap := s0.heap.push { cls := .type "tuple", data := .seq [Value.int i t].toArray } } := I0.kept (t' := s0.toks) fun b o e => Heap.get?_push_of_some _ e
    have bP : (s0.heap.push { cls := .type "tuple", data := .seq [Value.int i t].toArray }).BuiltinsAt X.mg P := TB.bm.keeps IT.bk
    have hP' := IT.hok P _ hP0
    have tT : (s0.heap.push { cls := .type "tuple", data := .seq [Value.int i t].toArray }).get? s0.heap.objs.size = some { cls := .type "tuple", data := .seq [Value.int i t].toArray } := Heap.get?_push_size _ rfl
    have nT : H' s0.heap.objs.size = none := I0.hok.fresh (Nat.le_refl _)
    have nofr0 : ∀ f, s0.heap.objs.size <= f -> f ∉ frs X.stack := fun f hf z => by
      rcases List.mem_cons.mp (I0.stkSub _ z) with e | e
      · have h1 := I0.lt
        rw [<- e] at h1
        exact Nat.lt_irrefl _ (Nat.lt_of_lt_of_le h1 hf)
      · exact I0.nofs hf e
    have sz0 : s0.heap.objs.size <= (s0.heap.push { cls := .type "tuple", data := .seq [Value.int i t].toArray }).objs.size := by rw [Heap.size_push]; omega
    have bind : ∀ {H1 : Hp} {s1 : Shared} {cl : List (Str × Addr)} {doc pm cv ctv : Value}, H1 s0.heap.objs.size = none -> s1.heap.get? s0.heap.objs.size = some { cls := .type "tuple", data := .seq [Value.int i t].toArray } ->
        BindsL (frs X.stack) H1 s1 scope (lamFd (X.env.qual ++ "<lambda>") params body scope cl (.ref s0.heap.objs.size) doc pm cv ctv) := fun {H1 s1 cl doc pm cv ctv} n1 g1 s2 kp => by
      refine ⟨[(y, .int i t)], fun b hb => by rw [List.mem_singleton.mp hb]; exact hy, fun M A E R r => ?_⟩
      obtain ⟨k, e1, e2⟩ := hb (X.env.qual ++ "<lambda>") cl doc pm cv ctv s0.heap.objs.size t
      rw [e1]
      refine wpAny_bind (wpAny_seqItems (kp _ _ g1 n1 (nofr0 _ (Nat.le_refl _))) rfl ?_)
      show wpAny _ _ (k (some #[.int i t])) _ _ _
      rw [e2]
      exact wpAny_pure r
    cases hc : codeAmong pos ps.toList with
    | none =>
      refine PySem.W.kdv_makeTail (mg := X.mg) (c := c) (P := P) (ps := ps) (closure_ok hfree) IT.ok.glob (IT.mod.glob.keeps IT.bk) hcode (TB.code.keeps IT.bk) hP' ht hc TB.gP bP fun c' ctv doc h' tk hx hge hlt hrec htb => ?_
      obtain ⟨c2, oc, vs, t2, e2, hoc, hd, hv⟩ := hrec
      cases e2
      have hsz : s0.heap.objs.size <= h'.objs.size := Nat.le_trans sz0 (Nat.le_trans hge (Nat.le_of_lt hlt))
      have nC : H' c' = none := IT.hok.fresh hge
      have I1 := inv_table (q := X.env.qual ++ "<lambda>") (t' := tk) (more := #[rawInt pos.line, rawInt pos.col, .ref c']) (h' := h'.push (PySem.W.kdv_obj "<lambda>" (X.env.qual ++ "<lambda>") params (.expr body) scope (cloFrom X.env.cells scope.names []) (.ref s0.heap.objs.size) doc ((X.mg "__name__").getD .none) c' ctv)) IT hP0
        (fun b o hb e => Heap.get?_push_of_some _ (hx b o hb e)) (Heap.get?_push_of_some _ htb) hge ⟨oc, vs, t2, Heap.get?_push_of_some _ hoc, hd, hv⟩
      have hE : ExtN H' (upd (upd H' P (.tbl (ps ++ #[rawInt pos.line, rawInt pos.col, .ref c']))) c' (CodeO c' (X.env.qual ++ "<lambda>"))) := fun b o e n => by
        rw [upd_ne (ne_of_none e nC), upd_ne (fun z => n ps (Option.some.inj (e.symm.trans (by rw [z]; exact hP0))))]
        exact e
      have eL : (ps ++ #[rawInt pos.line, rawInt pos.col, .ref c']).toList = ps.toList ++ [rawInt pos.line, rawInt pos.col, .ref c'] := by simp
      have nP : s0.heap.objs.size ≠ P := fun z => by rw [z, hP0] at nT; cases nT
      have n0 : s0.heap.objs.size ≠ c' := Nat.ne_of_lt (Nat.lt_of_lt_of_le (by rw [Heap.size_push]; omega) hge)
      refine h h'.objs.size c' (.ref s0.heap.objs.size) doc ((X.mg "__name__").getD .none) ctv _ _ I1 hE (fun p hp => ?_) (Heap.get?_push_size _ rfl) ?_ (nofr0 _ hsz) upd_same (bind (by rw [upd_ne n0, upd_ne nP]; exact nT) (Heap.get?_push_of_some _ (hx _ _ nP tT)))
      · by_cases hb : p.1 = P
        · rw [hu p hp hb, hb]
          refine ⟨_, by rw [upd_ne (ne_of_none hP0 nC), upd_same], by rw [eL]; exact PySem.TriplesOk_snoc _ _ _ _ ht, fun p' cv hcv => ?_⟩
          rw [eL] at hcv
          rcases among_app _ ht hcv with z | z
          · obtain ⟨c0, e1, e2⟩ := ha p' cv z
            exact ⟨c0, e1, hE _ _ e2 codeO_ne⟩
          · exact ⟨c', z, upd_same⟩
        · obtain ⟨ps', a1, a2, a3⟩ := hT p hp
          refine ⟨ps', by rw [upd_ne (ne_of_none a1 nC), upd_ne hb]; exact a1, a2, fun p' cv hcv => ?_⟩
          obtain ⟨c0, e1, e2⟩ := a3 p' cv hcv
          exact ⟨c0, e1, hE _ _ e2 codeO_ne⟩
      · have n1 : h'.objs.size ≠ c' := Nat.ne_of_gt hlt
        have n2 : h'.objs.size ≠ P := Nat.ne_of_gt (Nat.lt_of_lt_of_le (Heap.lt_size hP') (Nat.le_trans hge (Nat.le_of_lt hlt)))
        rw [upd_ne n1, upd_ne n2]
        exact I0.hok.fresh hsz
    | some cv =>
      obtain ⟨c', e, hco⟩ := ha pos cv hc
      subst e
      refine PySem.W.kdv_makeTailHit (mg := X.mg) (c := c) (P := P) (ps := ps) (closure_ok hfree) IT.ok.glob (IT.mod.glob.keeps IT.bk) hcode (TB.code.keeps IT.bk) hP' ht hc bP fun ctv doc h' tk hx hsz => ?_
      have I1 : Inv X pins σ H' { s0 with heap := h'.push (PySem.W.kdv_obj "<lambda>" (X.env.qual ++ "<lambda>") params (.expr body) scope (cloFrom X.env.cells scope.names []) (.ref s0.heap.objs.size) doc ((X.mg "__name__").getD .none) c' ctv), toks := tk } := IT.kept (t' := tk) fun b o e => Heap.get?_push_of_some _ (hx b o e)
      exact h h'.objs.size c' (.ref s0.heap.objs.size) doc ((X.mg "__name__").getD .none) ctv H' _ I1 (ExtN.refl H') hT (Heap.get?_push_size _ rfl) (I0.hok.fresh (Nat.le_trans sz0 hsz)) (nofr0 _ (Nat.le_trans sz0 hsz)) hco (bind nT (Heap.get?_push_of_some _ (hx _ _ tT)))
end
structure LamS2 (N : List Str) (sc scope : Scope) : Prop where
  kind : scope.kind = .function
  co : scope.isCoroutine = false
  gen : scope.isGenerator = false
  own : ∀ y ∈ scope.names, y.2 ≠ .cell /\ (y.2 = .local -> y.1 ∉ N)
  free : ∀ y ∈ scope.names, y.2 = .free -> sc.names.lookup y.1 = some .cell \/ sc.names.lookup y.1 = some .free
def lamSB2 (N : List Str) (sc scope : Scope) : Bool :=
  decide (scope.kind = .function) && !scope.isCoroutine && !scope.isGenerator && scope.names.all fun y => !decide (y.2 = .cell) && (!decide (y.2 = .local) || !decide (y.1 ∈ N)) && (!decide (y.2 = .free) || decide (sc.names.lookup y.1 = some .cell) || decide (sc.names.lookup y.1 = some .free))
theorem lamS2_by {N : List Str} {sc scope : Scope} (h : lamSB2 N sc scope = true) : LamS2 N sc scope := by
  unfold lamSB2 at h
  simp only [Bool.and_eq_true, Bool.or_eq_true, Bool.not_eq_true', decide_eq_true_eq, decide_eq_false_iff_not, List.all_eq_true] at h
  obtain ⟨⟨⟨h1, h2⟩, h3⟩, h4⟩ := h
  refine ⟨h1, h2, h3, fun y hy => ⟨(h4 y hy).1.1, fun e => ?_⟩, fun y hy e => ?_⟩
  · rcases (h4 y hy).1.2 with z | z
    · exact absurd e z
    · exact z
  · rcases (h4 y hy).2 with (z | z) | z
    · exact absurd e z
    · exact .inl z
    · exact .inr z
theorem LamS2.has {X : Cx} {scope : Scope} (L : LamS2 X.N X.env.scope scope) (ok : X.Ok) : ∀ y ∈ scope.names, y.2 = .free -> ∃ c, X.env.cells.lookup y.1 = some c := fun y hy e => by
  rcases L.free y hy e with k | k
  · exact ok.has _ (.inl k)
  · exact ok.has _ (.inr k)
section
variable {X : Cx} {pins : List (Addr × Obj)} {σ : L2.St} {H HZ : Hp} {s s1 : Shared}
theorem lam_startD {A : Around} {outer : List PySem.Env} {E : XK} {scope : Scope} {f c' : Addr} {h₁ : Heap} {tk : Nat} {mm : Str -> Option Value} (I : Inv X pins σ H s) (L : LamS2 X.N X.env.scope scope) (e0 : Env0 X.prog X.w X.K X.mg X.base A outer s1 HZ) (hd : A.handled = none)
    (un : Un (frs X.stack) [] H HZ s.heap s1.heap) (hns : h₁.Ns s1.heap.objs.size mm) (kp : ∀ b o, s1.heap.get? b = some o -> h₁.get? b = some o) :
    Inv (lamCx X A outer s1 HZ E scope f c') [] σ HZ { s1 with heap := h₁, toks := tk } := by
  have hfree := L.has I.ok
  have cm : ∀ {y c}, (cloFrom X.env.cells scope.names []).lookup y = some c -> X.env.cells.lookup y = some c := fun {y c} e => by
    rcases cloFrom_mem (PySem.mem_of_lookup e) with hm | ⟨h1, h2⟩
    · cases hm
    · obtain ⟨c1, hc⟩ := hfree _ h1 rfl
      have hc : X.env.cells.lookup y = some c1 := hc
      have e2 : c = c1 := by
        rw [h2, hc] <;> rfl
      rw [e2]
      exact hc
  have look : ∀ {y}, scope.names.lookup y = some .free -> ∃ c, (cloFrom X.env.cells scope.names []).lookup y = some c := fun {y} hl => by
    have hy : (y, NameKind.free) ∈ scope.names := PySem.mem_of_lookup hl
    exact mem_lookup (cloFrom_has (cells := X.env.cells) (acc := []) hy)
  have cellK : ∀ {c : Addr} {v : Option Value}, H c = none -> s.heap.IsCell c v -> h₁.IsCell c v := fun {c v} n ⟨o, ho, hd⟩ => by
    obtain ⟨sl, q⟩ := un.any ho n (by simp)
    exact ⟨_, kp _ _ q, hd⟩
  have noA : ∀ b : Addr, b ∉ (lamCx X A outer s1 HZ E scope f c').ex := fun b z => absurd (show b ∈ ([] : List Addr) from z) (by simp)
  refine ⟨⟨e0.mod, L.kind, rfl, rfl, Nat.le_refl _, fun y z c e1 e2 => I.ok.inj y z c (cm e1) (cm e2), fun y hy => ?_, fun y c z _ => ?_, fun _ => hd, Around.frames_deeper e0.frames, .inr ⟨rfl, rfl⟩, fun b z => absurd z (noA b), e0.bs, e0.bsz, fun b _ _ => noA b,
      fun b z => absurd z (noA b), e0.funs, e0.frf⟩,
    rfl, e0.bare, Un.kept kp, ⟨_, hns, fun i y v e1 e2 e3 => ?_⟩, fun y c e => ?_, e0.hok.fresh (Nat.le_refl _), fun y c e => ?_, fun q hq => absurd (show q ∈ ([] : List (Addr × Obj)) ++ [] from hq) (by simp), e0.hok.kept kp, I.len⟩
  · have hy : scope.names.lookup y = some .cell \/ scope.names.lookup y = some .free := hy
    rcases hy with hy | hy
    · exact absurd rfl (L.own _ (PySem.mem_of_lookup hy)).1
    · exact look hy
  · have z : false = true := z
    cases z
  · have e3 : Vis scope y := e3
    rcases e3 with k | k | k
    · exact absurd (List.mem_of_getElem? (show X.N[i]? = some y from e1)) ((L.own _ (PySem.mem_of_lookup k)).2 rfl)
    · exact absurd rfl (L.own _ (PySem.mem_of_lookup k)).1
    · obtain ⟨m, hn, hl⟩ := I.loc
      have hvis : Vis X.env.scope y := (L.free _ (PySem.mem_of_lookup k) rfl).elim (fun k => .inr (.inl k)) (fun k => .inr (.inr k))
      obtain ⟨w', r, q⟩ := hl i y v e1 e2 hvis
      obtain ⟨c2, h2⟩ := look k
      refine ⟨w', r, .inr ⟨.inr k, c2, h2, ?_⟩⟩
      have c1 := cm h2
      rcases q with ⟨k', _⟩ | ⟨_, c3, e', z⟩
      · have k' : X.env.scope.names.lookup y = some .local := k'
        rcases L.free _ (PySem.mem_of_lookup k) rfl with k2 | k2 <;> rw [show X.env.scope.names.lookup y = _ from k2] at k' <;> cases k'
      · rw [c1] at e'
        cases e'
        exact cellK (I.freeC y _ c1) z
  · obtain ⟨w', z⟩ := I.cell y c (cm e)
    exact ⟨w', cellK (I.freeC y c (cm e)) z⟩
  · obtain ⟨v, o, ho, hd⟩ := I.cell y c (cm e)
    exact un.free c o ho (I.freeC y c (cm e)) (by simp)
end
theorem slots_pack {K : PySem.W.Frag} {cl : ClW} {F0 : Hp} : ∀ {ρ : DL.Env} {σ : L2.St}, Slots K cl F0 σ ρ -> ∃ vs ds, Reps K cl F0 vs ds /\ ∀ F, Reps K cl F vs ds -> Slots K cl F σ ρ
  | [], σ, h => ⟨[], [], .nil, fun F _ => ⟨h.len, fun i d e => by simp at e⟩⟩
  | o :: ρ, [], h => by have := h.len; simp at this
  | o :: ρ, u :: σ, h => by
    obtain ⟨vs, ds, r, k⟩ := slots_pack (ρ := ρ) (σ := σ) ⟨by have := h.len; simpa using this, fun i d e => by
      have := h.get (i + 1) d (by simpa using e)
      simpa using this⟩
    cases o with
    | none =>
      refine ⟨vs, ds, r, fun F rF => ⟨h.len, fun i d e => ?_⟩⟩
      cases i with
      | zero => simp at e
      | succ i =>
        have := (k F rF).get i d (by simpa using e)
        simpa using this
    | some d0 =>
      obtain ⟨v, e1, r1⟩ := h.get 0 d0 rfl
      obtain rfl : u = some v := by simpa using e1
      refine ⟨v :: vs, d0 :: ds, .cons r1 r, fun F rF => ?_⟩
      obtain ⟨v2, ws, e2, r2, r3⟩ := rF.inv
      obtain ⟨rfl, rfl⟩ := List.cons.inj e2
      refine ⟨h.len, fun i d e => ?_⟩
      cases i with
      | zero =>
        simp at e
        subst e
        exact ⟨v, rfl, r2⟩
      | succ i =>
        have := (k F r3).get i d (by simpa using e)
        simpa using this
abbrev THD := Mem -> DV -> DEK -> Prop
def dAct (i : Nat) (d0 : D) (TH : THD) : DTE := fun ρ M Q X => ρ[i]? = some (some d0) /\ TH M Q (fun c ns es M2 => X c ns es ρ M2)
theorem Rep.toThk {K : PySem.W.Frag} {cl : ClW} {F : Hp} {v : V} {f c : Addr} {q : Str} {vs : List V} {ds : List D} (h : Rep K cl F v (.thk f c q vs ds)) : v = .ref f /\ F c = some (CodeO c q) /\ Reps K cl F vs ds := by
  cases h with
  | thk h1 h2 => exact ⟨rfl, h1, h2⟩
section
variable {cl : ClW} {X : Cx} {pins : List (Addr × Obj)} {σ : L2.St} {H : Hp} {s : Shared}
theorem d_act {Eg : XK} {Ng : List Str} {qg : Str} {sg : Scope} {g f c' : Addr} {cdg dV doc pm ctv : Value} {params : Arguments} {body : Expr} {scope : Scope} {k i : Nat} {a : Str} {pn : List (Addr × Obj)} {xe : Value -> Shared -> Prop} {W : WX} {τ : DTE} {p1 p2 : Pos} {vs : List V} {ds : List D} {ρ0 : DL.Env}
    (I : Inv X pins σ H s) (L : LamS2 X.N X.env.scope scope) (hf : s.heap.get? f = some { cls := .type "function", data := .func (lamFd (X.env.qual ++ "<lambda>") params body scope (cloFrom X.env.cells scope.names []) dV doc pm (.ref c') ctv) }) (hfn : H f = none) (hfr : f ∉ frs X.stack)
    (hb : BindsL (frs X.stack) H s scope (lamFd (X.env.qual ++ "<lambda>") params body scope (cloFrom X.env.cells scope.names []) dV doc pm (.ref c') ctv)) (pk : ∀ F, Reps X.K cl F vs ds -> Slots X.K cl F σ ρ0)
    (cZ : Cap ((cxOf (L2.CX X.prog X.w) X.prog X.w X.K X.mg X.base Ng qg sg g cdg X.A X.stack s H Eg).tr pn xe) W (k + 1))
    (hbody : ∀ (A : Around) (outer : List PySem.Env) (s : Shared) (H : Hp) (E : XK), Cap (lamCx X A outer s H E scope f c') (fun cls d _ H => E cls d H) k -> DE cl (lamCx X A outer s H E scope f c') (fun cls d _ H => E cls d H) body τ)
    (hN : Ng[i]? = some a) (hv : Vis sg a) (hd : (a == ("__debug__" : Str)) = false := by decide) (hcd : (a == ("__classdict__" : Str)) = false := by decide) :
    DE cl ((cxOf (L2.CX X.prog X.w) X.prog X.w X.K X.mg X.base Ng qg sg g cdg X.A X.stack s H Eg).tr pn xe) W (.Call (.Name a p1) [] [] p2) (dAct i (.thk f c' (X.env.qual ++ "<lambda>") vs ds) (fun M Q E => τ ρ0 M Q (fun c ns es _ M2 => E c ns es M2))) := by
  refine ⟨⟨fun pinsZ sZ σZ HZ Q IZ ⟨F, ρ, M, Qd, Xd, gd, sl, ⟨h1, t⟩, p, w⟩ => ?_⟩⟩
  obtain ⟨v, e1, rv⟩ := sl.get i _ h1
  obtain ⟨rfl, hcF, rds⟩ := rv.toThk
  have hcZ : HZ c' = some (CodeO c' (X.env.qual ++ "<lambda>")) := gd.sub _ _ hcF
  refine wpAny_Call_Name_kw (thn ((pe_var (pos := p1) (i := i) hN hv hd hcd).run pinsZ sZ σZ HZ (fun v H1 => v = .ref f /\ H1 = HZ) IZ ⟨.ref f, e1, rfl, rfl⟩) fun u s1 ⟨v, H1, I1, r1, q1⟩ => ?_)
  obtain ⟨ev, eH⟩ := q1
  subst ev
  rw [eH] at I1
  obtain rfl : u = Value.ref f := r1
  have kpF : KpO (frs X.stack) H s s1 := fun b o e1 e2 e3 => I1.base.keep b o e1 e2 e3 (fun z => nomatch (show b ∈ ([] : List Addr) from z))
  have of1 := kpF f _ hf hfn hfr
  refine PySem.W.callWith_F0 ⟨_, _, _, _, of1⟩ ?_
  have un : Un (frs X.stack) [] H HZ s.heap s1.heap := I1.base
  obtain ⟨⟨oc, vs2, t2, hoc, hdc, hvc⟩, _, _⟩ := I1.hok c' _ hcZ
  have hr := cZ.hr
  have rc : codeAny (model X.prog X.w) (X.A.deeper (envOfC qg sg s.heap.objs.size g cdg)) (.call (.ref f) ⟨[], []⟩) (CR (L2.CX X.prog X.w) (envOfC qg sg s.heap.objs.size g cdg :: X.stack) X.prog X.w HZ s1 Q (WE W σZ)) s1 := by
    refine PySem.W.kla_callFunE hr.room.depth of1 rfl L.co L.gen rfl ⟨c', oc, vs2, t2, rfl, hoc, hdc, hvc⟩ ?_
    obtain ⟨bs, hbs, hbr⟩ := hb s1 kpF
    refine hbr _ _ _ _ (wpAny_newFunctionEnv (fun y hy => (L.own y hy).1) hbs (fun h₁ hns hsb => ⟨I1.nolimit.fresh _ hsb, ?_⟩) L.kind)
    show codeAny _ _ (.expr body (lamEnv X scope s1.heap.objs.size f c')) _ _
    have kp : ∀ b o, s1.heap.get? b = some o -> h₁.get? b = some o := fun b o e => hsb.extBut b o (Nat.ne_of_lt (Heap.lt_size e)) (Heap.get?_push_of_some _ e)
    have J : Inv (lamCx X (X.A.deeper (envOfC qg sg s.heap.objs.size g cdg)) (envOfC qg sg s.heap.objs.size g cdg :: X.stack) s1 HZ (WE W σZ) scope f c') [] σ HZ { s1 with heap := h₁, toks := s1.toks + bs.length } :=
      lam_startD I L I1.env0 hr.room.hd un hns kp
    have hq : lowE X.K cl (fun cls d _ H => WE W σZ cls d H) τ σ HZ Q := ⟨F, ρ0, M, Qd, _, gd, pk F rds, t, p, fun c ns es σ' H' F' ρ' M' dd sm g' s' ea q' => w c ns es σZ H' F' ρ M' dd sm g' (sl.mono sm) ea q'⟩
    refine PySem.W.kla_codeExpr (wpAny_mono ((hbody _ _ s1 HZ (WE W σZ) ⟨takes_of rfl rfl rfl rfl, hr.deeper _, passes_of rfl, rfl⟩).pe.run [] _ _ HZ Q J hq) (fun v s' hq => ?_) fun e s' hq => hq)
    obtain ⟨w', H', J', rv, q⟩ := hq
    exact ⟨w', H', J'.os, J'.bare, J'.base, J'.hok, rv, q⟩
  refine wpAny_call (codeAny_mono rc fun r s' hq => ?_)
  cases r with
  | error e => exact passAt cZ.tk σZ pinsZ HZ s1 e s' I1 hq
  | ok fl =>
    cases fl with
    | ret u => exact I1.after hq
    | next => exact False.elim hq
    | brk => exact False.elim hq
    | cont => exact False.elim hq
end
def FnTG (cl : ClW) (P : Program) (w : World) (K : PySem.W.Frag) (mg : Str -> Option Value) (base : Heap) (k : Nat) (g : Addr) (fd : FuncData) (a : Str) (spT : THD -> THD) : Prop :=
  ∀ (A : Around) (outer : List PySem.Env) (s : Shared) (H : Hp) (args : Args) (f : Addr) (Q : VK) (E : XK) (d0 : D) (TH : THD) (F0 : Hp) (M : Mem) (Qd : DV) (Ed : DEK), RoomG (k + 1) A -> Env0 P w K mg base A outer s H -> BindsTo s fd args ([a].zip [.ref f]) -> Good K cl F0 H M -> Rep K cl F0 (.ref f) d0 ->
    (∀ (Ng : List Str) (qg : Str) (sg : Scope) (cdg : Value) (Eg : XK) (W : WX) (pn : List (Addr × Obj)) (xe : Value -> Shared -> Prop) (p1 p2 : Pos), Cap ((cxOf (L2.CX P w) P w K mg base Ng qg sg g cdg A outer s H Eg).tr pn xe) W k -> Ng[0]? = some a -> Vis sg a ->
      DE cl ((cxOf (L2.CX P w) P w K mg base Ng qg sg g cdg A outer s H Eg).tr pn xe) W (.Call (.Name a p1) [] [] p2) (dAct 0 d0 TH)) ->
    spT TH M Qd Ed -> Post K cl F0 Q Qd -> EOk K cl F0 E Ed -> codeAny (model P w) A (.call (.ref g) args) (CR (L2.CX P w) outer P w H s Q E) s
def FnTB (cl : ClW) (P : Program) (w : World) (K : PySem.W.Frag) (mg : Str -> Option Value) (base : Heap) (k : Nat) (x a : Str) (spT : THD -> THD) : Prop :=
  ∃ g fd, mg x = some (.ref g) /\ PySem.W.keepIn K (.ref g) = true /\ Binds K fd [a] [] /\ FnTG cl P w K mg base k g fd a spT
section
variable {cl : ClW} {P : Program} {w : World} {K : PySem.W.Frag} {mg : Str -> Option Value} {base : Heap} {k : Nat} {f : Addr} {x qual a : Str} {params : Arguments} {body : List Stmt} {scope : Scope} {fd : FuncData} {N : List Str} {spT : THD -> THD} {t : D -> THD -> DTS}
theorem fn_dT (F : FunD K x qual params body scope [] [] f fd) (S : FnScope N [a] scope) (hN : N[0]? = some a) (hv : Vis scope a)
    (hbody : ∀ (cdv : Value) (A : Around) (outer : List PySem.Env) (s : Shared) (H : Hp) (E : XK) (d0 : D) (TH : THD), Cap (cxOf (L2.CX P w) P w K mg base N qual scope f cdv A outer s H E) (fun cls d _ H => E cls d H) k ->
      (∀ (W : WX) (pn : List (Addr × Obj)) (xe : Value -> Shared -> Prop) (p1 p2 : Pos), Cap ((cxOf (L2.CX P w) P w K mg base N qual scope f cdv A outer s H E).tr pn xe) W k -> DE cl ((cxOf (L2.CX P w) P w K mg base N qual scope f cdv A outer s H E).tr pn xe) W (.Call (.Name a p1) [] [] p2) (dAct 0 d0 TH)) ->
      DSs cl (cxOf (L2.CX P w) P w K mg base N qual scope f cdv A outer s H E) (fun cls d _ H => E cls d H) body (t d0 TH))
    (hsp : ∀ d0 TH M Q E, spT TH M Q E -> t d0 TH (dEnds Q E) (startD N [d0]) M) : FnTG cl P w K mg base k f fd a spT := by
  intro A outer s H args fa Q E d0 TH F0 M0 Qd Ed hr e0 hb g0 r0 act q0 p0 ep0
  obtain ⟨oc, od, dV, kV, doc, pm, an, cdv, ct, osl, rfl, lk, hcd, _, _⟩ := F.ex
  have hr' := hr.deeper (PyProof.Rows.envOfC qual scope s.heap.objs.size f cdv)
  have KX : K.In s.heap := e0.mod.kin.keeps fun b o e => (e0.bs b o e).1
  have lim : s.heap.NoLimit := e0.mod.nolimit.keeps fun b o e => (e0.bs b o e).1
  have hkind : ∀ y ∈ [a].zip [Value.ref fa], scope.names.lookup y.1 = some .local \/ (scope.names.lookup y.1 = some .cell /\ ((cellsFrom (s.heap.objs.size + 1) scope.names []).lookup y.1).isSome = true) := fun ⟨n, v⟩ hy => by
    rcases S.par n (List.of_mem_zip hy).1 with q | q
    · exact .inl q
    · exact .inr ⟨q, PySem.W.cellsFrom_some _ _ _ (.inl q)⟩
  refine codeAny_call_function hr.room.depth (KX _ _ lk) rfl S.co S.gen rfl (PySem.W.codeRec_of KX hcd) (hb _ _ _ _ ?_)
  refine wpAny_newFunctionEnv_cells S.kind hkind fun env he s1 x => ?_
  subst he
  refine ⟨lim.keeps x.toInCall.keep, codeAny_func ?_⟩
  have ht := hbody cdv A outer s H E d0 TH ⟨takes_of rfl rfl rfl rfl, hr', passes_of rfl, rfl⟩ fun W pn xe p1 p2 cZ => act N qual scope cdv E W pn xe p1 p2 cZ hN hv
  have rv : Vals [V.ref fa] [Value.ref fa] := .cons rfl .nil
  have I : Inv (cxOf (L2.CX P w) P w K mg base N qual scope f cdv A outer s H E) [] (L2.start N [V.ref fa]) H s1 := inv_start S hr.room.hd e0 rfl rv x
  have hq : lowS K cl (fun cls d _ H => E cls d H) (t d0 TH) { nx := fun _ H' => Q .non H', rt := Q } (L2.start N [V.ref fa]) H :=
    ⟨F0, startD N [d0], M0, dEnds Qd Ed, g0, slots_start N (.cons r0 .nil), hsp d0 TH M0 Qd Ed q0,
      ⟨fun σ' H' F' ρ' M' sm g' s' q' => p0 _ _ _ _ _ sm g' .non q', p0, fun _ _ _ _ _ _ _ _ q' => q', fun _ _ _ _ _ _ _ _ q' => q', fun c ns ds σ' H' F' ρ' M' dd sm g' s' ea q' => ep0 _ _ _ _ _ _ _ sm g' ea q'⟩⟩
  refine wpAny_mono (ht.pss.run [] s1 (L2.start N [V.ref fa]) H _ I hq) (fun fl s' hs => ?_) fun e s' hs => hs
  have fin : ∀ {σ' : L2.St} {H' : Hp} {v : V} {u : Value}, Inv (cxOf (L2.CX P w) P w K mg base N qual scope f cdv A outer s H E) [] σ' H' s' -> RelV v u -> Q v H' -> CE outer P w H s Q u s' :=
    fun {σ' H' v u} J rv q => ⟨v, H', J.os, J.bare, J.base, J.hok, rv, q⟩
  cases fl with
  | ret u =>
    obtain ⟨v, σ', H', J, rv, q⟩ := hs
    exact fin J rv q
  | next =>
    obtain ⟨σ', H', J, q⟩ := hs
    exact fin (v := V.non) (u := Value.none) J rfl q
  | brk =>
    obtain ⟨_, _, _, q⟩ := hs
    exact False.elim q
  | cont =>
    obtain ⟨_, _, _, q⟩ := hs
    exact False.elim q
end
def dThk (spT : THD -> THD) (τ : DTE) : DTE := fun ρ M Q X => spT (fun M' Q' E' => τ ρ M' Q' (fun c ns es _ M2 => E' c ns es M2)) M Q (fun c ns es M2 => X c ns es ρ M2)
theorem Good.code {K : PySem.W.Frag} {cl : ClW} {F H : Hp} {M : Mem} (g : Good K cl F H M) {c : Addr} {q : Str} (hc : H c = some (CodeO c q)) : Same F (upd F c (CodeO c q)) /\ Good K cl (upd F c (CodeO c q)) H M := by
  have sm : Same F (upd F c (CodeO c q)) := fun b o e => by
    by_cases h : b = c
    · subst h
      have := g.sub _ _ e
      rw [hc] at this
      rw [upd_same]
      exact this
    · rw [upd_ne h]; exact e
  refine ⟨sm, fun b o e => ?_, fun b d h => ?_, g.tab, fun b ps e => ?_⟩
  · by_cases h : b = c
    · subst h
      rw [upd_same] at e
      rw [hc]
      exact e
    · rw [upd_ne h] at e
      exact g.sub _ _ e
  · obtain ⟨h1, h2⟩ := g.cell b d h
    obtain ⟨o, k1, _, k3⟩ := h2.plain
    have hb : b ≠ c := fun z => by
      rw [z, hc] at k1
      exact k3 _ _ (Option.some.inj k1).symm
    exact ⟨by rw [upd_ne hb]; exact h1, h2.mono sm fun o e => e⟩
  · by_cases h : b = c
    · subst h
      rw [upd_same] at e
      exact codeO_ne ps (Option.some.inj e)
    · rw [upd_ne h] at e
      exact g.noT b ps e
section
variable {cl : ClW} {X : Cx} {W : WX} {k : Nat} {x a : Str} {spT : THD -> THD} {τ : DTE} {params : Arguments} {body : Expr} {scope : Scope} {cc P : Addr} {p pos lpos : Pos}
theorem d_lamcall (c : Cap X W (k + 2)) (G : FnTB cl X.prog X.w X.K X.mg X.base (k + 1) x a spT) (hg : Gl X x) (TB : TabB X.base X.mg cc P) (hcode : X.env.code = .ref cc) (hmT : (P, X.env.qual ++ "<lambda>") ∈ tabsOf cl) (hu : ∀ p ∈ tabsOf cl, p.1 = P -> p.2 = X.env.qual ++ "<lambda>")
    (L : LamS2 X.N X.env.scope scope) (df : LamDf params body scope X.env)
    (hbody : ∀ (A : Around) (outer : List PySem.Env) (s : Shared) (H : Hp) (E : XK) (f c' : Addr), Cap (lamCx X A outer s H E scope f c') (fun cls d _ H => E cls d H) k -> DE cl (lamCx X A outer s H E scope f c') (fun cls d _ H => E cls d H) body τ)
    (hdb : (x == ("__debug__" : Str)) = false := by decide) (hd : (a == ("__debug__" : Str)) = false := by decide) (hcd : (a == ("__classdict__" : Str)) = false := by decide) :
    DE cl X W (.Call (.Name x p) [.Lambda params body scope lpos] [] pos) (dThk spT τ) := by
  obtain ⟨g, fd, hm, hk, hbd, G⟩ := G
  refine ⟨⟨fun pins s σ H Q I ⟨F, ρ, M, Qd, Xd, gd, sl, t, pq, w⟩ => ?_⟩⟩
  refine wpAny_Call_Name_kw (ld_glob I hg hm ?_ hdb)
  refine PySem.W.callWith_K (h₀ := X.base) I.ok.mod.kin hk ?_ (by rfl) (by rfl)
  show wpAny _ _ (spliced ((false, eval (.Lambda params body scope lpos) X.env) :: backTo pos (starEach [] X.env))) _ _ s
  refine Calls.spliced_cons (lam_makeD I TB hcode hmT hu gd.tab df (L.has I.ok) fun f c' dV doc pm ctv H1 s' I1 eN T1 hf hfn hfr hco hbl => ?_)
  refine Calls.spliced_nil ⟨I1.kIn, ?_⟩
  obtain ⟨sm, g2⟩ := (gd.extN eN T1).code hco
  obtain ⟨vs, ds, rds, pk⟩ := slots_pack sl
  have rc := G X.A X.stack s' H1 ⟨[.ref f], []⟩ f Q (WE W σ) (.thk f c' (X.env.qual ++ "<lambda>") vs ds) (fun M' Q' E' => τ ρ M' Q' (fun c ns es _ M2 => E' c ns es M2)) _ M Qd (fun c ns es M2 => Xd c ns es ρ M2) c.hr I1.env0 (hbd s' [.ref f] I1.kIn rfl) g2 (.thk upd_same (rds.mono sm))
    (fun Ng qg sg cdg Eg W' pn xe p1 p2 cZ hN hv => d_act I1 L hf hfn hfr hbl pk cZ (fun A outer s H E cp => hbody A outer s H E f c' cp) hN hv hd hcd) t (pq.mono sm)
    (fun c ns ds' H' F' M' dd sm' g' ea q' => w c ns ds' σ H' F' ρ M' dd (sm.trans sm') g' (sl.mono (sm.trans sm')) ea q')
  refine wpAny_call (codeAny_mono rc fun r s2 hq => ?_)
  cases r with
  | error e => exact passAt c.tk σ pins H1 s' e s2 I1 hq
  | ok fl =>
    cases fl with
    | ret u => exact I1.after hq
    | next => exact False.elim hq
    | brk => exact False.elim hq
    | cont => exact False.elim hq
end
def FnTC (cl : ClW) (P : Program) (w : World) (K : PySem.W.Frag) (mg : Str -> Option Value) (base : Heap) (k : Nat) (x qual : Str) (params : Arguments) (body : List Stmt) (scope : Scope) (f : Addr) (a : Str) (spT : THD -> THD) : Prop :=
  ∃ fd, FunD K x qual params body scope [] [] f fd /\ FnTG cl P w K mg base k f fd a spT
theorem FnTC.thk {cl : ClW} {P : Program} {w : World} {K : PySem.W.Frag} {mg : Str -> Option Value} {base : Heap} {k : Nat} {x qual : Str} {params : Arguments} {body : List Stmt} {scope : Scope} {f : Addr} {a : Str} {spT : THD -> THD}
    (C : FnTC cl P w K mg base k x qual params body scope f a spT) {y : Str} (hm : mg y = some (.ref f)) (hb : HBind x qual params body scope [a]) : FnTB cl P w K mg base k y a spT := by
  obtain ⟨fd, F, G⟩ := C
  exact ⟨f, fd, hm, F.kp, F.bindsN hb, G⟩
end DL
set_option Elab.async false
set_option linter.all false
set_option maxRecDepth 100000
set_option maxHeartbeats 4000000
set_option autoImplicit false
namespace DL
open PySem L2
section
variable {K : PySem.W.Frag} {cl : ClW} {X : Cx}
end
end DL
set_option Elab.async false
set_option linter.all false
set_option maxRecDepth 100000
set_option maxHeartbeats 4000000
set_option autoImplicit false
namespace DL
open PySem L2
abbrev NKey := Option Key
def nkD : NKey -> D
  | none => .non
  | some (.inl i) => .int i
  | some (.inr x) => .str x
def nkO : D -> Option NKey
  | .non => some none
  | .int i => some (some (.inl i))
  | .str x => some (some (.inr x))
  | _ => none
@[simp] theorem nkO_nkD (k : NKey) : nkO (nkD k) = some k := by rcases k with _ | _ | _ <;> rfl
section
variable {P : Program} {w : World} {H : Hp} {h : Heap} {a : Addr} {ep : Nat} {kvs : List (NKey × V)}
end
section
variable {cl : ClW} {X : Cx} {W : WX} {a b o i : Expr} {pos : Pos} {τa τb τo τi : DTE}
end
def KR (K : PySem.W.Frag) (cl : ClW) (F : Hp) : List (NKey × V) -> List (NKey × D) -> Prop
  | [], [] => True
  | p :: ps, q :: qs => p.1 = q.1 /\ Rep K cl F p.2 q.2 /\ KR K cl F ps qs
  | _, _ => False
section
variable {K : PySem.W.Frag} {cl : ClW} {F F' : Hp}
abbrev dNP (ep : Nat) (ps : List (NKey × D)) : D := .dN ep (ps.map (·.1)) (ps.map (·.2))
end
section
variable {cl : ClW} {X : Cx} {W : WX} {a b o i : Expr} {pos : Pos} {τa τb τo τi : DTE}
end
section
variable {cl : ClW} {X : Cx} {W : WX} {pos : Pos} {keys : List (Option Expr)} {values : List Expr}
end
end DL
set_option Elab.async false
set_option linter.all false
set_option maxRecDepth 100000
set_option maxHeartbeats 4000000
set_option autoImplicit false
namespace DL
open PySem L2
@[simp] def iKN (τ : DTE) : DTIg := fun ρ M R X => τ ρ M (fun d M1 => ∃ ep ks ds, vw M1 d = .dN ep ks ds /\ R (fun M => vw M d = .dN ep ks ds) (ks.map nkD) M1) X
section
variable {cl : ClW} {X : Cx} {W : WX} {e : Expr} {τ : DTE}
end
end DL
set_option Elab.async false
set_option linter.all false
set_option maxRecDepth 100000
set_option maxHeartbeats 2000000
set_option autoImplicit false
namespace DL
open PySem L2
def getterB (K : PySem.W.Frag) (g : Addr) (f : Str) : Bool := match K.lookup g with
  | some ⟨_, _, .func fd, _⟩ => match fd with
    | ⟨_, qual, ⟨[], [a], none, [], [], none, []⟩, .stmts [.Return (some (.Attribute (.Name s _) f' _)) _], sc, gl, [], .none, .none, _, _, _, code, _, bu⟩ =>
      (a.arg == "self") && ((s == "self") && ((f' == f) && (decide (gl = mainGlobals) && (decide (bu = builtinsNs) && (PySem.W.codeIn K code qual && (decide (sc.kind = .function) && ((!sc.isCoroutine) && ((!sc.isGenerator) && (decide (sc.names.lookup ("self" : Str) = some NameKind.local) && sc.names.all fun y => decide (y.2 ≠ NameKind.free))))))))))
    | _ => false
  | _ => false
structure PropX (K : PySem.W.Frag) (C : Addr) (nm f : Str) : Prop where
  cls : Cls K C
  no : NoAttr K C f
  ok : ∃ p g, PropOf K C nm p g /\ getterB K g f = true
section
variable {cl : ClW} {X : Cx} {W : WX} {o : Expr} {pos : Pos} {τ : DTE} {nm f : Str} {cs : List Nat} {k : Nat}
end
end DL
set_option Elab.async false
set_option linter.all false
set_option maxRecDepth 100000
set_option maxHeartbeats 2000000
set_option autoImplicit false
namespace DL
open PySem L2
section
variable {cl : ClW} {X : Cx} {W : WX} {j k c n n0 n1 : Nat} {ps ks : List Str} {ord : List Nat} {spd : SpD} {x m : Str} {p pos apos : Pos} {o e : Expr} {es : List Expr} {kws : List Keyword} {τ : DTE} {α β : DTA} {pl : Sem Bool}
end
end DL
set_option Elab.async false
set_option linter.all false
set_option maxRecDepth 100000
set_option maxHeartbeats 4000000
set_option autoImplicit false
namespace DL
open PySem PySem.Spec PyProof.Rows L2
section
variable {P : Program} {w : World}
end
section
variable {X : Cx} {pins : List (Addr × Obj)} {σ : L2.St} {H : Hp} {s : Shared} {a : Addr} {kvs : List (Key × V)}
end
section
variable {cl : ClW} {X : Cx} {W : WX} {kx vx tg iter : Expr} {ifs : List Expr} {scope : Scope} {own : List (Str × Nat)} {pos : Pos} {ι : DTI} {is : List Nat} {γ : DTG} {υ : DTT} {τk τv : DTE}
end
section
variable {X : Cx}
end
section
variable {cl : ClW} {X : Cx} {W : WX} {e : Expr} {τ : DTE} {p pos : Pos} {k : Nat}
end
end DL
set_option Elab.async false
set_option linter.all false
set_option maxRecDepth 100000
set_option maxHeartbeats 4000000
set_option autoImplicit false
namespace DL
open PySem PySem.Spec PyProof.Rows L2
section
variable {X : Cx}
end
section
variable {X : Cx} {o e : Expr} {es : List Expr} {to : TE} {t : TA} {apos cpos : Pos}
end
section
variable {K : PySem.W.Frag} {cl : ClW} {F F' : Hp}
end
section
variable {cl : ClW} {X : Cx} {W : WX} {o e : Expr} {es : List Expr} {apos cpos pos p : Pos} {τ : DTE} {α : DTA}
end
end DL
set_option Elab.async false
set_option linter.all false
set_option maxRecDepth 100000
set_option maxHeartbeats 4000000
set_option autoImplicit false
namespace DL
open PySem L2 PyProof.Rows
section
variable {P : Program} {w : World} {A : Around} {s : Shared}
end
section
variable {cl : ClW} {X : Cx} {W : WX} {e : Expr} {α : DTA} {p p1 p2 p3 q1 q2 q3 pt pos lpos kpos : Pos} {k i j k1 k2 k3 : Nat} {cc P : Addr} {x : Str} {params : Arguments} {scope : Scope}
end
end DL
set_option Elab.async false
set_option linter.all false
set_option maxRecDepth 100000
set_option maxHeartbeats 4000000
set_option autoImplicit false
namespace DL
open PySem L2
abbrev TKey := List NKey
abbrev TEn := List (TKey × Addr × V)
section
variable {X : Cx} {pins : List (Addr × Obj)} {σ : St} {H : Hp} {s : Shared} {a b : Addr} {k : TKey} {ts : TEn} {ep : Nat}
end
section
variable {X : Cx}
end
def tkO : D -> Option TKey
  | .tup xs => xs.mapM nkO
  | _ => none
section
variable {K : PySem.W.Frag} {cl : ClW} {F H : Hp}
end
section
variable {cl : ClW} {X : Cx} {W : WX} {a b o i : Expr} {pos : Pos} {τa τb τo τi : DTE}
end
section
variable {K : PySem.W.Frag} {cl : ClW} {F : Hp}
end
section
variable {cl : ClW} {X : Cx} {W : WX} {a b o i : Expr} {pos : Pos} {τa τb τo τi : DTE}
end
end DL
set_option Elab.async false
set_option linter.all false
set_option maxRecDepth 100000
set_option maxHeartbeats 4000000
set_option autoImplicit false
namespace DL
open PySem L2
section
variable {X : Cx} {o e : Expr} {es : List Expr} {to : TE} {t : TA} {apos cpos : Pos} {m id : String} {r : V -> List V -> Hp -> VK -> Prop}
end
theorem vals2 {x y : V} {us : List Value} (h : Vals [x, y] us) : ∃ u v, us = [u, v] /\ RelV x u /\ RelV y v := by
  cases h with
  | cons r1 t => obtain ⟨v, rfl, r2⟩ := vals1 t; exact ⟨_, v, rfl, r1, r2⟩
section
variable {prog : Program} {w : World} {K : Type} [DecidableEq K] {knd : KeyKind prog w K} {A : Around} {E : Value -> Shared -> Prop} {s : Shared}
end
def isDct : D -> Prop
  | .dN _ _ _ => True
  | .dT _ _ _ => True
  | _ => False
@[simp] theorem isDct_N (ep : Nat) (ks : List NKey) (ds : List D) : isDct (.dN ep ks ds) = True := rfl
@[simp] theorem isDct_T (ep : Nat) (ks : List TKey) (ds : List D) : isDct (.dT ep ks ds) = True := rfl
section
variable {cl : ClW} {X : Cx} {W : WX} {o e : Expr} {es : List Expr} {apos cpos pos p : Pos} {τ : DTE} {α : DTA}
end
end DL
set_option Elab.async false
set_option linter.all false
set_option maxRecDepth 100000
set_option maxHeartbeats 4000000
set_option autoImplicit false
namespace DL
open PySem PySem.Spec PyProof.Rows L2
abbrev DPut := Addr -> V -> V -> Hp -> (Hp -> Prop) -> Prop
section
variable {X : Cx} {kx vx tg iter : Expr} {ifs : List Expr} {sc : Scope} {pos : Pos} {g : TG} {tt : TT} {tk tv : TE} {put : DPut} {vs : List Nat} {a : Addr} {σ : L2.St}
end
section
variable {X : Cx} {kx vx tg iter : Expr} {ifs : List Expr} {sc : Scope} {own : List (Str × Nat)} {pos : Pos} {wi : TI} {g : TG} {tt : TT} {tk tv : TE} {zero : Addr -> HO -> Prop} {put : DPut}
end
end DL
set_option Elab.async false
set_option linter.all false
set_option maxRecDepth 100000
set_option maxHeartbeats 4000000
set_option autoImplicit false
namespace DL
open PySem PySem.Spec PyProof.Rows L2
section
variable {cl : ClW} {X : Cx} {W : WX} {kx vx tg iter : Expr} {ifs : List Expr} {scope : Scope} {own : List (Str × Nat)} {pos : Pos} {ι : DTI} {is : List Nat} {γ : DTG} {υ : DTT} {τk τv : DTE}
end
end DL
set_option Elab.async false
set_option linter.all false
set_option maxRecDepth 100000
set_option maxHeartbeats 4000000
set_option autoImplicit false
namespace DL
open PySem L2
@[simp] def iIN (τ : DTE) : DTI := fun ρ M R X => τ ρ M (fun d M1 => ∃ ep ks ds, d = .dN ep ks ds /\ R ((ks.zip ds).map fun p => .tup [nkD p.1, p.2]) M1) X
section
variable {cl : ClW} {X : Cx} {W : WX} {e : Expr} {τ : DTE}
end
end DL
set_option Elab.async false
set_option linter.all false
set_option maxRecDepth 100000
set_option maxHeartbeats 4000000
set_option autoImplicit false
namespace DL
open PySem L2
def tkD (k : TKey) : D := .tup (k.map nkD)
@[simp] theorem tkO_tkD (k : TKey) : tkO (tkD k) = some k := by
  unfold tkO tkD
  induction k with
  | nil => rfl
  | cons j k ih =>
    simp only at ih ⊢
    rw [List.map_cons, List.mapM_cons, ih, nkO_nkD]
    rfl
@[simp] def iKT (τ : DTE) : DTI := fun ρ M R X => τ ρ M (fun d M1 => ∃ ep ks ds, d = .dT ep ks ds /\ R (ks.map tkD) M1) X
section
variable {cl : ClW} {X : Cx} {W : WX} {e : Expr} {τ : DTE}
end
end DL
set_option Elab.async false
set_option linter.all false
set_option maxRecDepth 100000
set_option maxHeartbeats 4000000
set_option autoImplicit false
namespace DL
open PySem PySem.W PySem.Calls PyProof.Rows
section
variable {prog : Program} {w : World} {A : Around} {E : Value -> Shared -> Prop} {s : Shared}
end
end DL
set_option Elab.async false
set_option linter.all false
set_option maxRecDepth 100000
set_option maxHeartbeats 4000000
set_option autoImplicit false
namespace DL
open PySem L2 PyProof.Rows
section
variable {cl : ClW} {X : Cx} {W : WX} {e body : Expr} {α : DTA} {p pos lpos kpos : Pos} {k : Nat} {cc P : Addr} {params : Arguments} {scope : Scope} {KE : DL.Env -> List D -> (D -> PyData) -> Prop}
end
end DL
set_option Elab.async false
set_option linter.all false
set_option maxRecDepth 100000
set_option maxHeartbeats 4000000
set_option autoImplicit false
namespace DL
open PySem L2 PyProof.Rows
section
variable {P : Program} {w : World} {A : Around} {s : Shared}
end
end DL
set_option Elab.async false
set_option linter.all false
set_option maxRecDepth 100000
set_option maxHeartbeats 4000000
set_option autoImplicit false
namespace DL
open PySem L2 PyProof.Rows
structure KeyC (x y : Str) (scope : Scope) : Prop where
  kind : scope.kind = .function
  co : scope.isCoroutine = false
  gen : scope.isGenerator = false
  own : scope.names.lookup x = some .local
  nc : ∀ z ∈ scope.names, z.2 ≠ .cell
  free : scope.names.lookup y = some .free
  only : ∀ z ∈ scope.names, z.2 = .free -> z.1 = y
end DL
set_option Elab.async false
set_option linter.all false
set_option maxRecDepth 100000
set_option maxHeartbeats 4000000
set_option autoImplicit false
namespace DL
open PySem L2
end DL
set_option Elab.async false
set_option linter.all false
set_option maxRecDepth 100000
set_option maxHeartbeats 4000000
set_option autoImplicit false
namespace DL
open PySem L2
section
variable {cl : ClW} {X : Cx} {W : WX} {o : Expr} {pos : Pos} {τo : DTE} {f : Str} {cs : List Nat}
end
end DL
set_option Elab.async false
set_option linter.all false
set_option maxRecDepth 100000
set_option maxHeartbeats 4000000
set_option autoImplicit false
namespace DL
open PySem PySem.Spec PyProof.Rows L2
section
variable {X : Cx} {i : Nat} {y : Str} {py : Pos} {kx vx tg iter : Expr} {ifs : List Expr} {scope : Scope} {own : List (Str × Nat)} {pos spos : Pos} {wi : TI} {g : TG} {tt : TT} {tk tv : TE}
end
section
variable {cl : ClW} {X : Cx} {W : WX} {kx vx tg iter : Expr} {ifs : List Expr} {scope : Scope} {own : List (Str × Nat)} {pos : Pos} {ι : DTI} {is : List Nat} {γ : DTG} {υ : DTT} {τk τv : DTE}
end
end DL
set_option Elab.async false
set_option linter.all false
set_option maxRecDepth 100000
set_option maxHeartbeats 2000000
set_option autoImplicit false
namespace DL
open PySem L2
section
variable {cl : ClW} {X : Cx} {W : WX} {j k c n : Nat} {ps ks : List Str} {ord : List Nat} {spd : SpD} {m : Str} {pos apos : Pos} {o : Expr} {kws : List Keyword} {τ : DTE} {β : DTA} {pl : Sem Bool}
end
end DL
set_option Elab.async false
set_option linter.all false
set_option maxRecDepth 100000
set_option maxHeartbeats 4000000
set_option autoImplicit false
namespace DL
open PySem L2 PyProof.Rows
section
variable {cl : ClW} {X : Cx} {W : WX} {k : Nat} {tb : List (Nat × SpD)} {a b : Expr} {pos : Pos} {τa τb : DTE} {φ : DB2}
end
end DL
set_option Elab.async false
set_option linter.all false
set_option maxRecDepth 100000
set_option maxHeartbeats 4000000
set_option autoImplicit false
namespace DL
open PySem L2 PyProof.Rows
section
variable {cl : ClW} {X : Cx} {W : WX} {k : Nat} {tb : List (Nat × SpD)} {o i : Expr} {pos : Pos} {τo τi : DTE}
end
end DL
set_option Elab.async false
set_option linter.all false
set_option maxRecDepth 100000
set_option maxHeartbeats 4000000
set_option autoImplicit false
namespace DL
open PySem L2
open PySem.SeqAt
section
open AutoSeq1 (wpAny_loadPart')
variable {prog : Program} {w : World}
theorem tup_ne_pairs (l b : Addr) (us vs : Array Value) (n m : Nat) (dd de : Option Addr) (sl sm : Array (Option Value)) (bs : List Bool) :
    MeetsIn prog w (Builtin.«tuple.__ne__» ⟨[.ref l, .ref b], []⟩)
      (fun A R s => s.heap.get? l = some { cls := .type "tuple", dict := dd, data := .seq us n, slots := sl } /\ s.heap.get? b = some { cls := .type "tuple", dict := de, data := .seq vs m, slots := sm } /\
        EqL prog w A.in1 s (us.toList.zip vs.toList) bs /\ R (.ok (.ret (.bool (!(bs.all id && us.size == vs.size))))) s) :=
  .of_wp fun A R s0 h => by
    obtain ⟨h0, g0, d0, t0, o0⟩ := s0
    obtain ⟨hl, hb, he, hR⟩ := h
    have sub := AutoSeq1.sub_tuple_tuple
    wp_walk using wpAny_loadPart' hl, wpAny_loadPart' hb, wpAny_forIn_list _ (fun rest st s1 => st.1 = none /\ s1 = ⟨h0, g0, d0, t0, o0⟩ /\ ∃ cs, EqL prog w A.in1 ⟨h0, g0, d0, t0, o0⟩ rest cs /\ R (.ok (.ret (.bool (!(cs.all id && us.size == vs.size))))) ⟨h0, g0, d0, t0, o0⟩) _
    case turn =>
      rintro ⟨y, x⟩ rest st s1 ⟨e1, rfl, cs, ep, er⟩
      cases ep with
      | @cons _ c _ cs hp ep =>
        rw [List.all_cons] at er
        refine wpAny_bind (hp _ _ ?_)
        cases c with
        | true => wp_walk; exact ⟨rfl, rfl, cs, ep, by simpa using er⟩
        | false => wp_walk; exact ⟨_, rfl, by simpa using er⟩
    case fin =>
      rintro ⟨x1, x2⟩ s1 ⟨e1, rfl, cs, ep, er⟩
      simp only at e1
      subst e1
      cases ep
      wp_walk
      exact ⟨_, rfl, by simpa [Builtin.Tuple.tupleCompareSizes, bne] using er⟩
    case h => exact ⟨rfl, rfl, bs, he, hR⟩
theorem rcn_tups {A : Around} {s : Shared} {l b : Addr} {us vs : Array Value} (bs : List Bool) (hl : s.heap.IsTuple l us) (hb : s.heap.IsTuple b vs) (hu : A.units < cLine)
    (he : EqL prog w A.in1 s (us.toList.zip vs.toList) bs) (E Q : Value -> Shared -> Prop) (q : Q (.bool (!(bs.all id && us.size == vs.size))) s) : wpAny (model prog w) A (richCompare .NotEq (.ref l) (.ref b)) Q E s := by
  obtain ⟨⟨c1, d1, x1, s1⟩, ho, hc, n, hd⟩ := id hl
  obtain ⟨⟨c2, d2, x2, s2⟩, ho2, hc2, n2, hd2⟩ := id hb
  simp only at hc hd hc2 hd2
  subst hc hd hc2 hd2
  exact wpAny_richCompare_same_room (op := .NotEq) ⟨_, ho, rfl⟩ ⟨_, ho2, rfl⟩ PySem.F.slot_tuple_ne (call_meetsIn PySem.F.slot_tuple_ne ⟨_, ho, rfl⟩ PySem.F.entry_tuple_ne (PySem.F.args_tuple_ne_2 _ _) (tup_ne_pairs l b us vs n n2 d1 d2 s1 s2 bs)
    ⟨ho, ho2, he, show Value.bool _ ≠ Value.notImplemented /\ Q (.bool _) s from ⟨(fun z => nomatch z), q⟩⟩) hu
end
def neK : D -> D -> Bool
  | .non, .non => true
  | .non, .tup _ => true
  | .tup _, .non => true
  | .tup _, .tup _ => true
  | .lst _, .lst _ => true
  | _, _ => false
@[simp] def bNeZ : DB2 := fun d e _ M Q _ => ∃ d' e' n, Dv M d d' /\ Dv M e e' /\ n <= 60 /\ plX n d' = true /\ plX n e' = true /\ neK d' e' = true /\ Q (.bl (!eqX d' e')) M
section
variable {K : PySem.W.Frag} {cl : ClW} {F H : Hp} {M : Mem} {X : Cx} {W : WX}
end
section
variable {cl : ClW} {X : Cx} {W : WX} {j k c : Nat} {ps : List Str} {spd : SpD} {x m : Str} {p pos : Pos} {e : Expr} {es : List Expr} {τ : DTE} {α : DTA}
end
end DL
set_option Elab.async false
set_option linter.all false
set_option maxRecDepth 100000
set_option maxHeartbeats 4000000
set_option autoImplicit false
namespace DL
open PySem L2
open PySem.SeqAt
def hasB (bs : List (Array UInt8)) (b : Array UInt8) : Bool := bs.any fun c => c == b
@[simp] def bInB (neg : Bool) : DB2 := fun d e _ M Q _ => ∃ (b : Array UInt8) (bs : List (Array UInt8)), vw M d = .byt b /\ (vw M e = .lst (bs.map D.byt) \/ vw M e = .tup (bs.map D.byt)) /\ Q (.bl (neg != hasB bs b)) M
section
variable {cl : ClW} {X : Cx} {W : WX} {pins : List (Addr × Obj)} {σ : St} {H F : Hp} {M : Mem} {s : Shared}
end
end DL
set_option Elab.async false
set_option linter.all false
set_option maxRecDepth 100000
set_option maxHeartbeats 4000000
set_option autoImplicit false
namespace DL
open PySem L2
section
open PySem.Builtin PySem.W.FB PySem.W
def litB (b : Array UInt8) : Str := Bytes.literal b false
end
mutual
inductive RdY (h : Heap) : Value -> D -> Prop where
  | non : RdY h .none .non
  | bl (b : Bool) : RdY h (.bool b) (.bl b)
  | int (i : Int) (t : Tok) : RdY h (.int i t) (.int i)
  | str (x : Str) (t : Tok) : RdY h (.str x t) (.str x)
  | byt (b : Array UInt8) (t : Tok) : RdY h (.bytes b t) (.byt b)
  | lst {a : Addr} {o : Obj} {its : Array Value} {n : Nat} {ds : List D} : h.get? a = some o -> o.cls = .type "list" -> o.data = .seq its n -> RdYs h its.toList ds -> RdY h (.ref a) (.lst ds)
  | tup {a : Addr} {o : Obj} {its : Array Value} {n : Nat} {ds : List D} : h.get? a = some o -> o.cls = .type "tuple" -> o.data = .seq its n -> RdYs h its.toList ds -> RdY h (.ref a) (.tup ds)
  | dic {a : Addr} {o : Obj} {es : Array DictEntry} {ep : Nat} : h.get? a = some o -> o.cls = .type "dict" -> o.data = .dict es ep -> es.toList = [] -> (a == sysModules) = false -> RdY h (.ref a) (.dK [] [])
inductive RdYs (h : Heap) : List Value -> List D -> Prop where
  | nil : RdYs h [] []
  | cons {v : Value} {d : D} {vs : List Value} {ds : List D} : RdY h v d -> RdYs h vs ds -> RdYs h (v :: vs) (d :: ds)
end
section
variable {prog : Program} {w : World} {h₀ : Heap}
end
section
open HT
variable {X : Cx} {cl : ClW} {pins : List (Addr × Obj)} {σ : St} {H : Hp} {s : Shared}
end
section
variable {K : PySem.W.Frag} {cl : ClW} {X : Cx}
end
end DL
set_option Elab.async false
set_option linter.all false
set_option maxRecDepth 100000
set_option maxHeartbeats 4000000
set_option autoImplicit false
namespace DL
open PySem L2
open PySem.SeqAt
@[simp] def bNeT : DB2 := fun d e _ M Q _ => ∃ d' e' xs ys n b, Dv M d d' /\ Dv M e e' /\ d' = .tup xs /\ e' = .tup ys /\ n <= 60 /\ eqY (n + 1) d' e' = some b /\ Q (.bl (!b)) M
section
variable {K : PySem.W.Frag} {cl : ClW} {F H : Hp} {M : Mem} {X : Cx} {W : WX}
theorem bin_neT (hu : X.A.units + 64 < cLine) : BinG cl X W (compareOp .NotEq) bNeT := fun pins s σ H F ρ M v u x y d e Q Qd Xd I rx ry g sl r1 r2 q p w => by
  obtain ⟨d', e', xs, ys, n, b, t1, t2, rfl, rfl, hn, h, q⟩ := q
  have r1 := rep_deep g t1 r1
  have r2 := rep_deep g t2 r2
  have hA : X.A.units < cLine := by omega
  have h2 : eqYs n xs ys = some b := by rw [eqY] at h; exact h
  obtain ⟨a, vs, rfl, h3, h4⟩ := r1.toTup
  obtain ⟨a', ws, rfl, h5, h6⟩ := r2.toTup
  cases (show v = Value.ref a from rx)
  cases (show u = Value.ref a' from ry)
  obtain ⟨us, r3, p3, _⟩ := I.tuple h3
  obtain ⟨ts, r4, p4, _⟩ := I.tuple h5
  have l1 := r3.length
  have l2 := r4.length
  have l3 := h4.length
  have l4 := h6.length
  have fin : EP X pins σ Q (.bool (!b)) s := ⟨.bl _, H, I, rfl, p.val g (.bl _) q⟩
  have ihE : ∀ (d e : D) (x y : V) (v u : Value) (b : Bool), Rep X.K cl H x d -> Rep X.K cl H y e -> RelV x v -> RelV y u -> eqY n d e = some b -> EqP X.prog X.w X.A.in1 s v u b := fun d e x y v u b r1 r2 rv ru h =>
    eqP_of_rcY rv r1 (rcY I n X.A.in1 (by show X.A.units + 1 + n < cLine; omega) d e x y v u b r1 r2 rv ru h) fun z => by
      subst z
      obtain rfl := relV_inj rv ru
      exact sameY I n d e x v b rv r1 r2 h
  obtain ⟨bs, L, hz, rfl⟩ := eqL_Y ihE r3 h4 r4 h6 h2
  refine rcn_tups (A := X.A) bs p3 p4 hA L _ _ ?_
  simp only [List.size_toArray]
  rw [<- l1, <- l2, l3, l4]
  exact fin
end
end DL
set_option Elab.async false
set_option linter.all false
set_option maxRecDepth 100000
set_option maxHeartbeats 4000000
set_option autoImplicit false
namespace DL
open PySem PySem.Spec PyProof.Rows L2 LamX
abbrev Cells := List (Str × Addr)
abbrev CelE := Nat × Addr × Obj × D
abbrev adrs (cs : List CelE) : List Addr := cs.map fun c => c.2.1
def hidH (as : List Addr) (H : Hp) : Hp := fun b => if b ∈ as then none else H b
def hidM (as : List Addr) (M : Mem) : Mem := fun b => if b ∈ as then none else M b
def shwH (cs : List CelE) (H : Hp) : Hp := fun b => match cs.find? (fun c => decide (c.2.1 = b)) with
  | some c => some (ObO b c.2.2.1)
  | none => H b
def shwM (cs : List CelE) (M : Mem) : Mem := fun b => match cs.find? (fun c => decide (c.2.1 = b)) with
  | some c => some (.cel c.2.2.1 c.2.2.2)
  | none => M b
theorem hidH_in {as : List Addr} {H : Hp} {b : Addr} (h : b ∈ as) : hidH as H b = none := if_pos h
theorem hidH_out {as : List Addr} {H : Hp} {b : Addr} (h : b ∉ as) : hidH as H b = H b := if_neg h
theorem hidM_in {as : List Addr} {M : Mem} {b : Addr} (h : b ∈ as) : hidM as M b = none := if_pos h
theorem hidM_out {as : List Addr} {M : Mem} {b : Addr} (h : b ∉ as) : hidM as M b = M b := if_neg h
theorem find_out {cs : List CelE} {b : Addr} (h : b ∉ adrs cs) : cs.find? (fun c => decide (c.2.1 = b)) = none := by
  rw [List.find?_eq_none]
  intro c hc e
  exact h (List.mem_map.mpr ⟨c, hc, by simpa using e⟩)
theorem find_in {cs : List CelE} {b : Addr} (h : b ∈ adrs cs) : ∃ c ∈ cs, c.2.1 = b /\ cs.find? (fun c => decide (c.2.1 = b)) = some c := by
  cases e : cs.find? (fun c => decide (c.2.1 = b)) with
  | none =>
    obtain ⟨c, hc, rfl⟩ := List.mem_map.mp h
    exact absurd (List.find?_eq_none.mp e c hc) (by simp)
  | some c => exact ⟨c, List.mem_of_find?_eq_some e, by simpa using List.find?_some e, rfl⟩
theorem shwH_out {cs : List CelE} {H : Hp} {b : Addr} (h : b ∉ adrs cs) : shwH cs H b = H b := by unfold shwH; rw [find_out h]
theorem shwM_out {cs : List CelE} {M : Mem} {b : Addr} (h : b ∉ adrs cs) : shwM cs M b = M b := by unfold shwM; rw [find_out h]
theorem shw_in {cs : List CelE} {b : Addr} (h : b ∈ adrs cs) : ∃ c ∈ cs, c.2.1 = b /\ (∀ H, shwH cs H b = some (ObO b c.2.2.1)) /\ ∀ M, shwM cs M b = some (.cel c.2.2.1 c.2.2.2) := by
  obtain ⟨c, hc, e, f⟩ := find_in h
  exact ⟨c, hc, e, fun H => by unfold shwH; rw [f], fun M => by unfold shwM; rw [f]⟩
theorem shwM_at {cs : List CelE} {M : Mem} (nd : (adrs cs).Nodup) {c : CelE} (hc : c ∈ cs) : shwM cs M c.2.1 = some (.cel c.2.2.1 c.2.2.2) := by
  induction cs with
  | nil => cases hc
  | cons a cs ih =>
    have nd' : a.2.1 ∉ adrs cs /\ (adrs cs).Nodup := by simpa [adrs] using nd
    unfold shwM
    rw [List.find?_cons]
    by_cases e : a.2.1 = c.2.1
    · rw [decide_eq_true e]
      rcases List.mem_cons.mp hc with rfl | hc
      · rfl
      · exact absurd (List.mem_map.mpr ⟨c, hc, e.symm⟩) nd'.1
    · rw [decide_eq_false e]
      rcases List.mem_cons.mp hc with rfl | hc
      · exact absurd rfl e
      · have := ih nd'.2 hc
        unfold shwM at this
        exact this
def CelOk (K : PySem.W.Frag) (cl : ClW) (F : Hp) (c : CelE) : Prop := ∃ v u, c.2.2.1.data = .cell (some u) /\ RelV v u /\ Rep K cl F v c.2.2.2
section
variable {K : PySem.W.Frag} {cl : ClW} {F F' H H' : Hp} {M M' : Mem} {cs : List CelE}
theorem Good.cel (g : Good K cl F H M) {c : CelE} (h : M c.2.1 = some (.cel c.2.2.1 c.2.2.2)) : F c.2.1 = none /\ H c.2.1 = some (ObO c.2.1 c.2.2.1) /\ CelOk K cl F c := by
  obtain ⟨h1, v, u, h2, h3, h4, h5⟩ := g.cell _ _ h
  exact ⟨h1, h2, v, u, h3, h4, h5⟩
theorem CelOk.mono {c : CelE} (s : Same F F') (h : CelOk K cl F c) : CelOk K cl F' c := by
  obtain ⟨v, u, h1, h2, h3⟩ := h
  exact ⟨v, u, h1, h2, h3.mono s⟩
theorem Good.hide (g : Good K cl F H M) (h : ∀ c ∈ cs, M c.2.1 = some (.cel c.2.2.1 c.2.2.2)) : Good K cl F (hidH (adrs cs) H) (hidM (adrs cs) M) where
  sub := fun b o e => by
    have hb : b ∉ adrs cs := fun hm => by
      obtain ⟨c, hc, rfl⟩ := List.mem_map.mp hm
      rw [(g.cel (h c hc)).1] at e; cases e
    rw [hidH_out hb]; exact g.sub b o e
  cell := fun b d e => by
    have hb : b ∉ adrs cs := fun hm => by rw [hidM_in hm] at e; cases e
    rw [hidM_out hb] at e
    obtain ⟨h1, h2⟩ := g.cell b d e
    exact ⟨h1, h2.mono (Same.refl F) fun o eo => by rw [hidH_out hb]; exact eo⟩
  tab := fun q hq => by
    obtain ⟨ps, a1, a2, a3⟩ := g.tab q hq
    have n1 : q.1 ∉ adrs cs := fun hm => by
      obtain ⟨c, hc, e⟩ := List.mem_map.mp hm
      have := (g.cel (h c hc)).2.1
      rw [e, a1] at this
      cases this
    refine ⟨ps, by rw [hidH_out n1]; exact a1, a2, fun pos cv hcv => ?_⟩
    obtain ⟨c2, e1, e2⟩ := a3 pos cv hcv
    have n2 : c2 ∉ adrs cs := fun hm => by
      obtain ⟨c, hc, e⟩ := List.mem_map.mp hm
      obtain ⟨_, k1, v, u, k2, _⟩ := g.cel (h c hc)
      rw [e, e2] at k1
      exact ob_ne_code (fun vs z => by rw [k2] at z; cases z) (Option.some.inj k1).symm
    exact ⟨c2, e1, by rw [hidH_out n2]; exact e2⟩
  noT := g.noT
theorem shwH_same (hn : ∀ c ∈ cs, H c.2.1 = none) : Same H (shwH cs H) := fun b o e => by
  have hb : b ∉ adrs cs := fun hm => by
    obtain ⟨c, hc, rfl⟩ := List.mem_map.mp hm
    rw [hn c hc] at e; cases e
  rw [shwH_out hb]; exact e
theorem Good.show (g : Good K cl F H M) (hn : ∀ c ∈ cs, H c.2.1 = none) (ok : ∀ c ∈ cs, CelOk K cl F c) : Good K cl F (shwH cs H) (shwM cs M) where
  sub := fun b o e => shwH_same hn b o (g.sub b o e)
  cell := fun b d e => by
    by_cases hb : b ∈ adrs cs
    · obtain ⟨c, hc, e1, f1, f2⟩ := shw_in hb
      rw [f2] at e; cases e
      obtain ⟨v, u, h1, h2, h3⟩ := ok c hc
      refine ⟨?_, v, u, f1 H, h1, h2, h3⟩
      rw [<- e1]
      exact g.freshF (hn c hc)
    · rw [shwM_out hb] at e
      obtain ⟨h1, h2⟩ := g.cell b d e
      exact ⟨h1, h2.mono (Same.refl F) (shwH_same hn b)⟩
  tab := g.tab.ext (shwH_same hn)
  noT := g.noT
end
section
variable {P : Program} {w : World} {H H' : Hp} {h h' B : Heap} {as fs : List Addr} {cs : List CelE}
theorem hok_hide (k : HOk P w H h) (ha : ∀ a ∈ as, ∃ o, H a = some (ObO a o)) : HOk P w (hidH as H) h := fun b u e => by
  have hb : b ∉ as := fun hm => by rw [hidH_in hm] at e; cases e
  rw [hidH_out hb] at e
  have off : ∀ c u, H c = some u -> (∀ φ, u ≠ .ext φ) -> hidH as H c = some u := fun c u e n => by
    have hc : c ∉ as := fun hm => by
      obtain ⟨o, ho⟩ := ha c hm
      rw [ho] at e
      exact n _ (Option.some.inj e).symm
    rw [hidH_out hc]; exact e
  exact (k b u e).stay (fun _ _ _ q => q) (fun c q => off c _ q (fun φ z => by cases z)) fun c xs q => off c _ q (fun φ z => by cases z)
theorem hok_show (k : HOk P w H h) (hn : ∀ c ∈ cs, H c.2.1 = none) (ho : ∀ c ∈ cs, h.get? c.2.1 = some c.2.2.1) : HOk P w (shwH cs H) h := fun b u e => by
  by_cases hb : b ∈ adrs cs
  · obtain ⟨c, hc, e1, f1, _⟩ := shw_in hb
    rw [f1] at e; cases e
    have := ho c hc
    rw [e1] at this
    exact ⟨this, ⟨_, this⟩, fun h1 h2 q st => st _ q⟩
  · rw [shwH_out hb] at e
    exact (k b u e).stay (fun _ _ _ q => q) (fun c q => shwH_same hn c _ q) fun c xs q => shwH_same hn c _ q
theorem hid_none (ha : ∀ c ∈ cs, ∃ o, H c.2.1 = some (ObO c.2.1 o)) {b : Addr} (n : H b = none) : b ∉ adrs cs /\ hidH (adrs cs) H b = none := by
  have hb : b ∉ adrs cs := fun hm => by
    obtain ⟨c, hc, rfl⟩ := List.mem_map.mp hm
    obtain ⟨o, ho⟩ := ha c hc
    rw [ho] at n; cases n
  exact ⟨hb, by rw [hidH_out hb]; exact n⟩
theorem hid_some (ha : ∀ c ∈ cs, ∃ o, H c.2.1 = some (ObO c.2.1 o)) {b : Addr} {u : HO} (e : H b = some u) (n : ∀ φ, u ≠ .ext φ) : b ∉ adrs cs /\ hidH (adrs cs) H b = some u := by
  have hb : b ∉ adrs cs := fun hm => by
    obtain ⟨c, hc, rfl⟩ := List.mem_map.mp hm
    obtain ⟨o, ho⟩ := ha c hc
    rw [ho] at e
    exact n _ (Option.some.inj e).symm
  exact ⟨hb, by rw [hidH_out hb]; exact e⟩
theorem un_show (u : Un fs [] (hidH (adrs cs) H) H' h h') (ha : ∀ c ∈ cs, ∃ o, H c.2.1 = some (ObO c.2.1 o)) : Un fs [] H (shwH cs H') h h' where
  keep := fun b o e n hf hx => u.keep b o e (hid_none ha n).2 hf hx
  slot := fun b o e n hf hx => u.slot b o e (hid_none ha n).2 hf hx
  free := fun b o e n hx => by
    obtain ⟨hb, n'⟩ := hid_none ha n
    rw [shwH_out hb]; exact u.free b o e n' hx
  there := u.there
  tups := fun b xs e => by
    obtain ⟨hb, e'⟩ := hid_some ha e (fun φ z => by cases z)
    rw [shwH_out hb]; exact u.tups b xs e'
  frzs := fun b o xs e => by
    obtain ⟨hb, e'⟩ := hid_some ha e (fun φ z => by cases z)
    rw [shwH_out hb]; exact u.frzs b o xs e'
  tbls := fun b ps e => by
    obtain ⟨hb, e'⟩ := hid_some ha e (fun φ z => by cases z)
    obtain ⟨more, q⟩ := u.tbls b ps e'
    exact ⟨more, by rw [shwH_out hb]; exact q⟩
theorem ub_show (u : UB fs (hidH (adrs cs) H) H' h B h') (ha : ∀ c ∈ cs, ∃ o, H c.2.1 = some (ObO c.2.1 o)) : UB fs H (shwH cs H') h B h' where
  keep := fun b o e n hf => u.keep b o e (hid_none ha n).2 hf
  slot := u.slot
  free := fun b o e n => by
    obtain ⟨hb, n'⟩ := hid_none ha n
    rw [shwH_out hb]; exact u.free b o e n'
  there := u.there
  tups := fun b xs e => by
    obtain ⟨hb, e'⟩ := hid_some ha e (fun φ z => by cases z)
    rw [shwH_out hb]; exact u.tups b xs e'
  frzs := fun b o xs e => by
    obtain ⟨hb, e'⟩ := hid_some ha e (fun φ z => by cases z)
    rw [shwH_out hb]; exact u.frzs b o xs e'
  tbls := fun b ps e => by
    obtain ⟨hb, e'⟩ := hid_some ha e (fun φ z => by cases z)
    obtain ⟨more, q⟩ := u.tbls b ps e'
    exact ⟨more, by rw [shwH_out hb]; exact q⟩
end
def capL {α : Type} (n : Nat) (l : List (Nat × α)) : List (Option α) := (List.range n).map fun i => l.lookup i
theorem capL_get {α : Type} {n : Nat} {l : List (Nat × α)} {i : Nat} {d : α} : (capL n l)[i]? = some (some d) ↔ i < n /\ l.lookup i = some d := by
  unfold capL
  rw [List.getElem?_map]
  by_cases h : i < n
  · rw [List.getElem?_range h]; simp [h]
  · rw [List.getElem?_eq_none (by simpa using h)]; simp [h]
structure LamS3 (S : LamSyn) (cap : List Nat) : Prop where
  kind : S.scope.kind = .function
  co : S.scope.isCoroutine = false
  gen : S.scope.isGenerator = false
  own : ∀ y ∈ S.scope.names, y.2 ≠ .cell /\ (y.2 = .local -> y.1 ∉ S.N)
  free : ∀ y ∈ S.scope.names, y.2 = .free -> ∃ i ∈ cap, S.N[i]? = some y.1
  nd : S.N.Nodup
def lamS3B (S : LamSyn) (cap : List Nat) : Bool :=
  decide (S.scope.kind = .function) && !S.scope.isCoroutine && !S.scope.isGenerator && (S.scope.names.all fun y => !decide (y.2 = .cell) && (!decide (y.2 = .local) || !decide (y.1 ∈ S.N)) && (!decide (y.2 = .free) || cap.any fun i => decide (S.N[i]? = some y.1))) && decide S.N.Nodup
theorem lamS3_by {S : LamSyn} {cap : List Nat} (h : lamS3B S cap = true) : LamS3 S cap := by
  unfold lamS3B at h
  simp only [Bool.and_eq_true, Bool.or_eq_true, Bool.not_eq_true', decide_eq_true_eq, decide_eq_false_iff_not, List.all_eq_true, List.any_eq_true] at h
  obtain ⟨⟨⟨⟨h1, h2⟩, h3⟩, h4⟩, h5⟩ := h
  refine ⟨h1, h2, h3, fun y hy => ⟨(h4 y hy).1.1, fun e => ?_⟩, fun y hy e => ?_, h5⟩
  · rcases (h4 y hy).1.2 with z | z
    · exact absurd e z
    · exact z
  · rcases (h4 y hy).2 with z | ⟨i, hi, z⟩
    · exact absurd e z
    · exact ⟨i, hi, z⟩
def LamBd (S : LamSyn) : Prop :=
  (S.df = [] /\ ∀ (C : Cells) (doc pm cv ctv : Value), bindArgs (PySem.W.kdv_fn "<lambda>" S.q S.params (.expr S.body) S.scope C .none doc pm cv ctv) ⟨[], []⟩ = pure []) \/
  (S.df ≠ [] /\ ∃ ys : List Str, ys.length = S.df.length /\ (∀ y ∈ ys, S.scope.names.lookup y = some .local) /\ ∀ (C : Cells) (doc pm cv ctv : Value) (T : Addr), ∃ k, bindArgs (PySem.W.kdv_fn "<lambda>" S.q S.params (.expr S.body) S.scope C (.ref T) doc pm cv ctv) ⟨[], []⟩ = seqItems? (.ref T) >>= k /\ ∀ us : List Value, us.length = S.df.length -> k (some us.toArray) = pure (ys.zip us))
theorem bind_lam {P : Program} {w : World} {F H : Hp} {s : Shared} {S : LamSyn} {C : Cells} {dV doc pm cv ctv : Value} {Md : Model} {A : Around} {E : Value -> Shared -> Prop} {Q : List (Str × Value) -> Shared -> Prop} (bd : LamBd S) (df : DfOk F S dV) (hF : Same F H) (hok : HOk P w H s.heap)
    (q : ∀ bs : List (Str × Value), (∀ b ∈ bs, S.scope.names.lookup b.1 = some .local) -> Q bs s) :
    wpAny Md A (bindArgs (PySem.W.kdv_fn "<lambda>" S.q S.params (.expr S.body) S.scope C dV doc pm cv ctv) ⟨[], []⟩) Q E s := by
  rcases df with ⟨h0, rfl⟩ | ⟨T, h0, rfl, hT⟩
  · rcases bd with ⟨_, b⟩ | ⟨ys, _⟩
    · rw [b]
      exact wpAny_pure (q [] (fun _ z => nomatch z))
    · exact absurd h0 ys
  · rcases bd with ⟨e, _⟩ | ⟨_, ys, hl, hy, b⟩
    · exact absurd e h0
    · obtain ⟨k, e1, e2⟩ := b C doc pm cv ctv T
      rw [e1]
      obtain ⟨_, its, vs, ob, ho, _, n, hdat⟩ := hok T _ (hF _ _ hT)
      refine wpAny_bind (wpAny_seqItems ho hdat ?_)
      have hlen : its.length = S.df.length := by
        have := vs.length
        rw [List.length_map] at this
        exact this.symm
      rw [e2 its hlen]
      refine wpAny_pure (q _ fun b hb => ?_)
      exact hy _ (List.of_mem_zip hb).1
structure LamT where
  N : List Str
  cap : List Nat
  τ : DTE
structure CapOk (M : Mem) (C : Cells) (N : List Str) (cap : List Nat) (cs : List CelE) : Prop where
  ix : cs.map (·.1) = cap
  nd : (adrs cs).Nodup
  at_ : ∀ c ∈ cs, ∃ x, N[c.1]? = some x /\ C.lookup x = some c.2.1
  mem : ∀ c ∈ cs, M c.2.1 = some (.cel c.2.2.1 c.2.2.2)
abbrev capEnv (n : Nat) (cs : List CelE) : DL.Env := capL n (cs.map fun c => (c.1, c.2.2.2))
def LamRun (T : Nat -> Option LamT) (j : Nat) (C : Cells) : THD := fun M Q E => ∃ L cs, T j = some L /\ CapOk M C L.N L.cap cs /\
  L.τ (capEnv L.N.length cs) (hidM (adrs cs) M) (fun d M' => (∀ a ∈ adrs cs, M' a = none) -> Q d (shwM cs M')) (fun c ns es _ M' => (∀ a ∈ adrs cs, M' a = none) -> E c ns es (shwM cs M'))
def dAppV (T : Nat -> Option LamT) (i : Nat) : DTE := fun ρ M Q X => ∃ j C, ρ[i]? = some (some (.fn j C)) /\ LamRun T j C M Q (fun c ns es M2 => X c ns es ρ M2)
theorem Rep.toFn {K : PySem.W.Frag} {cl : ClW} {F : Hp} {v : V} {j : Nat} {C : Cells} (h : Rep K cl F v (.fn j C)) : ∃ (f c : Addr) (L : LamSyn) (dV doc pm ctv : Value), v = .ref f /\ cl.lam j = some L /\ F f = some (ObO f (lamObj L C dV doc pm (.ref c) ctv)) /\ F c = some (CodeO c L.q) /\ DfOk F L dV := by
  cases h with
  | fn h1 h2 h3 h4 => exact ⟨_, _, _, _, _, _, _, rfl, h1, h2, h3, h4⟩
abbrev cloEnv (S : LamSyn) (C : Cells) (L f c' : Addr) : PySem.Env := PySem.W.envX S.q S.scope L f (.ref c') (cloFrom C S.scope.names [])
def cloCx (P : Program) (w : World) (K : PySem.W.Frag) (mg : Str -> Option Value) (base : Heap) (S : LamSyn) (A : Around) (outer : List PySem.Env) (s : Shared) (H : Hp) (E : XK) (C : Cells) (f c' : Addr) : Cx where
  prog := P
  w := w
  K := K
  mg := mg
  base := base
  A := A.deeper (cloEnv S C s.heap.objs.size f c')
  N := S.N
  s_0 := s
  H_0 := H
  env := cloEnv S C s.heap.objs.size f c'
  outer := outer
  stack := cloEnv S C s.heap.objs.size f c' :: outer
  ex := []
  fn := fun _ => false
  calm := true
  pn := []
  xe := fun e s' => wpAny (model P w) (A.deeper (cloEnv S C s.heap.objs.size f c')) (leaving (cloEnv S C s.heap.objs.size f c') e) (fun _ s'' => L2.CX P w outer H s E e s'') (fun e' s'' => L2.CX P w outer H s E e' s'') s'
def LamsOk (cl : ClW) (P : Program) (w : World) (K : PySem.W.Frag) (mg : Str -> Option Value) (base : Heap) (k : Nat) (T : Nat -> Option LamT) : Prop :=
  ∀ j L, T j = some L -> ∃ S, cl.lam j = some S /\ S.N = L.N /\ LamS3 S L.cap /\ LamBd S /\
    ∀ (A : Around) (outer : List PySem.Env) (s : Shared) (H : Hp) (E : XK) (C : Cells) (f c' : Addr), Cap (cloCx P w K mg base S A outer s H E C f c') (fun cls d _ H => E cls d H) k -> DE cl (cloCx P w K mg base S A outer s H E C f c') (fun cls d _ H => E cls d H) S.body L.τ
section
variable {K : PySem.W.Frag} {cl : ClW} {F : Hp}
theorem cap_vals : ∀ (cs : List CelE), (∀ c ∈ cs, CelOk K cl F c) -> ∃ es : List (Nat × V), (∀ i d, (cs.map fun c => (c.1, c.2.2.2)).lookup i = some d -> ∃ v, es.lookup i = some v /\ Rep K cl F v d) /\
    ∀ i v, es.lookup i = some v -> ∃ c ∈ cs, c.1 = i /\ ∃ u, c.2.2.1.data = .cell (some u) /\ RelV v u
  | [], _ => ⟨[], (fun _ _ e => (by cases e)), (fun _ _ e => (by cases e))⟩
  | c :: cs, h => by
    obtain ⟨es, h1, h2⟩ := cap_vals cs fun x hx => h x (List.mem_cons_of_mem _ hx)
    obtain ⟨v, u, k1, k2, k3⟩ := h c (List.mem_cons_self ..)
    refine ⟨(c.1, v) :: es, fun i d e => ?_, fun i v' e => ?_⟩
    · rw [List.map_cons, List.lookup_cons] at e
      rw [List.lookup_cons]
      by_cases hi : i = c.1
      · have hb : (i == c.1) = true := by simpa using hi
        simp only [hb] at e ⊢
        cases e
        exact ⟨v, rfl, k3⟩
      · have hb : (i == c.1) = false := by simpa using hi
        simp only [hb] at e ⊢
        exact h1 i d e
    · rw [List.lookup_cons] at e
      by_cases hi : i = c.1
      · have hb : (i == c.1) = true := by simpa using hi
        simp only [hb] at e
        cases e
        exact ⟨c, List.mem_cons_self .., hi.symm, u, k1, k2⟩
      · have hb : (i == c.1) = false := by simpa using hi
        simp only [hb] at e
        obtain ⟨c', hc, r⟩ := h2 i v' e
        exact ⟨c', List.mem_cons_of_mem _ hc, r⟩
theorem cap_slots {cs : List CelE} {es : List (Nat × V)} (n : Nat) (h : ∀ i d, (cs.map fun c => (c.1, c.2.2.2)).lookup i = some d -> ∃ v, es.lookup i = some v /\ Rep K cl F v d) : Slots K cl F (capL n es) (capEnv n cs) :=
  ⟨by simp [capL], fun i d e => by
    obtain ⟨h1, h2⟩ := capL_get.mp e
    obtain ⟨v, h3, h4⟩ := h i d h2
    exact ⟨v, capL_get.mpr ⟨h1, h3⟩, h4⟩⟩
end
theorem adr_uniq {cs : List CelE} (nd : (adrs cs).Nodup) {a b : CelE} (ha : a ∈ cs) (hb : b ∈ cs) (e : a.2.1 = b.2.1) : a = b := by
  induction cs with
  | nil => cases ha
  | cons c cs ih =>
    have nd' : c.2.1 ∉ adrs cs /\ (adrs cs).Nodup := by simpa [adrs] using nd
    rcases List.mem_cons.mp ha with h1 | h1
    · rcases List.mem_cons.mp hb with h2 | h2
      · rw [h1, h2]
      · exact absurd (List.mem_map.mpr ⟨b, h2, by rw [<- e, h1]⟩) nd'.1
    · rcases List.mem_cons.mp hb with h2 | h2
      · exact absurd (List.mem_map.mpr ⟨a, h1, by rw [e, h2]⟩) nd'.1
      · exact ih nd'.2 h1 h2
theorem clo_start {P : Program} {w : World} {K : PySem.W.Frag} {mg : Str -> Option Value} {base : Heap} {S : LamSyn} {cap : List Nat} {A : Around} {outer : List PySem.Env} {s1 : Shared} {HZ : Hp} {E : XK} {C : Cells} {f c' : Addr} {h₁ : Heap} {tk : Nat} {mm : Str -> Option Value} {cs : List CelE} {M : Mem} {es : List (Nat × V)}
    (e0 : Env0 P w K mg base A outer s1 HZ) (hd : A.handled = none) (ls : LamS3 S cap) (ck : CapOk M C S.N cap cs) (hz : ∀ c ∈ cs, HZ c.2.1 = none) (ho : ∀ c ∈ cs, s1.heap.get? c.2.1 = some c.2.2.1) (hcel : ∀ c ∈ cs, ∃ u, c.2.2.1.data = .cell (some u))
    (hes : ∀ i v, es.lookup i = some v -> ∃ c ∈ cs, c.1 = i /\ ∃ u, c.2.2.1.data = .cell (some u) /\ RelV v u)
    (hns : h₁.Ns s1.heap.objs.size mm) (kp : ∀ b o, s1.heap.get? b = some o -> h₁.get? b = some o) :
    Inv (cloCx P w K mg base S A outer s1 HZ E C f c') [] (capL S.N.length es) HZ { s1 with heap := h₁, toks := tk } := by
  have fr : ∀ y, (y, NameKind.free) ∈ S.scope.names -> ∃ c ∈ cs, S.N[c.1]? = some y /\ C.lookup y = some c.2.1 := fun y hy => by
    obtain ⟨i, hi, e⟩ := ls.free _ hy rfl
    rw [<- ck.ix] at hi
    obtain ⟨c, hc, rfl⟩ := List.mem_map.mp hi
    obtain ⟨x, h1, h2⟩ := ck.at_ c hc
    rw [e] at h1
    cases h1
    exact ⟨c, hc, e, h2⟩
  have cm : ∀ {y b}, (cloFrom C S.scope.names []).lookup y = some b -> ∃ c ∈ cs, S.N[c.1]? = some y /\ C.lookup y = some c.2.1 /\ b = c.2.1 := fun {y b} e => by
    rcases cloFrom_mem (PySem.mem_of_lookup e) with hm | ⟨h1, h2⟩
    · cases hm
    · obtain ⟨c, hc, k1, k2⟩ := fr y h1
      rw [k2] at h2
      exact ⟨c, hc, k1, k2, h2⟩
  have look : ∀ {y}, (y, NameKind.free) ∈ S.scope.names -> ∃ b, (cloFrom C S.scope.names []).lookup y = some b := fun {y} hy => mem_lookup (cloFrom_has (cells := C) (acc := []) hy)
  have noA : ∀ b : Addr, b ∉ (cloCx P w K mg base S A outer s1 HZ E C f c').ex := fun b z => absurd (show b ∈ ([] : List Addr) from z) (by simp)
  refine ⟨⟨e0.mod, ls.kind, rfl, rfl, Nat.le_refl _, fun y z b e1 e2 => ?_, fun y hy => ?_, fun y b z _ => ?_, fun _ => hd, Around.frames_deeper e0.frames, .inr ⟨rfl, rfl⟩, fun b z => absurd z (noA b), e0.bs, e0.bsz, fun b _ _ => noA b,
      fun b z => absurd z (noA b), e0.funs, e0.frf⟩,
    rfl, e0.bare, Un.kept kp, ⟨_, hns, fun i y v e1 e2 e3 => ?_⟩, fun y b e => ?_, e0.hok.fresh (Nat.le_refl _), fun y b e => ?_, fun q hq => absurd (show q ∈ ([] : List (Addr × Obj)) ++ [] from hq) (by simp), e0.hok.kept kp, by simp [capL, cloCx]⟩
  · obtain ⟨c1, m1, a1, _, b1⟩ := cm e1
    obtain ⟨c2, m2, a2, _, b2⟩ := cm e2
    obtain rfl := adr_uniq ck.nd m1 m2 (b1.symm.trans b2)
    rw [a1] at a2
    exact Option.some.inj a2
  · have hy : S.scope.names.lookup y = some .cell \/ S.scope.names.lookup y = some .free := hy
    rcases hy with hy | hy
    · exact absurd rfl (ls.own _ (PySem.mem_of_lookup hy)).1
    · exact look (PySem.mem_of_lookup hy)
  · have z : false = true := z
    cases z
  · have e3 : Vis S.scope y := e3
    have e1 : S.N[i]? = some y := e1
    rcases e3 with k | k | k
    · exact absurd (List.mem_of_getElem? e1) ((ls.own _ (PySem.mem_of_lookup k)).2 rfl)
    · exact absurd rfl (ls.own _ (PySem.mem_of_lookup k)).1
    · obtain ⟨_, h2⟩ := capL_get.mp e2
      obtain ⟨c, hc, rfl, u, k1, k2⟩ := hes i v h2
      obtain ⟨x, a1, a2⟩ := ck.at_ c hc
      rw [e1] at a1
      cases a1
      obtain ⟨b, hb⟩ := look (PySem.mem_of_lookup k)
      obtain ⟨c2, m2, _, b2, b3⟩ := cm hb
      have : b = c.2.1 := by rw [b3]; exact Option.some.inj (b2.symm.trans a2)
      subst this
      exact ⟨u, k2, .inr ⟨.inr k, _, hb, _, kp _ _ (ho c hc), k1⟩⟩
  · obtain ⟨c, hc, _, _, rfl⟩ := cm e
    obtain ⟨u, k1⟩ := hcel c hc
    exact ⟨some u, _, kp _ _ (ho c hc), k1⟩
  · obtain ⟨c, hc, _, _, rfl⟩ := cm e
    exact hz c hc
section
variable {cl : ClW} {X : Cx} {W : WX} {k i : Nat} {a : Str} {p1 p2 : Pos} {T : Nat -> Option LamT}
theorem d_app (cp : Cap X W (k + 1)) (hT : LamsOk cl X.prog X.w X.K X.mg X.base k T) (hN : X.N[i]? = some a) (hv : Vis X.env.scope a) (hd : (a == ("__debug__" : Str)) = false := by decide) (hcd : (a == ("__classdict__" : Str)) = false := by decide) :
    DE cl X W (.Call (.Name a p1) [] [] p2) (dAppV T i) := by
  refine ⟨⟨fun pins s σ H Q I ⟨F, ρ, M, Qd, Xd, gd, sl, ⟨j, C, h1, L, cs, hL, ck, t⟩, p, wk⟩ => ?_⟩⟩
  obtain ⟨v, e1, rv⟩ := sl.get i _ h1
  obtain ⟨f, c', S, dV, doc, pm, ctv, rfl, hS, hf, hc, hdf⟩ := rv.toFn
  obtain ⟨S', hS', eN, ls, bd, hbody⟩ := hT j L hL
  rw [hS] at hS'
  cases hS'
  refine wpAny_Call_Name_kw (thn ((pe_var (pos := p1) (i := i) hN hv hd hcd).run pins s σ H (fun v H1 => v = .ref f /\ H1 = H) I ⟨.ref f, e1, rfl, rfl⟩) fun u s1 ⟨v, H1, I1, r1, q1⟩ => ?_)
  obtain ⟨ev, eH⟩ := q1
  subst ev
  rw [eH] at I1
  obtain rfl : u = Value.ref f := r1
  have of1 : s1.heap.get? f = some (lamObj S C dV doc pm (.ref c') ctv) := (I1.hok f _ (gd.sub _ _ hf)).1
  refine PySem.W.callWith_F0 ⟨_, _, _, _, of1⟩ ?_
  obtain ⟨⟨oc, vs2, t2, hoc, hdc, hvc⟩, _, _⟩ := I1.hok c' _ (gd.sub _ _ hc)
  have ha : ∀ c ∈ cs, ∃ o, H c.2.1 = some (ObO c.2.1 o) := fun c hc => ⟨_, (gd.cel (ck.mem c hc)).2.1⟩
  have ho : ∀ c ∈ cs, s1.heap.get? c.2.1 = some c.2.2.1 := fun c hc => (I1.hok _ _ (gd.cel (ck.mem c hc)).2.1).1
  have ok : ∀ c ∈ cs, CelOk X.K cl F c := fun c hc => (gd.cel (ck.mem c hc)).2.2
  have hcel : ∀ c ∈ cs, ∃ u, c.2.2.1.data = .cell (some u) := fun c hc => by
    obtain ⟨v, u, h1, _⟩ := ok c hc
    exact ⟨u, h1⟩
  have hfs : ∀ c ∈ cs, c.2.1 ∉ frs X.stack := fun c hc hb => by
    have := I1.stkFree _ hb
    obtain ⟨o, h2⟩ := ha c hc
    rw [h2] at this; cases this
  obtain ⟨es, hes1, hes2⟩ := cap_vals cs ok
  have e0 : Env0 X.prog X.w X.K X.mg X.base X.A X.stack s1 (hidH (adrs cs) H) := by
    obtain ⟨x1, x2, x3, x4, x5, x6, x7, x8⟩ := I1.env0
    refine ⟨x1, x2, fun b o e => ⟨(x3 b o e).1, (hid_none ha (x3 b o e).2).2⟩, x4, x5, fun b hb => (hid_none ha (x6 b hb)).2, ?_, x8⟩
    exact hok_hide x7 fun b hb => by
      obtain ⟨c, hc, rfl⟩ := List.mem_map.mp hb
      exact ha c hc
  have hr := cp.hr
  have free : ∀ {H' : Hp} {s' : Shared} {fs : List Addr}, Un fs [] (hidH (adrs cs) H) H' s1.heap s'.heap -> ∀ c ∈ cs, H' c.2.1 = none := fun {H' s' fs} u c hc => u.free _ _ (ho c hc) (hidH_in (List.mem_map.mpr ⟨c, hc, rfl⟩)) (by simp)
  -- the promise of an exception, with the cells shown again
  have cxS : ∀ {e : Value} {s' : Shared}, L2.CX X.prog X.w X.stack (hidH (adrs cs) H) s1 (fun cls d H' => (∀ c ∈ cs, H' c.2.1 = none) -> WE W σ cls d (shwH cs H')) e s' -> L2.CX X.prog X.w X.stack H s1 (WE W σ) e s' := fun {e s'} h => by
    obtain ⟨b, B, H', cls, d, rfl, fl, hok, ub, na, os, ag, hE⟩ := h
    have hn : ∀ c ∈ cs, H' c.2.1 = none := fun c hc => ub.free _ _ (ho c hc) (hidH_in (List.mem_map.mpr ⟨c, hc, rfl⟩))
    have hB : ∀ c ∈ cs, B.get? c.2.1 = some c.2.2.1 := fun c hc => ub.keep _ _ (ho c hc) (hidH_in (List.mem_map.mpr ⟨c, hc, rfl⟩)) (hfs c hc)
    refine ⟨b, B, shwH cs H', cls, d, rfl, fl, hok_show hok hn hB, ub_show ub ha, ?_, os, ag, hE hn⟩
    have : b ∉ adrs cs := fun hm => by
      obtain ⟨c, hc, rfl⟩ := List.mem_map.mp hm
      have := hB c hc
      rw [fl.2.1] at this; cases this
    rw [shwH_out this]; exact na
  have rc : codeAny (model X.prog X.w) X.A (.call (.ref f) ⟨[], []⟩) (CR (L2.CX X.prog X.w) X.stack X.prog X.w H s1 Q (WE W σ)) s1 := by
    refine PySem.W.kla_callFunE hr.room.depth of1 rfl ls.co ls.gen rfl ⟨c', oc, vs2, t2, rfl, hoc, hdc, hvc⟩ ?_
    refine bind_lam bd hdf gd.sub I1.hok fun bs hbs => ?_
    refine wpAny_newFunctionEnv (fun y hy => (ls.own y hy).1) hbs (fun h₁ hns hsb => ⟨I1.nolimit.fresh _ hsb, ?_⟩) ls.kind
    show codeAny _ _ (.expr S.body (cloEnv S C s1.heap.objs.size f c')) _ _
    have kp : ∀ b o, s1.heap.get? b = some o -> h₁.get? b = some o := fun b o e => hsb.extBut b o (Nat.ne_of_lt (Heap.lt_size e)) (Heap.get?_push_of_some _ e)
    rw [<- eN] at ck t
    have J : Inv (cloCx X.prog X.w X.K X.mg X.base S X.A X.stack s1 (hidH (adrs cs) H) (fun cls d H' => (∀ c ∈ cs, H' c.2.1 = none) -> WE W σ cls d (shwH cs H')) C f c') [] (capL S.N.length es) (hidH (adrs cs) H) { s1 with heap := h₁, toks := s1.toks + bs.length } :=
      clo_start e0 hr.room.hd ls ck (fun c hc => hidH_in (List.mem_map.mpr ⟨c, hc, rfl⟩)) ho hcel hes2 hns kp
    have hq : lowE X.K cl (fun cls d _ H' => (∀ c ∈ cs, H' c.2.1 = none) -> WE W σ cls d (shwH cs H')) L.τ (capL S.N.length es) (hidH (adrs cs) H) (fun v H' => (∀ c ∈ cs, H' c.2.1 = none) -> Q v (shwH cs H')) :=
      ⟨F, capEnv S.N.length cs, hidM (adrs cs) M, _, _, gd.hide ck.mem, cap_slots _ hes1, t, fun v H' F' d M' sm g' r' q' hn => p v _ F' d _ sm (g'.show hn fun c hc => (ok c hc).mono sm) r' (q' fun b hb => by
          obtain ⟨c, hc, rfl⟩ := List.mem_map.mp hb
          exact g'.freshM (hn c hc)),
        fun c ns es' σ' H' F' ρ' M' dd sm g' s' ea q' hn => wk c ns es' σ _ F' ρ _ dd sm (g'.show hn fun c hc => (ok c hc).mono sm) (sl.mono sm) ea (q' fun b hb => by
          obtain ⟨c, hc, rfl⟩ := List.mem_map.mp hb
          exact g'.freshM (hn c hc))⟩
    refine PySem.W.kla_codeExpr (wpAny_mono ((hbody _ _ s1 _ _ C f c' ⟨takes_of rfl rfl rfl rfl, hr.deeper _, passes_of rfl, rfl⟩).pe.run [] _ _ _ _ J hq) (fun v s' hq => ?_) fun e s' hq => wpAny_mono hq (fun _ s'' h => cxS h) fun e' s'' h => cxS h)
    obtain ⟨w', H', J', rv, q⟩ := hq
    have hn : ∀ c ∈ cs, H' c.2.1 = none := free (s' := s') J'.base
    have hk : ∀ c ∈ cs, s'.heap.get? c.2.1 = some c.2.2.1 := fun c hc => J'.base.keep _ _ (ho c hc) (hidH_in (List.mem_map.mpr ⟨c, hc, rfl⟩)) (hfs c hc) (by simp [cloCx])
    exact ⟨w', _, J'.os, J'.bare, un_show J'.base ha, hok_show J'.hok hn hk, rv, q hn⟩
  refine wpAny_call (codeAny_mono rc fun r s' hq => ?_)
  cases r with
  | error e => exact passAt cp.tk σ pins H s1 e s' I1 hq
  | ok fl =>
    cases fl with
    | ret u => exact I1.after hq
    | next => exact False.elim hq
    | brk => exact False.elim hq
    | cont => exact False.elim hq
end
end DL
set_option Elab.async false
set_option linter.all false
set_option maxRecDepth 100000
set_option maxHeartbeats 4000000
set_option autoImplicit false
namespace DL
open PySem PySem.Spec PyProof.Rows L2 LamX
section
variable {X : Cx} {pins : List (Addr × Obj)} {σ : L2.St} {H : Hp} {s : Shared}
theorem ev_ints : ∀ (l : List (Int × Nat × Pos)) {s : Shared} {Q : List Value -> Shared -> Prop}, Inv X pins σ H s -> (∀ us s', Inv X pins σ H s' -> Vals (l.map fun c => V.int c.1) us -> Q us s') ->
    wpAny (model X.prog X.w) X.A (evalAll (l.map fun c => eval (.Constant (.int c.1) c.2.1 c.2.2) X.env)) Q X.xe s
  | [], s, Q, I, q => wpAny_evalAll_nil (q [] s I .nil)
  | c :: l, s, Q, I, q => by
    rw [List.map_cons]
    refine wpAny_evalAll_cons (thn ((pe_int (X := X) (i := c.1) (j := c.2.1) (pos := c.2.2)).run pins s σ H (fun v H' => v = .int c.1 /\ H' = H) I ⟨rfl, rfl⟩) fun u s0 ⟨v, H', I0, r0, ev, eH⟩ => ?_)
    rw [eH] at I0
    rw [ev] at r0
    exact ev_ints l I0 fun us s' I' vs => q _ _ I' (.cons r0 vs)
theorem make_tail {T : List (Addr × Str)} {c P : Addr} {params : Arguments} {body : Expr} {scope : Scope} {pos : Pos} {dV : Value} {Q : Value -> Shared -> Prop} (I : Inv X pins σ H s) (TB : TabB X.base X.mg c P) (hcode : X.env.code = .ref c)
    (hm : (P, X.env.qual ++ "<lambda>") ∈ T) (hu : ∀ p ∈ T, p.1 = P -> p.2 = X.env.qual ++ "<lambda>") (hT : Tabs T H) (hfree : ∀ y ∈ scope.names, y.2 = .free -> ∃ c, X.env.cells.lookup y.1 = some c)
    (h : ∀ (f c' : Addr) (doc pm ctv : Value) (H1 : Hp) (s' : Shared), Inv X pins σ H1 s' -> ExtN H H1 -> Tabs T H1 -> H f = none ->
      H1 f = some (ObO f { cls := .type "function", data := .func (PySem.W.kdv_fn "<lambda>" (X.env.qual ++ "<lambda>") params (.expr body) scope (cloFrom X.env.cells scope.names []) dV doc pm (.ref c') ctv) }) -> H1 c' = some (CodeO c' (X.env.qual ++ "<lambda>")) -> Q (.ref f) s') :
    wpAny (model X.prog X.w) X.A (makeTail "<lambda>" (X.env.qual ++ "<lambda>") params (.expr body) scope X.env dV .none none pos pos.line) Q X.xe s := by
  obtain ⟨ps, hP0, ht, ha⟩ := hT _ hm
  have bP : s.heap.BuiltinsAt X.mg P := TB.bm.keeps I.bk
  have hP' := I.hok P _ hP0
  cases hc : codeAmong pos ps.toList with
  | none =>
    refine PySem.W.kdv_makeTail (mg := X.mg) (c := c) (P := P) (ps := ps) (closure_ok hfree) I.ok.glob (I.mod.glob.keeps I.bk) hcode (TB.code.keeps I.bk) hP' ht hc TB.gP bP fun c' ctv doc h' tk hx hge hlt hrec htb => ?_
    obtain ⟨c2, oc, vs, t2, e2, hoc, hd, hv⟩ := hrec
    cases e2
    have nC : H c' = none := I.hok.fresh hge
    have I1 := inv_table (q := X.env.qual ++ "<lambda>") (t' := tk) (more := #[rawInt pos.line, rawInt pos.col, .ref c']) (h' := h') I hP0 (fun b o hb e => hx b o hb e) htb hge ⟨oc, vs, t2, hoc, hd, hv⟩
    have hsz : s.heap.objs.size <= h'.objs.size := Nat.le_trans hge (Nat.le_of_lt hlt)
    have I3 := I1.laid (a := h'.objs.size) (o := ObO h'.objs.size (PySem.W.kdv_obj "<lambda>" (X.env.qual ++ "<lambda>") params (.expr body) scope (cloFrom X.env.cells scope.names []) dV doc ((X.mg "__name__").getD .none) c' ctv)) (t' := tk)
      (h' := h'.push (PySem.W.kdv_obj "<lambda>" (X.env.qual ++ "<lambda>") params (.expr body) scope (cloFrom X.env.cells scope.names []) dV doc ((X.mg "__name__").getD .none) c' ctv)) (fun b u e => Heap.get?_push_of_some _ e) (Nat.le_refl _) ⟨Heap.get?_push_size _ rfl, ⟨_, Heap.get?_push_size _ rfl⟩, fun h1 h2 q st => st _ q⟩
    have nF : H h'.objs.size = none := I.hok.fresh hsz
    have nFc : h'.objs.size ≠ c' := Nat.ne_of_gt hlt
    have nFP : h'.objs.size ≠ P := Nat.ne_of_gt (Nat.lt_of_lt_of_le (Heap.lt_size hP') hsz)
    have hE0 : ExtN H (upd (upd H P (.tbl (ps ++ #[rawInt pos.line, rawInt pos.col, .ref c']))) c' (CodeO c' (X.env.qual ++ "<lambda>"))) := fun b o e n => by
      rw [upd_ne (ne_of_none e nC), upd_ne (fun z => n ps (Option.some.inj (e.symm.trans (by rw [z]; exact hP0))))]
      exact e
    have nF2 : (upd (upd H P (.tbl (ps ++ #[rawInt pos.line, rawInt pos.col, .ref c']))) c' (CodeO c' (X.env.qual ++ "<lambda>"))) h'.objs.size = none := by rw [upd_ne nFc, upd_ne nFP]; exact nF
    have hE : ExtN H (upd (upd (upd H P (.tbl (ps ++ #[rawInt pos.line, rawInt pos.col, .ref c']))) c' (CodeO c' (X.env.qual ++ "<lambda>"))) h'.objs.size (ObO h'.objs.size (PySem.W.kdv_obj "<lambda>" (X.env.qual ++ "<lambda>") params (.expr body) scope (cloFrom X.env.cells scope.names []) dV doc ((X.mg "__name__").getD .none) c' ctv))) := fun b o e n => by
      rw [upd_ne (ne_of_none e nF)]
      exact hE0 b o e n
    have eL : (ps ++ #[rawInt pos.line, rawInt pos.col, .ref c']).toList = ps.toList ++ [rawInt pos.line, rawInt pos.col, .ref c'] := by simp
    have T0 : Tabs T (upd (upd H P (.tbl (ps ++ #[rawInt pos.line, rawInt pos.col, .ref c']))) c' (CodeO c' (X.env.qual ++ "<lambda>"))) := fun p hp => by
      by_cases hb : p.1 = P
      · rw [hu p hp hb, hb]
        refine ⟨_, by rw [upd_ne (ne_of_none hP0 nC), upd_same], by rw [eL]; exact PySem.TriplesOk_snoc _ _ _ _ ht, fun p' cv hcv => ?_⟩
        rw [eL] at hcv
        rcases among_app _ ht hcv with z | z
        · obtain ⟨c0, e1, e2⟩ := ha p' cv z
          exact ⟨c0, e1, hE0 _ _ e2 codeO_ne⟩
        · exact ⟨c', z, upd_same⟩
      · obtain ⟨ps', a1, a2, a3⟩ := hT p hp
        refine ⟨ps', by rw [upd_ne (ne_of_none a1 nC), upd_ne hb]; exact a1, a2, fun p' cv hcv => ?_⟩
        obtain ⟨c0, e1, e2⟩ := a3 p' cv hcv
        exact ⟨c0, e1, hE0 _ _ e2 codeO_ne⟩
    refine h h'.objs.size c' doc ((X.mg "__name__").getD .none) ctv _ _ I3 hE (T0.ext fun b o e => ?_) nF upd_same ?_
    · rw [upd_ne (ne_of_none e nF2)]; exact e
    · rw [upd_ne (Ne.symm nFc)]; exact upd_same
  | some cv =>
    obtain ⟨c', e, hco⟩ := ha pos cv hc
    subst e
    refine PySem.W.kdv_makeTailHit (mg := X.mg) (c := c) (P := P) (ps := ps) (closure_ok hfree) I.ok.glob (I.mod.glob.keeps I.bk) hcode (TB.code.keeps I.bk) hP' ht hc bP fun ctv doc h' tk hx hsz => ?_
    have I1 : Inv X pins σ H { s with heap := h', toks := tk } := I.kept (t' := tk) hx
    have nF : H h'.objs.size = none := I.hok.fresh hsz
    have I3 := I1.laid (a := h'.objs.size) (o := ObO h'.objs.size { cls := .type "function", data := .func (PySem.W.kdv_fn "<lambda>" (X.env.qual ++ "<lambda>") params (.expr body) scope (cloFrom X.env.cells scope.names []) dV doc ((X.mg "__name__").getD .none) (.ref c') ctv) }) (t' := tk)
      (h' := h'.push { cls := .type "function", data := .func (PySem.W.kdv_fn "<lambda>" (X.env.qual ++ "<lambda>") params (.expr body) scope (cloFrom X.env.cells scope.names []) dV doc ((X.mg "__name__").getD .none) (.ref c') ctv) }) (fun b u e => Heap.get?_push_of_some _ e) (Nat.le_refl _) ⟨Heap.get?_push_size _ rfl, ⟨_, Heap.get?_push_size _ rfl⟩, fun h1 h2 q st => st _ q⟩
    have st : ∀ b o, H b = some o -> upd H h'.objs.size (ObO h'.objs.size { cls := .type "function", data := .func (PySem.W.kdv_fn "<lambda>" (X.env.qual ++ "<lambda>") params (.expr body) scope (cloFrom X.env.cells scope.names []) dV doc ((X.mg "__name__").getD .none) (.ref c') ctv) }) b = some o := fun b o e => by
      rw [upd_ne (ne_of_none e nF)]; exact e
    exact h h'.objs.size c' doc ((X.mg "__name__").getD .none) ctv _ _ I3 (ExtN.of st) (hT.ext st) nF upd_same (st _ _ hco)
end
theorem Good.addNew {K : PySem.W.Frag} {cl : ClW} {F H : Hp} {M : Mem} (g : Good K cl F H M) {b : Addr} {o : HO} (hb : H b = some o) (hM : M b = none) (hF : F b = none) (ho : ∀ ps, o ≠ .tbl ps) : Same F (upd F b o) /\ Good K cl (upd F b o) H M := by
  have sm : Same F (upd F b o) := same_new hF
  refine ⟨sm, fun a u e => ?_, fun a d e => ?_, g.tab, fun a ps e => ?_⟩
  · by_cases h : a = b
    · subst h
      rw [upd_same] at e
      rw [hb]; exact e
    · rw [upd_ne h] at e; exact g.sub a u e
  · have hab : a ≠ b := fun z => by rw [z, hM] at e; cases e
    obtain ⟨h1, h2⟩ := g.cell a d e
    exact ⟨by rw [upd_ne hab]; exact h1, h2.mono sm fun u q => q⟩
  · by_cases h : a = b
    · subst h
      rw [upd_same] at e
      exact ho ps (Option.some.inj e)
    · rw [upd_ne h] at e; exact g.noT a ps e
def dLamV (j : Nat) (C : Cells) : DTE := fun _ M Q _ => Q (.fn j C) M
section
variable {cl : ClW} {X : Cx} {W : WX} {j : Nat} {cc P : Addr} {params : Arguments} {body : Expr} {scope : Scope} {df : List Int} {pos : Pos}
theorem d_lamV (TB : TabB X.base X.mg cc P) (hcode : X.env.code = .ref cc) (hmT : (P, X.env.qual ++ "<lambda>") ∈ tabsOf cl) (hu : ∀ p ∈ tabsOf cl, p.1 = P -> p.2 = X.env.qual ++ "<lambda>")
    (hj : cl.lam j = some ⟨X.N, X.env.qual ++ "<lambda>", params, body, scope, df⟩) (hfree : ∀ y ∈ scope.names, y.2 = .free -> X.env.scope.names.lookup y.1 = some .cell \/ X.env.scope.names.lookup y.1 = some .free)
    (l : List (Int × Nat × Pos)) (hl : df = l.map (·.1)) (hs : l.length <= 10) (hdef : defaultsOf params X.env = (l.map fun c => eval (.Constant (.int c.1) c.2.1 c.2.2) X.env, [])) :
    DE cl X W (.Lambda params body scope pos) (dLamV j X.env.cells) := by
  refine ⟨⟨fun pins s σ H Q I ⟨F, ρ, M, Qd, Xd, gd, sl, t, p, w⟩ => ?_⟩⟩
  have hfr : ∀ y ∈ scope.names, y.2 = .free -> ∃ c, X.env.cells.lookup y.1 = some c := fun y hy e => by
    rcases hfree y hy e with k | k
    · exact I.ok.has _ (.inl k)
    · exact I.ok.has _ (.inr k)
  have fin : ∀ {dV : Value} {F2 H2 : Hp} {s2 : Shared}, Inv X pins σ H2 s2 -> Same F F2 -> Good X.K cl F2 H2 M -> DfOk F2 ⟨X.N, X.env.qual ++ "<lambda>", params, body, scope, df⟩ dV ->
      wpAny (model X.prog X.w) X.A (makeTail "<lambda>" (X.env.qual ++ "<lambda>") params (.expr body) scope X.env dV .none none pos pos.line) (EP X pins σ Q) X.xe s2 := fun {dV F2 H2 s2} I2 sm g2 hdf =>
    make_tail I2 TB hcode hmT hu g2.tab hfr fun f c' doc pm ctv H1 s' I1 e t1 nf hf hc => by
      have g3 := g2.extN e t1
      obtain ⟨sm4, g4⟩ := g3.addNew hf (g2.freshM nf) (g2.freshF nf) (fun ps z => by cases z)
      obtain ⟨sm5, g5⟩ := g4.code hc
      have hfc : f ≠ c' := fun z => by
        rw [z, hc] at hf
        exact ob_ne_code (fun vs z => by cases z) (Option.some.inj hf).symm
      exact ⟨.ref f, H1, I1, rfl, p _ H1 _ (.fn j X.env.cells) M ((sm.trans sm4).trans sm5) g5 (.fn hj (by rw [upd_ne hfc]; exact upd_same) upd_same (hdf.mono (sm4.trans sm5))) t⟩
  rw [PySem.arm_eval_Lambda, hdef]
  show wpAny _ _ (do let dv <- evalAll (l.map fun c => eval (.Constant (.int c.1) c.2.1 c.2.2) X.env); let kdv <- holding dv (evalAllOpt []); makeFunction "<lambda>" (X.env.qual ++ "<lambda>") params (.expr body) scope X.env dv kdv [] pos pos.line) _ _ s
  refine wpAny_bind (ev_ints l I fun us s0 I0 vs => ?_)
  refine wpAny_bind (wpAny_holding (wpAny_pure ?_))
  rw [PySem.makeFunction_eq]
  cases us with
  | nil =>
    have h0 : df = [] := by
      rw [hl]
      have := vs.length
      simpa using this
    simp only [List.zip_nil_right, List.filterMap_nil, List.isEmpty_nil, if_true, pure_bind]
    exact fin I0 (Same.refl F) gd (.inl ⟨h0, rfl⟩)
  | cons u us =>
    have h0 : df ≠ [] := fun z => by
      rw [hl] at z
      have := vs.length
      rw [List.map_eq_nil_iff.mp z] at this
      simp at this
    simp only [List.zip_nil_right, List.filterMap_nil, List.isEmpty_nil, List.isEmpty_cons, if_true, pure_bind, Bool.false_eq_true, if_false]
    refine wpAny_bind (wpAny_newTextTuple ?_)
    have nT : H s0.heap.objs.size = none := I0.hok.fresh (Nat.le_refl _)
    have I2 := I0.laid (a := s0.heap.objs.size) (o := .tup (l.map fun c => V.int c.1)) (t' := s0.toks) (h' := s0.heap.push { cls := .type "tuple", data := .seq (u :: us).toArray }) (fun b o e => Heap.get?_push_of_some _ e) (Nat.le_refl _)
      (show ObjOk X.prog X.w _ _ _ (.tup _) from ⟨by rw [size_line, List.length_map]; omega, u :: us, vs, IsTup.new _ _⟩)
    exact fin (dV := .ref s0.heap.objs.size) I2 (same_new (gd.freshF nT)) (gd.new nT) (.inr ⟨_, h0, rfl, by rw [upd_same, hl, List.map_map]; rfl⟩)
end
end DL
set_option Elab.async false
set_option linter.all false
set_option maxRecDepth 100000
set_option maxHeartbeats 4000000
set_option autoImplicit false
namespace DL
open PySem PySem.Spec PyProof.Rows L2 LamX
def SPX (X : Cx) (pins : List (Addr × Obj)) (R : L2.St -> V -> Hp -> Prop) (f : Flow) (s' : Shared) : Prop := match f with
  | .ret u => ∃ v σ' H', Inv X pins σ' H' s' /\ RelV v u /\ R σ' v H'
  | _ => False
abbrev DRX := DL.Env -> D -> Mem -> Prop
abbrev DTX := DRX -> DX -> DL.Env -> Mem -> Prop
structure DSX (cl : ClW) (X : Cx) (W : WX) (sts : List Stmt) (t : DTX) : Prop where
  run : ∀ (pins : List (Addr × Obj)) (s : Shared) (σ : L2.St) (H : Hp) (R : L2.St -> V -> Hp -> Prop) (F : Hp) (ρ : DL.Env) (M : Mem) (Rd : DRX) (Xd : DX), Inv X pins σ H s -> Good X.K cl F H M -> Slots X.K cl F σ ρ -> t Rd Xd ρ M ->
    (∀ σ' v H' F' ρ' d M', Same F F' -> Good X.K cl F' H' M' -> Slots X.K cl F' σ' ρ' -> Rep X.K cl F' v d -> Rd ρ' d M' -> R σ' v H') -> WOk X.K cl W F Xd -> wpAny (model X.prog X.w) X.A (execs sts X.env) (SPX X pins R) X.xe s
def dRetX (τ : DTE) : DTX := fun Rd Xd ρ M => τ ρ M (fun d M1 => Rd ρ d M1) Xd
def dSeqX (u : DTS) (t : DTX) : DTX := fun Rd Xd ρ M => u { nx := fun ρ M => t Rd Xd ρ M, rt := fun _ _ => False, bk := fun _ _ => False, ct := fun _ _ => False, ex := Xd } ρ M
section
variable {cl : ClW} {X : Cx} {W : WX} {st : Stmt} {sts : List Stmt} {u : DTS} {t : DTX} {e : Expr} {τ : DTE} {pos : Pos}
theorem dsx_ret (h : DE cl X W e τ) : DSX cl X W [.Return (some e) pos] (dRetX τ) :=
  ⟨fun pins s σ H R F ρ M Rd Xd I g sl q p w => wpAny_execs_cons (wpAny_Return_some (thn (h.pe.run pins s σ H (fun v H' => R σ v H') I ⟨F, ρ, M, _, Xd, g, sl, q, fun v H' F' d M' sm g' r q' => p σ v H' F' ρ d M' sm g' (sl.mono sm) r q', w⟩) fun v s1 ⟨x, H1, I1, r1, q1⟩ => ⟨x, σ, H1, I1, r1, q1⟩))⟩
theorem dsx_cons (h1 : DS cl X W st u) (h2 : DSX cl X W sts t) : DSX cl X W (st :: sts) (dSeqX u t) := by
  refine ⟨fun pins s σ H R F ρ M Rd Xd I g sl q p w => ?_⟩
  refine wpAny_execs_cons (thn (h1.ps.run pins s σ H { nx := fun σ' H' => ∃ F' ρ' M', Same F F' /\ Good X.K cl F' H' M' /\ Slots X.K cl F' σ' ρ' /\ t Rd Xd ρ' M', rt := fun _ _ => False, bk := fun _ _ => False, ct := fun _ _ => False } I
    ⟨F, ρ, M, _, g, sl, q, ⟨fun σ' H' F' ρ' M' sm g' s' q' => ⟨F', ρ', M', sm, g', s', q'⟩, fun _ _ _ _ _ _ _ _ z => z, fun _ _ _ _ _ _ _ _ z => z, fun _ _ _ _ _ _ _ _ z => z, w⟩⟩) fun f s1 q => ?_)
  cases f with
  | next =>
    obtain ⟨σ', H', I', F', ρ', M', sm, g', s', q'⟩ := q
    exact h2.run pins s1 σ' H' R F' ρ' M' Rd Xd I' g' s' q' (fun σ2 v H2 F2 ρ2 d M2 sm2 => p σ2 v H2 F2 ρ2 d M2 (sm.trans sm2)) (w.mono sm)
  | ret v =>
    obtain ⟨_, _, _, _, _, q⟩ := q
    exact False.elim q
  | brk =>
    obtain ⟨_, _, _, q⟩ := q
    exact False.elim q
  | cont =>
    obtain ⟨_, _, _, q⟩ := q
    exact False.elim q
end
structure CapAt (ρ : DL.Env) (M : Mem) (C : Cells) (N : List Str) (cap : List Nat) (cs : List CelE) : Prop where
  ix : cs.map (·.1) = cap
  nd : (adrs cs).Nodup
  at_ : ∀ c ∈ cs, ∃ x, N[c.1]? = some x /\ C.lookup x = some c.2.1
  val : ∀ c ∈ cs, ρ[c.1]? = some (some c.2.2.2)
  new : ∀ c ∈ cs, M c.2.1 = none
def outX (C : Cells) (N : List Str) (cap : List Nat) (Q : DV) : DRX := fun ρ d M => (∀ i ∈ cap, ∃ e, ρ[i]? = some (some e)) /\ ∀ cs, CapAt ρ M C N cap cs -> Q d (shwM cs M)
section
variable {K : PySem.W.Frag} {cl : ClW} {X : Cx} {pins : List (Addr × Obj)} {σ : L2.St} {H F : Hp} {s : Shared} {ρ : DL.Env} {M : Mem}
theorem cap_find (I : Inv X pins σ H s) : ∀ (cap : List Nat), (∀ i ∈ cap, ∃ x, X.N[i]? = some x /\ X.env.scope.names.lookup x = some .cell) -> (∀ i ∈ cap, ∃ e v, ρ[i]? = some (some e) /\ σ[i]? = some (some v) /\ Rep X.K cl F v e) ->
    ∃ cs : List CelE, cs.map (·.1) = cap /\ ∀ c ∈ cs, (∃ x, X.N[c.1]? = some x /\ X.env.cells.lookup x = some c.2.1) /\ ρ[c.1]? = some (some c.2.2.2) /\ s.heap.get? c.2.1 = some c.2.2.1 /\ CelOk X.K cl F c
  | [], _, _ => ⟨[], rfl, (fun _ z => nomatch z)⟩
  | i :: cap, h1, h2 => by
    obtain ⟨cs, k1, k2⟩ := cap_find I cap (fun j hj => h1 j (List.mem_cons_of_mem _ hj)) fun j hj => h2 j (List.mem_cons_of_mem _ hj)
    obtain ⟨x, hx, hs⟩ := h1 i (List.mem_cons_self ..)
    obtain ⟨d, v, hd, e1, r⟩ := h2 i (List.mem_cons_self ..)
    obtain ⟨m, _, hl⟩ := I.loc
    obtain ⟨u, rv, lk⟩ := hl i x v hx e1 (.inr (.inl hs))
    rcases lk with ⟨kz, _⟩ | ⟨_, c, hc, o, ho, hdat⟩
    · have kz : X.env.scope.names.lookup x = some .local := kz
      rw [hs] at kz; cases kz
    · refine ⟨(i, c, o, d) :: cs, by rw [List.map_cons, k1], fun c' hc' => ?_⟩
      rcases List.mem_cons.mp hc' with rfl | hc'
      · exact ⟨⟨x, hx, hc⟩, hd, ho, v, u, hdat, rv, r⟩
      · exact k2 c' hc'
theorem cap_nd {cs : List CelE} {N : List Str} {C : Cells} (hN : N.Nodup) (inj : ∀ x y c, C.lookup x = some c -> C.lookup y = some c -> x = y) (hc : (cs.map (·.1)).Nodup) (h : ∀ c ∈ cs, ∃ x, N[c.1]? = some x /\ C.lookup x = some c.2.1) : (adrs cs).Nodup := by
  unfold adrs
  rw [List.nodup_iff_pairwise_ne, List.pairwise_map] at hc ⊢
  refine List.Pairwise.imp_of_mem (fun {a b} ha hb hne e => hne ?_) hc
  obtain ⟨x, h1, h2⟩ := h a ha
  obtain ⟨y, h3, h4⟩ := h b hb
  rw [e] at h2
  obtain rfl := inj x y _ h2 h4
  exact nodup_ix hN h1 h3
end
theorem un_shw {fs : List Addr} {H H' : Hp} {h h' : Heap} {cs : List CelE} (u : Un fs [] H H' h h') (hn : ∀ c ∈ cs, H' c.2.1 = none) (hh : ∀ c ∈ cs, h.get? c.2.1 = none) : Un fs [] H (shwH cs H') h h' where
  keep := u.keep
  slot := u.slot
  free := fun b o e n hx => by
    have hb : b ∉ adrs cs := fun hm => by
      obtain ⟨c, hc, rfl⟩ := List.mem_map.mp hm
      rw [hh c hc] at e; cases e
    rw [shwH_out hb]; exact u.free b o e n hx
  there := u.there
  tups := fun b xs e => shwH_same hn _ _ (u.tups b xs e)
  frzs := fun b o xs e => shwH_same hn _ _ (u.frzs b o xs e)
  tbls := fun b ps e => by
    obtain ⟨more, q⟩ := u.tbls b ps e
    exact ⟨more, shwH_same hn _ _ q⟩
theorem fn_dX {cl : ClW} {P : Program} {w : World} {K : PySem.W.Frag} {mg : Str -> Option Value} {base : Heap} {k : Nat} {f : Addr} {x qual : Str} {params : Arguments} {body : List Stmt} {scope : Scope} {dvs : List V} {kws : List (Str × V)} {fd : FuncData} {N ps : List Str} {spd : SpD} {cap : List Nat}
    (F : FunD K x qual params body scope dvs kws f fd) (S : FnScope N ps scope) (t : Cells -> DTX) (hcap : ∀ i ∈ cap, ∃ x, N[i]? = some x /\ scope.names.lookup x = some .cell) (ndc : cap.Nodup) (ndN : N.Nodup)
    (hbody : ∀ (cdv : Value), fd.code = cdv -> ∀ (A : Around) (outer : List PySem.Env) (s : Shared) (H : Hp) (E : XK), Cap (cxOf (L2.CX P w) P w K mg base N qual scope f cdv A outer s H E) (fun cls d _ H => E cls d H) k ->
      DSX cl (cxOf (L2.CX P w) P w K mg base N qual scope f cdv A outer s H E) (fun cls d _ H => E cls d H) body (t (cxOf (L2.CX P w) P w K mg base N qual scope f cdv A outer s H E).env.cells))
    (hsp : ∀ ds M Q E, spd ds M Q E -> ds.length = ps.length /\ ∀ C, t C (outX C N cap Q) (fun c ns es _ M => E c ns es M) (startD N ds) M) : FnG cl P w K mg base (k + 1) f fd ps spd := by
  refine ⟨fun ds M Q E h => (hsp ds M Q E h).1, fun A outer s H args us vs Q E hr e0 hb r hl => ?_⟩
  obtain ⟨oc, od, dV, kV, doc, pm, an, cdv, ct, osl, rfl, lk, hcd, _, _⟩ := F.ex
  have lenV : ∀ vs H Q E, lower K cl spd vs H Q E -> vs.length = ps.length := fun vs H Q E ⟨_, M, ds, Qd, Ed, _, r, q, _⟩ => by
    rw [r.length]
    exact (hsp ds M Qd Ed q).1
  have hr' := hr.deeper (PyProof.Rows.envOfC qual scope s.heap.objs.size f cdv)
  have KX : K.In s.heap := e0.mod.kin.keeps fun b o e => (e0.bs b o e).1
  have lim : s.heap.NoLimit := e0.mod.nolimit.keeps fun b o e => (e0.bs b o e).1
  have hkind : ∀ y ∈ ps.zip us, scope.names.lookup y.1 = some .local \/ (scope.names.lookup y.1 = some .cell /\ ((cellsFrom (s.heap.objs.size + 1) scope.names []).lookup y.1).isSome = true) := fun ⟨n, v⟩ hy => by
    rcases S.par n (List.of_mem_zip hy).1 with q | q
    · exact .inl q
    · exact .inr ⟨q, PySem.W.cellsFrom_some _ _ _ (.inl q)⟩
  refine codeAny_call_function hr.room.depth (KX _ _ lk) rfl S.co S.gen rfl (PySem.W.codeRec_of KX hcd) (hb _ _ _ _ ?_)
  refine wpAny_newFunctionEnv_cells S.kind hkind fun env he s1 x => ?_
  subst he
  refine ⟨lim.keeps x.toInCall.keep, codeAny_func ?_⟩
  have ht := hbody cdv rfl A outer s H E ⟨takes_of rfl rfl rfl rfl, hr', passes_of rfl, rfl⟩
  have I : Inv (cxOf (L2.CX P w) P w K mg base N qual scope f cdv A outer s H E) [] (L2.start N vs) H s1 := inv_start S hr.room.hd e0 (lenV _ _ _ _ hl) r x
  obtain ⟨F0, M0, ds0, Qd, Ed, g0, r0, q0, p0, ep0⟩ := hl
  refine wpAny_mono (ht.run [] s1 (L2.start N vs) H (fun σ' v H' => ∃ F' ρ' d M', Same F0 F' /\ Good K cl F' H' M' /\ Slots K cl F' σ' ρ' /\ Rep K cl F' v d /\ outX (cxOf (L2.CX P w) P w K mg base N qual scope f cdv A outer s H E).env.cells N cap Qd ρ' d M') F0 (startD N ds0) M0 _ _ I g0 (slots_start N r0) ((hsp ds0 M0 Qd Ed q0).2 _)
    (fun σ' v H' F' ρ' d M' sm g' sl' r' q' => ⟨F', ρ', d, M', sm, g', sl', r', q'⟩) (fun c ns ds σ' H' F' ρ' M' dd sm g' s' ea q' => ep0 _ _ _ _ _ _ _ sm g' ea q')) (fun fl s' hs => ?_) fun e s' hs => hs
  cases fl with
  | ret u =>
    obtain ⟨v, σ', H', J, rv, F', ρ', d, M', sm, g', sl', r', hfull, q'⟩ := hs
    obtain ⟨cs, c1, c2⟩ := cap_find (cl := cl) J cap hcap fun i hi => by
      obtain ⟨e, he⟩ := hfull i hi
      obtain ⟨v, h1, h2⟩ := sl'.get i e he
      exact ⟨e, v, he, h1, h2⟩
    have hat : ∀ c ∈ cs, ∃ x, N[c.1]? = some x /\ (cxOf (L2.CX P w) P w K mg base N qual scope f cdv A outer s H E).env.cells.lookup x = some c.2.1 := fun c hc => (c2 c hc).1
    have hn : ∀ c ∈ cs, H' c.2.1 = none := fun c hc => by
      obtain ⟨x, _, h2⟩ := hat c hc
      exact J.freeC x _ h2
    have hnew : ∀ c ∈ cs, s.heap.get? c.2.1 = none := fun c hc => by
      obtain ⟨x, _, h2⟩ := hat c hc
      exact Heap.get?_none_of_le (J.ok.cab x _ rfl h2)
    have hca : CapAt ρ' M' (cxOf (L2.CX P w) P w K mg base N qual scope f cdv A outer s H E).env.cells N cap cs :=
      ⟨c1, cap_nd ndN J.ok.inj (by rw [c1]; exact ndc) hat, hat, fun c hc => (c2 c hc).2.1, fun c hc => g'.freshM (hn c hc)⟩
    exact ⟨v, shwH cs H', J.os, J.bare, un_shw J.base hn hnew, hok_show J.hok hn fun c hc => (c2 c hc).2.2.1, rv,
      p0 v _ F' d _ sm (g'.show hn fun c hc => (c2 c hc).2.2.2) r' (q' cs hca)⟩
  | next => exact False.elim hs
  | brk => exact False.elim hs
  | cont => exact False.elim hs
section
variable {cl : ClW} {P : Program} {w : World} {K : PySem.W.Frag} {mg : Str -> Option Value} {base h : Heap} {k : Nat} {x qual : Str} {params : Arguments} {body : List Stmt} {scope : Scope} {N ps : List Str} {spd : SpD} {d : Str × Option Str} {t : Cells -> DTX} {cap : List Nat}
theorem fnC_ofTX (T : TabK h K d) (F : ∃ fd, FunD K x qual params body scope [] [] (He.fAd K d) fd) (S : FnScope N ps scope) (hcap : ∀ i ∈ cap, ∃ x, N[i]? = some x /\ scope.names.lookup x = some .cell) (ndc : cap.Nodup) (ndN : N.Nodup)
    (hbody : ∀ (A : Around) (outer : List PySem.Env) (s : Shared) (H : Hp) (E : XK), Cap (cxOf (L2.CX P w) P w K mg base N qual scope (He.fAd K d) (.ref (codeF K (He.fAd K d))) A outer s H E) (fun cls d _ H => E cls d H) k ->
      DSX cl (cxOf (L2.CX P w) P w K mg base N qual scope (He.fAd K d) (.ref (codeF K (He.fAd K d))) A outer s H E) (fun cls d _ H => E cls d H) body (t (cxOf (L2.CX P w) P w K mg base N qual scope (He.fAd K d) (.ref (codeF K (He.fAd K d))) A outer s H E).env.cells))
    (hsp : ∀ ds M Q E, spd ds M Q E -> ds.length = ps.length /\ ∀ C, t C (outX C N cap Q) (fun c ns es _ M => E c ns es M) (startD N ds) M) : FnC cl P w K mg base (k + 1) x qual params body scope (He.fAd K d) ps spd := by
  obtain ⟨fd, F⟩ := F
  refine ⟨fd, F, fn_dX F S t hcap ndc ndN (fun cdv hc A outer s H E c => ?_) hsp⟩
  rw [fnD_code T F] at hc
  subst hc
  exact hbody A outer s H E c
end
def dSaidV (T : Nat -> Option LamT) (spT : THD -> THD) (τ : DTE) : DTE := fun ρ M Q X => τ ρ M (fun d M1 => ∃ j C, d = .fn j C /\ spT (LamRun T j C) M1 Q (fun c ns es M2 => X c ns es ρ M2)) X
section
variable {cl : ClW} {X : Cx} {W : WX} {k : Nat} {x a : Str} {spT : THD -> THD} {τ : DTE} {e : Expr} {p pos : Pos} {T : Nat -> Option LamT}
theorem dAct_app {cl : ClW} {X : Cx} {W : WX} {k i j : Nat} {C : Cells} {a : Str} {p1 p2 : Pos} {T : Nat -> Option LamT} (cp : Cap X W (k + 1)) (hT : LamsOk cl X.prog X.w X.K X.mg X.base k T) (hN : X.N[i]? = some a) (hv : Vis X.env.scope a) (hd : (a == ("__debug__" : Str)) = false) (hcd : (a == ("__classdict__" : Str)) = false) :
    DE cl X W (.Call (.Name a p1) [] [] p2) (dAct i (.fn j C) (LamRun T j C)) :=
  ⟨pe_imp (d_app cp hT hN hv hd hcd).pe fun σ H Q ⟨F, ρ, M, Qd, Xd, g, s, ⟨h1, h2⟩, p, w⟩ => ⟨F, ρ, M, Qd, Xd, g, s, ⟨j, C, h1, h2⟩, p, w⟩⟩
theorem d_saidV (c : Cap X W (k + 2)) (G : FnTB cl X.prog X.w X.K X.mg X.base (k + 1) x a spT) (hT : LamsOk cl X.prog X.w X.K X.mg X.base k T) (hg : Gl X x) (he : DE cl X W e τ)
    (hs : starEach [e] X.env = (false, eval e X.env) :: starEach [] X.env := by rfl) (hdb : (x == ("__debug__" : Str)) = false := by decide) (hd : (a == ("__debug__" : Str)) = false := by decide) (hcd : (a == ("__classdict__" : Str)) = false := by decide) :
    DE cl X W (.Call (.Name x p) [e] [] pos) (dSaidV T spT τ) := by
  obtain ⟨g, fd, hm, hk, hbd, G⟩ := G
  refine ⟨⟨fun pins s σ H Q I ⟨F, ρ, M, Qd, Xd, gd, sl, t, pq, w⟩ => ?_⟩⟩
  refine wpAny_Call_Name_kw (ld_glob I hg hm ?_ hdb)
  refine PySem.W.callWith_K (h₀ := X.base) I.ok.mod.kin hk ?_ hs (by rfl)
  show wpAny _ _ (spliced (backTo pos (starEach [e] X.env))) _ _ s
  rw [hs]
  show wpAny _ _ (spliced ((false, eval e X.env) :: backTo pos (starEach [] X.env))) _ _ s
  refine Calls.spliced_cons (thn (he.pe.run pins s σ H (fun v H' => ∃ F' M' j C, Same F F' /\ Good X.K cl F' H' M' /\ Rep X.K cl F' v (.fn j C) /\ spT (LamRun T j C) M' Qd (fun c ns es M2 => Xd c ns es ρ M2)) I
    ⟨F, ρ, M, _, Xd, gd, sl, t, fun v H' F' d M' sm g' r ⟨j, C, ed, q⟩ => ⟨F', M', j, C, sm, g', ed ▸ r, q⟩, w⟩) fun u s1 ⟨v, H1, I1, r1, F1, M1, j, C, sm1, g1, rf, q1⟩ => ?_)
  obtain ⟨f, c', L, dV, doc, pm, ctv, rfl, _⟩ := rf.toFn
  obtain rfl : u = Value.ref f := r1
  refine Calls.spliced_nil ⟨I1.kIn, ?_⟩
  have rc := G X.A X.stack s1 H1 ⟨[.ref f], []⟩ f Q (WE W σ) (.fn j C) (LamRun T j C) F1 M1 Qd (fun c ns es M2 => Xd c ns es ρ M2) c.hr I1.env0 (hbd s1 [.ref f] I1.kIn rfl) g1 rf
    (fun Ng qg sg cdg Eg W' pn xe p1 p2 cZ hN hv => dAct_app cZ hT hN hv hd hcd) q1 (pq.mono sm1)
    (fun c ns ds' H' F' M' dd sm' g' ea q' => w c ns ds' σ H' F' ρ M' dd (sm1.trans sm') g' (sl.mono (sm1.trans sm')) ea q')
  refine wpAny_call (codeAny_mono rc fun r s2 hq => ?_)
  cases r with
  | error e => exact passAt c.tk σ pins H1 s1 e s2 I1 hq
  | ok fl =>
    cases fl with
    | ret u => exact I1.after hq
    | next => exact False.elim hq
    | brk => exact False.elim hq
    | cont => exact False.elim hq
end
end DL
set_option Elab.async false
set_option linter.all false
set_option maxRecDepth 100000
set_option maxHeartbeats 4000000
set_option autoImplicit false
namespace DL
open PySem PySem.Spec PyProof.Rows L2 LamX
section
variable {X : Cx}
abbrev blkS (X : Cx) (s0 : Shared) (H0 : Hp) (scope : Scope) (fp : List Addr) : Cx :=
  X.blk s0 H0 scope (compEnvC scope (cellsFrom (s0.heap.objs.size + 1) scope.names (cloFrom X.env.cells scope.names [])) s0.heap.objs.size X.env) fp
theorem pe_lcS {elt tg iter : Expr} {scope : Scope} {own : List (Str × Nat)} {pos : Pos} {wi : TI} {g : TG} {tt : TT} {te : TE} (calm : X.calm = true) (ndN : X.N.Nodup) (pi : PI X tg iter wi) (bo : BlkOk X.N X.env.scope scope own)
    (pgB : ∀ (s : Shared) (H : Hp) (C : Addr) (cl : List (Str × Addr)) (fp : List Addr), PG (X.blk s H scope (compEnvC scope cl C X.env) fp) tg g)
    (ptB : ∀ (s : Shared) (H : Hp) (C : Addr) (cl : List (Str × Addr)) (fp : List Addr), PTs (X.blk s H scope (compEnvC scope cl C X.env) fp) [] tt)
    (peB : ∀ (pins : List (Addr × Obj)) (σ : L2.St) (s0 : Shared) (H0 : Hp) (fp : List Addr), Inv X pins σ H0 s0 -> (∀ b ∈ fp, ∃ o, s0.heap.get? b = some o /\ ∀ v, o.data ≠ .cell v) -> ∀ (pB : List (Addr × Obj)) (s' : Shared) (σ' : L2.St) (H' : Hp) (Q : VK), wipe σ' (own.map (·.2)) = wipe σ (own.map (·.2)) -> Inv (blkS X s0 H0 scope fp) pB σ' H' s' -> te σ' H' Q ->
      wpAny (model X.prog X.w) X.A (eval elt (blkS X s0 H0 scope fp).env) (EP (blkS X s0 H0 scope fp) pB σ' Q) (fun _ _ => False) s')
    (fsi : ∀ x, foldedSetIterable iter X.env x = pure x := by intro _; rfl) :
    PE X (.ListComp elt [⟨tg, iter, [], 0⟩] scope pos) (tLc wi g tt te (own.map (·.2))) := by
  refine ⟨fun pins s σ H Q I want => ?_⟩
  rw [eval_ListComp]
  have frees : ∀ y ∈ scope.names, y.2 = .free -> ∃ c, X.env.cells.lookup y.1 = some c := fun y hy e => (bo.free y hy e).elim (fun k => I.ok.has _ (.inl k)) fun k => I.ok.has _ (.inr k)
  refine wpAny_comprehension_free (use := none) rfl fsi (closure_ok frees) bo.kind (fun y hy e => by rw [bo.uniq y hy, e]) ?_
  refine thn (pi.run pins s σ H _ I want) fun xv sa ha => thn ha fun itv sb hb => ?_
  obtain ⟨it, fp, tn, J, Hb, rfl, Ib, tu, tn0, fpb, more⟩ := hb
  refine wpAny_newObj_type (newEnv_comp ?_) (Nat.zero_le sizeLine)
  obtain ⟨D, eD⟩ : ∃ D, D = sb.heap.objs.size := ⟨_, rfl⟩
  rw [<- eD]
  have dn : Hb D = none := Ib.hok.fresh (Nat.le_of_eq eD.symm)
  obtain ⟨Wt, ⟨m0, w0⟩, turn⟩ := more D dn
  obtain ⟨sc, eC⟩ : ∃ sc : Shared, sc = { sb with heap := sb.heap.push { cls := .type "list", data := .seq ([] : List Value).toArray } } := ⟨_, rfl⟩
  have keepC : ∀ b o, sb.heap.get? b = some o -> sc.heap.get? b = some o := fun b o e => by rw [eC]; exact Heap.get?_push_of_some _ e
  obtain ⟨Hc, eH⟩ : ∃ Hc : Hp, Hc = upd Hb D (.lst []) := ⟨_, rfl⟩
  have Ic : Inv X pins σ Hc sc := by
    rw [eC, eH]
    exact Ib.laid (t' := sb.toks) (fun b o e => Heap.get?_push_of_some _ e) (Nat.le_of_eq eD.symm) ⟨Nat.zero_le _, [], 0, .nil, by rw [eD]; exact Heap.get?_push_size _ rfl⟩
  have there : ∀ b ∈ fp, ∃ o, sb.heap.get? b = some o /\ ∀ v, o.data ≠ .cell v := tu.obj _ _ tn0
  have fpc : ∀ b ∈ fp, FpOk X pins Hc b /\ b < sc.heap.objs.size := fun b hb => by
    obtain ⟨o, e, _⟩ := there b hb
    have ne : b ≠ D := fun z => by
      have := Heap.lt_size e
      rw [z, eD] at this
      exact Nat.lt_irrefl _ this
    exact ⟨⟨by rw [eH, upd_ne ne]; exact (fpb b hb).1, (fpb b hb).2⟩, Heap.lt_size (keepC b o e)⟩
  have tnc : tn 0 sc.heap := tu.keep _ _ _ tn0 fun b _ o e => keepC b o e
  have I0 := block_start Ic bo ndN fpc
  rw [<- eC]
  rw [<- eH] at w0
  obtain ⟨sd, eS⟩ : ∃ sd : Shared, sd = { sc with heap := pushCells (sc.heap.push { cls := .type "dict", data := .dict #[] }) scope.names } := ⟨_, rfl⟩
  rw [<- eS] at I0
  have tnd : tn 0 sd.heap := tu.keep _ _ _ tnc fun b _ o e => by rw [eS]; exact pushCells_keeps _ _ _ _ (Heap.get?_push_of_some _ e)
  have still : ∀ {σ' : L2.St} {H' : Hp} {s' : Shared}, Inv (blkS X sc Hc scope fp) [] σ' H' s' -> (∀ b ∈ fp, H' b = none) -> ∀ b ∈ fp, FpOk (blkS X sc Hc scope fp) [] H' b := fun {σ' H' s'} J' hn b hb =>
    ⟨hn b hb, (J'.ok.exf b hb).1, J'.ok.exfs b hb, .inl hb, fun x c e => (J'.ok.exf b hb).2 x c e, fun p hp => absurd (show p ∈ ([] : List (Addr × Obj)) ++ [] from hp) (by simp)⟩
  have inB : ∀ b ∈ fp, ∃ o, sc.heap.get? b = some o /\ ∀ v, o.data ≠ .cell v := fun b hb => by
    obtain ⟨o, e, k⟩ := there b hb
    exact ⟨o, keepC b o e, k⟩
  show codeAny _ _ (.compStart (.ListComp elt [⟨tg, iter, [], 0⟩] scope pos) 0 (.ref it) (.ref D) (blkS X sc Hc scope fp).env) (compPost (model X.prog X.w) X.A X.xe none (EP X pins σ Q) (.ref D) sc.heap.objs.size) _
  rw [<- eS]
  have loop : codeAny (model X.prog X.w) X.A (.compLoop (.ListComp elt [⟨tg, iter, [], 0⟩] scope pos) 0 (.ref it) (.ref D) (blkS X sc Hc scope fp).env) (compPost (model X.prog X.w) X.A X.xe none (EP X pins σ Q) (.ref D) sc.heap.objs.size) sd := by
    refine compLoop_any (fun n s' => ∃ i H', Inv (blkS X sc Hc scope fp) [] (wipe σ (own.map (·.2))) H' s' /\ tn i s'.heap /\ (∀ b ∈ fp, H' b = none) /\ Wt i n H') ?_ m0 ⟨0, Hc, I0, tnd, fun b hb => (fpc b hb).1.1, w0⟩
    rintro n se ⟨i, He, Ie, tne, ne, we⟩
    rcases turn i n He we with ⟨stop, fin⟩ | ⟨go, Nx, less, step⟩
    · refine thnF (tu.done (blkS X sc Hc scope fp) rfl rfl rfl calm i [] se _ He (fun _ _ => False) Ie (still Ie ne) tne stop) fun r sf ⟨er, If⟩ => ?_
      subst er
      have back : Inv X pins σ He sf := Ic.call' (ch := fp) If.os If.base If.hok If.bare fun b hb => ⟨(fpc b hb).1.2.2.2.1, (fpc b hb).1.2.1, (fpc b hb).1.2.2.2.2.1, (fpc b hb).1.2.2.2.2.2⟩
      have nl : He sc.heap.objs.size = none := If.free
      obtain ⟨m, hm, _⟩ := If.loc
      obtain ⟨f0, f1, f2, f3, f4, f5⟩ := Ic.fpOk (H' := He) (Nat.le_refl _) nl
      exact ⟨m, hm, fun h'' bt => ⟨.ref D, He, back.turned (t' := sf.toks) (fun b o hb e => (bt.2 b hb).trans e) f0 f1 f3 f4 f5, rfl, fin⟩⟩
    · refine thnF (tu.item (blkS X sc Hc scope fp) rfl rfl rfl calm i [] se _ He (fun _ _ => False) Ie (still Ie ne) tne go) fun r sf ⟨u, er, hf⟩ => ?_
      subst er
      refine thnF hf fun _ sg ⟨x, Hg, Ig, rg, yg, tng, ng⟩ => ?_
      have Ip := Ig.pinned (still Ig ng) (tu.obj _ _ tng)
      refine thnF ((pgB sc Hc _ _ fp).run _ sg _ Hg x u _ Ip rg (step x Hg yg)) fun _ sh ⟨σh, Hh, Ih, hw, qh⟩ => ?_
      refine thnF ((ptB sc Hc _ _ fp).run _ sh σh Hh _ Ih qh) fun b si ⟨Hi, Ii, qi⟩ => ?_
      have next : ∀ {s' : Shared} {H' : Hp}, Inv (blkS X sc Hc scope fp) ([] ++ pinsAt fp sg.heap) σh H' s' -> Nx H' -> ∃ m, m < n /\ ∃ i H', Inv (blkS X sc Hc scope fp) [] (wipe σ (own.map (·.2))) H' s' /\ tn i s'.heap /\ (∀ b ∈ fp, H' b = none) /\ Wt i m H' := fun {s' H'} Iz nx => by
        obtain ⟨m', lt, w'⟩ := less H' nx
        have pinned : ∀ b ∈ fp, ∀ o, sg.heap.get? b = some o -> s'.heap.get? b = some o /\ H' b = none := fun b hb o e =>
          let z := Iz.pin (b, o) (List.mem_append_right _ (List.mem_append_right _ (mem_pinsAt hb e)))
          ⟨z.1, z.2.1⟩
        refine ⟨m', lt, i + 1, H', (Iz.unpinned (pins := [])).weak (by rw [<- hw, wipe_length]) (fun j v e => by rw [<- hw] at e; exact (wipe_some e).1), tu.keep _ _ _ tng fun b hb o e => (pinned b hb o e).1, fun b hb => ?_, w'⟩
        obtain ⟨o, e, _⟩ := tu.obj _ _ tng b hb
        exact (pinned b hb o e).2
      cases b with
      | false =>
        simp only [Bool.false_eq_true, if_false] at qi ⊢
        exact next Ii qi
      | true =>
        simp only [if_true] at qi ⊢
        refine thnF (peB pins σ sc Hc fp Ic inB _ si σh Hi _ hw Ii qi) fun z sj ⟨yv, Hj, Ij, rj, acc, hD, hz, nx⟩ => ?_
        exact app_ok (X := blkS X sc Hc scope fp) Ij hD hz rj fun sk Ik => next Ik nx
  exact codeAny_compStart_list loop (tu.self X.A 0 _ _ _ tnd loop)
end
theorem un_hid {fs : List Addr} {H H' : Hp} {h h' : Heap} {cs : List CelE} (u : Un fs [] (shwH cs H) H' h h') (hn : ∀ c ∈ cs, H c.2.1 = none) (h1 : ∀ c ∈ cs, h.get? c.2.1 = some c.2.2.1) (h2 : ∀ c ∈ cs, h'.get? c.2.1 = some c.2.2.1) (hf : ∀ c ∈ cs, c.2.1 ∉ fs) : Un fs [] H (hidH (adrs cs) H') h h' where
  keep := fun b o e n hb hx => by
    by_cases hm : b ∈ adrs cs
    · obtain ⟨c, hc, rfl⟩ := List.mem_map.mp hm
      rw [h1 c hc] at e
      rw [<- e]; exact h2 c hc
    · exact u.keep b o e (by rw [shwH_out hm]; exact n) hb hx
  slot := fun b o e n hb hx => by
    have hm : b ∉ adrs cs := fun hm => by
      obtain ⟨c, hc, rfl⟩ := List.mem_map.mp hm
      exact hf c hc hb
    exact u.slot b o e (by rw [shwH_out hm]; exact n) hb hx
  free := fun b o e n hx => by
    by_cases hm : b ∈ adrs cs
    · exact hidH_in hm
    · rw [hidH_out hm]; exact u.free b o e (by rw [shwH_out hm]; exact n) hx
  there := u.there
  tups := fun b xs e => by
    have hm : b ∉ adrs cs := fun hm => by
      obtain ⟨c, hc, rfl⟩ := List.mem_map.mp hm
      rw [hn c hc] at e; cases e
    rw [hidH_out hm]; exact u.tups b xs (by rw [shwH_out hm]; exact e)
  frzs := fun b o xs e => by
    have hm : b ∉ adrs cs := fun hm => by
      obtain ⟨c, hc, rfl⟩ := List.mem_map.mp hm
      rw [hn c hc] at e; cases e
    rw [hidH_out hm]; exact u.frzs b o xs (by rw [shwH_out hm]; exact e)
  tbls := fun b ps e => by
    have hm : b ∉ adrs cs := fun hm => by
      obtain ⟨c, hc, rfl⟩ := List.mem_map.mp hm
      rw [hn c hc] at e; cases e
    obtain ⟨more, q⟩ := u.tbls b ps (by rw [shwH_out hm]; exact e)
    exact ⟨more, by rw [hidH_out hm]; exact q⟩
def dSaidS (C : Cells) (N : List Str) (cap : List Nat) (T : Nat -> Option LamT) (spT : THD -> THD) (τ : DTE) : DTE := fun ρ M Q X => (∀ i ∈ cap, ∃ e, ρ[i]? = some (some e)) /\ τ ρ M (fun d M1 => ∃ j, d = .fn j C /\ ∀ cs, CapAt ρ M1 C N cap cs ->
  spT (LamRun T j C) (shwM cs M1) (fun d M2 => (∀ c ∈ cs, M2 c.2.1 = some (.cel c.2.2.1 c.2.2.2)) /\ Q d (hidM (adrs cs) M2)) (fun _ _ _ _ => False)) X
theorem wipe_off {σ : L2.St} {vs : List Nat} {i : Nat} (h : i ∉ vs) : (wipe σ vs)[i]? = σ[i]? := by
  induction vs generalizing σ with
  | nil => rfl
  | cons v vs ih =>
    have hv : i ≠ v /\ i ∉ vs := by simpa using h
    show ((wipe σ vs).set v none)[i]? = _
    rw [List.getElem?_set_ne (Ne.symm hv.1), ih hv.2]
section
variable {cl : ClW} {X : Cx} {W : WX} {k : Nat} {x a : Str} {spT : THD -> THD} {τ : DTE} {e : Expr} {p pos : Pos} {T : Nat -> Option LamT} {cap : List Nat} {scope : Scope} {own : List (Str × Nat)}
theorem said_S (c : Cap X W (k + 2)) (G : FnTB cl X.prog X.w X.K X.mg X.base (k + 1) x a spT) (hT : LamsOk cl X.prog X.w X.K X.mg X.base k T) (hfn : ∀ y, X.fn y = true) (ndN : X.N.Nodup) (ndc : cap.Nodup) (hcap : ∀ i ∈ cap, ∃ y, X.N[i]? = some y /\ X.env.scope.names.lookup y = some .cell) (off : ∀ i ∈ cap, i ∉ own.map (·.2))
    (hg : ∀ (s : Shared) (H : Hp) (C : Addr) (cs : List (Str × Addr)) (fp : List Addr), Gl (X.blk s H scope (compEnvC scope cs C X.env) fp) x)
    (he : ∀ (s : Shared) (H : Hp) (C : Addr) (cs : List (Str × Addr)) (fp : List Addr), DE cl (X.blk s H scope (compEnvC scope cs C X.env) fp) W0 e τ)
    (hs : ∀ env : PySem.Env, starEach [e] env = (false, eval e env) :: starEach [] env := by intro _; rfl) (hdb : (x == ("__debug__" : Str)) = false := by decide) (hd : (a == ("__debug__" : Str)) = false := by decide) (hcd : (a == ("__classdict__" : Str)) = false := by decide) :
    ∀ (pins : List (Addr × Obj)) (σ : L2.St) (s0 : Shared) (H0 : Hp) (fp : List Addr), Inv X pins σ H0 s0 -> (∀ b ∈ fp, ∃ o, s0.heap.get? b = some o /\ ∀ v, o.data ≠ .cell v) -> ∀ (pB : List (Addr × Obj)) (s' : Shared) (σ' : L2.St) (H' : Hp) (Q : VK), wipe σ' (own.map (·.2)) = wipe σ (own.map (·.2)) -> Inv (blkS X s0 H0 scope fp) pB σ' H' s' ->
      lowE X.K cl W0 (dSaidS X.env.cells X.N cap T spT τ) σ' H' Q -> wpAny (model X.prog X.w) X.A (eval (.Call (.Name x p) [e] [] pos) (blkS X s0 H0 scope fp).env) (EP (blkS X s0 H0 scope fp) pB σ' Q) (fun _ _ => False) s' := by
  obtain ⟨g, fd, hm, hk, hbd, G⟩ := G
  intro pins σ s0 H0 fp I0 inB pB s' σ' H' Q hw J ⟨F, ρ, M, Qd, Xd, gd, sl, ⟨full, t⟩, pq, w⟩
  refine wpAny_Call_Name_kw (ld_glob J (hg _ _ _ _ _) hm ?_ hdb)
  refine PySem.W.callWith_K (h₀ := X.base) I0.ok.mod.kin hk ?_ (hs _) (by rfl)
  show wpAny _ _ (spliced (backTo pos (starEach [e] (blkS X s0 H0 scope fp).env))) _ _ s'
  rw [hs]
  show wpAny _ _ (spliced ((false, eval e (blkS X s0 H0 scope fp).env) :: backTo pos (starEach [] (blkS X s0 H0 scope fp).env))) _ _ s'
  refine Calls.spliced_cons (thn ((he s0 H0 _ _ fp).pe.run pB s' σ' H' (fun v H' => ∃ F' M' j, Same F F' /\ Good X.K cl F' H' M' /\ Rep X.K cl F' v (.fn j X.env.cells) /\ ∀ cs, CapAt ρ M' X.env.cells X.N cap cs ->
      spT (LamRun T j X.env.cells) (shwM cs M') (fun d M2 => (∀ c ∈ cs, M2 c.2.1 = some (.cel c.2.2.1 c.2.2.2)) /\ Qd d (hidM (adrs cs) M2)) (fun _ _ _ _ => False)) J
    ⟨F, ρ, M, _, Xd, gd, sl, t, fun v H' F' d M' sm g' r ⟨j, ed, q⟩ => ⟨F', M', j, sm, g', ed ▸ r, q⟩, w⟩) fun u s1 ⟨v, H1, I1, r1, F1, M1, j, sm1, g1, rf, q1⟩ => ?_)
  obtain ⟨f, c', L, dV, doc, pm, ctv, rfl, _⟩ := rf.toFn
  obtain rfl : u = Value.ref f := r1
  refine Calls.spliced_nil ⟨I1.kIn, ?_⟩
  -- the cells of the def, as the block found them
  obtain ⟨cs, c1, c2⟩ := cap_find (cl := cl) (ρ := ρ) (F := F) I0 cap hcap fun i hi => by
    obtain ⟨d, h1⟩ := full i hi
    obtain ⟨v, h2, h3⟩ := sl.get i d h1
    refine ⟨d, v, h1, ?_, h3⟩
    have := congrArg (fun l => l[i]?) hw
    simp only [wipe_off (off i hi)] at this
    rw [<- this]; exact h2
  have hat : ∀ c ∈ cs, ∃ y, X.N[c.1]? = some y /\ X.env.cells.lookup y = some c.2.1 := fun c hc => (c2 c hc).1
  have hlow : ∀ c ∈ cs, X.s_0.heap.objs.size <= c.2.1 := fun c hc => by
    obtain ⟨y, _, h⟩ := hat c hc
    exact I0.ok.cab y _ (hfn y) h
  have hfs : ∀ c ∈ cs, c.2.1 ∉ frs X.stack := fun c hc hb => by
    obtain ⟨y, _, h⟩ := hat c hc
    rcases List.mem_cons.mp (I0.stkSub _ hb) with z | z
    · exact I0.cne y _ h z
    · obtain ⟨_, o, ho, _⟩ := I0.ok.funs.mem z
      exact Nat.lt_irrefl _ (Nat.lt_of_lt_of_le (Heap.lt_size ho) (hlow c hc))
  have hH0 : ∀ c ∈ cs, H0 c.2.1 = none := fun c hc => by
    obtain ⟨y, _, h⟩ := hat c hc
    exact I0.freeC y _ h
  have hfp : ∀ c ∈ cs, c.2.1 ∉ fp := fun c hc hb => by
    obtain ⟨o, h1, h2⟩ := inB _ hb
    obtain ⟨_, _, h3, v, u, h4, _⟩ := c2 c hc
    rw [h3] at h1
    cases h1
    exact h2 _ h4
  have hob : ∀ c ∈ cs, s1.heap.get? c.2.1 = some c.2.2.1 := fun c hc => I1.base.keep _ _ (c2 c hc).2.2.1 (hH0 c hc) (hfs c hc) (hfp c hc)
  have hH1 : ∀ c ∈ cs, H1 c.2.1 = none := fun c hc => I1.base.free _ _ (c2 c hc).2.2.1 (hH0 c hc) (hfp c hc)
  have ok1 : ∀ c ∈ cs, CelOk X.K cl F1 c := fun c hc => ((c2 c hc).2.2.2).mono sm1
  have ca : CapAt ρ M1 X.env.cells X.N cap cs := ⟨c1, cap_nd ndN I0.ok.inj (by rw [c1]; exact ndc) hat, hat, fun c hc => (c2 c hc).2.1, fun c hc => g1.freshM (hH1 c hc)⟩
  have e1 : Env0 X.prog X.w X.K X.mg X.base X.A X.stack s1 (shwH cs H1) := by
    obtain ⟨x1, x2, x3, x4, x5, x6, x7, x8⟩ := (show Env0 X.prog X.w X.K X.mg X.base X.A X.stack s1 H1 from I1.env0)
    have off2 : ∀ b, (∀ c ∈ cs, c.2.1 ≠ b) -> shwH cs H1 b = H1 b := fun b h => shwH_out fun hm => by
      obtain ⟨c, hc, z⟩ := List.mem_map.mp hm
      exact h c hc z
    refine ⟨x1, x2, fun b o e => ⟨(x3 b o e).1, ?_⟩, x4, x5, fun b hb => ?_, hok_show x7 hH1 hob, x8⟩
    · rw [off2 b fun c hc z => ?_]
      · exact (x3 b o e).2
      · have := Heap.lt_size (I0.ok.bs b o e).1
        rw [<- z] at this
        exact Nat.lt_irrefl _ (Nat.lt_of_lt_of_le this (hlow c hc))
    · rw [off2 b fun c hc z => hfs c hc (z ▸ hb)]
      exact x6 b hb
  have rc := G X.A X.stack s1 (shwH cs H1) ⟨[.ref f], []⟩ f (fun v H2 => ∃ F2 d M2, Same F1 F2 /\ Good X.K cl F2 H2 M2 /\ Rep X.K cl F2 v d /\ (∀ c ∈ cs, M2 c.2.1 = some (.cel c.2.2.1 c.2.2.2)) /\ Qd d (hidM (adrs cs) M2)) (fun _ _ _ => False) (.fn j X.env.cells) (LamRun T j X.env.cells) F1 (shwM cs M1)
    (fun d M2 => (∀ c ∈ cs, M2 c.2.1 = some (.cel c.2.2.1 c.2.2.2)) /\ Qd d (hidM (adrs cs) M2)) (fun _ _ _ _ => False) c.hr e1 (hbd s1 [.ref f] I1.kIn rfl) (g1.show hH1 ok1) rf
    (fun Ng qg sg cdg Eg W' pn xe p1 p2 cZ hN hv => dAct_app cZ hT hN hv hd hcd) (q1 cs ca) (fun v H2 F2 d M2 sm2 g2 r2 ⟨k1, k2⟩ => ⟨F2, d, M2, sm2, g2, r2, k1, k2⟩) (fun _ _ _ _ _ _ _ _ _ _ z => z)
  refine wpAny_call (codeAny_mono rc fun r s2 hq => ?_)
  cases r with
  | error e =>
    obtain ⟨_, _, _, _, _, _, _, _, _, _, _, _, z⟩ := hq
    exact False.elim z
  | ok fl =>
    cases fl with
    | ret u =>
      obtain ⟨v, H2, os, bare, un, hok, rv, F2, d, M2, sm2, g2, r2, hm2, q2⟩ := hq
      have ho2 : ∀ c ∈ cs, H2 c.2.1 = some (ObO c.2.1 c.2.2.1) := fun c hc => (g2.cel (hm2 c hc)).2.1
      have hb2 : ∀ c ∈ cs, s2.heap.get? c.2.1 = some c.2.2.1 := fun c hc => (hok _ _ (ho2 c hc)).1
      refine I1.after ⟨v, hidH (adrs cs) H2, os, bare, un_hid un hH1 hob hb2 hfs, hok_hide hok fun b hb => ?_, rv, pq v _ F2 d _ (sm1.trans sm2) (g2.hide hm2) r2 q2⟩
      obtain ⟨c, hc, rfl⟩ := List.mem_map.mp hb
      exact ⟨_, ho2 c hc⟩
    | next => exact False.elim hq
    | brk => exact False.elim hq
    | cont => exact False.elim hq
end
section
variable {cl : ClW} {X : Cx} {W : WX} {k : Nat} {x a : Str} {spT : THD -> THD} {τ : DTE} {e tg iter : Expr} {p pos cpos : Pos} {T : Nat -> Option LamT} {cap : List Nat} {scope : Scope} {own : List (Str × Nat)} {ι : DTI} {is : List Nat} {γ : DTG}
theorem d_lcS (c : Cap X W (k + 2)) (G : FnTB cl X.prog X.w X.K X.mg X.base (k + 1) x a spT) (hT : LamsOk cl X.prog X.w X.K X.mg X.base k T) (hfn : ∀ y, X.fn y = true) (ndN : X.N.Nodup) (ndc : cap.Nodup) (hcap : ∀ i ∈ cap, ∃ y, X.N[i]? = some y /\ X.env.scope.names.lookup y = some .cell) (off : ∀ i ∈ cap, i ∉ own.map (·.2))
    (hi : DI cl X W tg iter ι) (ok : BlkOk X.N X.env.scope scope own) (hg : ∀ (s : Shared) (H : Hp) (C : Addr) (cs : List (Str × Addr)) (fp : List Addr), DG cl (X.blk s H scope (compEnvC scope cs C X.env) fp) W0 tg is γ)
    (hgl : ∀ (s : Shared) (H : Hp) (C : Addr) (cs : List (Str × Addr)) (fp : List Addr), Gl (X.blk s H scope (compEnvC scope cs C X.env) fp) x)
    (he : ∀ (s : Shared) (H : Hp) (C : Addr) (cs : List (Str × Addr)) (fp : List Addr), DE cl (X.blk s H scope (compEnvC scope cs C X.env) fp) W0 e τ)
    (his : ∀ i ∈ is, i ∈ own.map (·.2) := by decide) (hs : ∀ env : PySem.Env, starEach [e] env = (false, eval e env) :: starEach [] env := by intro _; rfl) (hf : ∀ x, foldedSetIterable iter X.env x = pure x := by intro _; rfl) (hdb : (x == ("__debug__" : Str)) = false := by decide) (hd : (a == ("__debug__" : Str)) = false := by decide) (hcd : (a == ("__classdict__" : Str)) = false := by decide) :
    DE cl X W (.ListComp (.Call (.Name x p) [e] [] pos) [⟨tg, iter, [], 0⟩] scope cpos) (dLc ι γ dYes (dSaidS X.env.cells X.N cap T spT τ) (own.map (·.2))) :=
  ⟨pe_imp (pe_lcS c.calm ndN hi.pi ok (fun s H C cs fp => (hg s H C cs fp).pg) (fun s H C cs fp => dts_nil.pts) (said_S c G hT hfn ndN ndc hcap off hgl he hs hdb hd hcd) hf) fun σ H Q ⟨F, ρ, M, Qd, Xd, g, s, q, p, w⟩ => lc_lift his g s q p w⟩
end
end DL
set_option Elab.async false
set_option linter.all false
set_option maxRecDepth 100000
set_option maxHeartbeats 4000000
set_option autoImplicit false
namespace DL
open PySem L2
def noS : Stmt := .Pass ⟨0, 0, 0, 0⟩
def noE : Expr := .Constant (.int 0) 0 ⟨0, 0, 0, 0⟩
def subS : Stmt -> List Stmt
  | .For _ _ b _ _ => b
  | .While _ b _ _ => b
  | .If _ b o _ => b ++ o
  | _ => []
def stmtAt : List Stmt -> List Nat -> Stmt
  | _, [] => noS
  | l, [i] => l.getD i noS
  | l, i :: p => stmtAt (subS (l.getD i noS)) p
def valS : Stmt -> Expr
  | .Assign _ v _ => v
  | .Return (some v) _ => v
  | _ => noE
def litE : Expr -> List Expr
  | .List es _ => es
  | .BinOp _ _ (.List es _) _ => es
  | _ => []
def lamSyn (N : List Str) (q : Str) (df : List Int) : Expr -> LamSyn
  | .Lambda p b s _ => ⟨N, q, p, b, s, df⟩
  | e => ⟨N, q, ⟨[], [], none, [], [], none, []⟩, e, { kind := .function, names := [], isGenerator := false, isCoroutine := false }, df⟩
def freeB (sc scope : Scope) : Bool := scope.names.all fun y => !decide (y.2 = .free) || decide (sc.names.lookup y.1 = some .cell) || decide (sc.names.lookup y.1 = some .free)
theorem free_by {sc scope : Scope} (h : freeB sc scope = true) : ∀ y ∈ scope.names, y.2 = .free -> sc.names.lookup y.1 = some .cell \/ sc.names.lookup y.1 = some .free := fun y hy e => by
  unfold freeB at h
  have := List.all_eq_true.mp h y hy
  simp only [Bool.or_eq_true, Bool.not_eq_true', decide_eq_true_eq, decide_eq_false_iff_not] at this
  rcases this with (z | z) | z
  · exact absurd e z
  · exact .inl z
  · exact .inr z
def capB (N : List Str) (sc : Scope) (cap : List Nat) : Bool := cap.all fun i => match N[i]? with
  | some x => decide (sc.names.lookup x = some .cell)
  | none => false
theorem cap_by {N : List Str} {sc : Scope} {cap : List Nat} (h : capB N sc cap = true) : ∀ i ∈ cap, ∃ x, N[i]? = some x /\ sc.names.lookup x = some .cell := fun i hi => by
  unfold capB at h
  have := List.all_eq_true.mp h i hi
  cases e : N[i]? with
  | none => rw [e] at this; cases this
  | some x =>
    rw [e] at this
    exact ⟨x, rfl, by simpa using this⟩
def dAllC (t : Cells -> DTS) : DTS := fun E ρ M => ∀ C, t C E ρ M
theorem dss_allC {cl : ClW} {X : Cx} {W : WX} {sts : List Stmt} {t : Cells -> DTS} (h : DSs cl X W sts (t X.env.cells)) : DSs cl X W sts (dAllC t) :=
  ⟨pss_imp h.pss fun D σ H ⟨F, ρ, M, E, g, s, q, ok⟩ => ⟨F, ρ, M, E, g, s, q _, ok⟩⟩
end DL
set_option Elab.async false
set_option linter.all false
set_option maxRecDepth 100000
set_option maxHeartbeats 4000000
set_option autoImplicit false
namespace DL
open PySem L2 PySem.Builtin PySem.W.FB PySem.W
section
variable {K : PySem.W.Frag} {cl : ClW} {X : Cx}
end
example : litB #[2,3,255] = "b'\\x02\\x03\\xff'" := by decide +kernel
end DL
set_option Elab.async false
set_option linter.all false
set_option maxRecDepth 100000
set_option maxHeartbeats 4000000
set_option autoImplicit false
namespace DL
open PySem L2
def φUpper : D -> List D -> Mem -> DV -> Prop := fun o ds M Q => ∃ a : Str, o = .str a /\ ds = [] /\ a.length <= 5592405 /\ Q (.str (Txt.upper a)) M
def rUpper : V -> List V -> Hp -> VK -> Prop := fun x xs H Q => ∃ a, x = .str a /\ xs = [] /\ a.length <= 5592405 /\ Q (.str (Txt.upper a)) H
theorem mt_upperS {X : Cx} : MtR X "str.upper" rUpper := mt_upper
section
variable {K : PySem.W.Frag} {cl : ClW}
theorem lm_upper : LMt K cl rUpper φUpper := by
  intro F H M x xs d ds Q Qd g rx rs h p
  obtain ⟨a, rfl, rfl, ha, q⟩ := h
  obtain rfl := rx.toStr
  obtain rfl := rs.inv0
  exact ⟨a, rfl, rfl, ha, p _ _ F _ _ (Same.refl F) g (.str _) q⟩
end
end DL
set_option Elab.async false
set_option linter.all false
set_option maxRecDepth 100000
set_option maxHeartbeats 4000000
set_option autoImplicit true
namespace LawProof
open PySem L2 DL
def top (i : Nat) : Stmt := PySem.Challenge.pw_forestrows_k05_questions_refused.main.body.getD i (.Pass ⟨0, 0, 0, 0⟩)
def cl (K : PySem.W.Frag) : Nat -> Addr
  | 0 => He.ga K "Forest"
  | 17 => He.ga K "ForestError"
  | 18 => He.ga K "NoName"
  | 20 => He.ga K "NoForest"
  | 22 => He.ga K "NoNode"
  | 23 => He.ga K "NoPlace"
  | 1006 => tabD K ("_law_asks", none)
  | 1004 => tabD K ("law", none)
  | _ => 0
theorem tabs_cl {K : PySem.W.Frag} (nz0 : tabD K ("law", none) ≠ 0) (nz1 : tabD K ("_law_asks", none) ≠ 0) : tabsOf (cl K) = [(tabD K ("law", none), ("law.<locals>.<lambda>" : Str)), (tabD K ("_law_asks", none), ("_law_asks.<locals>.<lambda>" : Str))] := by
  simp [tabsOf, tabNames, cl, nz0, nz1]
abbrev mtT0 : List ((Nat × Nat) × Bool) := [((22, 22), true), ((22, 23), false), ((22, 18), false), ((22, 20), false), ((22, 17), true), ((23, 22), false), ((23, 23), true), ((23, 18), false), ((23, 20), false), ((23, 17), true), ((18, 22), false), ((18, 23), false), ((18, 18), true), ((18, 20), false), ((18, 17), true), ((20, 22), false), ((20, 23), false), ((20, 18), false), ((20, 20), true), ((20, 17), true)]
abbrev isxT : List ((Nat × Nat) × Bool) := [((22, 22), true), ((22, 23), false), ((22, 18), false), ((22, 20), false), ((22, 17), true), ((23, 22), false), ((23, 23), true), ((23, 18), false), ((23, 20), false), ((23, 17), true), ((18, 22), false), ((18, 23), false), ((18, 18), true), ((18, 20), false), ((18, 17), true), ((20, 22), false), ((20, 23), false), ((20, 18), false), ((20, 20), true), ((20, 17), true)]
abbrev xcs : List Nat := [22, 23, 18, 20]
abbrev s_is_integer : Stmt := top 13
abbrev s_is_sequence : Stmt := top 14
abbrev s_is_name : Stmt := top 15
abbrev s_is_value : Stmt := top 16
abbrev s__law_well : Stmt := top 23
abbrev s__law_draw : Stmt := top 24
abbrev s__law_one : Stmt := top 25
abbrev s__law_names : Stmt := top 26
abbrev s__law_value : Stmt := top 27
abbrev s__law_levels : Stmt := top 28
abbrev s__law_rows : Stmt := top 29
abbrev s_row_fault : Stmt := top 20
abbrev s_Forest___init__ : Stmt := inClass (top 21) 1
abbrev s_Forest_names : Stmt := inClass (top 21) 7
abbrev s_Forest_has_node : Stmt := inClass (top 21) 8
abbrev s_Forest_worth : Stmt := inClass (top 21) 9
abbrev s_Forest_line_to : Stmt := inClass (top 21) 10
abbrev s_Forest_below : Stmt := inClass (top 21) 11
abbrev s_Asked_check_nodes : Stmt := inClass (top 18) 2
abbrev s_Asked_ancestors_of : Stmt := inClass (top 18) 6
abbrev s_Asked_descendants_of : Stmt := inClass (top 18) 7
abbrev s_Asked_parent_of : Stmt := inClass (top 18) 8
abbrev s_Asked_level_of : Stmt := inClass (top 18) 9
abbrev s_Asked_value_of : Stmt := inClass (top 18) 10
abbrev s_Asked_roots : Stmt := inClass (top 18) 11
abbrev s_Asked_children_of : Stmt := inClass (top 18) 12
abbrev s_Asked_rank_of : Stmt := inClass (top 18) 13
abbrev s_Asked_size_of : Stmt := inClass (top 18) 14
abbrev s_Asked_total_of : Stmt := inClass (top 18) 15
abbrev s_Asked_is_above : Stmt := inClass (top 18) 16
abbrev s_Asked_meet_of : Stmt := inClass (top 18) 17
abbrev s_Asked_place_of : Stmt := inClass (top 18) 18
abbrev s_Asked_name_at : Stmt := inClass (top 18) 19
abbrev s__law_said : Stmt := top 30
abbrev s__law_asks : Stmt := top 31
abbrev s__law_no_names : Stmt := top 32
abbrev s_law : Stmt := top 33
abbrev s_NoNode___init__ : Stmt := inClass (top 6) 0
abbrev s_NoPlace___init__ : Stmt := inClass (top 7) 0
def lams : Nat -> Option LamSyn
  | 0 => some (lamSyn ["_law_forest", "_law_name_so", "_law_acts"] "_law_asks.<locals>.<lambda>" [] ((litE (valS (stmtAt (defBody s__law_asks) [5]))).getD 0 noE))
  | 1 => some (lamSyn ["_law_forest", "_law_name_so", "_law_acts"] "_law_asks.<locals>.<lambda>" [0] ((litE (valS (stmtAt (defBody s__law_asks) [4]))).getD 1 noE))
  | 2 => some (lamSyn ["_law_forest", "_law_name_so", "_law_acts"] "_law_asks.<locals>.<lambda>" [] ((litE (valS (stmtAt (defBody s__law_asks) [4]))).getD 0 noE))
  | 3 => some (lamSyn ["_law_forest", "_law_name_so", "_law_acts"] "_law_asks.<locals>.<lambda>" [0] ((litE (valS (stmtAt (defBody s__law_asks) [3]))).getD 1 noE))
  | 4 => some (lamSyn ["_law_forest", "_law_name_so", "_law_acts"] "_law_asks.<locals>.<lambda>" [] ((litE (valS (stmtAt (defBody s__law_asks) [3]))).getD 0 noE))
  | 5 => some (lamSyn ["_law_forest", "_law_name_so", "_law_acts"] "_law_asks.<locals>.<lambda>" [0] ((litE (valS (stmtAt (defBody s__law_asks) [2]))).getD 1 noE))
  | 6 => some (lamSyn ["_law_forest", "_law_name_so", "_law_acts"] "_law_asks.<locals>.<lambda>" [] ((litE (valS (stmtAt (defBody s__law_asks) [2]))).getD 0 noE))
  | 7 => some (lamSyn ["_law_forest", "_law_name_so", "_law_acts"] "_law_asks.<locals>.<lambda>" [] ((litE (valS (stmtAt (defBody s__law_asks) [1]))).getD 0 noE))
  | 8 => some (lamSyn ["_law_forest", "_law_name_so", "_law_acts"] "_law_asks.<locals>.<lambda>" [0] ((litE (valS (stmtAt (defBody s__law_asks) [0]))).getD 1 noE))
  | 9 => some (lamSyn ["_law_forest", "_law_name_so", "_law_acts"] "_law_asks.<locals>.<lambda>" [] ((litE (valS (stmtAt (defBody s__law_asks) [0]))).getD 0 noE))
  | 10 => some (lamSyn ["_law_script", "_law_cell", "_law_well_here", "_law_rows_here", "_law_forest", "_law_names_here", "_law_turn", "_law_odd", "_law_other_so", "_law_good", "_law_acts", "_law_told", "_law_some", "_law_bad", "_law_place", "_law_row", "_law_act"] "law.<locals>.<lambda>" [0] ((litE (valS (stmtAt (defBody s_law) [0, 3, 6]))).getD 1 noE))
  | 11 => some (lamSyn ["_law_script", "_law_cell", "_law_well_here", "_law_rows_here", "_law_forest", "_law_names_here", "_law_turn", "_law_odd", "_law_other_so", "_law_good", "_law_acts", "_law_told", "_law_some", "_law_bad", "_law_place", "_law_row", "_law_act"] "law.<locals>.<lambda>" [] ((litE (valS (stmtAt (defBody s_law) [0, 3, 6]))).getD 0 noE))
  | 12 => some (lamSyn ["_law_script", "_law_cell", "_law_well_here", "_law_rows_here", "_law_forest", "_law_names_here", "_law_turn", "_law_odd", "_law_other_so", "_law_good", "_law_acts", "_law_told", "_law_some", "_law_bad", "_law_place", "_law_row", "_law_act"] "law.<locals>.<lambda>" [0] ((litE (valS (stmtAt (defBody s_law) [0, 3, 4]))).getD 1 noE))
  | 13 => some (lamSyn ["_law_script", "_law_cell", "_law_well_here", "_law_rows_here", "_law_forest", "_law_names_here", "_law_turn", "_law_odd", "_law_other_so", "_law_good", "_law_acts", "_law_told", "_law_some", "_law_bad", "_law_place", "_law_row", "_law_act"] "law.<locals>.<lambda>" [] ((litE (valS (stmtAt (defBody s_law) [0, 3, 4]))).getD 0 noE))
  | _ => none
abbrev clw (K : PySem.W.Frag) (P : Program) (w : World) : ClW := { f := cl K, p := P, w := w, lam := lams }
end LawProof
set_option Elab.async false
set_option linter.all false
set_option maxRecDepth 100000
set_option maxHeartbeats 4000000
set_option autoImplicit true
namespace LawProof
open PySem L2 DL
def d_is_integer : He.DefD := ⟨("is_integer", none), "is_integer", "is_integer", defArgs s_is_integer, defBody s_is_integer, defScope s_is_integer, [], []⟩
def d_is_sequence : He.DefD := ⟨("is_sequence", none), "is_sequence", "is_sequence", defArgs s_is_sequence, defBody s_is_sequence, defScope s_is_sequence, [], []⟩
def d_is_name : He.DefD := ⟨("is_name", none), "is_name", "is_name", defArgs s_is_name, defBody s_is_name, defScope s_is_name, [], []⟩
def d_is_value : He.DefD := ⟨("is_value", none), "is_value", "is_value", defArgs s_is_value, defBody s_is_value, defScope s_is_value, [], []⟩
def d__law_well : He.DefD := ⟨("_law_well", none), "_law_well", "_law_well", defArgs s__law_well, defBody s__law_well, defScope s__law_well, [], []⟩
def d__law_draw : He.DefD := ⟨("_law_draw", none), "_law_draw", "_law_draw", defArgs s__law_draw, defBody s__law_draw, defScope s__law_draw, [], []⟩
def d__law_one : He.DefD := ⟨("_law_one", none), "_law_one", "_law_one", defArgs s__law_one, defBody s__law_one, defScope s__law_one, [], []⟩
def d__law_names : He.DefD := ⟨("_law_names", none), "_law_names", "_law_names", defArgs s__law_names, defBody s__law_names, defScope s__law_names, [], []⟩
def d__law_value : He.DefD := ⟨("_law_value", none), "_law_value", "_law_value", defArgs s__law_value, defBody s__law_value, defScope s__law_value, [], []⟩
def d__law_levels : He.DefD := ⟨("_law_levels", none), "_law_levels", "_law_levels", defArgs s__law_levels, defBody s__law_levels, defScope s__law_levels, [], []⟩
def d__law_rows : He.DefD := ⟨("_law_rows", none), "_law_rows", "_law_rows", defArgs s__law_rows, defBody s__law_rows, defScope s__law_rows, [], []⟩
def d_row_fault : He.DefD := ⟨("row_fault", none), "row_fault", "row_fault", defArgs s_row_fault, defBody s_row_fault, defScope s_row_fault, [], []⟩
def d__law_said : He.DefD := ⟨("_law_said", none), "_law_said", "_law_said", defArgs s__law_said, defBody s__law_said, defScope s__law_said, [], []⟩
def d__law_asks : He.DefD := ⟨("_law_asks", none), "_law_asks", "_law_asks", defArgs s__law_asks, defBody s__law_asks, defScope s__law_asks, [], []⟩
def d__law_no_names : He.DefD := ⟨("_law_no_names", none), "_law_no_names", "_law_no_names", defArgs s__law_no_names, defBody s__law_no_names, defScope s__law_no_names, [], []⟩
def d_law : He.DefD := ⟨("law", none), "law", "law", defArgs s_law, defBody s_law, defScope s_law, [], []⟩
def d_Forest__has_node : He.DefD := ⟨("Forest", some "has_node"), "has_node", "Forest.has_node", defArgs s_Forest_has_node, defBody s_Forest_has_node, defScope s_Forest_has_node, [], []⟩
def d_NoNode____init__ : He.DefD := ⟨("NoNode", some "__init__"), "__init__", "NoNode.__init__", defArgs s_NoNode___init__, defBody s_NoNode___init__, defScope s_NoNode___init__, [], []⟩
def d_Forest__line_to : He.DefD := ⟨("Forest", some "line_to"), "line_to", "Forest.line_to", defArgs s_Forest_line_to, defBody s_Forest_line_to, defScope s_Forest_line_to, [], []⟩
def d_Forest__check_nodes : He.DefD := ⟨("Forest", some "check_nodes"), "check_nodes", "Asked.check_nodes", defArgs s_Asked_check_nodes, defBody s_Asked_check_nodes, defScope s_Asked_check_nodes, [], []⟩
def d_Forest__below : He.DefD := ⟨("Forest", some "below"), "below", "Forest.below", defArgs s_Forest_below, defBody s_Forest_below, defScope s_Forest_below, [], []⟩
def d_Forest__worth : He.DefD := ⟨("Forest", some "worth"), "worth", "Forest.worth", defArgs s_Forest_worth, defBody s_Forest_worth, defScope s_Forest_worth, [], []⟩
def d_Forest__names : He.DefD := ⟨("Forest", some "names"), "names", "Forest.names", defArgs s_Forest_names, defBody s_Forest_names, defScope s_Forest_names, [], []⟩
def d_Forest__roots : He.DefD := ⟨("Forest", some "roots"), "roots", "Asked.roots", defArgs s_Asked_roots, defBody s_Asked_roots, defScope s_Asked_roots, [], []⟩
def d_Forest__children_of : He.DefD := ⟨("Forest", some "children_of"), "children_of", "Asked.children_of", defArgs s_Asked_children_of, defBody s_Asked_children_of, defScope s_Asked_children_of, [], []⟩
def d_Forest__parent_of : He.DefD := ⟨("Forest", some "parent_of"), "parent_of", "Asked.parent_of", defArgs s_Asked_parent_of, defBody s_Asked_parent_of, defScope s_Asked_parent_of, [], []⟩
def d_Forest__descendants_of : He.DefD := ⟨("Forest", some "descendants_of"), "descendants_of", "Asked.descendants_of", defArgs s_Asked_descendants_of, defBody s_Asked_descendants_of, defScope s_Asked_descendants_of, [], []⟩
def d_NoPlace____init__ : He.DefD := ⟨("NoPlace", some "__init__"), "__init__", "NoPlace.__init__", defArgs s_NoPlace___init__, defBody s_NoPlace___init__, defScope s_NoPlace___init__, [], []⟩
def d_Forest__place_of : He.DefD := ⟨("Forest", some "place_of"), "place_of", "Asked.place_of", defArgs s_Asked_place_of, defBody s_Asked_place_of, defScope s_Asked_place_of, [], []⟩
def d_Forest__total_of : He.DefD := ⟨("Forest", some "total_of"), "total_of", "Asked.total_of", defArgs s_Asked_total_of, defBody s_Asked_total_of, defScope s_Asked_total_of, [], []⟩
def d_Forest__value_of : He.DefD := ⟨("Forest", some "value_of"), "value_of", "Asked.value_of", defArgs s_Asked_value_of, defBody s_Asked_value_of, defScope s_Asked_value_of, [], []⟩
def d_Forest__size_of : He.DefD := ⟨("Forest", some "size_of"), "size_of", "Asked.size_of", defArgs s_Asked_size_of, defBody s_Asked_size_of, defScope s_Asked_size_of, [], []⟩
def d_Forest__level_of : He.DefD := ⟨("Forest", some "level_of"), "level_of", "Asked.level_of", defArgs s_Asked_level_of, defBody s_Asked_level_of, defScope s_Asked_level_of, [], []⟩
def d_Forest__ancestors_of : He.DefD := ⟨("Forest", some "ancestors_of"), "ancestors_of", "Asked.ancestors_of", defArgs s_Asked_ancestors_of, defBody s_Asked_ancestors_of, defScope s_Asked_ancestors_of, [], []⟩
def d_Forest__rank_of : He.DefD := ⟨("Forest", some "rank_of"), "rank_of", "Asked.rank_of", defArgs s_Asked_rank_of, defBody s_Asked_rank_of, defScope s_Asked_rank_of, [], []⟩
def d_Forest__name_at : He.DefD := ⟨("Forest", some "name_at"), "name_at", "Asked.name_at", defArgs s_Asked_name_at, defBody s_Asked_name_at, defScope s_Asked_name_at, [], []⟩
def d_Forest__meet_of : He.DefD := ⟨("Forest", some "meet_of"), "meet_of", "Asked.meet_of", defArgs s_Asked_meet_of, defBody s_Asked_meet_of, defScope s_Asked_meet_of, [], []⟩
def d_Forest__is_above : He.DefD := ⟨("Forest", some "is_above"), "is_above", "Asked.is_above", defArgs s_Asked_is_above, defBody s_Asked_is_above, defScope s_Asked_is_above, [], []⟩
def d_Forest____init__ : He.DefD := ⟨("Forest", some "__init__"), "__init__", "Forest.__init__", defArgs s_Forest___init__, defBody s_Forest___init__, defScope s_Forest___init__, [], []⟩
def fn : List He.DefD := [d_is_integer, d_is_sequence, d_is_name, d_is_value, d__law_well, d__law_draw, d__law_one, d__law_names, d__law_value, d__law_levels, d__law_rows, d_row_fault, d__law_said, d__law_asks, d__law_no_names, d_law, d_Forest__has_node, d_NoNode____init__, d_Forest__line_to, d_Forest__check_nodes, d_Forest__below, d_Forest__worth, d_Forest__names, d_Forest__roots, d_Forest__children_of, d_Forest__parent_of, d_Forest__descendants_of, d_NoPlace____init__, d_Forest__place_of, d_Forest__total_of, d_Forest__value_of, d_Forest__size_of, d_Forest__level_of, d_Forest__ancestors_of, d_Forest__rank_of, d_Forest__name_at, d_Forest__meet_of, d_Forest__is_above, d_Forest____init__]
def fa : List He.Fa := [.glo "is_integer", .glo "is_sequence", .glo "is_name", .glo "is_value", .glo "_law_well", .glo "_law_draw", .glo "_law_one", .glo "_law_names", .glo "_law_value", .glo "_law_levels", .glo "_law_rows", .glo "row_fault", .glo "_law_said", .glo "_law_asks", .glo "_law_no_names", .glo "law", .glo "Forest", .cls "Forest", .glo "NoNode", .glo "NoPlace", .glo "NoName", .glo "NoForest", .glo "ForestError", .noat "Forest" "spots", .noat "Forest" "order", .noat "Forest" "rows", .meth "Forest" "has_node", .meth "Forest" "line_to", .meth "Forest" "check_nodes", .meth "Forest" "below", .meth "Forest" "worth", .meth "Forest" "names", .meth "Forest" "roots", .meth "Forest" "children_of", .meth "Forest" "parent_of", .meth "Forest" "descendants_of", .meth "Forest" "place_of", .meth "Forest" "total_of", .meth "Forest" "value_of", .meth "Forest" "size_of", .meth "Forest" "level_of", .meth "Forest" "ancestors_of", .meth "Forest" "rank_of", .meth "Forest" "name_at", .meth "Forest" "meet_of", .meth "Forest" "is_above", .mkr "Forest", .free "isinstance", .free "int", .free "bool", .free "tuple", .free "list", .free "all", .free "str", .free "len", .free "range", .free "enumerate", .free "sum", .free "zip", .free "ValueError", .str "LETTERS" "abcdefghijklmnopqrstuvwxyz", .str "SIGNS" "abcdefghijklmnopqrstuvwxyz0123456789", .int "MOST_SIGNS" 8, .int "MOST_VALUE" 1000000000000000000000000000000]
def ex (K : PySem.W.Frag) : Bool := cvalB K (He.ga K "Forest") "MOST" 60 && (oexB K (He.ga K "NoNode") && (xnB K (He.ga K "NoNode") (He.fAd K ("NoNode", some "__init__")) ["name"] && (oexB K (He.ga K "NoPlace") && (xnB K (He.ga K "NoPlace") (He.fAd K ("NoPlace", some "__init__")) ["place"] && (mtB K (cl K) mtT0 && (isxB K (cl K) isxT && (excsB K (cl K) xcs && (xfOkB K (cl K) [20, 23] "place" && (xfOkB K (cl K) [18, 22] "name" && (utB K (cl K) [(22, "ValueError"), (23, "ValueError"), (18, "ValueError"), (20, "ValueError")] && (decide (tabD K ("_law_asks", none) ≠ tabD K ("law", none)) && (decide (tabD K ("law", none) ≠ tabD K ("_law_asks", none)) && true))))))))))))
theorem ex_0 {K : PySem.W.Frag} (h : ex K = true) : cvalB K (He.ga K "Forest") "MOST" 60 = true := (He.ba h).1
theorem ex_1 {K : PySem.W.Frag} (h : ex K = true) : oexB K (He.ga K "NoNode") = true := (He.ba (He.ba h).2).1
theorem ex_2 {K : PySem.W.Frag} (h : ex K = true) : xnB K (He.ga K "NoNode") (He.fAd K ("NoNode", some "__init__")) ["name"] = true := (He.ba (He.ba (He.ba h).2).2).1
theorem ex_3 {K : PySem.W.Frag} (h : ex K = true) : oexB K (He.ga K "NoPlace") = true := (He.ba (He.ba (He.ba (He.ba h).2).2).2).1
theorem ex_4 {K : PySem.W.Frag} (h : ex K = true) : xnB K (He.ga K "NoPlace") (He.fAd K ("NoPlace", some "__init__")) ["place"] = true := (He.ba (He.ba (He.ba (He.ba (He.ba h).2).2).2).2).1
theorem ex_5 {K : PySem.W.Frag} (h : ex K = true) : mtB K (cl K) mtT0 = true := (He.ba (He.ba (He.ba (He.ba (He.ba (He.ba h).2).2).2).2).2).1
theorem ex_6 {K : PySem.W.Frag} (h : ex K = true) : isxB K (cl K) isxT = true := (He.ba (He.ba (He.ba (He.ba (He.ba (He.ba (He.ba h).2).2).2).2).2).2).1
theorem ex_7 {K : PySem.W.Frag} (h : ex K = true) : excsB K (cl K) xcs = true := (He.ba (He.ba (He.ba (He.ba (He.ba (He.ba (He.ba (He.ba h).2).2).2).2).2).2).2).1
theorem ex_8 {K : PySem.W.Frag} (h : ex K = true) : xfOkB K (cl K) [20, 23] "place" = true := (He.ba (He.ba (He.ba (He.ba (He.ba (He.ba (He.ba (He.ba (He.ba h).2).2).2).2).2).2).2).2).1
theorem ex_9 {K : PySem.W.Frag} (h : ex K = true) : xfOkB K (cl K) [18, 22] "name" = true := (He.ba (He.ba (He.ba (He.ba (He.ba (He.ba (He.ba (He.ba (He.ba (He.ba h).2).2).2).2).2).2).2).2).2).1
theorem ex_10 {K : PySem.W.Frag} (h : ex K = true) : utB K (cl K) [(22, "ValueError"), (23, "ValueError"), (18, "ValueError"), (20, "ValueError")] = true := (He.ba (He.ba (He.ba (He.ba (He.ba (He.ba (He.ba (He.ba (He.ba (He.ba (He.ba h).2).2).2).2).2).2).2).2).2).2).1
theorem ex_11 {K : PySem.W.Frag} (h : ex K = true) : decide (tabD K ("_law_asks", none) ≠ tabD K ("law", none)) = true := (He.ba (He.ba (He.ba (He.ba (He.ba (He.ba (He.ba (He.ba (He.ba (He.ba (He.ba (He.ba h).2).2).2).2).2).2).2).2).2).2).2).1
theorem ex_12 {K : PySem.W.Frag} (h : ex K = true) : decide (tabD K ("law", none) ≠ tabD K ("_law_asks", none)) = true := (He.ba (He.ba (He.ba (He.ba (He.ba (He.ba (He.ba (He.ba (He.ba (He.ba (He.ba (He.ba (He.ba h).2).2).2).2).2).2).2).2).2).2).2).2).1
abbrev R : PySem.W.OpenRow := PySem.W.OpenLaw.row PySem.Challenge.rw_forestrows_k05_questions_refused
def ts : List (Str × Option Str) := [("_law_asks", none), ("law", none)]
abbrev hk : PySem.W.Hook := DL.hookT 4000 ts fa fn ex
abbrev ob (s : PySem.W.SharedT) : He.AlD × (Bool × Bool) := DL.obsT 4000 ts fa fn ex (HandSHeadRun.getT s)
theorem ob_eq (s : PySem.W.SharedT) : ob s = hk.obs s.abs := DL.obsT_eq (HandSHeadRun.getT_eq s)
def loose : List PySem.Str := (["_wall", "__name__", "ForestError", "NoName", "NoForest", "Twice", "NoNode", "NoPlace", "LETTERS", "SIGNS", "MOST_SIGNS", "MOST_VALUE", "is_integer", "is_sequence", "is_name", "is_value", "Asked", "row_fault", "Forest", "_law_well", "_law_draw", "_law_one", "_law_names", "_law_value", "_law_levels", "_law_rows", "_law_said", "_law_asks", "_law_no_names"] : List PySem.Str)
abbrev vq : Program := PySem.W.view R.prog [33]
open PySem PySem.W PySem.Calls PyProof.Rows in
theorem run1 (w : World) (os : OsState) : (HandSHeadRun.endF (HandSHeadRun.stepQ (HandSHeadRun.denQ HandSHeadRun.tabQ) R.prog w) 20000 R.prog w os).map (fun s => (HandSHeadRun.looksF R.prog (boot_heap w.params) s.abs, HandSHeadRun.seenQ vq loose (importedModules R.prog.main.body) (fun s => PySem.W.xlAt vq [] s && PySem.W.recOk R.toRowW.records s) s.abs)) = some (true, PySem.W.openGood vq loose) := by
  kernel_rfl
theorem run2 (w : World) (os : OsState) : (HandSHeadRun.endF (HandSHeadRun.stepQ (HandSHeadRun.denQ HandSHeadRun.tabQ) R.prog w) 20000 R.prog w os).map (fun s => fa.all fun f => f.ok (cutTab (He.frG (HandSHeadRun.getT s) (List.range 4000)) ts)) = some true := by
  kernel_rfl
theorem run3 (w : World) (os : OsState) : (HandSHeadRun.endF (HandSHeadRun.stepQ (HandSHeadRun.denQ HandSHeadRun.tabQ) R.prog w) 20000 R.prog w os).map (fun s => (fn.all fun d => d.ok (cutTab (He.frG (HandSHeadRun.getT s) (List.range 4000)) ts), fn.map fun d => He.fnW (cutTab (He.frG (HandSHeadRun.getT s) (List.range 4000)) ts) d.at_)) = some (true, fn.map He.DefD.val) := by
  kernel_rfl
theorem run4 (w : World) (os : OsState) : (HandSHeadRun.endF (HandSHeadRun.stepQ (HandSHeadRun.denQ HandSHeadRun.tabQ) R.prog w) 20000 R.prog w os).map (fun s => (ex (cutTab (He.frG (HandSHeadRun.getT s) (List.range 4000)) ts), ts.all (tabOk (He.frG (HandSHeadRun.getT s) (List.range 4000)) (cutTab (He.frG (HandSHeadRun.getT s) (List.range 4000)) ts)))) = some (true, true) := by
  kernel_rfl
theorem run (w : World) : HandSHeadRun.RunEq R vq hk ob 20000 loose w := DL.runT_of (run1 w) (run2 w) (run3 w) (run4 w)
end LawProof
set_option Elab.async false
set_option linter.all false
set_option maxRecDepth 100000
set_option maxHeartbeats 4000000
set_option autoImplicit false
namespace FL
open PySem L2 DL
def Lad : Int -> List Int -> Prop
  | _, [] => True
  | m, l :: r => 0 <= l /\ l <= m + 1 /\ Lad l r
def up (c : Int) (r : Row) : Row := ⟨r.nm, r.va, r.lv + c⟩
def subT (rs : List Row) (p : Nat) : List Row := (rs.drop p).take (1 + kids (lvs rs) p)
def blk (rs : List Row) : Option Nat -> List Row
  | none => rs
  | some p => (rs.drop (p + 1)).take (kids (lvs rs) p)
end FL
set_option Elab.async false
set_option linter.all false
set_option maxRecDepth 100000
set_option maxHeartbeats 4000000
set_option autoImplicit false
namespace FL
open PySem L2 DL
def RV (r : Row) : Prop := NameOk r.nm /\ -(10 ^ 30) <= r.va /\ r.va <= 10 ^ 30
def treesR (rs : List Row) (o : Option Nat) : List (List Row) := (sibs (lvs rs) o).map fun c => (subT rs c).map (up (-((lvs rs).getD c 0)))
def withT (rs : List Row) : Option Nat -> List (List Row) -> List Row
  | none, ts => ts.flatten
  | some p, ts => rs.take (p + 1) ++ ts.flatten.map (up ((lvs rs).getD p 0 + 1)) ++ rs.drop (p + 1 + kids (lvs rs) p)
def cutR (rs : List Row) (p : Nat) : List Row := rs.take p ++ rs.drop (p + 1 + kids (lvs rs) p)
def liftR (rs : List Row) (p : Nat) : List Row := rs.take p ++ ((rs.drop (p + 1)).take (kids (lvs rs) p)).map (up (-1)) ++ rs.drop (p + 1 + kids (lvs rs) p)
def subR (rs : List Row) (p : Nat) : List Row := (subT rs p).map (up (-((lvs rs).getD p 0)))
structure TrOk (t : List Row) : Prop where
  lad : Lad (-1) (lvs t)
  rv : ∀ r ∈ t, RV r
section
variable {rs : List Row}
end
end FL
set_option Elab.async false
set_option linter.all false
set_option maxRecDepth 100000
set_option maxHeartbeats 4000000
set_option autoImplicit false
namespace FL
open PySem L2 DL
theorem wipeD_length (ρ : DL.Env) : ∀ vs : List Nat, (wipeD ρ vs).length = ρ.length
  | [] => rfl
  | v :: vs => by simp [wipeD_length ρ vs]
theorem updM_self {M : Mem} {a : Addr} {d : D} (h : M a = some d) : updM M a d = M := by
  funext b
  by_cases e : b = a
  · rw [e, updM_same, h]
  · rw [updM_ne e]
theorem lc_all {j : Nat} {vs1 : List Nat} {a : Addr} {ρ : DL.Env} (hj : j < ρ.length) : ∀ (ys acc : List D) (M : Mem) (R : Mem -> Prop), M a = some (.lst acc) -> acc.length + ys.length <= 16777216 -> R (updM M a (.lst (acc ++ ys))) ->
    lcG (fun _ => True) (gN j) dYes (dVar j) vs1 a ys ρ M R := by
  intro ys
  induction ys with
  | nil => intro acc M R h _ q; rw [List.append_nil, updM_self h] at q; exact ⟨trivial, q⟩
  | cons y ys ih =>
    intro acc M R h hl q
    simp only [List.length_cons] at hl
    refine ⟨trivial, ?_⟩
    simp only [gN, dYes, dVar, if_true]
    refine ⟨y, by rw [List.getElem?_set_self (by rw [wipeD_length]; exact hj)], acc, h, by rw [size_line]; omega, ih _ _ R updM_same (by simp; omega) ?_⟩
    rw [updM_updM, List.append_assoc]
    exact q
def hasN (rs : List Row) : D -> Bool
  | .str z => decide (z.cps.toList ∈ rs.map Row.nm)
  | _ => false
def nmOf : D -> List Nat
  | .str z => z.cps.toList
  | _ => []
def ixOf (rs : List Row) (d : D) : Nat := (rs.map Row.nm).idxOf (nmOf d)
theorem hasN_ix {rs : List Row} {d : D} (h : hasN rs d = true) : ixOf rs d < rs.length /\ d = nmAt rs (ixOf rs d) := by
  cases d with
  | str z =>
    have hm : z.cps.toList ∈ rs.map Row.nm := of_decide_eq_true h
    have hlt := List.idxOf_lt_length_of_mem hm
    have hg := List.getElem_idxOf hlt
    refine ⟨by simpa [ixOf, nmOf] using hlt, ?_⟩
    show D.str z = strD ((rs.map Row.nm).getD ((rs.map Row.nm).idxOf z.cps.toList) [])
    rw [List.getD, List.getElem?_eq_getElem hlt, hg]
    show D.str z = D.str (S z.cps.toList)
    rw [<- S_of]
  | _ => cases h
theorem hasN_at {rs : List Row} {p : Nat} (hp : p < rs.length) : hasN rs (nmAt rs p) = true := by
  obtain ⟨x, hx⟩ := row_at hp
  rw [nmAt_of hx]
  exact decide_eq_true (List.mem_map_of_mem (List.mem_of_getElem? hx))
theorem hasN_str {rs : List Row} (x : List Nat) : hasN rs (strD x) = decide (x ∈ rs.map Row.nm) := rfl
theorem spot_has {rs : List Row} (z : Str) : inD (.str z) (.dK (spotsK rs) (places rs.length)) = some (.bl (hasN rs (.str z))) := by
  have := spot_mem rs z.cps.toList
  rw [strD, <- S_of] at this
  exact this
theorem roots_sibs {rs : List Row} (h : RowsOk rs) : rootsD rs = (sibs (lvs rs) none).map (nmAt rs) := by
  have hl : (lvs rs).length = rs.length := by simp [lvs]
  have L : LevOk (lvs rs) := h.lev
  unfold rootsD sibs
  have e : (List.range (lvs rs).length).filter (fun j => decide ((ancs (lvs rs) j).head? = none)) = (List.range rs.length).filter fun j => decide ((lvs rs).getD j 0 = 0) := by
    rw [hl]
    apply List.filter_congr
    intro j hj
    have hj2 : j < rs.length := by simpa using hj
    have := ancs_nil L (p := j) (by omega)
    congr 1
    rw [<- this]
    simp
  rw [e]
  have key : ∀ n, n <= rs.length -> ((rs.take n).filter fun r => decide (r.lv = 0)).map (fun r => strD r.nm) = ((List.range n).filter fun j => decide ((lvs rs).getD j 0 = 0)).map (nmAt rs) := by
    intro n
    induction n with
    | zero => intro _; simp
    | succ n ih =>
      intro hn
      obtain ⟨x, hx⟩ := row_at (rs := rs) (p := n) (by omega)
      rw [List.take_succ, hx, List.range_succ, List.filter_append, List.filter_append, List.map_append, List.map_append, ih (by omega)]
      congr 1
      have := lvs_of hx
      simp only [Option.toList_some, List.filter_cons, List.filter_nil, this]
      split <;> simp [nmAt_of hx]
  have := key rs.length (Nat.le_refl _)
  rwa [List.take_length] at this
end FL
set_option Elab.async false
set_option linter.all false
set_option maxRecDepth 100000
set_option maxHeartbeats 4000000
set_option autoImplicit false
namespace FL
open PySem L2 DL
inductive Tr where
  | mk (nm : List Nat) (va : Int) (ks : List Tr)
mutual
def flatT (lv : Int) : Tr -> List Row
  | .mk nm va ks => ⟨nm, va, lv⟩ :: flatTs (lv + 1) ks
def flatTs (lv : Int) : List Tr -> List Row
  | [] => []
  | t :: ts => flatT lv t ++ flatTs lv ts
end
end FL
set_option Elab.async false
set_option linter.all false
set_option maxRecDepth 100000
set_option maxHeartbeats 4000000
set_option autoImplicit false
namespace FL
open PySem L2 DL
def fpx : D -> List Addr
  | .ref b => [b]
  | _ => []
def isR : D -> Bool
  | .ref _ => true
  | _ => false
def nodeD (nm : List Nat) (va : Int) (x : D) : D := .lst [strD nm, .int va, x]
mutual
inductive TA (M : Mem) : D -> Tr -> List Addr -> Prop
  | mk {nm : List Nat} {va : Int} {x : D} {ks : List D} {ts : List Tr} {fp : List Addr} : isR x = true -> vw M x = .lst ks -> TAs M ks ts fp -> TA M (nodeD nm va x) (.mk nm va ts) (fpx x ++ fp)
inductive TAs (M : Mem) : List D -> List Tr -> List Addr -> Prop
  | nil : TAs M [] [] []
  | cons {d : D} {t : Tr} {f : List Addr} {ds : List D} {ts : List Tr} {g : List Addr} : TA M d t f -> TAs M ds ts g -> TAs M (d :: ds) (t :: ts) (f ++ g)
end
inductive Sp (M : Mem) : Addr -> List D -> List Tr -> List Addr -> Prop
  | nil {a : Addr} {ks : List D} {ts : List Tr} {fp : List Addr} : M a = some (.lst ks) -> TAs M ks ts fp -> (a :: fp).Nodup -> Sp M a [] ts (a :: fp)
  | cons {a b : Addr} {ks : List D} {ts us : List Tr} {f1 f2 : List Addr} {nm : List Nat} {va : Int} {line : List D} : M a = some (.lst (ks ++ [nodeD nm va (.ref b)])) -> TAs M ks ts f1 -> Sp M b line us f2 -> (a :: (f1 ++ f2)).Nodup ->
      Sp M a (nodeD nm va (.ref b) :: line) (ts ++ [.mk nm va us]) (a :: (f1 ++ f2))
inductive Sub (M : Mem) : List D -> D -> Prop
  | here {ds : List D} {d : D} : d ∈ ds -> Sub M ds d
  | down {ds ks : List D} {d : D} {nm : List Nat} {va : Int} {x : D} : nodeD nm va x ∈ ds -> vw M x = .lst ks -> Sub M ks d -> Sub M ds d
inductive Loc (p : List Nat) (va : Int) (us : List Tr) : List Tr -> Prop
  | here {t1 t2 : List Tr} : Loc p va us (t1 ++ .mk p va us :: t2)
  | down {t1 t2 ks : List Tr} {n : List Nat} {v : Int} : Loc p va us ks -> Loc p va us (t1 ++ .mk n v ks :: t2)
mutual
def setT (p : List Nat) (us : List Tr) : Tr -> Tr
  | .mk n v ks => .mk n v (if n = p then us else setTs p us ks)
def setTs (p : List Nat) (us : List Tr) : List Tr -> List Tr
  | [] => []
  | t :: ts => setT p us t :: setTs p us ts
end
def woTs (p : List Nat) : List Tr -> List Tr
  | [] => []
  | .mk n v ks :: ts => if n = p then woTs p ts else .mk n v (woTs p ks) :: woTs p ts
def liTs (p : List Nat) : List Tr -> List Tr
  | [] => []
  | .mk n v ks :: ts => if n = p then ks ++ liTs p ts else .mk n v (liTs p ks) :: liTs p ts
def nmTs (ts : List Tr) : List (List Nat) := (flatTs 0 ts).map Row.nm
end FL
set_option Elab.async false
set_option linter.all false
set_option maxRecDepth 100000
set_option maxHeartbeats 4000000
set_option autoImplicit false
namespace FL
open PySem L2 DL
structure NodeAt (rs : List Row) (p : List Nat) (us ts : List Tr) (i : Nat) : Prop where
  ix : ixOf rs (strD p) = i
  lt : i < rs.length
  has : hasN rs (strD p) = true
  trees : treesR rs (some i) = us.map (flatT 0)
  set : ∀ us', withT rs (some i) (us'.map (flatT 0)) = flatTs 0 (setTs p us' ts)
  cut : cutR rs i = flatTs 0 (woTs p ts)
  lift : liftR rs i = flatTs 0 (liTs p ts)
  sub : subR rs i = flatTs 0 [.mk p ((rs.map Row.va).getD i 0) us]
  many : (sibs (lvs rs) (some i)).length = us.length
section
variable {pre B post : List Row} {r : Row}
end
def insT (ts : List Tr) (k : Nat) (t : Tr) : List Tr := ts.take k ++ [t] ++ ts.drop k
def wrapT (us : List Tr) (nm : List Nat) (va : Int) (f l : Nat) : List Tr := us.take f ++ [.mk nm va ((us.drop f).take (l - f))] ++ us.drop l
end FL
set_option Elab.async false
set_option linter.all false
set_option maxRecDepth 100000
set_option maxHeartbeats 4000000
set_option autoImplicit false
namespace FL
open PySem L2 DL
def PlaceT (rs : List Row) (ts : List Tr) (p : D) (us : List Tr) : Prop := (p = .non /\ us = ts) \/ ∃ nm va, p = strD nm /\ nm ∈ rs.map Row.nm /\ Loc nm va us ts
section
variable {rs : List Row} {ts us : List Tr} {p : D}
end
structure TrS (M : Mem) (rs : List Row) (r a c : Addr) (ks kc : List D) (ts us : List Tr) (fp fc : List Addr) (p : D) : Prop where
  ha : M a = some (.lst ks)
  T : TAs M ks ts fp
  hc : M c = some (.lst kc)
  Tc : TAs M kc us fc
  P : PlaceT rs ts p us
  hf : flatTs 0 ts = rs
  hr : r ∉ a :: fp
  hcm : c ∈ a :: fp
  hfc : ∀ y ∈ fc, y ∈ fp
end FL
set_option Elab.async false
set_option linter.all false
set_option maxRecDepth 100000
set_option maxHeartbeats 4000000
set_option autoImplicit false
namespace FL
open PySem L2 DL
section
variable {rs : List Row} {ts us vs : List Tr} {p : D} {x : List Nat} {va : Int}
end
section
variable {rs : List Row} {ts us vs : List Tr} {p : D} {x : List Nat} {va : Int}
end
end FL
set_option Elab.async false
set_option linter.all false
set_option maxRecDepth 100000
set_option maxHeartbeats 4000000
set_option autoImplicit false
namespace FL
open PySem L2 DL
def iOf : D -> Int
  | .int i => i
  | _ => 0
def itm (y : D) (i : Nat) : D := match seqs y with
  | some l => l.getD i .non
  | none => .non
def crossI (a b c d : Int) : Bool := (decide (a < c) && (decide (c < b) && decide (b < d))) || (decide (c < a) && (decide (a < d) && decide (d < b)))
structure SRow (m : Int) (y : D) : Prop where
  ex : ∃ n v a b, seqs y = some [strD n, .int v, .int a, .int b] /\ NameOk n /\ -(10 ^ 30) <= v /\ v <= 10 ^ 30 /\ 0 <= a /\ a < m /\ 0 <= b /\ b < m /\ a < b
def nmS (y : D) : List Nat := nmOf (itm y 0)
def aS (y : D) : Int := iOf (itm y 2)
def bS (y : D) : Int := iOf (itm y 3)
end FL
set_option Elab.async false
set_option linter.all false
set_option maxRecDepth 100000
set_option maxHeartbeats 4000000
set_option autoImplicit false
namespace FL
open PySem L2 DL
abbrev EPt := Nat × Option Nat
structure EndsP (ps : List EPt) (line : List Nat) (n : Nat) : Prop where
  asc : ∀ (i j : Nat) (p q : EPt), i < j -> ps[i]? = some p -> ps[j]? = some q -> p.1 < q.1
  low : ∀ (i : Nat) (p : EPt), ps[i]? = some p -> p.1 < n
  cl : ∀ (i : Nat) (p : EPt) (e : Nat), ps[i]? = some p -> p.2 = some e -> p.1 < e /\ e < n
  nest : ∀ (i j : Nat) (p q : EPt) (e : Nat), i < j -> ps[i]? = some p -> ps[j]? = some q -> p.2 = some e -> e < q.1 \/ ∃ e', q.2 = some e' /\ e' < e
  opn : ∀ i, i ∈ line ↔ ∃ b, ps[i]? = some (b, none)
  lasc : line.Pairwise (· < ·)
  cnt : n + line.length = 2 * ps.length
structure EndsFin (es : List (Nat × Nat)) : Prop where
  in_ : ∀ (i : Nat) (p : Nat × Nat), es[i]? = some p -> p.1 < p.2 /\ p.2 < 2 * es.length
  two : ∀ (i j : Nat) (p q : Nat × Nat), i < j -> es[i]? = some p -> es[j]? = some q -> p.1 < q.1 /\ (p.2 < q.1 \/ q.2 < p.2)
def Apart (y z : D) : Prop := nmS y ≠ nmS z /\ (aS y ≠ aS z /\ aS y ≠ bS z /\ bS y ≠ aS z /\ bS y ≠ bS z) /\ crossI (aS y) (bS y) (aS z) (bS z) = false
structure SpOk (m : Int) (ys : List D) : Prop where
  len : ys.length <= 60
  row : ∀ y ∈ ys, SRow m y
  pw : ys.Pairwise Apart
def SH (k n : Nat) (d : D) : Prop := ∃ p, toPyX d = some p /\ p.showable = true /\ p.depth <= k /\ p.shown.length <= n
structure CelX (t : Nat) (c : D) : Prop where
  pl : Pl c
  sh : SH (t + 1) (10100 + 10 * t) c
  bd : ∀ i, c = .int i -> -(10 ^ 31) - (t : Int) <= i /\ i <= 10 ^ 31 + (t : Int)
end FL
set_option Elab.async false
set_option linter.all false
set_option maxRecDepth 100000
set_option maxHeartbeats 4000000
set_option autoImplicit false
namespace FL
open PySem L2 DL
def nmT : Tr -> List Nat
  | .mk n _ _ => n
structure NI where
  nm : List Nat
  va : Int
  ks : List (List Nat)
def inf : List Tr -> List NI
  | [] => []
  | .mk n v us :: ts => ⟨n, v, us.map nmT⟩ :: (inf us ++ inf ts)
def endsT : Nat -> List Tr -> List (Nat × Nat)
  | _, [] => []
  | k, .mk _ _ us :: ts => (k, k + 1 + 2 * (nmTs us).length) :: (endsT (k + 1) us ++ endsT (k + 2 + 2 * (nmTs us).length) ts)
def nkN (o : Option (List Nat)) : NKey := o.map fun p => .inr (S p)
structure Ent where
  k : Option (List Nat)
  a : Addr
  l : List (List Nat)
def KT (M : Mem) (kd : Addr) (es : List Ent) : Prop := (∃ ep, M kd = some (dNP ep (es.map fun e => (nkN e.k, .ref e.a)))) /\ (∀ e ∈ es, M e.a = some (.lst (e.l.map strD))) /\ (kd :: es.map Ent.a).Nodup
def VT (M : Mem) (vd : Addr) (vs : List (List Nat × Int)) : Prop := ∃ ep, M vd = some (dNP ep (vs.map fun p => (nkN (some p.1), .int p.2)))
def ents (ts : List Tr) : List (Option (List Nat) × List (List Nat)) := (none, ts.map nmT) :: (inf ts).map fun i => (some i.nm, i.ks)
section
variable {M M' : Mem} {kd vd r : Addr} {ts : List Tr} {fp : List Addr}
end
end FL
set_option Elab.async false
set_option linter.all false
set_option maxRecDepth 100000
set_option maxHeartbeats 4000000
set_option autoImplicit false
namespace FL
open PySem L2 DL
def Nm (j : Nat) (x : List Nat) : Prop := ∃ p, x = p ++ dg j /\ (∀ c ∈ p, isL c = true) /\ p ≠ [] /\ p.length <= 6
section
variable {M : Mem} {kd vd : Addr} {es e1 e2 : List Ent} {e : Ent}
end
end FL
set_option Elab.async false
set_option linter.all false
set_option maxRecDepth 100000
set_option maxHeartbeats 4000000
set_option autoImplicit false
namespace FL
open PySem L2 DL
structure LF (M M1 : Mem) (r kd vd nr : Addr) (es : List Ent) (vs : List (List Nat × Int)) (nl : List (List Nat)) : Prop where
  kt : KT M1 kd es
  vt : VT M1 vd vs
  nm : M1 nr = some (.lst (nl.map strD))
  nd : (nr :: vd :: kd :: es.map Ent.a).Nodup
  fr : ∀ a ∈ nr :: vd :: kd :: es.map Ent.a, M a = none
  rt : RTo M M1 r
section
variable {M M1 M2 : Mem} {r kd vd nr : Addr} {es e1 e2 : List Ent} {e : Ent} {vs : List (List Nat × Int)} {nl : List (List Nat)}
end
structure LT (es : List Ent) (vs : List (List Nat × Int)) (nl : List (List Nat)) (ts : List Tr) : Prop where
  kp : (es.map fun e => (e.k, e.l)).Perm (ents ts)
  vp : vs.Perm ((inf ts).map fun i => (i.nm, i.va))
  vn : vs.map (·.1) = nl
  nm : ∀ j x, nl[j]? = some x -> Nm j x
  bd : ∀ p ∈ vs, -(10 ^ 30) <= p.2 /\ p.2 <= 10 ^ 30
end FL
set_option Elab.async false
set_option linter.all false
set_option maxRecDepth 100000
set_option maxHeartbeats 4000000
set_option autoImplicit false
namespace FL
open PySem L2 DL
structure FEn where
  n : List Nat
  a : Addr
  l : List Nat
structure FE (M0 M : Mem) (fd wr : Addr) (fs : List FEn) : Prop where
  d : ∃ ep, M fd = some (dNP ep (fs.map fun f => (nkN (some f.n), .ref f.a)))
  c : ∀ f ∈ fs, M f.a = some (.lst (f.l.map fun (i : Nat) => D.int (i : Int)))
  nd : (fd :: wr :: fs.map FEn.a).Nodup
  fr : ∀ a ∈ fd :: wr :: fs.map FEn.a, M0 a = none
  kp : Keep M0 M
  ky : (fs.map FEn.n).Nodup
section
variable {M0 M : Mem} {fd wr : Addr} {fs f1 f2 : List FEn} {f : FEn}
end
def newE (us : List Tr) (k : Nat) (as : List Addr) : List FEn := ((nmTs us).zip (as.zip (endsT k us))).map fun p => ⟨p.1, p.2.1, [p.2.2.1, p.2.2.2]⟩
def EndsD (M : Mem) (ts : List Tr) (d : D) : Prop := ∃ ep as, as.length = (nmTs ts).length /\ d = dNP ep ((newE ts 0 as).map fun f => (nkN (some f.n), .ref f.a)) /\ ∀ f ∈ newE ts 0 as, M f.a = some (.lst (f.l.map fun (i : Nat) => D.int (i : Int)))
end FL
set_option Elab.async false
set_option linter.all false
set_option maxRecDepth 100000
set_option maxHeartbeats 4000000
set_option autoImplicit false
namespace FL
open PySem L2 DL
end FL
set_option Elab.async false
set_option linter.all false
set_option maxRecDepth 100000
set_option maxHeartbeats 4000000
set_option autoImplicit false
namespace FL
open PySem L2 DL
end FL
set_option Elab.async false
set_option linter.all false
set_option maxRecDepth 100000
set_option maxHeartbeats 4000000
set_option autoImplicit false
namespace FL
open PySem L2 DL
end FL
set_option Elab.async false
set_option linter.all false
set_option maxRecDepth 100000
set_option maxHeartbeats 4000000
set_option autoImplicit false
namespace FL
open PySem L2 DL
inductive Clo : List FEn -> List (List Nat) -> Nat -> List FEn -> List (List Nat) -> Nat -> Prop
  | nil (fs : List FEn) (op : List (List Nat)) (k : Nat) : Clo fs op k fs op k
  | pop {f1 f2 fs' : List FEn} {n : List Nat} {a : Addr} {b k k' : Nat} {op op' : List (List Nat)} : Clo (f1 ++ ⟨n, a, [b, k]⟩ :: f2) op (k + 1) fs' op' k' -> Clo (f1 ++ ⟨n, a, [b]⟩ :: f2) (op ++ [n]) k fs' op' k'
end FL
set_option Elab.async false
set_option linter.all false
set_option maxRecDepth 100000
set_option maxHeartbeats 4000000
set_option autoImplicit false
namespace FL
open PySem L2 DL
abbrev Nam := List Nat
def peT (k : Nat) (ts : List Tr) : List (Nam × (Nat × Nat)) := (nmTs ts).zip (endsT k ts)
def posT (ts : List Tr) (x : Nam) : Nat × Nat := ((peT 0 ts).lookup x).getD (0, 0)
section
variable {ts : List Tr} {x y z b : Nam}
end
def bef (ts : List Tr) (x y : Nam) : Prop := (posT ts x).2 < (posT ts y).1
def ins (ts : List Tr) (x y : Nam) : Prop := (posT ts y).1 < (posT ts x).1 /\ (posT ts x).2 < (posT ts y).2
instance (ts : List Tr) (x y : Nam) : Decidable (bef ts x y) := inferInstanceAs (Decidable (_ < _))
instance (ts : List Tr) (x y : Nam) : Decidable (ins ts x y) := inferInstanceAs (Decidable (_ /\ _))
def boxT (ts : List Tr) : Option Nam -> List Nam
  | none => nmTs ts
  | some b => (nmTs ts).filter fun x => decide (ins ts x b)
abbrev Shs := List (Nam × (Int × Int))
def sf (Sh : Shs) (x : Nam) : Int := ((Sh.lookup x).getD (0, 0)).1
def sl (Sh : Shs) (x : Nam) : Int := ((Sh.lookup x).getD (0, 0)).2
def inS (Sh : Shs) (x : Nam) : Bool := (Sh.lookup x).isSome
def fol (Sh : Shs) (x y : Nam) : Prop := sl Sh x <= sf Sh y
def wit (Sh : Shs) (x : Nam) : Option Nam -> Prop
  | none => True
  | some b => sf Sh b <= sf Sh x /\ sl Sh x <= sl Sh b
instance (Sh : Shs) (x y : Nam) : Decidable (fol Sh x y) := inferInstanceAs (Decidable (_ <= _))
instance (Sh : Shs) (x : Nam) : (b : Option Nam) -> Decidable (wit Sh x b)
  | none => inferInstanceAs (Decidable True)
  | some b => inferInstanceAs (Decidable (_ /\ _))
structure ShOk (ts : List Tr) (Sh : Shs) (slack : Int) : Prop where
  nd : (nmTs ts).Nodup
  keys : (Sh.map (·.1)).Nodup
  sub : ∀ p ∈ Sh, p.1 ∈ nmTs ts
  bd : ∀ p ∈ Sh, 0 <= p.2.1 /\ p.2.1 <= p.2.2 /\ p.2.2 <= slack
def insd (ts : List Tr) (Sh : Shs) (b : Option Nam) : List Nam := (boxT ts b).filter fun x => inS Sh x && decide (wit Sh x b)
structure Chn (ts : List Tr) (Sh : Shs) (c : Option Nam -> List Nam) : Prop where
  sub : ∀ b, ∀ x ∈ c b, x ∈ insd ts Sh b
  pw : ∀ b, (c b).Pairwise fun x y => bef ts x y /\ fol Sh x y
inductive KR (c : Option Nam -> List Nam) : Option Nam -> Nam -> Prop
  | here {b : Option Nam} {x : Nam} : x ∈ c b -> KR c b x
  | deep {b : Option Nam} {d x : Nam} : d ∈ c b -> KR c (some d) x -> KR c b x
def Fit (ts : List Tr) (Sh : Shs) (x y : Nam) : Prop := (bef ts x y -> fol Sh x y) /\ (bef ts y x -> fol Sh y x) /\ (ins ts x y -> wit Sh x (some y)) /\ (ins ts y x -> wit Sh y (some x))
section
variable {ts : List Tr} {Sh : Shs} {slack : Int} {c : Option Nam -> List Nam}
end
end FL
set_option Elab.async false
set_option linter.all false
set_option maxRecDepth 100000
set_option maxHeartbeats 4000000
set_option autoImplicit false
namespace FL
open PySem L2 DL
structure SprOk (fx : Nat -> Int) (slack : Int) (at_ last : Int) (ps : List Nat) : Prop where
  up : ps.Pairwise (· < ·)
  first : ∀ p ∈ ps, at_ < (p : Int) /\ last - at_ <= fx p - (p : Int) /\ fx p - (p : Int) <= slack
  mono : ps.Pairwise fun p q => fx p - (p : Int) <= fx q - (q : Int)
end FL
set_option Elab.async false
set_option linter.all false
set_option maxRecDepth 100000
set_option maxHeartbeats 4000000
set_option autoImplicit false
namespace FL
open PySem L2 DL
structure HE where
  n : Nam
  h : Int
  a : Option Nam
def pick1 (ts : List Tr) (Sh : Shs) (y : Nam) (m : Int × Option Nam) (o : HE) : Int × Option Nam := if bef ts o.n y /\ fol Sh o.n y /\ m.1 < o.h then (o.h, some o.n) else m
def pickB (ts : List Tr) (Sh : Shs) (l : List HE) (y : Nam) : Int × Option Nam := l.foldl (pick1 ts Sh y) (0, none)
def bhL (ts : List Tr) (Sh : Shs) (w : Nam -> Int) : List Nam -> List HE -> List HE
  | [], acc => acc
  | y :: ys, acc => bhL ts Sh w ys (acc ++ [⟨y, (pickB ts Sh acc y).1 + w y, (pickB ts Sh acc y).2⟩])
def bh (ts : List Tr) (Sh : Shs) (w : Nam -> Int) (b : Option Nam) : List HE := bhL ts Sh w (insd ts Sh b) []
section
variable {ts : List Tr} {Sh : Shs} {w : Nam -> Int} {slack : Int}
inductive Ch (l : List HE) : Option Nam -> List Nam -> Prop
  | nil : Ch l none []
  | cons {e : HE} {cs : List Nam} : e ∈ l -> Ch l e.a cs -> Ch l (some e.n) (e.n :: cs)
def here1 (m : Option (Nam × Int)) (o : HE) : Option (Nam × Int) := match m with
  | none => some (o.n, o.h)
  | some p => if p.2 < o.h then some (o.n, o.h) else some p
def hereB (l : List HE) : Option (Nam × Int) := l.foldl here1 none
open Classical in
noncomputable def chn (ts : List Tr) (Sh : Shs) (w : Nam -> Int) (b : Option Nam) : List Nam := if h : ∃ cs, Ch (bh ts Sh w b) ((hereB (bh ts Sh w b)).map (·.1)) cs then (Classical.choose h).reverse else []
end
end FL
set_option Elab.async false
set_option linter.all false
set_option maxRecDepth 100000
set_option maxHeartbeats 4000000
set_option autoImplicit false
namespace FL
open PySem L2 DL
structure Full (ts : List Tr) (Sh : Shs) : Prop where
  nd : (nmTs ts).Nodup
  all : ∀ x ∈ nmTs ts, inS Sh x = true
  bf : ∀ x ∈ nmTs ts, ∀ y ∈ nmTs ts, bef ts x y -> fol Sh x y
  in_ : ∀ x ∈ nmTs ts, ∀ y ∈ nmTs ts, ins ts x y -> wit Sh x (some y)
def rk (ts : List Tr) (b : Option Nam) (y : Nam) : Nat := (boxT ts b).countP fun z => decide ((posT ts z).2 <= (posT ts y).2)
def cnt (ts : List Tr) (x : Nam) : Nat := 1 + (boxT ts (some x)).length
section
variable {ts : List Tr} {Sh : Shs} {w : Nam -> Int} {b : Option Nam} {x y z : Nam}
def mxh (l : List HE) : Int := ((0 :: l.map HE.h).max?).getD 0
end
end FL
set_option Elab.async false
set_option linter.all false
set_option maxRecDepth 100000
set_option maxHeartbeats 4000000
set_option autoImplicit false
namespace FL
open PySem L2 DL
end FL
set_option Elab.async false
set_option linter.all false
set_option maxRecDepth 100000
set_option maxHeartbeats 4000000
set_option autoImplicit false
namespace FL
open PySem L2 DL
end FL
set_option Elab.async false
set_option linter.all false
set_option maxRecDepth 100000
set_option maxHeartbeats 4000000
set_option autoImplicit false
namespace FL
open PySem L2 DL
def cands (ts : List Tr) (Sh : Shs) : List Nam := (nmTs ts).filter (inS Sh)
def KDo (rs : List Row) (en : D) (sa : Addr) (cs : List Nam) : D := .obj 42 ["target", "ends", "shifts", "candidates"] [FD rs, en, .ref sa, .lst (cs.map strD)]
abbrev shD (ep : Nat) (Sh : Shs) : D := dNP ep (Sh.map fun s => (nkN (some s.1), .tup [.int s.2.1, .int s.2.2]))
def KpO (M : Mem) (d : D) (ts : List Tr) (Sh : Shs) : Prop := ∃ en sa ep, d = KDo (flatTs 0 ts) en sa (cands ts Sh) /\ EndsD M ts en /\ M sa = some (shD ep Sh)
end FL
set_option Elab.async false
set_option linter.all false
set_option maxRecDepth 100000
set_option maxHeartbeats 4000000
set_option autoImplicit false
namespace FL
open PySem L2 DL
abbrev Wrs := List (Nam × Int)
def wL (L : Wrs) (x : Nam) : Int := (L.lookup x).getD 0
end FL
set_option Elab.async false
set_option linter.all false
set_option maxRecDepth 100000
set_option maxHeartbeats 4000000
set_option autoImplicit false
namespace FL
open PySem L2 DL
structure WP (ts : List Tr) (Sh : Shs) (L : Wrs) (done : List Nam) : Prop where
  keys : L.map (·.1) = done
  rc : ∀ x ∈ done, wL L x = 1 + mxh (bh ts Sh (wL L) (some x))
section
variable {ts : List Tr} {Sh : Shs} {slack : Int} {L : Wrs} {done rest : List Nam} {y : Nam}
end
end FL
set_option Elab.async false
set_option linter.all false
set_option maxRecDepth 100000
set_option maxHeartbeats 4000000
set_option autoImplicit false
namespace FL
open PySem L2 DL
structure KInv (ts : List Tr) (c : Option Nam -> List Nam) (W : List (Option Nam)) (F : List Nam) : Prop where
  nd : F.Nodup
  sub : ∀ d, some d ∈ W -> d ∈ F
  kr : ∀ x ∈ F, KR c none x
  all : ∀ x, KR c none x -> x ∈ F \/ ∃ b ∈ W, KR c b x
section
variable {ts : List Tr} {Sh : Shs} {slack : Int} {c : Option Nam -> List Nam} {W : List (Option Nam)} {F : List Nam} {b : Option Nam}
open Classical in
noncomputable def kept (ts : List Tr) (Sh : Shs) (w : Nam -> Int) : List Nam := (cands ts Sh).filter fun x => decide (KR (chn ts Sh w) none x)
end
end FL
set_option Elab.async false
set_option linter.all false
set_option maxRecDepth 100000
set_option maxHeartbeats 4000000
set_option autoImplicit false
namespace FL
open PySem L2 DL
abbrev Fxs := List (Nat × Int)
section
variable {X : Fxs} {ep : Nat}
structure FxOk (X : Fxs) (many : Nat) (most : Int) : Prop where
  nd : (X.map (·.1)).Nodup
  lt : ∀ p ∈ X, p.1 < many
  bd : ∀ p ∈ X, 0 <= p.2 - (p.1 : Int) /\ p.2 - (p.1 : Int) <= most - many
  mono : ∀ p ∈ X, ∀ q ∈ X, p.1 < q.1 -> p.2 - (p.1 : Int) <= q.2 - (q.1 : Int)
end
end FL
set_option Elab.async false
set_option linter.all false
set_option maxRecDepth 100000
set_option maxHeartbeats 4000000
set_option autoImplicit false
namespace FL
open PySem L2 DL
section
variable {ts : List Tr} {Sh : Shs} {slack m : Int} {R : List D} {ks : List Nam} {n : Nam}
end
section
variable {ts : List Tr} {N : List Int} {last m m' : Int}
end
end FL
set_option Elab.async false
set_option linter.all false
set_option maxRecDepth 100000
set_option maxHeartbeats 4000000
set_option autoImplicit false
namespace FL
open PySem L2 DL
theorem str_ok (s : String) : PyData.strOk (Str.ofString s) = true := by
  unfold PyData.strOk
  rw [Str.ofString_eq_toList]
  show (List.toArray _).all _ = true
  rw [List.all_toArray, List.all_eq_true]
  intro c hc
  obtain ⟨ch, _, rfl⟩ := List.mem_map.mp hc
  refine decide_eq_true ?_
  have h := ch.valid
  have hd : ch.toNat = ch.val.toNat := rfl
  rcases h with h | ⟨_, h⟩
  · rw [hd]
    have : ch.val.toNat < 55296 := h
    omega
  · exact h
end FL
set_option Elab.async false
set_option linter.all false
set_option maxRecDepth 100000
set_option maxHeartbeats 4000000
set_option autoImplicit false
namespace FL
open PySem L2 DL
abbrev Ek := Option Nam × List Nam
def KX (M : Mem) (kd vd : Addr) (E : List Ek) (V : List (Nam × Int)) (fp : List Addr) : Prop := ∃ es vs, KT M kd es /\ VT M vd vs /\ vd ∉ kd :: es.map Ent.a /\ fp = vd :: kd :: es.map Ent.a /\ (es.map fun e => (e.k, e.l)).Perm E /\ vs.Perm V /\ (E.map (·.1)).Nodup /\ (V.map (·.1)).Nodup
def vals (ts : List Tr) : List (Nam × Int) := (inf ts).map fun i => (i.nm, i.va)
section
variable {M M' : Mem} {kd vd : Addr} {E : List Ek} {V : List (Nam × Int)} {fp : List Addr} {k : Option Nam} {l : List Nam}
end
end FL
set_option Elab.async false
set_option linter.all false
set_option maxRecDepth 100000
set_option maxHeartbeats 4000000
set_option autoImplicit false
namespace FL
open PySem L2 DL
def repl (o : Option Nam) (vs ts : List Tr) : List Tr := match o with
  | none => vs
  | some p => setTs p vs ts
def Plc (o : Option Nam) (us ts : List Tr) : Prop := (o = none /\ us = ts) \/ ∃ p va, o = some p /\ Loc p va us ts
section
variable {o : Option Nam} {us ts : List Tr}
end
section
variable {o : Option Nam} {us ts : List Tr} {n : Nam} {v : Int} {i j : Nat}
end
mutual
def svT (x : Nam) (v : Int) : Tr -> Tr
  | .mk n w ks => .mk n (if n = x then v else w) (svTs x v ks)
def svTs (x : Nam) (v : Int) : List Tr -> List Tr
  | [] => []
  | t :: ts => svT x v t :: svTs x v ts
end
section
variable {o : Option Nam} {ts w1 w2 ks : List Tr} {x : Nam} {va : Int}
end
end FL
set_option Elab.async false
set_option linter.all false
set_option maxRecDepth 100000
set_option maxHeartbeats 4000000
set_option autoImplicit false
namespace FL
open PySem L2 DL
section
variable {M M' : Mem} {kd vd : Addr} {E : List Ek} {V : List (Nam × Int)} {fp : List Addr} {n : Nam} {v : Int}
end
structure KF (M M1 : Mem) (kd vd : Addr) (fp : List Addr) (E : List Ek) (V : List (Nam × Int)) : Prop where
  kx : ∃ fp1, KX M1 kd vd E V fp1 /\ ∀ c ∈ fp1, c ∈ fp \/ M c = none
  fr : ∀ c d, c ∉ fp -> M c = some d -> M1 c = some d
  kin : kd ∈ fp
  vin : vd ∈ fp
section
variable {M M1 M2 : Mem} {kd vd : Addr} {E : List Ek} {V : List (Nam × Int)} {fp : List Addr} {n : Nam} {v : Int} {k : Option Nam} {l : List Nam}
end
inductive Spc
  | wrap (put : Bool) (n : Nam) (v : Int) (o : Option Nam) (i j : Nat)
  | set (x : Nam) (v : Int)
  | rev (o : Option Nam)
  | lift (x : Nam)
  | cut (x : Nam)
  | move (x : Nam) (g : Option Nam) (k : Nat)
inductive DoT (ts : List Tr) : Spc -> List Tr -> Prop
  | wrap {put : Bool} {n : Nam} {v : Int} {o : Option Nam} {i j : Nat} {us : List Tr} : Plc o us ts -> i <= j -> j <= us.length -> (if put = true then i = j else i < j) -> n ∉ nmTs ts -> DoT ts (.wrap put n v o i j) (repl o (wrapT us n v i j) ts)
  | set {x : Nam} {v : Int} : x ∈ nmTs ts -> DoT ts (.set x v) (svTs x v ts)
  | rev {o : Option Nam} {us : List Tr} : Plc o us ts -> DoT ts (.rev o) (repl o us.reverse ts)
  | lift {o : Option Nam} {w1 w2 ks : List Tr} {x : Nam} {va : Int} : Plc o (w1 ++ .mk x va ks :: w2) ts -> DoT ts (.lift x) (repl o (w1 ++ ks ++ w2) ts)
  | cut {o : Option Nam} {w1 w2 ks : List Tr} {x : Nam} {va : Int} : Plc o (w1 ++ .mk x va ks :: w2) ts -> DoT ts (.cut x) (repl o (w1 ++ w2) ts)
  | move {o g : Option Nam} {w1 w2 ks us : List Tr} {x : Nam} {va : Int} {k : Nat} : Plc o (w1 ++ .mk x va ks :: w2) ts -> Plc g us (repl o (w1 ++ w2) ts) -> k <= us.length -> DoT ts (.move x g k) (repl g (insT us k (.mk x va ks)) (repl o (w1 ++ w2) ts))
end FL
set_option Elab.async false
set_option linter.all false
set_option maxRecDepth 100000
set_option maxHeartbeats 4000000
set_option autoImplicit false
namespace FL
open PySem L2 DL
end FL
set_option Elab.async false
set_option linter.all false
set_option maxRecDepth 100000
set_option maxHeartbeats 4000000
set_option autoImplicit false
namespace FL
open PySem L2 DL
section
variable {M : Mem} {kd vd : Addr} {ts : List Tr} {fp : List Addr}
end
end FL
set_option Elab.async false
set_option linter.all false
set_option maxRecDepth 100000
set_option maxHeartbeats 4000000
set_option autoImplicit false
namespace FL
open PySem L2 DL
section
variable {ts : List Tr} {Sh : Shs} {X : Fxs}
end
end FL
set_option Elab.async false
set_option linter.all false
set_option maxRecDepth 100000
set_option maxHeartbeats 4000000
set_option autoImplicit false
namespace FL
open PySem L2 DL
section
variable {ts : List Tr} {Sh : Shs} {w : Nam -> Int} {slack : Int} {b : Option Nam}
structure HInv (ts : List Tr) (Sh : Shs) (w : Nam -> Int) (l : List HE) : Prop where
  low : l.Pairwise fun o e => bef ts o.n e.n -> fol Sh o.n e.n -> o.h + w e.n <= e.h
  own : ∀ e ∈ l, w e.n <= e.h
  ex : ∀ e ∈ l, (e.a = none /\ e.h = w e.n) \/ ∃ f ∈ l, e.a = some f.n /\ e.h = f.h + w e.n
end
end FL
set_option Elab.async false
set_option linter.all false
set_option maxRecDepth 100000
set_option maxHeartbeats 4000000
set_option autoImplicit false
namespace FL
open PySem L2 DL
instance (ts : List Tr) (Sh : Shs) (x y : Nam) : Decidable (Fit ts Sh x y) := by unfold Fit; exact inferInstance
section
variable {ts : List Tr} {Sh : Shs} {slack : Int}
end
section
variable {ts : List Tr} {N : List Int} {m m' : Int} {R : List D} {w : Nam -> Int}
end
end FL
set_option Elab.async false
set_option linter.all false
set_option maxRecDepth 100000
set_option maxHeartbeats 4000000
set_option autoImplicit false
namespace FL
open PySem
end FL
set_option Elab.async false
set_option linter.all false
set_option maxRecDepth 100000
set_option maxHeartbeats 4000000
set_option autoImplicit false
namespace FL
open PySem L2 DL
def rkAt (ls : List Int) (p : Nat) : Nat := (sibs ls (ancs ls p).head?).idxOf p
def lineT (ls : List Int) (p : Nat) : List Nat := (ancs ls p).reverse ++ [p]
end FL
set_option Elab.async false
set_option linter.all false
set_option maxRecDepth 100000
set_option maxHeartbeats 4000000
set_option autoImplicit false
namespace FL
open PySem L2 DL
structure PR where
  ab : List Nat
  be : List Nat
  st : Int
  rk : Int
  va : Int
structure PR.Ok (r : PR) : Prop where
  na : NameOk r.ab
  nb : NameOk r.be
  v0 : -(10 ^ 30) <= r.va
  v1 : r.va <= 10 ^ 30
  s0 : 0 <= r.st
  self : r.st = 0 ↔ r.ab = r.be
  r0 : 0 <= r.rk
def pairP (rs : List Row) (p a k : Nat) : PR := ⟨(rs.map Row.nm).getD a [], (rs.map Row.nm).getD p [], k, (rkAt (lvs rs) a : Nat), (rs.map Row.va).getD p 0⟩
def pairsPAt (rs : List Row) (p : Nat) : List PR := (lineT (lvs rs) p).zipIdx.map fun z => pairP rs p z.1 ((lineT (lvs rs) p).length - 1 - z.2)
def pairsP (rs : List Row) : List PR := (List.range rs.length).flatMap (pairsPAt rs)
structure PX (rs : List Row) (X : List PR) : Prop where
  ok : RowsOk rs
  perm : X.Perm (pairsP rs)
section
variable {rs : List Row} {X : List PR}
end
end FL
set_option Elab.async false
set_option linter.all false
set_option maxRecDepth 100000
set_option maxHeartbeats 4000000
set_option autoImplicit false
namespace FL
open PySem L2 DL
def optS : Option (List Nat) -> D
  | none => .non
  | some n => strD n
@[simp] theorem vw_optS {M : Mem} {o : Option (List Nat)} : vw M (optS o) = optS o := by cases o <;> rfl
end FL
set_option Elab.async false
set_option linter.all false
set_option maxRecDepth 100000
set_option maxHeartbeats 4000000
set_option autoImplicit false
namespace FL
open PySem L2 DL
section
variable {γ : DTG} {υ : DTT} {τk τv : DTE} {vs : List Nat} {a : Addr} {Q : DV} {ρ : DL.Env}
end
end FL
set_option Elab.async false
set_option linter.all false
set_option maxRecDepth 100000
set_option maxHeartbeats 4000000
set_option autoImplicit false
namespace FL
open PySem L2 DL
end FL
set_option Elab.async false
set_option linter.all false
set_option maxRecDepth 100000
set_option maxHeartbeats 4000000
set_option autoImplicit false
namespace FL
open PySem L2 DL
def PR.l (r : PR) : List D := [strD r.ab, strD r.be, .int r.st, .int r.rk, .int r.va]
abbrev Held (M : Mem) (zs : List D) : Prop := ∀ z ∈ zs, ∀ a, z = .ref a -> (M a).isSome
structure HandT (M : Mem) (d : D) : Prop where
  ty : ∃ n, tyName (vw M d) = some n
  at_ : ∀ a, d = .ref a -> (M a).isSome
  rows : ∀ zs, seqs (vw M d) = some zs -> (∀ y ∈ zs.map (vw M), PlRow y) /\ Held M zs /\ zs.length <= 10000000
end FL
set_option Elab.async false
set_option linter.all false
set_option maxRecDepth 100000
set_option maxHeartbeats 4000000
set_option autoImplicit false
namespace FL
open PySem L2 DL PyProof.Rows PySem.W
end FL
set_option Elab.async false
set_option linter.all false
set_option maxRecDepth 100000
set_option maxHeartbeats 4000000
set_option autoImplicit false
namespace FL
open PySem L2 DL
section
variable {γ : DTG} {υ : DTT} {τk τv : DTE} {vs : List Nat} {a : Addr} {Q : DV} {ρ : DL.Env} {M : Mem} {α : Type}
end
end FL
set_option Elab.async false
set_option linter.all false
set_option maxRecDepth 100000
set_option maxHeartbeats 4000000
set_option autoImplicit false
namespace FL
open PySem L2 DL
section
variable {γ : DTG} {υ : DTT} {τk τv : DTE} {vs : List Nat} {a : Addr} {Q : DV} {ρ : DL.Env} {M : Mem} {α : Type}
end
section
variable {α : Type} [DecidableEq α]
structure LP (M0 M : Mem) (P : List α) (cf : α -> Addr) (g : α -> List D) : Prop where
  nd : P.Nodup
  at_ : ∀ p ∈ P, M0 (cf p) = none /\ M (cf p) = some (.lst (g p))
  inj : ∀ p ∈ P, ∀ q ∈ P, cf p = cf q -> p = q
end
end FL
set_option Elab.async false
set_option linter.all false
set_option maxRecDepth 100000
set_option maxHeartbeats 4000000
set_option autoImplicit false
namespace FL
open PySem L2 DL
structure HL (M : Mem) (h : Addr) (as : List Addr) (X : List PR) : Prop where
  li : M h = some (.lst (as.map D.ref))
  len : as.length = X.length
  nh : h ∉ as
  at_ : ∀ (i : Nat) (a : Addr), as[i]? = some a -> ∃ r, X[i]? = some r /\ M a = some (.lst r.l)
end FL
set_option Elab.async false
set_option linter.all false
set_option maxRecDepth 100000
set_option maxHeartbeats 4000000
set_option autoImplicit false
namespace FL
open PySem L2 DL PyProof.Rows PySem.W
theorem nin_nm {x : List Nat} {ys : List Row} : ninD (strD x) (.lst (ys.map fun r => strD r.nm)) = some (.bl !(decide (x ∈ ys.map Row.nm))) := by
  have f2 : (ys.map fun r => strD r.nm).all flatD = true := by simp [strD]
  have f3 : (ys.map fun r => strD r.nm) = (ys.map Row.nm).map strD := by simp
  rw [ninD_def, inB_lst, show flatD (strD x) = true from rfl, f2, f3]
  simp only [Bool.and_self, if_true]
  rw [show strD x = .str (S x) from rfl, mem_made]
  rfl
end FL
set_option Elab.async false
set_option linter.all false
set_option maxRecDepth 100000
set_option maxHeartbeats 4000000
set_option autoImplicit true
namespace LawProof
open PySem L2 DL FL
theorem mem_letters {c : Nat} (h : isL c = true) : c ∈ ("abcdefghijklmnopqrstuvwxyz" : Str).cps.toList := by
  have h1 : c ∈ List.range' 97 26 := by simp [isL] at h; simp [List.mem_range'_1]; omega
  have h2 : ∀ c ∈ List.range' 97 26, c ∈ ("abcdefghijklmnopqrstuvwxyz" : Str).cps.toList := by decide +kernel
  exact h2 c h1
theorem mem_signs {c : Nat} (h : isS c = true) : c ∈ ("abcdefghijklmnopqrstuvwxyz0123456789" : Str).cps.toList := by
  have h1 : c ∈ List.range' 97 26 ++ List.range' 48 10 := by simp [isS, isL] at h; simp [List.mem_range'_1]; omega
  have h2 : ∀ c ∈ List.range' 97 26 ++ List.range' 48 10, c ∈ ("abcdefghijklmnopqrstuvwxyz0123456789" : Str).cps.toList := by decide +kernel
  exact h2 c h1
def sp_is_integer : SpD := fun ds M Q _ => ∃ d n, ds = [d] /\ tyName (vw M d) = some n /\ Q (.bl (n == "int")) M
abbrev N_is_integer : List Str := ["thing"]
def t_is_integer : DTS := (dRet (dAndV (dCB isiF (dCons (dVar 0) (dCons (dC (.ty "int")) dNil))) (dNotV (dCB isiF (dCons (dVar 0) (dCons (dC (.ty "bool")) dNil))))))
theorem pure_is_integer : ∀ ds M Q E, sp_is_integer ds M Q E -> ds.length = 1 /\ t_is_integer (dEnds Q E) (startD N_is_integer ds) M := by
  rintro ds M Q E ⟨d, n, rfl, h, q⟩
  refine ⟨rfl, ?_⟩
  have hn := tyName_mem h
  simp [t_is_integer, isiF, h]
  simp [tyNames] at hn
  rcases hn with rfl | rfl | rfl | rfl | rfl | rfl | rfl | rfl <;> simpa [tyNames, isTy] using q
def sp_is_sequence : SpD := fun ds M Q _ => ∃ d n, ds = [d] /\ tyName (vw M d) = some n /\ Q (.bl (n == "list" || n == "tuple")) M
abbrev N_is_sequence : List Str := ["thing"]
def t_is_sequence : DTS := (dRet (dCB isiF (dCons (dVar 0) (dCons (dTup (dCons (dC (.ty "list")) (dCons (dC (.ty "tuple")) dNil))) dNil))))
theorem pure_is_sequence : ∀ ds M Q E, sp_is_sequence ds M Q E -> ds.length = 1 /\ t_is_sequence (dEnds Q E) (startD N_is_sequence ds) M := by
  rintro ds M Q E ⟨d, n, rfl, h, q⟩
  refine ⟨rfl, ?_⟩
  have hn := tyName_mem h
  simp [t_is_sequence, isiF, h]
  simp [tyNames] at hn
  rcases hn with rfl | rfl | rfl | rfl | rfl | rfl | rfl | rfl <;> simpa [tyNames, isTy] using q
def sp_is_name : SpD := fun ds M Q _ => ∃ cs, ds = [.str (S cs)] /\ NameOk cs /\ Q (.bl true) M
abbrev N_is_name : List Str := ["thing", "sign"]
def t_is_name : DTS := (dSeq (dIf (dOr (dNot (dTest (dCB isiF (dCons (dVar 0) (dCons (dC (.ty "str")) dNil))))) (dNot (dTest (dChain leD leD (dC (.int 1)) (dCB lenF (dCons (dVar 0) dNil)) (dC (.int 8)))))) (dRet (dC (.bl false))) dNext)
    (dRet (dAndV (dOp inD (dOp ixA (dVar 0) (dC (.int 0))) (dC (.str "abcdefghijklmnopqrstuvwxyz"))) (dCB allF (dCons (dLc (iS (dVar 0)) (gN 1) dYes (dOp inD (dVar 1) (dC (.str "abcdefghijklmnopqrstuvwxyz0123456789"))) [1]) dNil)))))
theorem pure_is_name : ∀ ds M Q E, sp_is_name ds M Q E -> ds.length = 1 /\ t_is_name (dEnds Q E) (startD N_is_name ds) M := by
  rintro ds M Q E ⟨cs, rfl, h, q⟩
  refine ⟨rfl, ?_⟩
  obtain ⟨c, r, rfl, hr, hc, hs⟩ := h
  have h1 : r.length + 1 <= 16777216 := by omega
  have h2 : (0 : Int) <= r.length := by omega
  have h3 : (r.length : Int) + 1 <= 8 := by omega
  simp [t_is_name, isiF, tyName, tyNames, isTy, lenF, S, Str.length, dLc, ixD, h1, h2, h3, inStr_1, mem_letters hc]
  refine .inr ⟨by omega, fun a ha => ?_⟩
  refine lcD_fn (fun x => some (.bl true)) _ (by simp; omega) ha ?_ ?_
  · intro x hx M1 T _ hT
    obtain ⟨e, he, rfl⟩ : ∃ e, (e = c \/ e ∈ r) /\ x = .str ⟨#[e]⟩ := by
      simpa [eq_comm] using hx
    have hse : isS e = true := by
      rcases he with rfl | he
      · exact isL_S hc
      · exact hs e he
    simp [inStr_1, mem_signs hse]
    exact hT
  · rw [fm_const]
    simp [bls_rep, List.length_map]
    exact q
def sp_is_value : SpD := fun ds M Q _ => ∃ i : Int, ds = [.int i] /\ -(10 ^ 30) <= i /\ i <= 10 ^ 30 /\ Q (.bl true) M
abbrev N_is_value : List Str := ["thing"]
def t_is_value : DTS := (dRet (dAndV (dCall sp_is_integer [] (dCons (dVar 0) dNil)) (dChain leD leD (dUn negD (dC (.int 1000000000000000000000000000000))) (dVar 0) (dC (.int 1000000000000000000000000000000)))))
theorem pure_is_value : ∀ ds M Q E, sp_is_value ds M Q E -> ds.length = 1 /\ t_is_value (dEnds Q E) (startD N_is_value ds) M := by
  rintro ds M Q E ⟨i, rfl, h0, h1, q⟩
  refine ⟨rfl, ?_⟩
  simp [t_is_value, sp_is_integer, tyName]
  have e0 : -1000000000000000000000000000000 <= i := h0
  have e1 : i <= 1000000000000000000000000000000 := h1
  simp [e0, e1, q]
def sp__law_well : SpD := fun ds M Q _ => ∃ i : Int, ds = [.int i] /\ ∀ r M', M r = none -> Well M' r 0 -> (∀ b, b ≠ r -> M' b = M b) -> Q (.ref r) M'
abbrev N__law_well : List Str := ["_law_cell"]
def t__law_well : DTS := (dRet (dLstM (dCons (dOp mulD (dVar 0) (dCB intF (dCons (dOp geD (dVar 0) (dOp powD (dC (.int 10)) (dC (.int 18)))) dNil))) (dCons (dOp modD (dCB intF (dCons (dVar 0) dNil)) (dC (.int 2147483629))) (dCons (dC (.int 0)) dNil)))))
theorem pure__law_well : ∀ ds M Q E, sp__law_well ds M Q E -> ds.length = 1 /\ t__law_well (dEnds Q E) (startD N__law_well ds) M := by
  rintro ds M Q E ⟨i, rfl, q⟩
  refine ⟨rfl, ?_⟩
  have hm : (-18446744073709551616 < (if (1000000000000000000 : Int) <= i then (1 : Int) else 0) /\ (if (1000000000000000000 : Int) <= i then (1 : Int) else 0) < 18446744073709551616) := by split <;> omega
  simp (disch := first | (simp; done) | omega) [t__law_well, dLstM]
  refine fun r hr => q r _ hr ⟨_, _, _, updM_same, ?_, ?_, ?_, ?_⟩ (fun b hb => updM_ne hb) <;> omega
def sp__law_draw : SpD := fun ds M Q _ => ∃ (r : Addr) (m : Int) (n : Nat), ds = [.ref r, .int m] /\ Well M r n /\ n <= 100000000000000 /\ 0 < m /\ m <= 10 ^ 30 /\ ∀ k M', 0 <= k -> k < m -> WTo M M' r (n + 1) -> Q (.int k) M'
abbrev N__law_draw : List Str := ["_law_well_here", "_law_many", "_law_digit", "_law_mixed"]
def t__law_draw : DTS := (dSeq (dIf (dTest (dOp gtD (dOp ixA (dVar 0) (dC (.int 0))) (dC (.int 0)))) (dSeq (dAsg (dOp modD (dCB intF (dCons (dOp ixA (dVar 0) (dC (.int 0))) dNil)) (dVar 1)) (gN 2))
    (dSeq (dAsg (dOp fdivD (dOp ixA (dVar 0) (dC (.int 0))) (dVar 1)) (gSubL (dVar 0) (dC (.int 0))))
    (dRet (dVar 2)))) dNext)
    (dSeq (dAsg (dOp addD (dOp ixA (dVar 0) (dC (.int 2))) (dC (.int 1))) (gSubL (dVar 0) (dC (.int 2))))
    (dSeq (dAsg (dOp modD (dCB intF (dCons (dOp powD (dOp addD (dOp addD (dOp ixA (dVar 0) (dC (.int 1))) (dOp mulD (dC (.int 50021)) (dOp ixA (dVar 0) (dC (.int 2))))) (dC (.int 17))) (dC (.int 3))) dNil)) (dC (.int 2147483647))) (gN 3))
    (dSeq (dAsg (dOp modD (dCB intF (dCons (dOp mulD (dOp addD (dVar 3) (dOp ixA (dVar 0) (dC (.int 2)))) (dOp addD (dOp fdivD (dVar 3) (dC (.int 1021))) (dC (.int 69621)))) dNil)) (dC (.int 2147483587))) (gN 3))
    (dRet (dOp modD (dCB intF (dCons (dOp fdivD (dOp modD (dCB intF (dCons (dOp mulD (dVar 3) (dOp addD (dOp fdivD (dVar 3) (dC (.int 2017))) (dC (.int 48271)))) dNil)) (dC (.int 2147483563))) (dC (.int 3))) dNil)) (dVar 1)))))))
theorem pure__law_draw : ∀ ds M Q E, sp__law_draw ds M Q E -> ds.length = 2 /\ t__law_draw (dEnds Q E) (startD N__law_draw ds) M := by
  rintro ds M Q E ⟨r, m, n, rfl, ⟨a, b, c, hM, hb, hb2, hc, hcn⟩, hn, hm, hm2, q⟩
  refine ⟨rfl, ?_⟩
  by_cases ha : 0 < a
  · simp (disch := first | (simp; done) | omega) [t__law_draw, vw_ref hM, ha, hM, ixN]
    exact q _ _ (Int.emod_nonneg _ (by omega)) (Int.emod_lt_of_pos _ hm) (.put hb hb2 hc (by omega))
  · simp (disch := first | (simp; done) | omega) [t__law_draw, vw_ref hM, ha, hM, ixN]
    exact ⟨by omega, q _ _ (Int.emod_nonneg _ (by omega)) (Int.emod_lt_of_pos _ hm) (.put hb hb2 (by omega) (by omega))⟩
def sp__law_one : SpD := fun ds M Q _ => ∃ (r : Addr) (d : D) (xs : List D) (n : Nat), ds = [.ref r, d] /\ Well M r n /\ n <= 100000000000000 /\ d ≠ .ref r /\ (∀ a, d = .ref a -> (M a).isSome) /\
  ((vw M d = .lst xs /\ xs.length <= 16777216) \/ ∃ cs : List Nat, vw M d = .str (S cs) /\ cs.length <= 16777216 /\ xs = cs.map fun c => D.str ⟨#[c]⟩) /\ xs ≠ [] /\ ∀ x M', x ∈ xs -> WTo M M' r (n + 1) -> Q x M'
abbrev N__law_one : List Str := ["_law_well_here", "_law_some"]
def t__law_one : DTS := (dRet (dOp ixA (dVar 1) (dCall sp__law_draw [] (dCons (dVar 0) (dCons (dCB lenF (dCons (dVar 1) dNil)) dNil)))))
theorem vw_wto {M M' : Mem} {r : Addr} {n : Nat} {d : D} (k : WTo M M' r n) (h : d ≠ .ref r) (h2 : ∀ a, d = .ref a -> (M a).isSome) : vw M' d = vw M d := by
  cases d with
  | ref a =>
    have h3 := h2 a rfl
    cases e : M a with
    | none => rw [e] at h3; cases h3
    | some c => rw [vw_ref e, vw_ref (k.keep a c (fun z => h (by rw [z])) e)]
  | _ => rfl
theorem pure__law_one : ∀ ds M Q E, sp__law_one ds M Q E -> ds.length = 2 /\ t__law_one (dEnds Q E) (startD N__law_one ds) M := by
  rintro ds M Q E ⟨r, d, xs, n, rfl, hw, hn, hd, hs, hx, hne, q⟩
  refine ⟨rfl, ?_⟩
  have hpos : 0 < xs.length := List.length_pos_iff.mpr hne
  rcases hx with ⟨hv, hl⟩ | ⟨cs, hv, hl, rfl⟩
  · simp [t__law_one, hv, sp__law_draw]
    refine ⟨n, hw, hn, hpos, by omega, fun k M' hk0 hk1 hto => ?_⟩
    obtain ⟨j, rfl⟩ := Int.eq_ofNat_of_zero_le hk0
    have hj : j < xs.length := by omega
    rw [vw_wto hto hd hs, hv]
    simp [atI_at, hj, hk0]
    exact q _ _ (List.getElem_mem hj) hto
  · have hp : 0 < cs.length := by simpa using hpos
    simp [t__law_one, hv, sp__law_draw, lenF, S, Str.length, hl]
    refine ⟨n, hw, hn, hp, by omega, fun k M' hk0 hk1 hto => ?_⟩
    obtain ⟨j, rfl⟩ := Int.eq_ofNat_of_zero_le hk0
    have hj : j < cs.length := by omega
    rw [vw_wto hto hd hs, hv]
    simp [ixD, atI_at, hj, hk0, S, Str.length, hl]
    exact q _ _ (List.mem_map.mpr ⟨cs[j], List.getElem_mem hj, rfl⟩) hto
def Fresh (x : List Nat) : Prop := NameOk x /\ ∀ r, x = 113 :: r -> ∃ e ∈ r, isL e = true
def Made (k : Nat) (x : List Nat) : Prop := Fresh x \/ ∃ j, j < k /\ x = 113 :: dg j
theorem made_ok {k : Nat} {x : List Nat} (hk : k <= 60) (h : Made k x) : NameOk x := by
  rcases h with h | ⟨j, hj, rfl⟩
  · exact h.1
  · have hd : (∀ e ∈ dg j, 48 <= e /\ e <= 57) /\ (dg j).length <= 2 := dg_ok ⟨j, by omega⟩
    refine ⟨113, dg j, rfl, by omega, by decide, fun e he => ?_⟩
    have := hd.1 e he
    simp [isS]; omega
theorem made_mono {k m : Nat} {x : List Nat} (l : k <= m) (h : Made k x) : Made m x := by
  rcases h with h | ⟨j, hj, rfl⟩
  · exact .inl h
  · exact .inr ⟨j, by omega, rfl⟩
theorem made_new {k : Nat} {x : List Nat} (hk : k < 60) (h : Made k x) : x ≠ 113 :: dg k := by
  rintro rfl
  have hd : (∀ e ∈ dg k, 48 <= e /\ e <= 57) /\ (dg k).length <= 2 := dg_ok ⟨k, hk⟩
  rcases h with h | ⟨j, hj, e⟩
  · obtain ⟨e, he, hl⟩ := h.2 _ rfl
    have := hd.1 e he
    simp [isL] at hl
    omega
  · have := dg_inj ⟨k, hk⟩ ⟨j, by omega⟩ (by simpa using e)
    have := congrArg Fin.val this
    simp at this
    omega
theorem dg_q99 : ∀ j : Fin 60, dg j.val ≠ [57, 57] := by decide +kernel
theorem made_q99 {k : Nat} {x : List Nat} (hk : k <= 60) (h : Made k x) : x ≠ [113, 57, 57] := by
  rintro rfl
  rcases h with h | ⟨j, hj, e⟩
  · obtain ⟨e, he, hl⟩ := h.2 _ rfl
    simp at he
    subst he
    simp [isL] at hl
  · exact dg_q99 ⟨j, by omega⟩ (by simpa using e.symm)
def sp__law_names : SpD := fun ds M Q _ => ∃ (r : Addr) (m n : Nat), ds = [.ref r, .int (m : Int)] /\ Well M r n /\ n <= 10000000000000 /\ m <= 60 /\
  ∀ (ns : List (List Nat)) (M' : Mem), ns.length = m -> (∀ x ∈ ns, NameOk x /\ x ≠ [113, 57, 57]) -> ns.Nodup -> WTo M M' r (n + 20 * m) -> Q (.lst (ns.map strD)) M'
abbrev N__law_names : List Str := ["_law_well_here", "_law_many", "_law_letters", "_law_found", "_law_k", "_law_name_so", "_law_turn", "_law_elder", "_law_at"]
def l__law_names_1 : DTS := (dAsg (dOp addD (dVar 5) (dCall sp__law_one [] (dCons (dVar 0) (dCons (dOp addD (dVar 2) (dC (.str "q0123456789"))) dNil)))) (gN 5))
def l__law_names_2 : DTS := (dSeq (dAsg (dCall sp__law_one [] (dCons (dVar 0) (dCons (dVar 2) dNil))) (gN 5))
    (dSeq (dFor (iR1 (dCall sp__law_draw [] (dCons (dVar 0) (dCons (dC (.int 8)) dNil)))) (gN 6) l__law_names_1)
    (dSeq (dIf (dAnd (dTest (dOp neD (dVar 3) (dLst dNil))) (dTest (dOp eqD (dCall sp__law_draw [] (dCons (dVar 0) (dCons (dC (.int 3)) dNil))) (dC (.int 0))))) (dSeq (dAsg (dCall sp__law_one [] (dCons (dVar 0) (dCons (dVar 3) dNil))) (gN 7))
    (dSeq (dAsg (dCall sp__law_draw [] (dCons (dVar 0) (dCons (dCB lenF (dCons (dVar 7) dNil)) dNil))) (gN 8))
    (dAsg (dOp addD (dOp addD (dSl slD (dVar 7) dNoPart (dPart (dVar 8))) (dCall sp__law_one [] (dCons (dVar 0) (dCons (dVar 2) dNil)))) (dSl slD (dVar 7) (dPart (dOp addD (dVar 8) (dC (.int 1)))) dNoPart)) (gN 5)))) dNext)
    (dDrop (dBM "list" φApp (dVar 3) (dCons (dIfE (dTest (dOp inD (dVar 5) (dVar 3))) (dOp addD (dC (.str "q")) (dCB strF (dCons (dVar 4) dNil))) (dVar 5)) dNil))))))
def t__law_names : DTS := (dSeq (dPar 2 3 (dCons (dC (.str "abcdefghijklmnoprstuvwxyz")) (dCons (dLstM dNil) dNil)))
    (dSeq (dFor (iR1 (dVar 1)) (gN 4) l__law_names_2)
    (dRet (dFrz (dVar 3)))))
theorem letters_no_q : ∀ c ∈ ("abcdefghijklmnoprstuvwxyz" : Str).cps.toList, isL c = true /\ c ≠ 113 := by decide +kernel
theorem letters_more : ∀ c ∈ ("abcdefghijklmnoprstuvwxyz" ++ "q0123456789" : Str).cps.toList, isS c = true := by decide +kernel
theorem letters_S : ("abcdefghijklmnoprstuvwxyz" : Str) = S ("abcdefghijklmnoprstuvwxyz" : Str).cps.toList := S_of _
theorem more_S : ("abcdefghijklmnoprstuvwxyz" ++ "q0123456789" : Str) = S ("abcdefghijklmnoprstuvwxyz" ++ "q0123456789" : Str).cps.toList := S_of _
theorem one_letter {M : Mem} {r : Addr} {n : Nat} {Q : DV} {E : DEK} (hw : Well M r n) (hn : n <= 100000000000000) (q : ∀ c M', isL c = true -> c ≠ 113 -> WTo M M' r (n + 1) -> Q (strD [c]) M') : sp__law_one [.ref r, .str "abcdefghijklmnoprstuvwxyz"] M Q E := by
  refine ⟨r, _, _, n, rfl, hw, hn, by simp, by simp, .inr ⟨("abcdefghijklmnoprstuvwxyz" : Str).cps.toList, ?_, by decide +kernel, rfl⟩, by decide +kernel, fun x M' hx hto => ?_⟩
  · rw [vw_str]; exact congrArg D.str letters_S
  · obtain ⟨c, hc, rfl⟩ := List.mem_map.mp hx
    have := letters_no_q c hc
    exact q c M' this.1 this.2 hto
theorem one_sign {M : Mem} {r : Addr} {n : Nat} {Q : DV} {E : DEK} (hw : Well M r n) (hn : n <= 100000000000000) (q : ∀ c M', isS c = true -> WTo M M' r (n + 1) -> Q (strD [c]) M') : sp__law_one [.ref r, .str ("abcdefghijklmnoprstuvwxyz" ++ "q0123456789")] M Q E := by
  refine ⟨r, _, _, n, rfl, hw, hn, by simp, by simp, .inr ⟨("abcdefghijklmnoprstuvwxyz" ++ "q0123456789" : Str).cps.toList, ?_, by decide +kernel, rfl⟩, by decide +kernel, fun x M' hx hto => ?_⟩
  · rw [vw_str]; exact congrArg D.str more_S
  · obtain ⟨c, hc, rfl⟩ := List.mem_map.mp hx
    exact q c M' (letters_more c hc) hto
theorem mutated {el : List Nat} {k c : Nat} (h : NameOk el) (hk : k < el.length) (hc : isL c = true) (hq : c ≠ 113) : Fresh (el.take k ++ [c] ++ el.drop (k + 1)) := by
  obtain ⟨d, r, rfl, hr, hd, hs⟩ := h
  cases k with
  | zero =>
    refine ⟨⟨c, r, by simp, hr, hc, hs⟩, fun r' e => ?_⟩
    simp at e
    exact absurd e.1 hq
  | succ k =>
    have hk2 : k < r.length := by simpa using hk
    refine ⟨⟨d, r.take k ++ [c] ++ r.drop (k + 1), by simp, by simp; omega, hd, fun e he => ?_⟩, fun r' e => ?_⟩
    · simp at he
      rcases he with he | rfl | he
      · exact hs e (List.mem_of_mem_take he)
      · exact isL_S hc
      · exact hs e (List.mem_of_mem_drop he)
    · simp at e
      exact ⟨c, by rw [<- e.2]; simp, hc⟩
theorem names_inner {E : DEnds} {r a : Addr} {n : Nat} {o1 o4 o7 o8 : Option D} {M : Mem} {c : Nat} (hc : isL c = true) (hw : Well M r n) (hn : n + 100 <= 100000000000000) (k : Nat) (hk : k <= 7)
    (hE : ∀ cs o6 M', cs.length <= 7 -> (∀ e ∈ cs, isS e = true) -> WTo M M' r (n + 7) -> E.nx [some (.ref r), o1, some (.str "abcdefghijklmnoprstuvwxyz"), some (.ref a), o4, some (strD (c :: cs)), o6, o7, o8] M') (o6 : Option D) :
    forD (gN 6) l__law_names_1 ((List.range k).map fun (i : Nat) => D.int (i : Int)) E [some (.ref r), o1, some (.str "abcdefghijklmnoprstuvwxyz"), some (.ref a), o4, some (strD [c]), o6, o7, o8] M := by
  refine forD_run _ (fun done ρ M1 => ∃ cs o6, ρ = [some (.ref r), o1, some (.str "abcdefghijklmnoprstuvwxyz"), some (.ref a), o4, some (strD (c :: cs)), o6, o7, o8] /\ cs.length = done.length /\ (∀ e ∈ cs, isS e = true) /\ WTo M M1 r (n + done.length)) ?_ ?_ ⟨[], o6, rfl, rfl, by simp, .refl hw⟩
  · rintro done x rest ρ M1 Nx e ⟨cs, o6, rfl, hl, hs, hto⟩ nx
    obtain ⟨hd, rfl⟩ := range_at e
    have hx : addD (.str "abcdefghijklmnoprstuvwxyz") (.str "q0123456789") = some (.str ("abcdefghijklmnoprstuvwxyz" ++ "q0123456789")) := by rw [addD_str (by decide +kernel)]
    simp [l__law_names_1, hx]
    refine one_sign hto.ok (by omega) fun c2 M2 hc2 h2 => ?_
    rw [vw_strD, strD_add _ _ (by simp; omega)]
    refine ⟨_, rfl, nx _ _ ⟨cs ++ [c2], _, rfl, by simp [hl], fun e he => ?_, ?_⟩⟩
    · rcases List.mem_append.mp he with he | he
      · exact hs e he
      · rw [List.mem_singleton.mp he]; exact hc2
    · exact (hto.trans h2).mono (by simp; omega)
  · rintro ρ M1 ⟨cs, o6, rfl, hl, hs, hto⟩
    exact hE cs o6 M1 (by simp at hl; omega) hs (hto.mono (by simp; omega))
theorem names_app {E : DEnds} {r a : Addr} {m n k : Nat} {o6 o7 o8 : Option D} {M M5 : Mem} {ns : List (List Nat)} {x : List Nat} {done : List D} (ha : M a = none) (har : a ≠ r) (hm : m <= 60) (hk : done.length < m) (hlen : ns.length = done.length) (hmade : ∀ x ∈ ns, Made done.length x) (hnd : ns.Nodup) (hx : Fresh x)
    (hM : M5 a = some (.lst (ns.map strD))) (hto : WTo M M5 r (n + 20 * done.length + 20)) {y : D}
    (nx : ∀ ρ' M', (∃ (ns : List (List Nat)) (o4 o5 o6 o7 o8 : Option D), ρ' = [some (.ref r), some (.int m), some (.str "abcdefghijklmnoprstuvwxyz"), some (.ref a), o4, o5, o6, o7, o8] /\ M' a = some (.lst (ns.map strD)) /\ ns.length = (done ++ [y]).length /\ (∀ x ∈ ns, Made (done ++ [y]).length x) /\ ns.Nodup /\ WTo M M' r (n + 20 * (done ++ [y]).length)) -> E.nx ρ' M') :
    dDrop (dBM "list" φApp (dVar 3) (dCons (dIfE (dTest (dOp inD (dVar 5) (dVar 3))) (dOp addD (dC (.str "q")) (dCB strF (dCons (dVar 4) dNil))) (dVar 5)) dNil)) E
      [some (.ref r), some (.int m), some (.str "abcdefghijklmnoprstuvwxyz"), some (.ref a), some (.int (done.length : Nat)), some (strD x), o6, o7, o8] M5 := by
  have hfl : (ns.map strD).all flatD = true := by simp [strD]
  have hin : inB (strD x) (.lst (ns.map strD)) = some (decide (x ∈ ns)) := by
    rw [inB_lst, hfl]
    simp only [strD, flatD, Bool.and_self, if_true]
    exact congrArg some (mem_made ns)
  have hvx : vw M5 (strD x) = strD x := rfl
  have hlog : (done.length : Int).natAbs.log2 < 1920 := by
    have : (done.length : Int).natAbs < 60 := by omega
    have h2 : ∀ j : Fin 60, j.val.log2 < 1920 := by decide +kernel
    exact h2 ⟨_, this⟩
  have hstr : strF [.int (done.length : Nat)] = some (strD (dg done.length)) := by
    show (if _ then some (D.str _) else none) = _
    rw [if_pos hlog]
    exact congrArg (fun z => some (D.str z)) (S_of _)
  simp only [dDrop, dBM, dCons, dIfE, dTest, dOp, dVar, dC, dCB, dNil]
  refine ⟨.ref a, rfl, by rw [vw_ref hM]; rfl, strD x, rfl, .ref a, rfl, _, by rw [vw_ref hM, hvx]; exact congrArg (Option.map D.bl) hin, decide (x ∈ ns), rfl, ?_⟩
  by_cases hmem : x ∈ ns
  · rw [decide_eq_true hmem, if_pos rfl]
    refine ⟨_, rfl, strD (dg done.length), hstr, strD (113 :: dg done.length), ?_, a, ns.map strD, _, rfl, rfl, hM, by simp; omega, nx _ _ ⟨ns ++ [113 :: dg done.length], _, _, _, _, _, rfl, ?_, by simp [hlen], ?_, ?_, ?_⟩⟩
    · show addD (D.str "q") (strD (dg done.length)) = _
      have e : (D.str "q") = strD [113] := congrArg D.str (S_of "q")
      have hd : (dg done.length).length <= 2 := (dg_ok ⟨done.length, by omega⟩).2
      rw [e, strD_add _ _ (by simp; omega)]
      rfl
    · rw [updM_same]; simp
    · intro z hz
      rcases List.mem_append.mp hz with hz | hz
      · exact made_mono (by simp) (hmade z hz)
      · rw [List.mem_singleton.mp hz]; exact .inr ⟨done.length, by simp, rfl⟩
    · refine List.nodup_append.mpr ⟨hnd, by simp, fun z hz w hw => ?_⟩
      rw [List.mem_singleton.mp hw]
      exact made_new (by omega) (hmade z hz)
    · exact (hto.upd ha har).mono (by simp; omega)
  · rw [decide_eq_false hmem, if_neg Bool.false_ne_true]
    refine ⟨strD x, rfl, a, ns.map strD, _, rfl, rfl, hM, by simp; omega, nx _ _ ⟨ns ++ [x], _, _, _, _, _, rfl, ?_, by simp [hlen], ?_, ?_, ?_⟩⟩
    · rw [updM_same]; simp
    · intro z hz
      rcases List.mem_append.mp hz with hz | hz
      · exact made_mono (by simp) (hmade z hz)
      · rw [List.mem_singleton.mp hz]; exact .inl hx
    · refine List.nodup_append.mpr ⟨hnd, by simp, fun z hz w hw => ?_⟩
      rw [List.mem_singleton.mp hw]
      rintro rfl
      exact hmem hz
    · exact (hto.upd ha har).mono (by simp; omega)
theorem pure__law_names : ∀ ds M Q E, sp__law_names ds M Q E -> ds.length = 2 /\ t__law_names (dEnds Q E) (startD N__law_names ds) M := by
  rintro ds M Q E ⟨r, m, n, rfl, hw, hn, hm, q⟩
  refine ⟨rfl, ?_⟩
  simp [t__law_names, dLstM, dFor]
  refine fun a ha => ⟨by omega, ?_⟩
  have har : a ≠ r := fun z => hw.ne ha z.symm
  refine forD_run _ (fun done ρ M1 => ∃ (ns : List (List Nat)) (o4 o5 o6 o7 o8 : Option D), ρ = [some (.ref r), some (.int m), some (.str "abcdefghijklmnoprstuvwxyz"), some (.ref a), o4, o5, o6, o7, o8] /\ M1 a = some (.lst (ns.map strD)) /\ ns.length = done.length /\ (∀ x ∈ ns, Made done.length x) /\ ns.Nodup /\ WTo M M1 r (n + 20 * done.length)) ?_ ?_ ?_
  · rintro done x rest ρ M1 Nx e ⟨ns, o4, o5, o6, o7, o8, rfl, hMa, hlen, hmade, hnd, hto⟩ nx
    obtain ⟨hk, rfl⟩ := range_at e
    simp [l__law_names_2, dFor]
    refine one_letter hto.ok (by omega) fun c M2 hc hcq h2 => ?_
    refine ⟨r, 8, _, rfl, h2.ok, by omega, by decide, by decide, fun k M3 hk0 hk1 h3 => ?_⟩
    obtain ⟨k, rfl⟩ := Int.eq_ofNat_of_zero_le hk0
    simp
    refine ⟨by omega, names_inner hc h3.ok (by omega) k (by omega) (fun cs o6 M4 hcs hss h4 => ?_) o6⟩
    have h5 : WTo M M4 r (n + 20 * done.length + 10) := (((hto.trans h2).trans h3).trans h4).mono (by omega)
    have hM4 : M4 a = some (.lst (ns.map strD)) := h4.keep1 (h3.keep1 (h2.keep1 hMa har) har) har
    have hok : ∀ x ∈ ns, NameOk x := fun x hx => made_ok (by omega) (hmade x hx)
    have heq : eqP (.lst (ns.map strD)) (.lst []) = some ns.isEmpty := by
      rw [eqP_pl (n := 1) (m := 1) (by simp only [plD]; exact plDs_map fun x hx => (hok x hx).ok 0) (by simp [plD])]
      cases ns <;> simp [eqT, eqTs]
    have hfr : Fresh (c :: cs) := ⟨⟨c, cs, rfl, hcs, hc, hss⟩, fun r' e => by cases e; exact absurd rfl hcq⟩
    have app := fun (x : List Nat) (o6 o7 o8 : Option D) (M5 : Mem) => @names_app ⟨Nx, Q, fun _ _ => False, Nx, fun c ns ds _ M => E c ns ds M⟩ r a m n 0 o6 o7 o8 M M5 ns x done ha har hm hk hlen hmade hnd
    simp [vw_ref hM4, heq]
    by_cases hns : ns = []
    · exact .inl ⟨hns, app (c :: cs) _ _ _ M4 hfr hM4 (h5.mono (by omega)) nx⟩
    · refine .inr ⟨hns, r, 3, _, rfl, h5.ok, by omega, by decide, by decide, fun k2 M5 _ _ h6 => ?_⟩
      have hM5 := h6.keep1 hM4 har
      refine ⟨_, rfl, ?_⟩
      by_cases hk2 : k2 = 0
      · subst hk2
        refine .inr ⟨rfl, r, .ref a, ns.map strD, _, rfl, h6.ok, by omega, by simp [har], by simp [hM5], .inl ⟨vw_ref hM5, by simp; omega⟩, by simpa using hns, fun x M6 hx h7 => ?_⟩
        obtain ⟨el, hel, rfl⟩ := List.mem_map.mp hx
        have hne := hok el hel
        have hM6 := h7.keep1 hM5 har
        have hl8 := hne.len
        refine ⟨.int el.length, lenF_strD (by omega), r, el.length, _, rfl, h7.ok, by omega, by omega, by omega, fun at_ M7 hat0 hat1 h8 => ?_⟩
        obtain ⟨at_, rfl⟩ := Int.eq_ofNat_of_zero_le hat0
        have hM7 := h8.keep1 hM6 har
        refine ⟨_, rfl, strD (el.take at_), slD_take (by omega), ?_⟩
        refine one_letter h8.ok (by omega) fun c2 M8 hc2 hc2q h9 => ?_
        have hM8 := h9.keep1 hM7 har
        refine ⟨strD (el.take at_ ++ [c2]), strD_add _ _ (by simp; omega), _, rfl, _, rfl, strD (el.drop (at_ + 1)), slD_drop (by omega), strD (el.take at_ ++ [c2] ++ el.drop (at_ + 1)), strD_add _ _ (by simp; omega), ?_⟩
        refine app _ _ _ _ M8 (mutated hne (by omega) hc2 hc2q) hM8 ((((h5.trans h6).trans (h7.trans h8)).trans h9).mono (by omega)) nx
      · refine .inl ⟨?_, app (c :: cs) _ _ _ M5 hfr hM5 ((h5.trans h6).mono (by omega)) nx⟩
        show D.bl (k2 == 0) = _
        rw [beq_false_of_ne hk2]
  · rintro ρ M1 ⟨ns, o4, o5, o6, o7, o8, rfl, hMa, hlen, hmade, hnd, hto⟩
    simp at hlen hmade
    simp [hMa]
    exact q ns _ hlen (fun x hx => ⟨made_ok (by omega) (hmade x hx), made_q99 (by omega) (hmade x hx)⟩) hnd ((hto.mono (by simp)).del ha har)
  · exact ⟨[], none, none, none, none, none, rfl, updM_same, rfl, by simp, by simp, (WTo.refl hw).upd ha har⟩
def sp__law_value : SpD := fun ds M Q _ => ∃ (r : Addr) (n : Nat), ds = [.ref r] /\ Well M r n /\ n <= 10000000000000 /\ ∀ (v : Int) (M' : Mem), -(10 ^ 30) <= v -> v <= 10 ^ 30 -> WTo M M' r (n + 4) -> Q (.int v) M'
abbrev N__law_value : List Str := ["_law_well_here", "_law_great"]
def t__law_value : DTS := (dSeq (dIf (dTest (dOp eqD (dCall sp__law_draw [] (dCons (dVar 0) (dCons (dC (.int 2)) dNil))) (dC (.int 0)))) (dRet (dOp subD (dCall sp__law_draw [] (dCons (dVar 0) (dCons (dC (.int 19)) dNil))) (dC (.int 9)))) dNext)
    (dSeq (dAsg (dOp addD (dOp mulD (dCall sp__law_draw [] (dCons (dVar 0) (dCons (dOp powD (dC (.int 10)) (dC (.int 15))) dNil))) (dOp powD (dC (.int 10)) (dC (.int 15)))) (dCall sp__law_draw [] (dCons (dVar 0) (dCons (dOp powD (dC (.int 10)) (dC (.int 15))) dNil)))) (gN 1))
    (dRet (dCall sp__law_one [] (dCons (dVar 0) (dCons (dLst (dCons (dVar 1) (dCons (dOp subD (dC (.int 0)) (dVar 1)) (dCons (dOp powD (dC (.int 10)) (dC (.int 30))) (dCons (dOp subD (dC (.int 0)) (dOp powD (dC (.int 10)) (dC (.int 30)))) dNil))))) dNil))))))
theorem pure__law_value : ∀ ds M Q E, sp__law_value ds M Q E -> ds.length = 1 /\ t__law_value (dEnds Q E) (startD N__law_value ds) M := by
  rintro ds M Q E ⟨r, n, rfl, hw, hn, q⟩
  refine ⟨rfl, ?_⟩
  have hp15 : (10 : Int) ^ 15 = 1000000000000000 := by decide
  have hp30 : (10 : Int) ^ 30 = 1000000000000000000000000000000 := by decide
  simp (disch := first | (simp; done) | omega) [t__law_value]
  refine ⟨r, 2, n, rfl, hw, by omega, by decide, by decide, fun k M1 _ _ h1 => ⟨_, rfl, ?_⟩⟩
  by_cases hk : k = 0
  · refine .inr ⟨by subst hk; rfl, r, 19, _, rfl, h1.ok, by omega, by decide, by decide, fun k2 M2 a1 a2 h2 => ⟨_, rfl, ?_⟩⟩
    exact q _ M2 (by omega) (by omega) ((h1.trans h2).mono (by omega))
  · refine .inl ⟨by show D.bl (k == 0) = _; rw [beq_false_of_ne hk], ?_⟩
    refine ⟨r, _, _, rfl, h1.ok, by omega, by decide, by decide, fun k2 M2 a1 a2 h2 => ?_⟩
    refine ⟨.int (k2 * 1000000000000000), ?_, ?_⟩
    · show mulD (.int k2) (.int 1000000000000000) = _
      rw [mulD_int (.inr (by decide))]
    refine ⟨r, _, _, rfl, h2.ok, by omega, by decide, by decide, fun k3 M3 b1 b2 h3 => ⟨.int (k2 * 1000000000000000 + k3), rfl, ?_⟩⟩
    refine ⟨_, rfl, ?_⟩
    refine ⟨r, _, _, _, rfl, h3.ok, by omega, by simp, by simp, .inl ⟨rfl, by simp⟩, by simp, fun x M4 hx h4 => ?_⟩
    have g0 : 0 <= k2 * 1000000000000000 + k3 := by omega
    have g1 : k2 * 1000000000000000 + k3 <= 1000000000000000000000000000000 := by omega
    have hto : WTo M M4 r (n + 4) := (((h1.trans h2).trans h3).trans h4).mono (by omega)
    simp at hx
    rcases hx with rfl | rfl | rfl | rfl
    · exact q _ M4 (by omega) (by omega) hto
    · exact q _ M4 (by omega) (by omega) hto
    · exact q _ M4 (by omega) (by omega) hto
    · exact q _ M4 (by omega) (by omega) hto
def sp__law_levels : SpD := fun ds M Q _ => ∃ (r : Addr) (m n : Nat), ds = [.ref r, .int (m : Int)] /\ Well M r n /\ n <= 10000000000000 /\ m <= 60 /\
  ∀ (ls : List Int) (M' : Mem), ls.length = m -> LevOk ls -> WTo M M' r (n + 4 * m + 1) -> Q (.lst (ls.map D.int)) M'
abbrev N__law_levels : List Str := ["_law_well_here", "_law_many", "_law_found", "_law_style", "_law_k", "_law_most", "_law_level"]
def l__law_levels_1 : DTS := (dSeq (dAsg (dIfE (dTest (dOp neD (dVar 2) (dLst dNil))) (dOp addD (dOp ixA (dVar 2) (dUn negD (dC (.int 1)))) (dC (.int 1))) (dC (.int 0))) (gN 5))
    (dSeq (dAsg (dVar 5) (gN 6))
    (dSeq (dIf (dOr (dTest (dOp eqD (dVar 3) (dC (.int 0)))) (dAnd (dTest (dOp eqD (dVar 3) (dC (.int 1)))) (dTest (dOp eqD (dCall sp__law_draw [] (dCons (dVar 0) (dCons (dC (.int 4)) dNil))) (dC (.int 0)))))) (dAsg (dCall sp__law_draw [] (dCons (dVar 0) (dCons (dOp addD (dVar 5) (dC (.int 1))) dNil))) (gN 6)) dNext)
    (dSeq (dIf (dTest (dOp eqD (dVar 3) (dC (.int 2)))) (dAsg (dCall sp__law_draw [] (dCons (dVar 0) (dCons (dOp addD (dC (.int 1)) (dOp ixA (dLst (dCons (dVar 5) (dCons (dC (.int 2)) dNil))) (dCB intF (dCons (dOp gtD (dVar 5) (dC (.int 2))) dNil)))) dNil))) (gN 6)) dNext)
    (dDrop (dBM "list" φApp (dVar 2) (dCons (dVar 6) dNil)))))))
def t__law_levels : DTS := (dSeq (dPar 2 3 (dCons (dLstM dNil) (dCons (dCall sp__law_draw [] (dCons (dVar 0) (dCons (dC (.int 4)) dNil))) dNil)))
    (dSeq (dFor (iR1 (dVar 1)) (gN 4) l__law_levels_1)
    (dRet (dFrz (dVar 2)))))
theorem levels_rest {E : DEnds} {r a : Addr} {m n : Nat} {o4 o6 : Option D} {M M2 : Mem} {ls : List Int} {done : List D} {sty mo : Int} {y : D} (ha : M a = none) (har : a ≠ r) (hn : n <= 10000000000000) (hm : m <= 60) (hk : done.length < m) (hlen : ls.length = done.length) (hlev : LevOk ls)
    (hM : M2 a = some (.lst (ls.map D.int))) (hto : WTo M M2 r (n + 4 * done.length + 1)) (h0 : 0 <= mo) (hmx : mo <= 100) (h1 : ls = [] -> mo = 0) (h2 : ∀ l, ls.getLast? = some l -> mo <= l + 1)
    (nx : ∀ ρ' M', (∃ (ls : List Int) (o4 o5 o6 : Option D), ρ' = [some (.ref r), some (.int m), some (.ref a), some (.int sty), o4, o5, o6] /\ M' a = some (.lst (ls.map D.int)) /\ ls.length = (done ++ [y]).length /\ LevOk ls /\ (∀ l ∈ ls, l <= (done ++ [y]).length) /\ WTo M M' r (n + 4 * (done ++ [y]).length + 1)) -> E.nx ρ' M')
    (hbd : ∀ l ∈ ls, l <= done.length) (hmd : mo <= done.length + 1) (s0 : 0 <= sty) (s1 : sty < 4) :
    (dSeq (dAsg (dVar 5) (gN 6))
    (dSeq (dIf (dOr (dTest (dOp eqD (dVar 3) (dC (.int 0)))) (dAnd (dTest (dOp eqD (dVar 3) (dC (.int 1)))) (dTest (dOp eqD (dCall sp__law_draw [] (dCons (dVar 0) (dCons (dC (.int 4)) dNil))) (dC (.int 0)))))) (dAsg (dCall sp__law_draw [] (dCons (dVar 0) (dCons (dOp addD (dVar 5) (dC (.int 1))) dNil))) (gN 6)) dNext)
    (dSeq (dIf (dTest (dOp eqD (dVar 3) (dC (.int 2)))) (dAsg (dCall sp__law_draw [] (dCons (dVar 0) (dCons (dOp addD (dC (.int 1)) (dOp ixA (dLst (dCons (dVar 5) (dCons (dC (.int 2)) dNil))) (dCB intF (dCons (dOp gtD (dVar 5) (dC (.int 2))) dNil)))) dNil))) (gN 6)) dNext)
    (dDrop (dBM "list" φApp (dVar 2) (dCons (dVar 6) dNil)))))) E [some (.ref r), some (.int m), some (.ref a), some (.int sty), o4, some (.int mo), o6] M2 := by
  have fin : ∀ (lv : Int) (M5 : Mem), 0 <= lv -> lv <= mo -> M5 a = some (.lst (ls.map D.int)) -> WTo M M5 r (n + 4 * done.length + 4) ->
      (dDrop (dBM "list" φApp (dVar 2) (dCons (dVar 6) dNil))) E [some (.ref r), some (.int m), some (.ref a), some (.int sty), o4, some (.int mo), some (.int lv)] M5 := by
    intro lv M5 l0 l1 hM5 h5
    simp only [dDrop, dBM, dCons, dVar, dNil]
    refine ⟨.ref a, rfl, by rw [vw_ref hM5]; rfl, .int lv, rfl, a, ls.map D.int, _, rfl, rfl, hM5, by simp; omega, nx _ _ ⟨ls ++ [lv], _, _, _, rfl, by rw [updM_same]; simp, by simp [hlen], hlev.snoc l0 (fun e => by have := h1 e; omega) (fun l e => by have := h2 l e; omega), ?_, (h5.upd ha har).mono (by simp; omega)⟩⟩
    intro l hl
    rcases List.mem_append.mp hl with hl | hl
    · have := hbd l hl; simp; omega
    · rw [List.mem_singleton.mp hl]; simp; omega
  have hs4 : sty = 0 \/ sty = 1 \/ sty = 2 \/ sty = 3 := by omega
  rcases hs4 with rfl | rfl | rfl | rfl
  · simp
    refine ⟨r, _, _, rfl, hto.ok, by omega, by omega, by omega, fun lv M3 a0 a1 h3 => ?_⟩
    simp
    exact fin lv M3 a0 (by omega) (h3.keep1 hM har) ((hto.trans h3).mono (by omega))
  · simp
    refine ⟨r, 4, _, rfl, hto.ok, by omega, by decide, by decide, fun k M3 _ _ h3 => ⟨_, rfl, ?_⟩⟩
    by_cases hk0 : k = 0
    · refine .inr ⟨by subst hk0; rfl, r, _, _, rfl, h3.ok, by omega, by omega, by omega, fun lv M4 a0 a1 h4 => ?_⟩
      exact fin lv M4 a0 (by omega) (h4.keep1 (h3.keep1 hM har) har) (((hto.trans h3).trans h4).mono (by omega))
    · refine .inl ⟨by show D.bl (k == 0) = _; rw [beq_false_of_ne hk0], ?_⟩
      exact fin mo M3 h0 (by omega) (h3.keep1 hM har) ((hto.trans h3).mono (by omega))
  · simp
    by_cases h2' : 2 < mo
    · simp [h2']
      refine ⟨r, _, _, rfl, hto.ok, by omega, by omega, by omega, fun lv M3 a0 a1 h3 => ?_⟩
      exact fin lv M3 a0 (by omega) (h3.keep1 hM har) ((hto.trans h3).mono (by omega))
    · simp [h2']
      refine ⟨r, _, _, rfl, hto.ok, by omega, by omega, by omega, fun lv M3 a0 a1 h3 => ?_⟩
      exact fin lv M3 a0 (by omega) (h3.keep1 hM har) ((hto.trans h3).mono (by omega))
  · simp
    exact fin mo M2 h0 (by omega) hM (hto.mono (by omega))
theorem pure__law_levels : ∀ ds M Q E, sp__law_levels ds M Q E -> ds.length = 2 /\ t__law_levels (dEnds Q E) (startD N__law_levels ds) M := by
  rintro ds M Q E ⟨r, m, n, rfl, hw, hn, hm, q⟩
  refine ⟨rfl, ?_⟩
  simp [t__law_levels, dLstM, dFor]
  intro a ha
  have har : a ≠ r := fun z => hw.ne ha z.symm
  have hw0 : WTo M (updM M a (.lst [])) r n := (WTo.refl hw).upd ha har
  refine ⟨r, 4, n, rfl, hw0.ok, by omega, by decide, by decide, fun sty M1 s0 s1 h1 => ⟨by omega, ?_⟩⟩
  refine forD_run _ (fun done ρ M2 => ∃ (ls : List Int) (o4 o5 o6 : Option D), ρ = [some (.ref r), some (.int m), some (.ref a), some (.int sty), o4, o5, o6] /\ M2 a = some (.lst (ls.map D.int)) /\ ls.length = done.length /\ LevOk ls /\ (∀ l ∈ ls, l <= done.length) /\ WTo M M2 r (n + 4 * done.length + 1)) ?_ ?_ ?_
  · rintro done x rest ρ M2 Nx e ⟨ls, o4, o5, o6, rfl, hM, hlen, hlev, hbd, hto⟩ nx
    obtain ⟨hk, rfl⟩ := range_at e
    have heq : eqP (.lst (ls.map D.int)) (.lst []) = some ls.isEmpty := by
      rw [eqP_pl (n := 1) (m := 1) (by simp only [plD]; exact plDs_map fun x hx => by simp [plD]) (by simp [plD])]
      cases ls <;> simp [eqT, eqTs]
    have hne : neD (vw M2 (.ref a)) (vw M2 (.lst [])) = some (.bl (!ls.isEmpty)) := by
      rw [vw_ref hM, vw_lst]
      show (eqP _ _).map _ = _
      rw [heq]; rfl
    rcases List.eq_nil_or_concat ls with rfl | ⟨l0, l, rfl⟩
    · refine ⟨.ref a, rfl, Nat.zero_le _, _, hne, false, rfl, ?_⟩
      exact levels_rest (sty := sty) (mo := 0) ha har hn hm hk hlen hlev hM hto (by omega) (by omega) (fun _ => rfl) (by simp) nx hbd (by omega) s0 s1
    · have hl := hbd l (by simp)
      refine ⟨.ref a, rfl, Nat.zero_le _, _, hne, true, by simp, ?_⟩
      refine ⟨.ref a, rfl, .int (-1), rfl, .int l, by rw [vw_ref hM]; simpa using atI_lastF (l0.map D.int) (D.int l), .int (l + 1), rfl, ?_⟩
      have hl0 : 0 <= l := (hlev l0.length l (by simp)).1
      exact levels_rest (sty := sty) (mo := l + 1) ha har hn hm hk hlen hlev hM hto (by omega) (by omega) (by simp) (by simp) nx hbd (by omega) s0 s1
  · rintro ρ M2 ⟨ls, o4, o5, o6, rfl, hM, hlen, hlev, hbd, hto⟩
    simp at hlen
    simp [hM]
    exact q ls _ hlen hlev ((hto.mono (by simp)).del ha har)
  · exact ⟨[], none, none, none, rfl, h1.keep1 updM_same har, rfl, by intro i l h; simp at h, by simp, (hw0.trans h1).mono (by simp)⟩
def sp__law_rows : SpD := fun ds M Q _ => ∃ (r : Addr) (m n : Nat), ds = [.ref r, .int (m : Int)] /\ Well M r n /\ n <= 1000000000000 /\ m <= 60 /\
  ∀ (rs : List Row) (M' : Mem), RowsOk rs -> (∀ x ∈ rs, x.nm ≠ [113, 57, 57]) -> WTo M M' r (n + 3000) -> Q (.lst (rs.map Row.d)) M'
abbrev N__law_rows : List Str := ["_law_well_here", "_law_most", "_law_many", "_law_names_here", "_law_levels_here", "_law_k"]
def t__law_rows : DTS := (dSeq (dAsg (dCall sp__law_draw [] (dCons (dVar 0) (dCons (dOp addD (dVar 1) (dC (.int 1))) dNil))) (gN 2))
    (dSeq (dAsg (dTup (dCons (dCall sp__law_names [] (dCons (dVar 0) (dCons (dVar 2) dNil))) (dCons (dCall sp__law_levels [] (dCons (dVar 0) (dCons (dVar 2) dNil))) dNil))) (gT 2 (gsCons (gN 3) (gsCons (gN 4) gsNil))))
    (dRet (dLc (iR1 (dVar 2)) (gN 5) dYes (dTup (dCons (dOp ixA (dVar 3) (dVar 5)) (dCons (dCall sp__law_value [] (dCons (dVar 0) dNil)) (dCons (dOp ixA (dVar 4) (dVar 5)) dNil)))) [5]))))
theorem pure__law_rows : ∀ ds M Q E, sp__law_rows ds M Q E -> ds.length = 2 /\ t__law_rows (dEnds Q E) (startD N__law_rows ds) M := by
  rintro ds M Q E ⟨r, m, n, rfl, hw, hn, hm, q⟩
  refine ⟨rfl, ?_⟩
  simp [t__law_rows, dLc]
  refine ⟨r, _, n, rfl, hw, by omega, by omega, by omega, fun k M1 hk0 hk1 h1 => ?_⟩
  obtain ⟨k, rfl⟩ := Int.eq_ofNat_of_zero_le hk0
  refine ⟨r, k, _, rfl, h1.ok, by omega, by omega, fun ns M2 hnl hno hnd h2 => ?_⟩
  refine ⟨r, k, _, rfl, h2.ok, by omega, by omega, fun ls M3 hll hlev h3 => ?_⟩
  simp
  have h03 : WTo M M3 r (n + 1 + 20 * k + 4 * k + 1) := (h1.trans h2).trans h3
  refine ⟨by omega, fun a ha => ?_⟩
  have har : a ≠ r := fun z => h3.ok.ne ha z.symm
  refine lcD_run _ (fun done acc M4 => ∃ rs : List Row, acc = rs.map Row.d /\ rs.length = done.length /\ rs.map Row.nm = ns.take done.length /\ rs.map Row.lv = ls.take done.length /\ (∀ x ∈ rs, -(10 ^ 30) <= x.va /\ x.va <= 10 ^ 30) /\ WTo M3 M4 r (n + 1 + 20 * k + 4 * k + 1 + 4 * done.length)) ?_ ?_ ?_
  · rintro done x rest acc M4 Nx e ha4 ⟨rs, rfl, hrl, hrn, hrv, hva, hto⟩ nx
    obtain ⟨hd, rfl⟩ := range_at e
    have hn1 : done.length < ns.length := by omega
    have hl1 : done.length < ls.length := by omega
    simp
    refine ⟨_, atI_get' (x := strD ns[done.length]) (by simp [hn1]), ?_⟩
    refine ⟨r, _, rfl, hto.ok, by omega, fun v M5 v0 v1 h5 => ?_⟩
    refine ⟨_, atI_get' (x := D.int ls[done.length]) (by simp [hl1]), ?_⟩
    refine ⟨rs.map Row.d, h5.keep1 ha4 har, by simp; omega, nx _ _ updM_same ⟨rs ++ [⟨ns[done.length], v, ls[done.length]⟩], by simp [Row.d, strD], by simp [hrl], ?_, ?_, ?_, ?_⟩⟩
    · rw [List.map_append, hrn, List.length_append]
      exact take_snoc hn1
    · rw [List.map_append, hrv, List.length_append]
      exact take_snoc hl1
    · intro x hx
      rcases List.mem_append.mp hx with hx | hx
      · exact hva x hx
      · rw [List.mem_singleton.mp hx]; exact ⟨v0, v1⟩
    · exact ((hto.trans h5).upd ha har).mono (by simp; omega)
  · rintro acc M4 ha4 ⟨rs, rfl, hrl, hrn, hrv, hva, hto⟩
    simp at hrl hrn hrv
    rw [List.take_of_length_le (by omega)] at hrn
    rw [List.take_of_length_le (by omega)] at hrv
    refine q rs _ ⟨by omega, fun x hx => (hno _ ?_).1, hva, by rw [hrn]; exact hnd, by rw [hrv]; exact hlev⟩ (fun x hx => (hno _ (by rw [<- hrn]; exact List.mem_map_of_mem hx)).2) ((h03.trans (hto.del ha har)).mono (by simp; omega))
    rw [<- hrn]; exact List.mem_map_of_mem hx
  · exact ⟨[], rfl, rfl, by simp, by simp, by simp, ((WTo.refl h3.ok).upd ha har).mono (by simp)⟩
end LawProof
set_option Elab.async false
set_option linter.all false
set_option maxRecDepth 100000
set_option maxHeartbeats 4000000
set_option autoImplicit true
namespace LawProof
open PySem L2 DL FL
def sp_row_fault : SpD := fun ds M Q _ => ∃ (d : D) (rs : List Row) (p : Nat), ds = [d, .int (p : Int)] /\ SeqOf d (rs.map Row.d) /\ RowsOk rs /\ p < rs.length /\ Q .non M
abbrev N_row_fault : List Str := ["rows", "place", "row", "name", "value", "level", "other"]
def t_row_fault : DTS := (dSeq (dAsg (dOp ixA (dVar 0) (dVar 1)) (gN 2))
    (dSeq (dIf (dOr (dNot (dTest (dCall sp_is_sequence [] (dCons (dVar 2) dNil)))) (dTest (dOp neD (dCB lenF (dCons (dVar 2) dNil)) (dC (.int 3))))) (dRet (dC (.str "row"))) dNext)
    (dSeq (dAsg (dVar 2) (gT 3 (gsCons (gN 3) (gsCons (gN 4) (gsCons (gN 5) gsNil)))))
    (dSeq (dIf (dNot (dTest (dCall sp_is_name [] (dCons (dVar 3) dNil)))) (dRet (dC (.str "name"))) dNext)
    (dSeq (dIf (dNot (dTest (dCall sp_is_value [] (dCons (dVar 4) dNil)))) (dRet (dC (.str "value"))) dNext)
    (dSeq (dIf (dOr (dNot (dTest (dCall sp_is_integer [] (dCons (dVar 5) dNil)))) (dNot (dTest (dChain leD leD (dC (.int 0)) (dVar 5) (dIfE (dTest (dOp gtD (dVar 1) (dC (.int 0)))) (dOp addD (dOp ixA (dOp ixA (dVar 0) (dOp subD (dVar 1) (dC (.int 1)))) (dC (.int 2))) (dC (.int 1))) (dC (.int 0))))))) (dRet (dC (.str "level"))) dNext)
    (dRet (dIfE (dTest (dOp inD (dVar 3) (dLc (iS (dSl slD (dVar 0) dNoPart (dPart (dVar 1)))) (gN 6) dYes (dOp ixA (dVar 6) (dC (.int 0))) [6]))) (dC (.str "twice")) (dC .non)))))))))
theorem pure_row_fault : ∀ ds M Q E, sp_row_fault ds M Q E -> ds.length = 2 /\ t_row_fault (dEnds Q E) (startD N_row_fault ds) M := by
  rintro ds M Q E ⟨d, rs, p, rfl, hd, h, hp, q⟩
  refine ⟨rfl, ?_⟩
  obtain ⟨x, hx⟩ := row_at hp
  obtain ⟨h1, ⟨h2, h3⟩, h4, h5, h6, h7⟩ := h.at hx
  have e2 : -1000000000000000000000000000000 <= x.va := h2
  have e3 : x.va <= 1000000000000000000000000000000 := h3
  have hat : atI (rs.map Row.d) (p : Int) = some (Row.d x) := atI_get' (by simp [hx])
  have hne := not_earlier (rs := rs.take p) h7
  have hpl : p <= 60 := by have := h.len; omega
  have stp : ∀ y ∈ (rs.map Row.d).take p, ∃ n : Row, y = .tup [.str (S n.nm), .int n.va, .int n.lv] := fun y hy => by
    rw [<- List.map_take] at hy
    obtain ⟨r, hr, rfl⟩ := List.mem_map.mp hy
    exact ⟨r, rfl⟩
  have e1 : ((rs.map Row.d).take p).filterMap (fun y => ixD y (.int 0)) = (rs.take p).map fun r => strD r.nm := by rw [<- List.map_take, heads_nm]
  simp only [Row.d] at hat
  have hp0 : p = 0 \/ ∃ (k : Nat) (y : Row), p = k + 1 /\ atI (rs.map Row.d) (k : Int) = some (.tup [.str (S y.nm), .int y.va, .int y.lv]) /\ x.lv <= y.lv + 1 := by
    rcases Nat.eq_zero_or_pos p with z | z
    · exact .inl z
    · obtain ⟨y, hy, hle⟩ := h6 (p - 1) (by omega)
      exact .inr ⟨p - 1, y, by omega, atI_get' (by simp [hy, Row.d]), hle⟩
  rcases hd with rfl | rfl
  all_goals
    rcases hp0 with rfl | ⟨k, y, rfl, hat2, hle⟩
    · have hlv := h5 rfl
      rw [hlv] at hat
      have hat' : atI (rs.map Row.d) 0 = some (.tup [.str (S x.nm), .int x.va, .int 0]) := by simpa using hat
      have c1 : cutD (rs.map Row.d) none (some 0) = [] := cutD_to (p := 0)
      simp [t_row_fault, hat', sp_is_sequence, sp_is_name, sp_is_value, sp_is_integer, tyName, h1, e2, e3, dLc, -inD_def, c1]
      intro a ha
      refine lcD_fn (fun y => ixD y (.int 0)) _ (by simp) ha (by simp) ?_
      simp at hne ⊢
      exact q
    · have hk0 : (0 : Int) < (k : Int) + 1 := by omega
      have c1 : cutD (rs.map Row.d) none (some ((k : Int) + 1)) = (rs.map Row.d).take (k + 1) := cutD_to (p := k + 1)
      have hat' : atI (rs.map Row.d) ((k : Int) + 1) = some (.tup [.str (S x.nm), .int x.va, .int x.lv]) := hat
      simp [t_row_fault, hat', hk0, hat2, hle, sp_is_sequence, sp_is_name, sp_is_value, sp_is_integer, tyName, h1, e2, e3, h4, dLc, c1, -inD_def]
      intro a ha
      refine lcD_fn (fun y => ixD y (.int 0)) _ (by simp; omega) ha ?_ ?_
      · intro y hy M1 T _ hT
        obtain ⟨n, rfl⟩ := stp y hy
        simpa using hT
      · rw [e1, vw_lst, hne]
        simpa using q
def sp_Forest___init__ : SpD := fun ds M Q _ => ∃ (x : Addr) (rs : List Row), ds = [.ref x, .lst (rs.map Row.d)] /\ RowsOk rs /\ M x = some (.obj 0 [] []) /\ Q .non (updM M x (FD rs))
abbrev N_Forest___init__ : List Str := ["self", "rows", "place", "why", "row"]
def l_Forest___init___1 : DTS := (dSeq (dAsg (dCall sp_row_fault [] (dCons (dVar 1) (dCons (dVar 2) dNil))) (gN 3))
    (dIf (dTest (dOp notNonD (dVar 3) (dC .non))) dNever dNext))
def t_Forest___init__ : DTS := (dSeq (dIf (dOr (dNot (dTest (dCall sp_is_sequence [] (dCons (dVar 1) dNil)))) (dTest (dOp gtD (dCB lenF (dCons (dVar 1) dNil)) (dC (.int 60))))) dNever dNext)
    (dSeq (dFor (iR1 (dCB lenF (dCons (dVar 1) dNil))) (gN 2) l_Forest___init___1)
    (dSeq (dFldSet [0] "rows" (dVar 0) (dCB tupF (dCons (dLc (iS (dVar 1)) (gN 4) dYes (dCB tupF (dCons (dVar 4) dNil)) [4]) dNil)))
    (dSeq (dFldSet [0] "order" (dVar 0) (dCB tupF (dCons (dLc (iS (dVar 1)) (gN 4) dYes (dOp ixA (dVar 4) (dC (.int 0))) [4]) dNil)))
    (dFldSet [0] "spots" (dVar 0) (dDc (iEnT (dVar 1)) (gT 2 (gsCons (gN 2) (gsCons (gN 4) gsNil))) dYes (dOp ixA (dVar 4) (dC (.int 0))) (dVar 2) [2, 4]))))))
theorem pure_Forest___init__ : ∀ ds M Q E, sp_Forest___init__ ds M Q E -> ds.length = 2 /\ t_Forest___init__ (dEnds Q E) (startD N_Forest___init__ ds) M := by
  rintro ds M Q E ⟨x, rs, rfl, h, hx, q⟩
  refine ⟨rfl, ?_⟩
  have hlen := h.len
  have hlI : ¬ (60 < (rs.length : Int)) := by omega
  simp [t_Forest___init__, dFor, sp_is_sequence, tyName, hlI]
  refine ⟨by omega, ?_⟩
  refine forD_run _ (fun done ρ M1 => ∃ o2 o3, ρ = [some (.ref x), some (.lst (rs.map Row.d)), o2, o3, none] /\ M1 = M) ?_ ?_ ⟨none, none, rfl, rfl⟩
  · rintro done y rest ρ M1 Nx e ⟨o2, o3, rfl, rfl⟩ nx
    obtain ⟨hd, rfl⟩ := range_at e
    simp [l_Forest___init___1]
    refine ⟨_, rs, done.length, rfl, .inl rfl, h, hd, ?_⟩
    simp
    exact nx _ _ ⟨_, _, rfl, rfl⟩
  · rintro ρ M1 ⟨o2, o3, rfl, rfl⟩
    simp [dLc, dDc, dFldSet]
    intro a ha
    have hax : x ≠ a := fun z => by rw [z, ha] at hx; cases hx
    refine lcD_fn (fun y => some y) _ (by simp; omega) ha ?_ ?_
    · intro y hy M2 T _ hT
      obtain ⟨r, hr, rfl⟩ := List.mem_map.mp hy
      simpa [Row.d] using hT
    · rw [List.filterMap_some]
      simp [hx]
      intro a2 ha2
      refine lcD_fn (fun y => ixD y (.int 0)) _ (by simp; omega) ha2 ?_ ?_
      · intro y hy M2 T _ hT
        obtain ⟨r, hr, rfl⟩ := List.mem_map.mp hy
        simp [Row.d] at hT ⊢
        exact hT
      · rw [heads_nm]
        simp [setN, setV]
        intro a3 ha3
        rw [enum_rows]
        refine dcD_fn eKd eVal eKey _ (by simp; omega) ha3 ?_ ?_ ?_ ?_
        · rw [enum_keys]
          exact spotsK_nd h
        · intro y hy
          obtain ⟨p, hp, rfl⟩ := List.mem_map.mp hy
          simp [Row.d, eKd, eKey]
        · intro y hy M2 T N _ hT
          obtain ⟨p, hp, rfl⟩ := List.mem_map.mp hy
          simp [Row.d, eKd, eVal] at hT ⊢
          exact hT
        · rw [enum_keys, enum_places]
          simp [updM_updM, setN, setV]
          exact q
end LawProof
set_option Elab.async false
set_option linter.all false
set_option maxRecDepth 100000
set_option maxHeartbeats 4000000
set_option autoImplicit true
namespace LawProof
open PySem L2 DL FL
def sp_Forest_names : SpD := fun ds M Q _ => ∃ (rs : List Row), ds = [FD rs] /\ Q (.lst (rs.map fun r => strD r.nm)) M
abbrev N_Forest_names : List Str := ["self"]
def t_Forest_names : DTS := (dRet (dCB lstF (dCons (dUn (fldD [0] "order") (dVar 0)) dNil)))
theorem pure_Forest_names : ∀ ds M Q E, sp_Forest_names ds M Q E -> ds.length = 1 /\ t_Forest_names (dEnds Q E) (startD N_Forest_names ds) M := by
  rintro ds M Q E ⟨rs, rfl, q⟩
  refine ⟨rfl, ?_⟩
  simp only [t_Forest_names, dRet, dCB, dCons, dVar, dNil, dUn]
  exact ⟨_, rfl, _, fld_order (by simp), _, rfl, q⟩
def sp_Forest_has_node : SpD := fun ds M Q _ => ∃ (rs : List Row) (d : D), ds = [FD rs, d] /\ (∃ n, tyName d = some n) /\ Q (.bl (hasN rs d)) M
abbrev N_Forest_has_node : List Str := ["self", "name"]
def t_Forest_has_node : DTS := (dRet (dAndV (dCB isiF (dCons (dVar 1) (dCons (dC (.ty "str")) dNil))) (dOp inD (dVar 1) (dUn (fldD [0] "spots") (dVar 0)))))
theorem pure_Forest_has_node : ∀ ds M Q E, sp_Forest_has_node ds M Q E -> ds.length = 2 /\ t_Forest_has_node (dEnds Q E) (startD N_Forest_has_node ds) M := by
  rintro ds M Q E ⟨rs, d, rfl, hd, q⟩
  refine ⟨rfl, ?_⟩
  obtain ⟨n, hn⟩ := hd
  have hv : vw M d = d := by cases d <;> first | rfl | cases hn
  simp only [t_Forest_has_node, dRet, dAndV, dCB, dCons, dVar, dC, dNil, dOp, dUn]
  by_cases c : n = "str"
  · subst c
    obtain ⟨z, rfl⟩ : ∃ z, d = .str z := by cases d <;> simp_all [tyName]
    refine ⟨_, rfl, .bl true, rfl, true, rfl, ?_⟩
    rw [if_pos rfl]
    exact ⟨_, rfl, _, rfl, _, fld_spots (by simp), .bl _, spot_has z, q⟩
  · have h1 : isiF [d, .ty "str"] = some (.bl false) := by
      simp [isiF, hn, tyNames, isTy, c]
    refine ⟨_, rfl, .bl false, by simpa [hv] using h1, false, rfl, ?_⟩
    rw [if_neg (by simp)]
    have : hasN rs d = false := by
      cases d <;> first | rfl | (exfalso; exact c (Option.some.inj hn).symm)
    rw [this] at q
    exact q
def sp_Forest_worth : SpD := fun ds M Q _ => ∃ (rs : List Row) (p : Nat), ds = [FD rs, nmAt rs p] /\ RowsOk rs /\ p < rs.length /\ Q (.int ((vas rs).getD p 0)) M
abbrev N_Forest_worth : List Str := ["self", "name"]
def t_Forest_worth : DTS := (dRet (dOp ixA (dOp ixA (dUn (fldD [0] "rows") (dVar 0)) (dOp ixA (dUn (fldD [0] "spots") (dVar 0)) (dVar 1))) (dC (.int 1))))
theorem pure_Forest_worth : ∀ ds M Q E, sp_Forest_worth ds M Q E -> ds.length = 2 /\ t_Forest_worth (dEnds Q E) (startD N_Forest_worth ds) M := by
  rintro ds M Q E ⟨rs, p, rfl, h, hp, q⟩
  refine ⟨rfl, ?_⟩
  obtain ⟨x, hx⟩ := row_at hp
  have hsp := spot_at h hp
  have hat : atI (rs.map Row.d) (p : Int) = some (Row.d x) := atI_get' (by simp [hx])
  simp only [Row.d] at hat
  rw [vas_of hx] at q
  simp [t_Forest_worth, fld_rows, fld_spots, -ixA_dK, hsp, hat]
  exact q
def sp_Forest_line_to : SpD := fun ds M Q _ => ∃ (rs : List Row) (p : Nat), ds = [FD rs, nmAt rs p] /\ RowsOk rs /\ p < rs.length /\ ∀ M', Keep M M' -> Q (.lst ((ancs (lvs rs) p).reverse.map (nmAt rs))) M'
abbrev N_Forest_line_to : List Str := ["self", "name", "place", "level", "found", "other", "value", "height"]
def l_Forest_line_to_1 : DTS := (dIf (dTest (dOp ltD (dVar 7) (dVar 3))) (dSeq (dDrop (dBM "list" φApp (dVar 4) (dCons (dVar 5) dNil)))
    (dAsg (dVar 7) (gN 3))) dNext)
def t_Forest_line_to : DTS := (dSeq (dAsg (dOp ixA (dUn (fldD [0] "spots") (dVar 0)) (dVar 1)) (gN 2))
    (dSeq (dPar 3 4 (dCons (dOp ixA (dOp ixA (dUn (fldD [0] "rows") (dVar 0)) (dVar 2)) (dC (.int 2))) (dCons (dLstM dNil) dNil)))
    (dSeq (dFor (iS (dUn revD (dSl slD (dUn (fldD [0] "rows") (dVar 0)) dNoPart (dPart (dVar 2))))) (gT 3 (gsCons (gN 5) (gsCons (gN 6) (gsCons (gN 7) gsNil)))) l_Forest_line_to_1)
    (dRet (dUn revD (dVar 4))))))
theorem line_loop {E : DEnds} {rs : List Row} {a : Addr} {d0 d1 d2 : D} {M : Mem} (h : RowsOk rs) : ∀ (i : Nat) (lev : Int) (acc : List D) (o5 o6 o7 : Option D) (M1 : Mem), i <= rs.length -> (∀ b, b ≠ a -> M1 b = M b) -> M1 a = some (.lst acc) -> acc.length + i <= 100 ->
    (∀ lv2 o5 o6 o7 M2, (∀ b, b ≠ a -> M2 b = M b) -> M2 a = some (.lst (acc ++ (anc (lvs rs) i lev).map (nmAt rs))) -> E.nx [some d0, some d1, some d2, some (.int lv2), some (.ref a), o5, o6, o7] M2) ->
    forD (gT 3 (gsCons (gN 5) (gsCons (gN 6) (gsCons (gN 7) gsNil)))) l_Forest_line_to_1 ((rs.map Row.d).take i).reverse E [some d0, some d1, some d2, some (.int lev), some (.ref a), o5, o6, o7] M1 := by
  intro i
  induction i with
  | zero =>
    intro lev acc o5 o6 o7 M1 _ hb ha _ q
    simp [forD]
    exact q _ _ _ _ _ hb (by simpa [anc] using ha)
  | succ i ih =>
    intro lev acc o5 o6 o7 M1 hi hb ha hl q
    obtain ⟨x, hx⟩ := row_at (rs := rs) (p := i) (by omega)
    have e : ((rs.map Row.d).take (i + 1)).reverse = Row.d x :: ((rs.map Row.d).take i).reverse := by
      rw [List.take_succ, List.getElem?_map, hx]
      simp
    rw [e]
    unfold anc at q
    rw [lvs_of hx] at q
    refine forD_cons fun N hN => ?_
    simp [Row.d, l_Forest_line_to_1]
    by_cases hlt : x.lv < lev
    · rw [if_pos hlt] at q
      simp [hlt, dBM, φApp, vw_ref ha, ha]
      refine .inr ⟨by omega, hN _ _ (ih x.lv (acc ++ [nmAt rs i]) _ _ _ _ (by omega) (fun b hb2 => by rw [updM_ne hb2]; exact hb b hb2) (by rw [nmAt_of hx]; exact updM_same) (by simp; omega) fun lv2 o5 o6 o7 M2 h1 h2 => q lv2 o5 o6 o7 M2 h1 (by simpa using h2))⟩
    · rw [if_neg hlt] at q
      simp [hlt]
      exact ⟨by omega, hN _ _ (ih lev acc _ _ _ _ (by omega) hb ha (by omega) q)⟩
theorem pure_Forest_line_to : ∀ ds M Q E, sp_Forest_line_to ds M Q E -> ds.length = 2 /\ t_Forest_line_to (dEnds Q E) (startD N_Forest_line_to ds) M := by
  rintro ds M Q E ⟨rs, p, rfl, h, hp, q⟩
  refine ⟨rfl, ?_⟩
  have hlen := h.len
  obtain ⟨x, hx⟩ := row_at hp
  have hsp := spot_at h hp
  have hat : atI (rs.map Row.d) (p : Int) = some (Row.d x) := atI_get' (by simp [hx])
  simp only [Row.d] at hat
  simp [t_Forest_line_to, fld_rows, fld_spots, dFor, dLstM, -ixA_dK, hsp, hat, cutD_to]
  intro a ha
  refine line_loop h p x.lv [] none none none _ (by omega) (M := M) (fun b hb => updM_ne hb) updM_same (by simp; omega) ?_
  intro lv2 o5 o6 o7 M2 h1 h2
  simp [vw_ref h2]
  have e : ancs (lvs rs) p = anc (lvs rs) p x.lv := by unfold ancs; rw [lvs_of hx]
  rw [<- e, <- List.map_reverse]
  refine q M2 fun b d hb => ?_
  by_cases z : b = a
  · rw [z, ha] at hb; cases hb
  · rw [h1 b z]; exact hb
def sp_Forest_below : SpD := fun ds M Q _ => ∃ (rs : List Row) (p : Nat), ds = [FD rs, nmAt rs p] /\ RowsOk rs /\ p < rs.length /\ ∀ M', Keep M M' -> Q (.lst (belowD rs p)) M'
abbrev N_Forest_below : List Str := ["self", "name", "place", "found", "level", "other", "value", "height"]
def l_Forest_below_1 : DTS := (dSeq (dIf (dTest (dOp leD (dVar 7) (dVar 4))) dBrk dNext)
    (dDrop (dBM "list" φApp (dVar 3) (dCons (dVar 5) dNil))))
def t_Forest_below : DTS := (dSeq (dPar 2 3 (dCons (dOp ixA (dUn (fldD [0] "spots") (dVar 0)) (dVar 1)) (dCons (dLstM dNil) dNil)))
    (dSeq (dAsg (dOp ixA (dOp ixA (dUn (fldD [0] "rows") (dVar 0)) (dVar 2)) (dC (.int 2))) (gN 4))
    (dSeq (dFor (iS (dSl slD (dUn (fldD [0] "rows") (dVar 0)) (dPart (dOp addD (dVar 2) (dC (.int 1)))) dNoPart)) (gT 3 (gsCons (gN 5) (gsCons (gN 6) (gsCons (gN 7) gsNil)))) l_Forest_below_1)
    (dRet (dFrz (dVar 3))))))
theorem below_loop {E : DEnds} {a : Addr} {d0 d1 d2 : D} {lev : Int} {M : Mem} : ∀ (xs : List Row) (acc : List D) (o5 o6 o7 : Option D) (M1 : Mem), (∀ b, b ≠ a -> M1 b = M b) -> M1 a = some (.lst acc) -> acc.length + xs.length <= 100 ->
    (∀ o5 o6 o7 M2, (∀ b, b ≠ a -> M2 b = M b) -> M2 a = some (.lst (acc ++ (xs.takeWhile fun r => decide (lev < r.lv)).map fun r => strD r.nm)) -> E.nx [some d0, some d1, some d2, some (.ref a), some (.int lev), o5, o6, o7] M2) ->
    forD (gT 3 (gsCons (gN 5) (gsCons (gN 6) (gsCons (gN 7) gsNil)))) l_Forest_below_1 (xs.map Row.d) E [some d0, some d1, some d2, some (.ref a), some (.int lev), o5, o6, o7] M1 := by
  intro xs
  induction xs with
  | nil =>
    intro acc o5 o6 o7 M1 hb ha _ q
    exact q _ _ _ _ hb (by simpa using ha)
  | cons x xs ih =>
    intro acc o5 o6 o7 M1 hb ha hl q
    rw [List.map_cons]
    simp only [List.length_cons] at hl
    refine forD_cons fun N hN => ?_
    by_cases hlt : lev < x.lv
    · have hlt2 : ¬ x.lv <= lev := by omega
      simp [Row.d, l_Forest_below_1, hlt2, dBM, φApp, vw_ref ha, ha]
      refine ⟨by omega, hN _ _ (ih (acc ++ [strD x.nm]) _ _ _ _ (fun b hb2 => by rw [updM_ne hb2]; exact hb b hb2) updM_same (by simp; omega) fun o5 o6 o7 M2 h1 h2 => q o5 o6 o7 M2 h1 ?_)⟩
      rw [h2, List.takeWhile_cons, decide_eq_true hlt]
      simp
    · have hlt2 : x.lv <= lev := by omega
      simp [Row.d, l_Forest_below_1, hlt2]
      exact q _ _ _ _ hb (by rw [ha, List.takeWhile_cons, decide_eq_false hlt]; simp)
theorem pure_Forest_below : ∀ ds M Q E, sp_Forest_below ds M Q E -> ds.length = 2 /\ t_Forest_below (dEnds Q E) (startD N_Forest_below ds) M := by
  rintro ds M Q E ⟨rs, p, rfl, h, hp, q⟩
  refine ⟨rfl, ?_⟩
  have hlen := h.len
  obtain ⟨x, hx⟩ := row_at hp
  have hsp := spot_at h hp
  have hat : atI (rs.map Row.d) (p : Int) = some (Row.d x) := atI_get' (by simp [hx])
  have hcut : cutD (rs.map Row.d) (some ((p : Int) + 1)) none = (rs.drop (p + 1)).map Row.d := by
    rw [show ((p : Int) + 1) = ((p + 1 : Nat) : Int) by omega, cutD_from, List.map_drop]
  simp only [Row.d] at hat
  simp [t_Forest_below, fld_rows, fld_spots, dFor, dLstM, -ixA_dK, hsp, hat, hcut]
  intro a ha
  rw [<- List.map_drop]
  refine below_loop (rs.drop (p + 1)) [] none none none _ (M := M) (fun b hb => updM_ne hb) updM_same (by simp; omega) ?_
  intro o5 o6 o7 M2 h1 h2
  rw [List.nil_append, below_nm hx] at h2
  simp [h2]
  refine q _ fun b d hb => ?_
  have z : b ≠ a := fun z => by rw [z, ha] at hb; cases hb
  rw [delM_ne z, h1 b z]; exact hb
end LawProof
set_option Elab.async false
set_option linter.all false
set_option maxRecDepth 100000
set_option maxHeartbeats 4000000
set_option autoImplicit true
namespace LawProof
open PySem L2 DL FL
def Ob (M : Mem) (o : D) (rs : List Row) : Prop := o = FD rs
abbrev obF : List Str := ["rows", "order", "spots"]
abbrev obT (s1 : SpD) : List (Nat × SpD) := [(0, s1)]
section
variable {M : Mem} {o : D} {rs : List Row}
theorem Ob.keep {M' : Mem} (h : Ob M o rs) (k : Keep M M') : Ob M' o rs := h
theorem Ob.vw (h : Ob M o rs) : DL.vw M o = .obj 0 ["rows", "order", "spots"] [.tup (rs.map Row.d), .tup (rs.map fun r => strD r.nm), .dK (spotsK rs) (places rs.length)] := by
  cases h; rfl
theorem Ob.own (s : SpD) {m : Str} (h : Ob M o rs) (hm : m ∉ obF) : ∃ c ns ds, DL.vw M o = .obj c ns ds /\ (obT s).lookup c = some s /\ m ∉ ns :=
  ⟨0, _, _, h.vw, rfl, fun z => hm (by simp only [List.mem_cons, List.not_mem_nil, or_false] at z ⊢; rcases z with rfl | rfl | rfl <;> simp)⟩
theorem Ob.names (h : Ob M o rs) : ∃ c ns ds spd, DL.vw M o = .obj c ns ds /\ (obT sp_Forest_names).lookup c = some spd /\ ("names" : Str) ∉ ns /\ ∀ (Q : DV) (X : DEK), Q (.lst ((List.range rs.length).map (nmAt rs))) M -> spd [o] M Q X :=
  ⟨0, _, _, _, h.vw, rfl, by decide, fun Q X q => ⟨rs, by cases h; rfl, by rw [names_nm]; exact q⟩⟩
theorem Ob.has (h : Ob M o rs) {x : D} (hx : ∃ n, tyName x = some n) : ∃ c ns ds spd, DL.vw M o = .obj c ns ds /\ (obT sp_Forest_has_node).lookup c = some spd /\ ("has_node" : Str) ∉ ns /\ ∀ (Q : DV) (X : DEK), Q (.bl (hasN rs x)) M -> spd [o, x] M Q X :=
  ⟨0, _, _, _, h.vw, rfl, by decide, fun Q X q => ⟨rs, x, by cases h; rfl, hx, q⟩⟩
theorem Ob.worth (h : Ob M o rs) (ok : RowsOk rs) {p : Nat} (hp : p < rs.length) : ∃ c ns ds spd, DL.vw M o = .obj c ns ds /\ (obT sp_Forest_worth).lookup c = some spd /\ ("worth" : Str) ∉ ns /\ ∀ (Q : DV) (X : DEK), Q (.int ((vas rs).getD p 0)) M -> spd [o, nmAt rs p] M Q X :=
  ⟨0, _, _, _, h.vw, rfl, by decide, fun Q X q => ⟨rs, p, by cases h; rfl, ok, hp, q⟩⟩
theorem Ob.line (h : Ob M o rs) (ok : RowsOk rs) {p : Nat} (hp : p < rs.length) : ∃ c ns ds spd, DL.vw M o = .obj c ns ds /\ (obT sp_Forest_line_to).lookup c = some spd /\ ("line_to" : Str) ∉ ns /\ ∀ (Q : DV) (X : DEK), (∀ M', Keep M M' -> Q (.lst ((ancs (lvs rs) p).reverse.map (nmAt rs))) M') -> spd [o, nmAt rs p] M Q X :=
  ⟨0, _, _, _, h.vw, rfl, by decide, fun Q X q => ⟨rs, p, by cases h; rfl, ok, hp, q⟩⟩
theorem Ob.below (h : Ob M o rs) (ok : RowsOk rs) {p : Nat} (hp : p < rs.length) : ∃ c ns ds spd, DL.vw M o = .obj c ns ds /\ (obT sp_Forest_below).lookup c = some spd /\ ("below" : Str) ∉ ns /\ ∀ (Q : DV) (X : DEK), (∀ M', Keep M M' -> Q (.lst (belowD rs p)) M') -> spd [o, nmAt rs p] M Q X :=
  ⟨0, _, _, _, h.vw, rfl, by decide, fun Q X q => ⟨rs, p, by cases h; rfl, ok, hp, q⟩⟩
end
def AskN (rs : List Row) (x : D) (good : Nat -> Prop) (bad : Prop) : Prop := (∃ n, tyName x = some n) /\ (∀ p < rs.length, x = nmAt rs p -> good p) /\ (hasN rs x = false -> bad)
theorem AskN.at {rs : List Row} {p : Nat} {good : Nat -> Prop} {bad : Prop} (ok : RowsOk rs) (hp : p < rs.length) (q : good p) : AskN rs (nmAt rs p) good bad :=
  ⟨⟨_, rfl⟩, fun p' hp' e => by rw [<- (nm_inj ok hp hp').mp e]; exact q, fun z => by rw [hasN_at hp] at z; cases z⟩
def sp_Asked_check_nodes : SpD := fun ds M Q E => ∃ (o : D) (rs : List Row) (xs : List D), ds = [o, .lst xs] /\ Ob M o rs /\ (∀ x ∈ xs, ∃ n, tyName x = some n) /\ ((∀ x ∈ xs, hasN rs x = true) -> Q .non M) /\ (∀ (i : Nat) (x : D), xs[i]? = some x -> (∀ j < i, ∀ y, xs[j]? = some y -> hasN rs y = true) -> hasN rs x = false -> E 22 ["name"] [x] M)
abbrev N_Asked_check_nodes : List Str := ["self", "names", "name"]
def l_Asked_check_nodes_1 : DTS := (dIf (dNot (dTest (dMeth [(0, sp_Forest_has_node)] "has_node" (dVar 0) (dCons (dVar 2) dNil)))) (dRaise 22 ["name"] (dCons (dVar 2) dNil)) dNext)
def t_Asked_check_nodes : DTS := (dFor (iS (dVar 1)) (gN 2) l_Asked_check_nodes_1)
theorem pure_Asked_check_nodes : ∀ ds M Q E, sp_Asked_check_nodes ds M Q E -> ds.length = 2 /\ t_Asked_check_nodes (dEnds Q E) (startD N_Asked_check_nodes ds) M := by
  rintro ds M Q E ⟨o, rs, xs, rfl, hO, ht, q, qe⟩
  refine ⟨rfl, _, rfl, xs, rfl, ?_⟩
  refine forD_run _ (fun done ρ M1 => M1 = M /\ (∃ y, ρ = [some o, some (.lst xs), y]) /\ ∀ j < done.length, ∀ y, xs[j]? = some y -> hasN rs y = true) ?_ ?_ ⟨rfl, ⟨_, rfl⟩, fun j hj => absurd hj (by simp)⟩
  · rintro done x rest ρ M1 Nx e ⟨rfl, ⟨y, rfl⟩, hd⟩ nx
    have hx : xs[done.length]? = some x := by rw [e]; simp
    obtain ⟨c, ns, ds, spd, e1, e2, e3, e4⟩ := hO.has (ht x (List.mem_of_getElem? hx))
    refine ⟨_, rfl, c, ns, ds, spd, e1, e2, e3, _, rfl, e4 _ _ ⟨_, rfl, ?_⟩⟩
    cases hh : hasN rs x with
    | true =>
      refine nx _ _ ⟨rfl, ⟨_, rfl⟩, fun j hj y hy => ?_⟩
      simp only [List.length_append, List.length_singleton] at hj
      by_cases c : j < done.length
      · exact hd j c y hy
      · have : j = done.length := by omega
        subst this
        rw [hx] at hy
        cases hy
        exact hh
    | false => exact ⟨_, rfl, rfl, qe _ x hx hd hh⟩
  · rintro ρ M1 ⟨rfl, ⟨y, rfl⟩, hd⟩
    refine q fun x hx => ?_
    obtain ⟨i, hi⟩ := List.getElem?_of_mem hx
    exact hd i (List.getElem?_eq_some_iff.mp hi).1 x hi
theorem chk1 {M : Mem} {o x : D} {rs : List Row} {Q : DV} {E : DEK} (hO : Ob M o rs) (ht : ∃ n, tyName x = some n) (q : hasN rs x = true -> Q .non M) (qe : hasN rs x = false -> E 22 ["name"] [x] M) : sp_Asked_check_nodes [o, .lst [x]] M Q E :=
  ⟨o, rs, [x], rfl, hO, fun y hy => by rw [List.mem_singleton.mp hy]; exact ht, fun h => q (h x (by simp)), fun i y hi _ hf => by
    cases i with
    | zero => cases hi; exact qe hf
    | succ i => simp at hi⟩
theorem ask1 {M : Mem} {o x : D} {rs : List Row} {Q : DV} {E : DEK} {g : Nat -> Prop} (hO : Ob M o rs) (a : AskN rs x g (∀ M', Keep M M' -> E 22 ["name"] [x] M')) (q : ∀ p, p < rs.length -> x = nmAt rs p -> g p -> Q .non M) : sp_Asked_check_nodes [o, .lst [x]] M Q E :=
  chk1 hO a.1 (fun h => q _ (hasN_ix h).1 (hasN_ix h).2 (a.2.1 _ (hasN_ix h).1 (hasN_ix h).2)) fun h => a.2.2 h M (Keep.refl M)
def sp_Asked_ancestors_of : SpD := fun ds M Q E => ∃ (o x : D) (rs : List Row), ds = [o, x] /\ Ob M o rs /\ RowsOk rs /\ AskN rs x (fun p => ∀ M', Keep M M' -> Q (.lst ((ancs (lvs rs) p).reverse.map (nmAt rs))) M') (∀ M', Keep M M' -> E 22 ["name"] [x] M')
abbrev N_Asked_ancestors_of : List Str := ["self", "name"]
def t_Asked_ancestors_of : DTS := (dSeq (dDrop (dMeth [(0, sp_Asked_check_nodes)] "check_nodes" (dVar 0) (dCons (dLst (dCons (dVar 1) dNil)) dNil)))
    (dRet (dMeth [(0, sp_Forest_line_to)] "line_to" (dVar 0) (dCons (dVar 1) dNil))))
theorem pure_Asked_ancestors_of : ∀ ds M Q E, sp_Asked_ancestors_of ds M Q E -> ds.length = 2 /\ t_Asked_ancestors_of (dEnds Q E) (startD N_Asked_ancestors_of ds) M := by
  rintro ds M Q E ⟨o, x, rs, rfl, hO, ok, a⟩
  obtain ⟨c, ns, ds, e1, e2, e3⟩ := hO.own sp_Asked_check_nodes (m := "check_nodes") (by decide)
  refine ⟨rfl, _, rfl, c, ns, ds, _, e1, e2, e3, _, rfl, by simp, ?_⟩
  simp only [dNil]
  refine ask1 hO a fun p hp ex q => ?_
  subst ex
  obtain ⟨c, ns, ds, spd, e1, e2, e3, e4⟩ := hO.line ok hp
  exact ⟨_, rfl, c, ns, ds, spd, e1, e2, e3, _, rfl, e4 _ _ q⟩
def sp_Asked_descendants_of : SpD := fun ds M Q E => ∃ (o x : D) (rs : List Row), ds = [o, x] /\ Ob M o rs /\ RowsOk rs /\ AskN rs x (fun p => ∀ M', Keep M M' -> Q (.lst (belowD rs p)) M') (∀ M', Keep M M' -> E 22 ["name"] [x] M')
abbrev N_Asked_descendants_of : List Str := ["self", "name"]
def t_Asked_descendants_of : DTS := (dSeq (dDrop (dMeth [(0, sp_Asked_check_nodes)] "check_nodes" (dVar 0) (dCons (dLst (dCons (dVar 1) dNil)) dNil)))
    (dRet (dMeth [(0, sp_Forest_below)] "below" (dVar 0) (dCons (dVar 1) dNil))))
theorem pure_Asked_descendants_of : ∀ ds M Q E, sp_Asked_descendants_of ds M Q E -> ds.length = 2 /\ t_Asked_descendants_of (dEnds Q E) (startD N_Asked_descendants_of ds) M := by
  rintro ds M Q E ⟨o, x, rs, rfl, hO, ok, a⟩
  obtain ⟨c, ns, ds, e1, e2, e3⟩ := hO.own sp_Asked_check_nodes (m := "check_nodes") (by decide)
  refine ⟨rfl, _, rfl, c, ns, ds, _, e1, e2, e3, _, rfl, by simp, ?_⟩
  simp only [dNil]
  refine ask1 hO a fun p hp ex q => ?_
  subst ex
  obtain ⟨c, ns, ds, spd, e1, e2, e3, e4⟩ := hO.below ok hp
  exact ⟨_, rfl, c, ns, ds, spd, e1, e2, e3, _, rfl, e4 _ _ q⟩
def sp_Asked_parent_of : SpD := fun ds M Q E => ∃ (o x : D) (rs : List Row), ds = [o, x] /\ Ob M o rs /\ RowsOk rs /\ AskN rs x (fun p => ∀ M', Keep M M' -> Q (optNm rs (ancs (lvs rs) p).head?) M') (∀ M', Keep M M' -> E 22 ["name"] [x] M')
abbrev N_Asked_parent_of : List Str := ["self", "name"]
def t_Asked_parent_of : DTS := (dSeq (dDrop (dMeth [(0, sp_Asked_check_nodes)] "check_nodes" (dVar 0) (dCons (dLst (dCons (dVar 1) dNil)) dNil)))
    (dRet (dOp ixA (dOrT (dMeth [(0, sp_Forest_line_to)] "line_to" (dVar 0) (dCons (dVar 1) dNil)) (dLst (dCons (dC .non) dNil))) (dUn negD (dC (.int 1))))))
theorem pure_Asked_parent_of : ∀ ds M Q E, sp_Asked_parent_of ds M Q E -> ds.length = 2 /\ t_Asked_parent_of (dEnds Q E) (startD N_Asked_parent_of ds) M := by
  rintro ds M Q E ⟨o, x, rs, rfl, hO, ok, a⟩
  obtain ⟨c, ns, ds, e1, e2, e3⟩ := hO.own sp_Asked_check_nodes (m := "check_nodes") (by decide)
  refine ⟨rfl, _, rfl, c, ns, ds, _, e1, e2, e3, _, rfl, by simp, ?_⟩
  simp only [dNil]
  refine ask1 hO a fun p hp ex q => ?_
  subst ex
  obtain ⟨c, ns, ds, spd, e1, e2, e3, e4⟩ := hO.line ok hp
  refine ⟨_, rfl, c, ns, ds, spd, e1, e2, e3, _, rfl, e4 _ _ fun M1 k1 => ?_⟩
  have := q M1 k1
  cases e : ancs (lvs rs) p with
  | nil =>
    rw [e] at this
    exact ⟨false, by simp [truD], by simp, .int (-1), rfl, .non, rfl, this⟩
  | cons j js =>
    rw [e] at this
    refine ⟨true, by simp [truD], .int (-1), rfl, nmAt rs j, ?_, this⟩
    have := atI_lastF ((js.reverse).map (nmAt rs)) (nmAt rs j)
    simpa using this
def sp_Asked_level_of : SpD := fun ds M Q E => ∃ (o x : D) (rs : List Row), ds = [o, x] /\ Ob M o rs /\ RowsOk rs /\ AskN rs x (fun p => ∀ M', Keep M M' -> Q (.int ((lvs rs).getD p 0)) M') (∀ M', Keep M M' -> E 22 ["name"] [x] M')
abbrev N_Asked_level_of : List Str := ["self", "name"]
def t_Asked_level_of : DTS := (dSeq (dDrop (dMeth [(0, sp_Asked_check_nodes)] "check_nodes" (dVar 0) (dCons (dLst (dCons (dVar 1) dNil)) dNil)))
    (dRet (dCB lenF (dCons (dMeth [(0, sp_Forest_line_to)] "line_to" (dVar 0) (dCons (dVar 1) dNil)) dNil))))
theorem pure_Asked_level_of : ∀ ds M Q E, sp_Asked_level_of ds M Q E -> ds.length = 2 /\ t_Asked_level_of (dEnds Q E) (startD N_Asked_level_of ds) M := by
  rintro ds M Q E ⟨o, x, rs, rfl, hO, ok, a⟩
  obtain ⟨c, ns, ds, e1, e2, e3⟩ := hO.own sp_Asked_check_nodes (m := "check_nodes") (by decide)
  refine ⟨rfl, _, rfl, c, ns, ds, _, e1, e2, e3, _, rfl, by simp, ?_⟩
  simp only [dNil]
  refine ask1 hO a fun p hp ex q => ?_
  subst ex
  obtain ⟨c, ns, ds, spd, e1, e2, e3, e4⟩ := hO.line ok hp
  refine ⟨_, rfl, c, ns, ds, spd, e1, e2, e3, _, rfl, e4 _ _ fun M1 k1 => ⟨.int ((lvs rs).getD p 0), ?_, q M1 k1⟩⟩
  rw [<- ancs_count (ls := lvs rs) ok.lev (p := p) (by simpa [lvs] using hp)]
  show lenF [.lst _] = _
  simp
def sp_Asked_value_of : SpD := fun ds M Q E => ∃ (o x : D) (rs : List Row), ds = [o, x] /\ Ob M o rs /\ RowsOk rs /\ AskN rs x (fun p => Q (.int ((vas rs).getD p 0)) M) (∀ M', Keep M M' -> E 22 ["name"] [x] M')
abbrev N_Asked_value_of : List Str := ["self", "name"]
def t_Asked_value_of : DTS := (dSeq (dDrop (dMeth [(0, sp_Asked_check_nodes)] "check_nodes" (dVar 0) (dCons (dLst (dCons (dVar 1) dNil)) dNil)))
    (dRet (dMeth [(0, sp_Forest_worth)] "worth" (dVar 0) (dCons (dVar 1) dNil))))
theorem pure_Asked_value_of : ∀ ds M Q E, sp_Asked_value_of ds M Q E -> ds.length = 2 /\ t_Asked_value_of (dEnds Q E) (startD N_Asked_value_of ds) M := by
  rintro ds M Q E ⟨o, x, rs, rfl, hO, ok, a⟩
  obtain ⟨c, ns, ds, e1, e2, e3⟩ := hO.own sp_Asked_check_nodes (m := "check_nodes") (by decide)
  refine ⟨rfl, _, rfl, c, ns, ds, _, e1, e2, e3, _, rfl, by simp, ?_⟩
  simp only [dNil]
  refine ask1 hO a fun p hp ex q => ?_
  subst ex
  obtain ⟨c, ns, ds, spd, e1, e2, e3, e4⟩ := hO.worth ok hp
  exact ⟨_, rfl, c, ns, ds, spd, e1, e2, e3, _, rfl, e4 _ _ q⟩
def sp_Asked_roots : SpD := fun ds M Q _ => ∃ (o : D) (rs : List Row), ds = [o] /\ Ob M o rs /\ RowsOk rs /\ ∀ M', Keep M M' -> Q (.lst (rootsD rs)) M'
abbrev N_Asked_roots : List Str := ["self", "name"]
def t_Asked_roots : DTS := (dRet (dLc (iS (dMeth [(0, sp_Forest_names)] "names" (dVar 0) dNil)) (gN 1) (dTest (dOp eqD (dMeth [(0, sp_Forest_line_to)] "line_to" (dVar 0) (dCons (dVar 1) dNil)) (dLst dNil))) (dVar 1) [1]))
theorem pure_Asked_roots : ∀ ds M Q E, sp_Asked_roots ds M Q E -> ds.length = 1 /\ t_Asked_roots (dEnds Q E) (startD N_Asked_roots ds) M := by
  rintro ds M Q E ⟨o, rs, rfl, hO, ok, q⟩
  have hl := ok.len
  have hll : (lvs rs).length = rs.length := by simp [lvs]
  obtain ⟨c, ns, ds, spd, e1, e2, e3, e4⟩ := hO.names
  refine ⟨rfl, _, rfl, c, ns, ds, spd, e1, e2, e3, e4 _ _ ⟨_, rfl, fun a ha => ?_⟩⟩
  refine lcD_ix (nmAt rs) (fun i => if (ancs (lvs rs) i).head? = none then some (nmAt rs i) else none) _ (by simp; omega) ha (fun i hi M2 T k2 hT => ?_) fun M2 k2 => ?_
  · have hi := List.mem_range.mp hi
    obtain ⟨c, ns, ds, spd, e1, e2, e3, e4⟩ := (hO.keep k2).line ok hi
    refine ⟨_, rfl, c, ns, ds, spd, e1, e2, e3, _, rfl, e4 _ _ fun M3 k3 => ⟨by simp, .bl (decide ((ancs (lvs rs) i).head? = none)), ?_, _, rfl, ?_⟩⟩
    · rw [vw_lst, vw_lst, eqD_lst' (n := 0) (m := 0) (nm_pl ok fun j hj => ancs_bound (List.mem_reverse.mp hj) (by omega)) (by simp)]
      congr 2
      rw [Bool.eq_iff_iff]
      simp
    · have := hT M3 k3
      by_cases c : (ancs (lvs rs) i).head? = none
      · rw [if_pos c] at this
        rw [decide_eq_true c]
        exact ⟨_, rfl, this⟩
      · rw [if_neg c] at this
        rw [decide_eq_false c]
        exact this
  · have := q M2 k2
    rw [roots_sibs ok, <- sib_gen] at this
    rw [hll] at this
    exact this
def sp_Asked_children_of : SpD := fun ds M Q E => ∃ (o x : D) (rs : List Row), ds = [o, x] /\ Ob M o rs /\ RowsOk rs /\ AskN rs x (fun p => ∀ M', Keep M M' -> Q (.lst ((sibs (lvs rs) (some p)).map (nmAt rs))) M') (∀ M', Keep M M' -> E 22 ["name"] [x] M')
abbrev N_Asked_children_of : List Str := ["self", "name", "other"]
def t_Asked_children_of : DTS := (dSeq (dDrop (dMeth [(0, sp_Asked_check_nodes)] "check_nodes" (dVar 0) (dCons (dLst (dCons (dVar 1) dNil)) dNil)))
    (dRet (dLc (iS (dMeth [(0, sp_Forest_below)] "below" (dVar 0) (dCons (dVar 1) dNil))) (gN 2) (dTest (dOp eqD (dOp ixA (dMeth [(0, sp_Forest_line_to)] "line_to" (dVar 0) (dCons (dVar 2) dNil)) (dUn negD (dC (.int 1)))) (dVar 1))) (dVar 2) [2])))
theorem pure_Asked_children_of : ∀ ds M Q E, sp_Asked_children_of ds M Q E -> ds.length = 2 /\ t_Asked_children_of (dEnds Q E) (startD N_Asked_children_of ds) M := by
  rintro ds M Q E ⟨o, x, rs, rfl, hO, ok, a⟩
  have hl := ok.len
  have hll : (lvs rs).length = rs.length := by simp [lvs]
  obtain ⟨c, ns, ds, e1, e2, e3⟩ := hO.own sp_Asked_check_nodes (m := "check_nodes") (by decide)
  refine ⟨rfl, _, rfl, c, ns, ds, _, e1, e2, e3, _, rfl, by simp, ?_⟩
  simp only [dNil]
  refine ask1 hO a fun p hp ex q => ?_
  subst ex
  have hk := kids_le (lvs rs) p (by omega)
  obtain ⟨c, ns, ds, spd, e1, e2, e3, e4⟩ := hO.below ok hp
  refine ⟨_, rfl, c, ns, ds, spd, e1, e2, e3, _, rfl, e4 _ _ fun M0 k0 => ⟨_, rfl, fun a ha => ?_⟩⟩
  unfold belowD
  refine lcD_ix (nmAt rs) (fun i => if (ancs (lvs rs) i).head? = some p then some (nmAt rs i) else none) _ (by simp; omega) ha (fun i hi M2 T k2 hT => ?_) fun M2 k2 => ?_
  · have hi2 : i < rs.length := below_lt hp hi
    have hab : p ∈ ancs (lvs rs) i := (above_iff (lvs rs) (by omega)).mpr (by have := List.mem_range'_1.mp hi; omega)
    obtain ⟨c, ns, ds, spd, e1, e2, e3, e4⟩ := ((hO.keep k0).keep k2).line ok hi2
    refine ⟨_, rfl, c, ns, ds, spd, e1, e2, e3, _, rfl, e4 _ _ fun M3 k3 => ?_⟩
    cases e : ancs (lvs rs) i with
    | nil => rw [e] at hab; simp at hab
    | cons j js =>
      have hj : j < rs.length := anc_bound (ls := lvs rs) (i := i) (lev := (lvs rs).getD i 0) (by show j ∈ ancs (lvs rs) i; rw [e]; simp) (by omega)
      have hlast : ixA (vw M3 (.lst ((j :: js).reverse.map (nmAt rs)))) (vw M3 (.int (-1))) = some (nmAt rs j) := by
        have := atI_lastF ((js.reverse).map (nmAt rs)) (nmAt rs j)
        simpa using this
      refine ⟨.int (-1), rfl, nmAt rs j, hlast, _, rfl, .bl (decide (j = p)), ?_, _, rfl, ?_⟩
      · rw [vw_nmAt, vw_nmAt]
        have := eqF_nm ok hj hp
        rw [<- this]; rfl
      · have := hT M3 k3
        rw [e] at this
        simp only [List.head?_cons, Option.some.injEq] at this
        by_cases c : j = p
        · rw [if_pos c] at this
          rw [decide_eq_true c]
          exact ⟨_, rfl, this⟩
        · rw [if_neg c] at this
          rw [decide_eq_false c]
          exact this
  · have := q M2 (k0.trans k2)
    rw [<- kids_sibs (lvs rs) (by omega)] at this
    have e : (List.range' (p + 1) (kids (lvs rs) p)).filterMap (fun i => if (ancs (lvs rs) i).head? = some p then some (nmAt rs i) else none) = ((List.range' (p + 1) (kids (lvs rs) p)).filter fun j => decide ((ancs (lvs rs) j).head? = some p)).map (nmAt rs) := by
      rw [<- List.filterMap_eq_filter, List.map_filterMap]
      congr 1
      funext i
      by_cases c : (ancs (lvs rs) i).head? = some p <;> simp [c, Option.guard]
    rw [e]
    exact this
def sp_Asked_rank_of : SpD := fun ds M Q E => ∃ (o x : D) (rs : List Row), ds = [o, x] /\ Ob M o rs /\ RowsOk rs /\ AskN rs x (fun p => ∀ M', Keep M M' -> Q (.int ((sibs (lvs rs) (ancs (lvs rs) p).head?).idxOf p : Nat)) M') (∀ M', Keep M M' -> E 22 ["name"] [x] M')
abbrev N_Asked_rank_of : List Str := ["self", "name", "parent", "siblings"]
def t_Asked_rank_of : DTS := (dSeq (dAsg (dMeth [(0, sp_Asked_parent_of)] "parent_of" (dVar 0) (dCons (dVar 1) dNil)) (gN 2))
    (dSeq (dAsg (dIfE (dTest (dOp isNonD (dVar 2) (dC .non))) (dMeth [(0, sp_Asked_roots)] "roots" (dVar 0) dNil) (dMeth [(0, sp_Asked_children_of)] "children_of" (dVar 0) (dCons (dVar 2) dNil))) (gN 3))
    (dRet (dBM "list" φIndex (dVar 3) (dCons (dVar 1) dNil)))))
theorem rank_fin {Q : DV} {E : DEK} {rs : List Row} {p : Nat} {M1 : Mem} {o : D} {o2 : Option D} (h : RowsOk rs) (hp : p < rs.length) (q : Q (.int ((sibs (lvs rs) (ancs (lvs rs) p).head?).idxOf p : Nat)) M1) :
    dRet (dBM "list" φIndex (dVar 3) (dCons (dVar 1) dNil)) (dEnds Q E) [some o, some (nmAt rs p), o2, some (.lst ((sibs (lvs rs) (ancs (lvs rs) p).head?).map (nmAt rs)))] M1 := by
  have hll : (lvs rs).length = rs.length := by simp [lvs]
  have hm : p ∈ sibs (lvs rs) (ancs (lvs rs) p).head? := by simp [sibs]; omega
  have hlt : ∀ o, ∀ j ∈ sibs (lvs rs) o, j < rs.length := fun o j hj => by have := (List.mem_filter.mp hj).1; simp at this; omega
  simp only [dRet, dBM, dVar, dCons, dNil]
  refine ⟨_, rfl, rfl, _, rfl, _, _, (sibs (lvs rs) (ancs (lvs rs) p).head?).idxOf p, nmAt rs p, rfl, rfl, rfl, by simp [nmAt, strD, flatD], ?_, by rw [eqF_nm h hp hp]; simp, fun m z hmj hz => ?_, q⟩
  · rw [List.getElem?_map, (idx_at hm).1]; rfl
  · rw [List.getElem?_map] at hz
    cases e : (sibs (lvs rs) (ancs (lvs rs) p).head?)[m]? with
    | none => rw [e] at hz; cases hz
    | some j =>
      rw [e] at hz
      cases hz
      rw [eqF_nm h (hlt _ j (List.mem_of_getElem? e)) hp]
      have : j ≠ p := (idx_at hm).2 m j hmj e
      simp [this]
theorem pure_Asked_rank_of : ∀ ds M Q E, sp_Asked_rank_of ds M Q E -> ds.length = 2 /\ t_Asked_rank_of (dEnds Q E) (startD N_Asked_rank_of ds) M := by
  rintro ds M Q E ⟨o, x, rs, rfl, hO, ok, a⟩
  obtain ⟨c, ns, ds, e1, e2, e3⟩ := hO.own sp_Asked_parent_of (m := "parent_of") (by decide)
  refine ⟨rfl, _, rfl, c, ns, ds, _, e1, e2, e3, _, rfl, o, x, rs, rfl, hO, ok, a.1, fun p hp ex M1 k1 => ?_, a.2.2⟩
  have q := a.2.1 p hp ex
  subst ex
  have hO1 := hO.keep k1
  have hll : (lvs rs).length = rs.length := by simp [lvs]
  cases e : (ancs (lvs rs) p).head? with
  | none =>
    refine ⟨_, rfl, .bl true, rfl, true, rfl, ?_⟩
    obtain ⟨c, ns, ds, e1, e2, e3⟩ := hO1.own sp_Asked_roots (m := "roots") (by decide)
    refine ⟨_, rfl, c, ns, ds, _, e1, e2, e3, o, rs, rfl, hO1, ok, fun M2 k2 => ?_⟩
    have := rank_fin (E := E) (o := o) (o2 := some (optNm rs none)) ok hp (q M2 (k1.trans k2))
    rw [e] at this
    rw [roots_sibs ok]
    exact this
  | some j =>
    have hj : j < rs.length := anc_bound (ls := lvs rs) (i := p) (lev := (lvs rs).getD p 0) (by show j ∈ ancs (lvs rs) p; exact List.mem_of_head? e) (by omega)
    refine ⟨_, rfl, .bl false, rfl, false, rfl, ?_⟩
    obtain ⟨c, ns, ds, e1, e2, e3⟩ := hO1.own sp_Asked_children_of (m := "children_of") (by decide)
    refine ⟨_, rfl, c, ns, ds, _, e1, e2, e3, _, rfl, o, nmAt rs j, rs, rfl, hO1, ok, AskN.at ok hj fun M2 k2 => ?_⟩
    have := rank_fin (E := E) (o := o) (o2 := some (optNm rs (some j))) ok hp (q M2 (k1.trans k2))
    rw [e] at this
    exact this
def sp_Asked_size_of : SpD := fun ds M Q E => ∃ (o x : D) (rs : List Row), ds = [o, x] /\ Ob M o rs /\ RowsOk rs /\ AskN rs x (fun p => ∀ M', Keep M M' -> Q (.int (1 + kids (lvs rs) p : Nat)) M') (∀ M', Keep M M' -> E 22 ["name"] [x] M')
abbrev N_Asked_size_of : List Str := ["self", "name"]
def t_Asked_size_of : DTS := (dRet (dOp addD (dC (.int 1)) (dCB lenF (dCons (dMeth [(0, sp_Asked_descendants_of)] "descendants_of" (dVar 0) (dCons (dVar 1) dNil)) dNil))))
theorem pure_Asked_size_of : ∀ ds M Q E, sp_Asked_size_of ds M Q E -> ds.length = 2 /\ t_Asked_size_of (dEnds Q E) (startD N_Asked_size_of ds) M := by
  rintro ds M Q E ⟨o, x, rs, rfl, hO, ok, a⟩
  obtain ⟨c, ns, ds, e1, e2, e3⟩ := hO.own sp_Asked_descendants_of (m := "descendants_of") (by decide)
  refine ⟨rfl, _, rfl, c, ns, ds, _, e1, e2, e3, _, rfl, o, x, rs, rfl, hO, ok, a.1, fun p hp ex M1 k1 => ?_, a.2.2⟩
  refine ⟨.int (kids (lvs rs) p : Nat), by show lenF [.lst (belowD rs p)] = _; simp [below_len], .int (1 + kids (lvs rs) p : Nat), ?_, a.2.1 p hp ex M1 k1⟩
  show some (D.int (1 + (kids (lvs rs) p : Int))) = _
  congr 2
def sp_Asked_total_of : SpD := fun ds M Q E => ∃ (o x : D) (rs : List Row), ds = [o, x] /\ Ob M o rs /\ RowsOk rs /\ AskN rs x (fun p => ∀ M', Keep M M' -> Q (.int (totI rs p)) M') (∀ M', Keep M M' -> E 22 ["name"] [x] M')
abbrev N_Asked_total_of : List Str := ["self", "name", "other"]
def t_Asked_total_of : DTS := (dRet (dCB sumF (dCons (dLc (iS (dOp addD (dLst (dCons (dVar 1) dNil)) (dMeth [(0, sp_Asked_descendants_of)] "descendants_of" (dVar 0) (dCons (dVar 1) dNil)))) (gN 2) dYes (dMeth [(0, sp_Forest_worth)] "worth" (dVar 0) (dCons (dVar 2) dNil)) [2]) dNil)))
theorem pure_Asked_total_of : ∀ ds M Q E, sp_Asked_total_of ds M Q E -> ds.length = 2 /\ t_Asked_total_of (dEnds Q E) (startD N_Asked_total_of ds) M := by
  rintro ds M Q E ⟨o, x, rs, rfl, hO, ok, a⟩
  have hl := ok.len
  have hll : (lvs rs).length = rs.length := by simp [lvs]
  obtain ⟨c, ns, ds, e1, e2, e3⟩ := hO.own sp_Asked_descendants_of (m := "descendants_of") (by decide)
  refine ⟨rfl, _, rfl, by simp, _, rfl, c, ns, ds, _, e1, e2, e3, _, rfl, o, x, rs, rfl, hO, ok, a.1, fun p hp ex M1 k1 => ?_, a.2.2⟩
  have q := a.2.1 p hp ex
  subst ex
  have hk := kids_le (lvs rs) p (by omega)
  refine ⟨.lst ((p :: List.range' (p + 1) (kids (lvs rs) p)).map (nmAt rs)), by rw [vw_lst, vw_lst, addD_lst (by simp [below_len]; omega)]; rfl, _, rfl, fun a ha => ?_⟩
  refine lcD_ix (nmAt rs) (fun i => some (.int ((vas rs).getD i 0))) _ (by simp; omega) ha (fun i hi M2 T k2 hT => ?_) fun M2 k2 => ?_
  · have hi2 : i < rs.length := by
      rcases List.mem_cons.mp hi with rfl | hi
      · exact hp
      · exact below_lt hp hi
    obtain ⟨c, ns, ds, spd, e1, e2, e3, e4⟩ := ((hO.keep k1).keep k2).worth ok hi2
    exact ⟨_, rfl, c, ns, ds, spd, e1, e2, e3, _, rfl, e4 _ _ (hT _ (Keep.refl _))⟩
  · rw [show (p :: List.range' (p + 1) (kids (lvs rs) p)).filterMap (fun i => some (D.int ((vas rs).getD i 0))) = ((p :: List.range' (p + 1) (kids (lvs rs) p)).map fun i => (vas rs).getD i 0).map D.int by rw [List.map_map]; exact congrFun List.filterMap_eq_map _, tot_eq hp]
    refine ⟨.int (totI rs p), ?_, q _ (k1.trans k2)⟩
    show (intsOf ((((vas rs).drop p).take (1 + kids (lvs rs) p)).map D.int)).map _ = _
    rw [intsOf_map]
    rfl
def AskN2 (rs : List Row) (x y : D) (good : Nat -> Nat -> Prop) (bad : D -> Prop) : Prop := (∃ n, tyName x = some n) /\ (∃ n, tyName y = some n) /\ (∀ p < rs.length, ∀ q < rs.length, x = nmAt rs p -> y = nmAt rs q -> good p q) /\ (hasN rs x = false -> bad x) /\ (hasN rs x = true -> hasN rs y = false -> bad y)
theorem ask2 {M : Mem} {o x y : D} {rs : List Row} {Q : DV} {E : DEK} {g : Nat -> Nat -> Prop} (hO : Ob M o rs) (a : AskN2 rs x y g (fun z => ∀ M', Keep M M' -> E 22 ["name"] [z] M')) (q : ∀ p, p < rs.length -> ∀ j, j < rs.length -> x = nmAt rs p -> y = nmAt rs j -> g p j -> Q .non M) : sp_Asked_check_nodes [o, .lst [x, y]] M Q E := by
  refine ⟨o, rs, [x, y], rfl, hO, fun z hz => ?_, fun h => ?_, fun i z hi hj hf => ?_⟩
  · simp only [List.mem_cons, List.not_mem_nil, or_false] at hz
    rcases hz with rfl | rfl
    · exact a.1
    · exact a.2.1
  · have h1 := h x (by simp)
    have h2 := h y (by simp)
    exact q _ (hasN_ix h1).1 _ (hasN_ix h2).1 (hasN_ix h1).2 (hasN_ix h2).2 (a.2.2.1 _ (hasN_ix h1).1 _ (hasN_ix h2).1 (hasN_ix h1).2 (hasN_ix h2).2)
  · match i, hi with
    | 0, hi => cases hi; exact a.2.2.2.1 hf M (Keep.refl M)
    | 1, hi => cases hi; exact a.2.2.2.2 (hj 0 (by omega) x rfl) hf M (Keep.refl M)
    | i + 2, hi => simp at hi
def sp_Asked_is_above : SpD := fun ds M Q E => ∃ (o x y : D) (rs : List Row), ds = [o, x, y] /\ Ob M o rs /\ RowsOk rs /\ AskN2 rs x y (fun p q => ∀ M', Keep M M' -> Q (.bl (decide (p ∈ ancs (lvs rs) q))) M') (fun z => ∀ M', Keep M M' -> E 22 ["name"] [z] M')
abbrev N_Asked_is_above : List Str := ["self", "one", "other"]
def t_Asked_is_above : DTS := (dSeq (dDrop (dMeth [(0, sp_Asked_check_nodes)] "check_nodes" (dVar 0) (dCons (dLst (dCons (dVar 1) (dCons (dVar 2) dNil))) dNil)))
    (dRet (dOp inD (dVar 1) (dMeth [(0, sp_Forest_line_to)] "line_to" (dVar 0) (dCons (dVar 2) dNil)))))
theorem pure_Asked_is_above : ∀ ds M Q E, sp_Asked_is_above ds M Q E -> ds.length = 3 /\ t_Asked_is_above (dEnds Q E) (startD N_Asked_is_above ds) M := by
  rintro ds M Q E ⟨o, x, y, rs, rfl, hO, ok, a⟩
  obtain ⟨c, ns, ds, e1, e2, e3⟩ := hO.own sp_Asked_check_nodes (m := "check_nodes") (by decide)
  refine ⟨rfl, _, rfl, c, ns, ds, _, e1, e2, e3, _, rfl, _, rfl, by simp, ?_⟩
  simp only [dNil]
  refine ask2 hO a fun p hp j hj ex ey q => ?_
  subst ex ey
  obtain ⟨c, ns, ds, spd, e1, e2, e3, e4⟩ := hO.line ok hj
  refine ⟨_, rfl, _, rfl, c, ns, ds, spd, e1, e2, e3, _, rfl, e4 _ _ fun M1 k1 => ⟨_, in_nm ok hp _ (fun i hi => anc_bound (List.mem_reverse.mp hi) (by omega)), ?_⟩⟩
  simpa using q M1 k1
def sp_Asked_meet_of : SpD := fun ds M Q E => ∃ (o x y : D) (rs : List Row), ds = [o, x, y] /\ Ob M o rs /\ RowsOk rs /\ AskN2 rs x y (fun p q => ∀ M', Keep M M' -> Q (optNm rs (((line (lvs rs) p).filter fun x => decide (x ∈ line (lvs rs) q)).head?)) M') (fun z => ∀ M', Keep M M' -> E 22 ["name"] [z] M')
abbrev N_Asked_meet_of : List Str := ["self", "one", "other", "found", "here", "there"]
def l_Asked_meet_of_1 : DTS := (dSeq (dIf (dTest (dOp neD (dVar 4) (dVar 5))) (dRet (dVar 3)) dNext)
    (dAsg (dVar 4) (gN 3)))
def t_Asked_meet_of : DTS := (dSeq (dDrop (dMeth [(0, sp_Asked_check_nodes)] "check_nodes" (dVar 0) (dCons (dLst (dCons (dVar 1) (dCons (dVar 2) dNil))) dNil)))
    (dSeq (dAsg (dC .non) (gN 3))
    (dSeq (dFor (iZp (dOp addD (dMeth [(0, sp_Forest_line_to)] "line_to" (dVar 0) (dCons (dVar 1) dNil)) (dLst (dCons (dVar 1) dNil))) (dOp addD (dMeth [(0, sp_Forest_line_to)] "line_to" (dVar 0) (dCons (dVar 2) dNil)) (dLst (dCons (dVar 2) dNil)))) (gT 2 (gsCons (gN 4) (gsCons (gN 5) gsNil))) l_Asked_meet_of_1)
    (dRet (dVar 3)))))
theorem meet_loop {E : DEnds} {rs : List Row} {d0 d1 d2 : D} {M : Mem} (h : RowsOk rs) : ∀ (zs : List (Nat × Nat)) (f : Option Nat) (o4 o5 : Option D), (∀ z ∈ zs, z.1 < rs.length /\ z.2 < rs.length) ->
    (∀ o4 o5, E.nx [some d0, some d1, some d2, some (optNm rs (meetL f zs)), o4, o5] M) -> E.rt (optNm rs (meetL f zs)) M ->
    forD (gT 2 (gsCons (gN 4) (gsCons (gN 5) gsNil))) l_Asked_meet_of_1 (zs.map fun z => D.tup [nmAt rs z.1, nmAt rs z.2]) E [some d0, some d1, some d2, some (optNm rs f), o4, o5] M := by
  intro zs
  induction zs with
  | nil => intro f o4 o5 _ q _; exact q o4 o5
  | cons z zs ih =>
    intro f o4 o5 hz q r
    obtain ⟨a, b⟩ := z
    obtain ⟨ha, hb⟩ := hz (a, b) (by simp)
    have hne := ne_nm h ha hb
    have hv : ∀ i, vw M (nmAt rs i) = nmAt rs i := fun _ => rfl
    unfold meetL at q r
    refine forD_cons fun N hN => ?_
    by_cases e : a = b
    · subst e
      rw [if_pos rfl] at q r
      simp [l_Asked_meet_of_1, hv, hne]
      exact hN _ _ (ih (some a) _ _ (fun z hz2 => hz z (by simp [hz2])) q r)
    · rw [if_neg e] at q r
      simp [l_Asked_meet_of_1, hv, hne, e]
      exact r
theorem pure_Asked_meet_of : ∀ ds M Q E, sp_Asked_meet_of ds M Q E -> ds.length = 3 /\ t_Asked_meet_of (dEnds Q E) (startD N_Asked_meet_of ds) M := by
  rintro ds M Q E ⟨o, x, y, rs, rfl, hO, ok, a⟩
  obtain ⟨c, ns, ds, e1, e2, e3⟩ := hO.own sp_Asked_check_nodes (m := "check_nodes") (by decide)
  refine ⟨rfl, _, rfl, c, ns, ds, _, e1, e2, e3, _, rfl, _, rfl, by simp, ?_⟩
  simp only [dNil]
  refine ask2 hO a fun p hp j hj ex ey k => ?_
  subst ex ey
  obtain ⟨c, ns, ds, spd, e1, e2, e3, e4⟩ := hO.line ok hp
  refine ⟨_, rfl, c, ns, ds, spd, e1, e2, e3, _, rfl, e4 _ _ fun M1 hk1 => ?_⟩
  have n1 := ancs_len (lvs rs) p
  have n2 := ancs_len (lvs rs) j
  have hlen := ok.len
  refine ⟨_, rfl, by simp, .lst ((line (lvs rs) p).reverse.map (nmAt rs)), ?_, ?_⟩
  · rw [vw_lst, vw_lst, addD_lst (by simp; omega)]
    simp [line]
  obtain ⟨c, ns, ds, spd, e1, e2, e3, e4⟩ := (hO.keep hk1).line ok hj
  refine ⟨_, rfl, c, ns, ds, spd, e1, e2, e3, _, rfl, e4 _ _ fun M2 hk2 => ?_⟩
  refine ⟨_, rfl, by simp, .lst ((line (lvs rs) j).reverse.map (nmAt rs)), ?_, _, _, rfl, rfl, ?_⟩
  · rw [vw_lst, vw_lst, addD_lst (by simp; omega)]
    simp [line]
  have e : ((((line (lvs rs) p).reverse.map (nmAt rs)).zip ((line (lvs rs) j).reverse.map (nmAt rs))).map fun p => D.tup [p.1, p.2]) = (((line (lvs rs) p).reverse.zip (line (lvs rs) j).reverse).map fun z => D.tup [nmAt rs z.1, nmAt rs z.2]) := by
    rw [List.zip_map, List.map_map]; rfl
  rw [e]
  have hm := meet_eq (lvs rs) (p + j) p j (Nat.le_refl _)
  have kk := k M2 (hk1.trans hk2)
  rw [<- hm] at kk
  refine meet_loop ok _ none _ _ (fun z hz => ?_) ?_ kk
  · have h1 := List.of_mem_zip hz
    have g1 := List.mem_reverse.mp h1.1
    have g2 := List.mem_reverse.mp h1.2
    have := line_le _ _ _ g1
    have := line_le _ _ _ g2
    omega
  · intro o4 o5
    exact ⟨_, rfl, kk⟩
def sp_Asked_place_of : SpD := fun ds M Q E => ∃ (o x : D) (rs : List Row), ds = [o, x] /\ Ob M o rs /\ RowsOk rs /\ AskN rs x (fun p => Q (.int (p : Int)) M) (∀ M', Keep M M' -> E 22 ["name"] [x] M')
abbrev N_Asked_place_of : List Str := ["self", "name"]
def t_Asked_place_of : DTS := (dSeq (dDrop (dMeth [(0, sp_Asked_check_nodes)] "check_nodes" (dVar 0) (dCons (dLst (dCons (dVar 1) dNil)) dNil)))
    (dRet (dBM "list" φIndex (dMeth [(0, sp_Forest_names)] "names" (dVar 0) dNil) (dCons (dVar 1) dNil))))
theorem pure_Asked_place_of : ∀ ds M Q E, sp_Asked_place_of ds M Q E -> ds.length = 2 /\ t_Asked_place_of (dEnds Q E) (startD N_Asked_place_of ds) M := by
  rintro ds M Q E ⟨o, x, rs, rfl, hO, ok, a⟩
  obtain ⟨c, ns, ds, e1, e2, e3⟩ := hO.own sp_Asked_check_nodes (m := "check_nodes") (by decide)
  refine ⟨rfl, _, rfl, c, ns, ds, _, e1, e2, e3, _, rfl, by simp, ?_⟩
  simp only [dNil]
  refine ask1 hO a fun p hp ex q => ?_
  subst ex
  obtain ⟨c, ns, ds, spd, e1, e2, e3, e4⟩ := hO.names
  refine ⟨_, rfl, c, ns, ds, spd, e1, e2, e3, e4 _ _ ⟨rfl, _, rfl, ?_⟩⟩
  refine ⟨_, _, p, nmAt rs p, rfl, rfl, rfl, by simp [nmAt, strD], by simp [hp], by rw [eqF_nm ok hp hp]; simp, fun m z hm hz => ?_, q⟩
  have hml : m < rs.length := by omega
  rw [List.getElem?_map, List.getElem?_range hml] at hz
  cases hz
  rw [eqF_nm ok hml hp]
  simp; omega
def sp_Asked_name_at : SpD := fun ds M Q E => ∃ (o x : D) (rs : List Row), ds = [o, x] /\ Ob M o rs /\ RowsOk rs /\ (∃ n, tyName x = some n) /\ (∀ p < rs.length, x = .int (p : Nat) -> Q (nmAt rs p) M) /\ ((¬ ∃ p < rs.length, x = .int (p : Nat)) -> E 23 ["place"] [x] M)
abbrev N_Asked_name_at : List Str := ["self", "place"]
def t_Asked_name_at : DTS := (dSeq (dIf (dOr (dNot (dTest (dCall sp_is_integer [] (dCons (dVar 1) dNil)))) (dNot (dTest (dChain leD ltD (dC (.int 0)) (dVar 1) (dCB lenF (dCons (dMeth [(0, sp_Forest_names)] "names" (dVar 0) dNil) dNil)))))) (dRaise 23 ["place"] (dCons (dVar 1) dNil)) dNext)
    (dRet (dOp ixA (dMeth [(0, sp_Forest_names)] "names" (dVar 0) dNil) (dVar 1))))
theorem pure_Asked_name_at : ∀ ds M Q E, sp_Asked_name_at ds M Q E -> ds.length = 2 /\ t_Asked_name_at (dEnds Q E) (startD N_Asked_name_at ds) M := by
  rintro ds M Q E ⟨o, x, rs, rfl, hO, ok, ⟨n, hn⟩, q, qe⟩
  have hv : vw M x = x := by cases x <;> first | rfl | cases hn
  obtain ⟨c, ns, ds, spd, e1, e2, e3, e4⟩ := hO.names
  refine ⟨rfl, _, rfl, x, n, rfl, by rw [hv]; exact hn, _, rfl, ?_⟩
  by_cases hi : ∃ i, x = .int i
  case neg =>
    have : (n == "int") = false := by
      cases x <;> first | (cases hn; rfl) | (exact absurd ⟨_, rfl⟩ hi) | cases hn
    rw [this]
    exact ⟨_, rfl, rfl, qe fun ⟨p, _, e⟩ => hi ⟨_, e⟩⟩
  obtain ⟨i, rfl⟩ := hi
  cases hn
  refine ⟨_, rfl, decide (0 <= i), rfl, ?_⟩
  by_cases h0 : 0 <= i
  case neg =>
    rw [decide_eq_false h0]
    exact ⟨false, rfl, _, rfl, rfl, qe fun ⟨p, _, e⟩ => h0 (by cases e; omega)⟩
  rw [decide_eq_true h0]
  obtain ⟨p, rfl⟩ := Int.eq_ofNat_of_zero_le h0
  refine ⟨_, rfl, c, ns, ds, spd, e1, e2, e3, e4 _ _ ⟨.int (rs.length : Nat), by show lenF [.lst _] = _; simp, .bl (decide ((p : Int) < (rs.length : Nat))), rfl, _, rfl, ?_⟩⟩
  by_cases hp : p < rs.length
  case neg =>
    rw [decide_eq_false (by omega)]
    exact ⟨_, rfl, rfl, qe fun ⟨j, hj, e⟩ => hp (by cases e; exact hj)⟩
  rw [decide_eq_true (by omega)]
  obtain ⟨c, ns, ds, spd, e1, e2, e3, e4⟩ := hO.names
  refine ⟨_, rfl, c, ns, ds, spd, e1, e2, e3, e4 _ _ ⟨_, rfl, nmAt rs p, ?_, q p hp rfl⟩⟩
  exact atI_get' (by simp [hp])
end LawProof
set_option Elab.async false
set_option linter.all false
set_option maxRecDepth 100000
set_option maxHeartbeats 4000000
set_option autoImplicit true
namespace LawProof
open PySem L2 DL FL
inductive Said5 where
  | val : Said5
  | node (d : D) : Said5
  | place (d : D) : Said5
def sd5 : Said5 -> D
  | .val => .tup [.str "none", .non]
  | .node d => .tup [.str "node", d]
  | .place d => .tup [.str "place", d]
def SaidT5 (o : Said5) (Qt : DV) (Et : DEK) (M' : Mem) : Prop := match o with
  | .val => ∀ d, Qt d M'
  | .node d => Et 22 ["name"] [d] M'
  | .place d => Et 23 ["place"] [d] M'
def sp__law_said : THD -> THD := fun TH M Q _ => ∃ o : Said5, (∀ (Qt : DV) (Et : DEK), (∀ M', Keep M M' -> SaidT5 o Qt Et M') -> TH M Qt Et) /\ ∀ M', Keep M M' -> Q (sd5 o) M'
abbrev N__law_said : List Str := ["_law_act", "e"]
def t__law_said (d0 : D) (TH : THD) : DTS := (dSeq (dTry mtT0 (dDrop (dAct 0 d0 TH)) (⟨22, some 1, fun x => (dSeq (dIf (dOr (dTest (dCB (isxX isxT xcs x) (dCons (dVar 1) (dCons (dC (.cls 23)) dNil)))) (dOr (dTest (dCB (isxX isxT xcs x) (dCons (dVar 1) (dCons (dC (.cls 18)) dNil)))) (dNot (dTest (dCB (isxT' [(22, "ValueError"), (23, "ValueError"), (18, "ValueError"), (20, "ValueError")] x) (dCons (dVar 1) (dCons (dC (.ty "ValueError")) dNil))))))) (dRet (dTup (dCons (dC (.str "other")) (dCons (dC .non) dNil)))) dNext)
    (dRet (dTup (dCons (dC (.str "node")) (dCons (dXf [18, 22] "name" x (dVar 1)) dNil)))))⟩ :: (⟨23, some 1, fun x => (dRet (dIfE (dAnd (dTest (dCB (isxX isxT xcs x) (dCons (dVar 1) (dCons (dC (.cls 17)) dNil)))) (dNot (dTest (dCB (isxX isxT xcs x) (dCons (dVar 1) (dCons (dC (.cls 22)) dNil)))))) (dTup (dCons (dC (.str "place")) (dCons (dXf [20, 23] "place" x (dVar 1)) dNil))) (dTup (dCons (dC (.str "other")) (dCons (dC .non) dNil)))))⟩ :: (⟨17, none, fun x => (dRet (dTup (dCons (dC (.str "other")) (dCons (dC .non) dNil))))⟩ :: []))))
    (dRet (dTup (dCons (dC (.str "none")) (dCons (dC .non) dNil)))))
theorem isxT_at {M : Mem} {a dd : Addr} {c : Nat} {ns : List Str} {ds : List D} {n : String} {ut : List (Nat × String)} (h : c ∈ ut.map (·.1)) (hm : (c, n) ∈ ut) : isxT' ut (.exc a dd c ns ds) ([.exc a dd c ns ds, .ty n].map (vw M)) = some (.bl true) := by
  show isxT' ut (.exc a dd c ns ds) [.exc a dd c ns ds, .ty n] = _
  simp only [isxT', isxTG]
  rw [if_pos h, if_pos ⟨trivial, trivial, trivial, hm⟩]
theorem pure__law_said : ∀ d0 TH M Q E, sp__law_said TH M Q E -> t__law_said d0 TH (dEnds Q E) (startD N__law_said [d0]) M := by
  rintro d0 TH M Q E ⟨o, ht, q⟩
  refine ⟨rfl, ht _ _ fun M1 k1 => ?_⟩
  have q := q M1 k1
  cases o with
  | val => exact fun d => ⟨by simp, q⟩
  | node d =>
    refine ⟨by simp, true, by decide, fun _ a dd ha => ?_, fun z => by cases z⟩
    refine ⟨_, rfl, _, isx_at (by decide) (b := false) (by decide), false, rfl, ?_⟩
    refine ⟨_, rfl, _, isx_at (by decide) (b := false) (by decide), false, rfl, ?_⟩
    refine ⟨_, rfl, _, isxT_at (by decide) (by decide), true, rfl, ?_⟩
    exact ⟨_, rfl, rfl, d, exc_fld (by decide) (v := d) (by simp [lookN]), by simp, q⟩
  | place d =>
    refine ⟨by simp, false, by decide, (fun z => by cases z), fun _ => ?_⟩
    refine ⟨true, by decide, fun _ a dd ha => ?_, (fun z => by cases z)⟩
    refine ⟨_, rfl, _, isx_at (by decide) (b := true) (by decide), true, rfl, ?_⟩
    refine ⟨_, rfl, _, isx_at (by decide) (b := false) (by decide), false, rfl, ?_⟩
    exact ⟨_, rfl, rfl, d, exc_fld (by decide) (v := d) (by simp [lookN]), by simp, q⟩
def sp__law_asks : SpD := fun ds M Q _ => ∃ o x, ds = [o, x] /\ ∀ C cs, CapAt [some o, some x, none] M C ["_law_forest", "_law_name_so", "_law_acts"] [0, 1] cs -> Q (.lst ([9, 8, 7, 6, 5, 4, 3, 2, 1, 0].map fun j => .fn j C)) (shwM cs M)
def lam_0 : DTE := (dMeth [(0, sp_Asked_place_of)] "place_of" (dVar 0) (dCons (dVar 1) dNil))
def lam_1 : DTE := (dMethK [(0, sp_Asked_total_of)] "total_of" 1 [0, 1] (dVar 0) (dCons (dVar 1) dNil))
def lam_2 : DTE := (dMeth [(0, sp_Asked_value_of)] "value_of" (dVar 0) (dCons (dVar 1) dNil))
def lam_3 : DTE := (dMeth [(0, sp_Asked_size_of)] "size_of" (dVar 0) (dCons (dVar 1) dNil))
def lam_4 : DTE := (dMeth [(0, sp_Asked_level_of)] "level_of" (dVar 0) (dCons (dVar 1) dNil))
def lam_5 : DTE := (dMeth [(0, sp_Asked_descendants_of)] "descendants_of" (dVar 0) (dCons (dVar 1) dNil))
def lam_6 : DTE := (dMeth [(0, sp_Asked_ancestors_of)] "ancestors_of" (dVar 0) (dCons (dVar 1) dNil))
def lam_7 : DTE := (dMeth [(0, sp_Asked_rank_of)] "rank_of" (dVar 0) (dCons (dVar 1) dNil))
def lam_8 : DTE := (dMeth [(0, sp_Asked_children_of)] "children_of" (dVar 0) (dCons (dVar 1) dNil))
def lam_9 : DTE := (dMeth [(0, sp_Asked_parent_of)] "parent_of" (dVar 0) (dCons (dVar 1) dNil))
def lam_10 : DTE := (dMethK [(0, sp_Asked_meet_of)] "meet_of" 2 [0, 2, 1] (dVar 4) (dCons (dVar 7) (dCons (dVar 9) dNil)))
def lam_11 : DTE := (dMeth [(0, sp_Asked_is_above)] "is_above" (dVar 4) (dCons (dVar 9) (dCons (dVar 7) dNil)))
def lam_12 : DTE := (dMeth [(0, sp_Asked_meet_of)] "meet_of" (dVar 4) (dCons (dVar 7) (dCons (dVar 8) dNil)))
def lam_13 : DTE := (dMeth [(0, sp_Asked_is_above)] "is_above" (dVar 4) (dCons (dVar 7) (dCons (dVar 8) dNil)))
def lamT : Nat -> Option LamT
  | 0 => some ⟨["_law_forest", "_law_name_so", "_law_acts"], [0, 1], lam_0⟩
  | 1 => some ⟨["_law_forest", "_law_name_so", "_law_acts"], [0, 1], lam_1⟩
  | 2 => some ⟨["_law_forest", "_law_name_so", "_law_acts"], [0, 1], lam_2⟩
  | 3 => some ⟨["_law_forest", "_law_name_so", "_law_acts"], [0, 1], lam_3⟩
  | 4 => some ⟨["_law_forest", "_law_name_so", "_law_acts"], [0, 1], lam_4⟩
  | 5 => some ⟨["_law_forest", "_law_name_so", "_law_acts"], [0, 1], lam_5⟩
  | 6 => some ⟨["_law_forest", "_law_name_so", "_law_acts"], [0, 1], lam_6⟩
  | 7 => some ⟨["_law_forest", "_law_name_so", "_law_acts"], [0, 1], lam_7⟩
  | 8 => some ⟨["_law_forest", "_law_name_so", "_law_acts"], [0, 1], lam_8⟩
  | 9 => some ⟨["_law_forest", "_law_name_so", "_law_acts"], [0, 1], lam_9⟩
  | 10 => some ⟨["_law_script", "_law_cell", "_law_well_here", "_law_rows_here", "_law_forest", "_law_names_here", "_law_turn", "_law_odd", "_law_other_so", "_law_good", "_law_acts", "_law_told", "_law_some", "_law_bad", "_law_place", "_law_row", "_law_act"], [4, 7, 9], lam_10⟩
  | 11 => some ⟨["_law_script", "_law_cell", "_law_well_here", "_law_rows_here", "_law_forest", "_law_names_here", "_law_turn", "_law_odd", "_law_other_so", "_law_good", "_law_acts", "_law_told", "_law_some", "_law_bad", "_law_place", "_law_row", "_law_act"], [4, 7, 9], lam_11⟩
  | 12 => some ⟨["_law_script", "_law_cell", "_law_well_here", "_law_rows_here", "_law_forest", "_law_names_here", "_law_turn", "_law_odd", "_law_other_so", "_law_good", "_law_acts", "_law_told", "_law_some", "_law_bad", "_law_place", "_law_row", "_law_act"], [4, 7, 8], lam_12⟩
  | 13 => some ⟨["_law_script", "_law_cell", "_law_well_here", "_law_rows_here", "_law_forest", "_law_names_here", "_law_turn", "_law_odd", "_law_other_so", "_law_good", "_law_acts", "_law_told", "_law_some", "_law_bad", "_law_place", "_law_row", "_law_act"], [4, 7, 8], lam_13⟩
  | _ => none
abbrev N__law_asks : List Str := ["_law_forest", "_law_name_so", "_law_acts"]
def t__law_asks (C : Cells) : DTX := (dSeqX (dAsg (dLst (dCons (dLamV 9 C) (dCons (dLamV 8 C) dNil))) (gN 2))
    (dSeqX (dAsg (dOp addD (dVar 2) (dLst (dCons (dLamV 7 C) dNil))) (gN 2))
    (dSeqX (dAsg (dOp addD (dVar 2) (dLst (dCons (dLamV 6 C) (dCons (dLamV 5 C) dNil)))) (gN 2))
    (dSeqX (dAsg (dOp addD (dVar 2) (dLst (dCons (dLamV 4 C) (dCons (dLamV 3 C) dNil)))) (gN 2))
    (dSeqX (dAsg (dOp addD (dVar 2) (dLst (dCons (dLamV 2 C) (dCons (dLamV 1 C) dNil)))) (gN 2))
    (dRetX (dOp addD (dVar 2) (dLst (dCons (dLamV 0 C) dNil)))))))))
theorem pure__law_asks : ∀ ds M Q E, sp__law_asks ds M Q E -> ds.length = 2 /\ ∀ C, t__law_asks C (outX C N__law_asks [0, 1] Q) (fun c ns es _ M => E c ns es M) (startD N__law_asks ds) M := by
  rintro ds M Q E ⟨o, x, rfl, q⟩
  refine ⟨rfl, fun C => ?_⟩
  refine ⟨by simp, ?_⟩
  refine ⟨_, rfl, by simp, _, addD_lst (by simp), ?_⟩
  refine ⟨_, rfl, by simp, _, addD_lst (by simp), ?_⟩
  refine ⟨_, rfl, by simp, _, addD_lst (by simp), ?_⟩
  refine ⟨_, rfl, by simp, _, addD_lst (by simp), ?_⟩
  refine ⟨_, rfl, by simp, _, addD_lst (by simp), ?_⟩
  refine ⟨fun i hi => ?_, fun cs hc => q C cs ⟨hc.ix, hc.nd, hc.at_, fun c hm => ?_, hc.new⟩⟩
  · simp only [List.mem_cons, List.not_mem_nil, or_false] at hi
    rcases hi with rfl | rfl
    · exact ⟨_, rfl⟩
    · exact ⟨_, rfl⟩
  · have hv := hc.val c hm
    have : c.1 ∈ [0, 1] := by rw [<- hc.ix]; exact List.mem_map_of_mem hm
    simp only [List.mem_cons, List.not_mem_nil, or_false] at this
    rcases this with h | h
    · rw [h] at hv ⊢; exact hv
    · rw [h] at hv ⊢; exact hv
def Odd5 (rs : List Row) (d : D) : Prop := hasN rs d = false /\ (∃ n, tyName d = some n) /\ plX 3 d = true
def sp__law_no_names : SpD := fun ds M Q _ => ∃ (r : Addr) (n : Nat) (rs : List Row), ds = [.ref r, .lst (rs.map fun x => strD x.nm)] /\ Well M r n /\ n <= 1000000000000 /\ RowsOk rs /\ (∀ x ∈ rs, x.nm ≠ [113, 57, 57]) /\
  ∀ xs M', xs ≠ [] -> xs.length <= 100 -> (∀ x ∈ xs, Odd5 rs x) -> WTo M M' r (n + 1) -> Q (.lst xs) M'
abbrev N__law_no_names : List Str := ["_law_well_here", "_law_names_here", "_law_some", "_law_name_so", "_law_one_so"]
def l__law_no_names_1 : DTS := (dSeq (dAsg (dOp addD (dVar 2) (dLst (dCons (dLst (dCons (dVar 3) dNil)) (dCons (dTup (dCons (dVar 3) dNil)) (dCons (dBM "str" φUpper (dVar 3) dNil) (dCons (dOp addD (dVar 3) (dC (.str "A"))) (dCons (dOp addD (dVar 3) (dC (.str " "))) (dCons (dOp addD (dC (.str " ")) (dVar 3)) dNil)))))))) (gN 2))
    (dAsg (dOp addD (dVar 2) (dLc (iS (dLst (dCons (dSl slD (dVar 3) dNoPart (dPart (dUn negD (dC (.int 1))))) (dCons (dOp addD (dVar 3) (dC (.str "0"))) (dCons (dSl slD (dVar 3) (dPart (dC (.int 1))) dNoPart) dNil))))) (gN 4) (dTest (dOp ninD (dVar 4) (dVar 1))) (dVar 4) [4])) (gN 2)))
def l__law_no_names_2 : DTS := (dSeq (dAsg (dCall sp__law_one [] (dCons (dVar 0) (dCons (dVar 1) dNil))) (gN 3))
    l__law_no_names_1)
def l__law_no_names_3 : DTS := (dSeq (dIf (dTest (dOp neD (dVar 1) (dLst dNil))) l__law_no_names_2 dNext)
    (dRet (dVar 2)))
def t__law_no_names : DTS := (dSeq (dAsg (dLst (dCons (dC .non) (dCons (dC (.bl true)) (dCons (dC (.int 0)) (dCons (dC (.int 5)) (dCons (dC (.str "")) (dCons (dC (.str "A")) (dCons (dC (.str "zzzzzzzzz")) (dCons (dLst dNil) (dCons (dLst (dCons (dC (.str "a")) dNil)) (dCons (dTup dNil) (dCons (dTup (dCons (dC (.str "a")) (dCons (dC (.int 1)) dNil))) (dCons (dC (.dK [] [])) (dCons (dC (.str "q99")) dNil)))))))))))))) (gN 2))
    l__law_no_names_3)
theorem odd_str {rs : List Row} {x : List Nat} (h : x ∉ rs.map Row.nm) : Odd5 rs (strD x) := ⟨by rw [hasN_str]; simpa using h, ⟨_, rfl⟩, rfl⟩
theorem odd_bad {rs : List Row} {x : List Nat} (ok : RowsOk rs) (h : ¬ NameOk x) : Odd5 rs (strD x) := odd_str fun hm => by
  obtain ⟨r, hr, rfl⟩ := List.mem_map.mp hm
  exact h (ok.names r hr)
theorem odd_at {rs : List Row} {x : List Nat} (ok : RowsOk rs) {c : Nat} (hc : c ∈ x) (h : isS c = false) : Odd5 rs (strD x) := odd_bad ok fun hx => by
  rw [hx.all c hc] at h; cases h
theorem str_cps (z : Str) : D.str z = strD z.cps.toList := congrArg D.str (S_of z)
theorem up_letter {c : Nat} (h : isL c = true) : Unicode.upperOf c = [c - 32] := by
  have k : ∀ i : Fin 26, Unicode.upperOf (97 + i.val) = [97 + i.val - 32] := by decide +kernel
  have h2 : 97 <= c /\ c <= 122 := by simpa [isL] using h
  have := k ⟨c - 97, by omega⟩
  simpa [show 97 + (c - 97) = c by omega] using this
theorem upper_head {c : Nat} {r : List Nat} (h : isL c = true) : (c - 32) ∈ (Txt.upper (S (c :: r))).cps.toList := by
  show (c - 32) ∈ (placed (S (c :: r)) fun _ c => Unicode.upperOf c).toList
  unfold placed
  rw [Array.toList_flatten]
  refine List.mem_flatten.mpr ⟨[c - 32], ?_, by simp⟩
  rw [Array.toList_mapIdx]
  show _ ∈ List.map Array.toList (List.mapIdx _ (c :: r))
  rw [List.mapIdx_cons, List.map_cons]
  exact List.mem_cons.mpr (.inl (by show _ = (Unicode.upperOf c).toArray.toList; rw [up_letter h]))
theorem sl_str {x : List Nat} (h : x.length <= 1000) (lo hi : Option Int) : ∃ z : List Nat, slD (strD x) lo hi = some (strD z) := by
  refine ⟨(cutS (S x) lo hi).cps.toList, ?_⟩
  show (if (S x).length <= sizeLine then some (D.str (cutS (S x) lo hi)) else none) = _
  rw [if_pos (by rw [size_line]; simp [S, Str.length]; omega), str_cps]
section
variable {r : Addr} {n : Nat} {rs : List Row} {M M0 : Mem} {En : DEnds} {o3 o4 : Option D} {xs : List D} {nm : List Nat}
abbrev nnE (r : Addr) (rs : List Row) (xs : List D) (o3 o4 : Option D) : DL.Env := [some (.ref r), some (.lst (rs.map fun x => strD x.nm)), some (.lst xs), o3, o4]
theorem nn_1 (ok : RowsOk rs) (hn : NameOk nm) (hx : ∀ x ∈ xs, Odd5 rs x) (hl : xs.length <= 20) (t : WTo M0 M r n)
    (q : ∀ ys o4 M', (∀ x ∈ ys, Odd5 rs x) -> ys ≠ [] -> ys.length <= 100 -> WTo M0 M' r n -> En.nx (nnE r rs ys (some (strD nm)) o4) M') : l__law_no_names_1 En (nnE r rs xs (some (strD nm)) o4) M := by
  have hlen := hn.len
  obtain ⟨c, y, e, _, hc, _⟩ := hn
  have hn : NameOk nm := ⟨c, y, e, by assumption, hc, by assumption⟩
  have b1 : ∀ k : D, ∀ s : List Nat, s.length <= 2 -> addD (strD nm) (strD s) = some (strD (nm ++ s)) := fun _ s h => strD_add nm s (by omega)
  refine ⟨_, rfl, _, rfl, by simp, _, rfl, by simp, _, rfl, rfl, S nm, rfl, rfl, by simp [S, Str.length]; omega, ?_⟩
  refine ⟨_, rfl, strD (nm ++ [65]), strD_add nm [65] (by simp; omega), _, rfl, strD (nm ++ [32]), strD_add nm [32] (by simp; omega), _, rfl, strD ([32] ++ nm), strD_add [32] nm (by simp; omega), by simp, _, addD_lst (by simp; omega), ?_⟩
  have hx2 : ∀ x ∈ xs ++ [D.lst [strD nm], .tup [strD nm], .str (Txt.upper (S nm)), strD (nm ++ [65]), strD (nm ++ [32]), strD ([32] ++ nm)], Odd5 rs x := fun x hm => by
    rcases List.mem_append.mp hm with hm | hm
    · exact hx x hm
    · simp only [List.mem_cons, List.not_mem_nil, or_false] at hm
      rcases hm with rfl | rfl | rfl | rfl | rfl | rfl
      · exact ⟨rfl, ⟨_, rfl⟩, rfl⟩
      · exact ⟨rfl, ⟨_, rfl⟩, rfl⟩
      · rw [str_cps]
        refine odd_at ok (c := c - 32) (by rw [e]; exact upper_head hc) ?_
        have h2 : 97 <= c /\ c <= 122 := by simpa [isL] using hc
        have : ∀ i : Fin 26, isS (65 + i.val) = false := by decide
        have := this ⟨c - 97, by omega⟩
        simpa [show 65 + (c - 97) = c - 32 by omega] using this
      · exact odd_at ok (c := 65) (by simp) (by decide)
      · exact odd_at ok (c := 32) (by simp) (by decide)
      · exact odd_at ok (c := 32) (by simp) (by decide)
  have hl2 : (xs ++ [D.lst [strD nm], .tup [strD nm], .str (Txt.upper (S nm)), strD (nm ++ [65]), strD (nm ++ [32]), strD ([32] ++ nm)]).length <= 26 := by simp; omega
  have hne2 : xs ++ [D.lst [strD nm], .tup [strD nm], .str (Txt.upper (S nm)), strD (nm ++ [65]), strD (nm ++ [32]), strD ([32] ++ nm)] ≠ [] := by simp
  generalize xs ++ [D.lst [strD nm], .tup [strD nm], .str (Txt.upper (S nm)), strD (nm ++ [65]), strD (nm ++ [32]), strD ([32] ++ nm)] = zs at hx2 hl2 hne2
  obtain ⟨z1, hz1⟩ := sl_str (x := nm) (by omega) none (some (-1))
  obtain ⟨z2, hz2⟩ := sl_str (x := nm) (by omega) (some 1) none
  refine ⟨_, rfl, ?_⟩
  refine ⟨_, rfl, .int (-1), rfl, _, rfl, strD z1, hz1, _, rfl, strD (nm ++ [48]), strD_add nm [48] (by simp; omega), _, rfl, _, rfl, strD z2, hz2, by simp, _, rfl, fun a ha => ?_⟩
  have har : a ≠ r := fun z => t.ok.ne ha z.symm
  refine lcD_run _ (fun done acc M2 => (∀ x ∈ acc, Odd5 rs x) /\ acc.length <= done.length /\ WTo M M2 r n) ?_ ?_ ⟨fun x hx => (nomatch hx), by simp, (WTo.refl t.ok).upd ha har⟩
  · rintro done y rest acc M2 Nx e2 hM2 ⟨ho, hal, t2⟩ nx
    have hd : done.length < 3 := by have := congrArg List.length e2; simp at this; omega
    obtain ⟨w, rfl⟩ : ∃ w, y = strD w := by
      have : y ∈ [strD z1, strD (nm ++ [48]), strD z2] := e2 ▸ by simp
      simp only [List.mem_cons, List.not_mem_nil, or_false] at this
      rcases this with rfl | rfl | rfl <;> exact ⟨_, rfl⟩
    refine ⟨_, rfl, _, rfl, _, nin_nm, _, rfl, ?_⟩
    by_cases hw : w ∈ rs.map Row.nm
    · rw [decide_eq_true hw]
      exact nx _ _ hM2 ⟨ho, by simp; omega, t2⟩
    · rw [decide_eq_false hw]
      refine ⟨_, rfl, _, hM2, by rw [size_line]; omega, nx _ _ updM_same ⟨fun x hx => ?_, by simp; omega, t2.upd ha har⟩⟩
      rcases List.mem_append.mp hx with hx | hx
      · exact ho x hx
      · rw [List.mem_singleton.mp hx]; exact odd_str hw
  · rintro acc M2 hM2 ⟨ho, hal, t2⟩
    have hal : acc.length <= 3 := by simpa using hal
    refine ⟨_, addD_lst (by omega), q _ _ _ (fun x hx => ?_) (by simp [hne2]) (by simp; omega) (t.trans (t2.del ha har))⟩
    rcases List.mem_append.mp hx with hx | hx
    · exact hx2 x hx
    · exact ho x hx
end
theorem nms_pl {rs : List Row} (ok : RowsOk rs) : plDs 0 (rs.map fun x => strD x.nm) = true := by
  rw [names_nm]
  exact nm_pl ok fun i hi => by simpa using hi
theorem ne_nms {rs : List Row} (ok : RowsOk rs) : neD (.lst (rs.map fun x => strD x.nm)) (.lst []) = some (.bl (decide (rs ≠ []))) := by
  have := neD_lst' (nms_pl ok) (show plDs 0 [] = true from rfl)
  cases rs with
  | nil => rfl
  | cons x rs =>
    rw [this]
    simp [eqTs]
theorem pure__law_no_names : ∀ ds M Q E, sp__law_no_names ds M Q E -> ds.length = 2 /\ t__law_no_names (dEnds Q E) (startD N__law_no_names ds) M := by
  rintro ds M Q E ⟨r, n, rs, rfl, hw, hn, ok, h99, q⟩
  refine ⟨rfl, ?_⟩
  refine ⟨by simp, by simp, by simp, by simp, by simp, ?_⟩
  have h0 : ∀ x ∈ [D.non, .bl true, .int 0, .int 5, .str "", .str "A", .str "zzzzzzzzz", .lst [], .lst [.str "a"], .tup [], .tup [.str "a", .int 1], .dK [] [], .str "q99"], Odd5 rs x := fun x hx => by
    simp only [List.mem_cons, List.not_mem_nil, or_false] at hx
    rcases hx with rfl | rfl | rfl | rfl | rfl | rfl | rfl | rfl | rfl | rfl | rfl | rfl | rfl
    · exact ⟨rfl, ⟨_, rfl⟩, rfl⟩
    · exact ⟨rfl, ⟨_, rfl⟩, rfl⟩
    · exact ⟨rfl, ⟨_, rfl⟩, rfl⟩
    · exact ⟨rfl, ⟨_, rfl⟩, rfl⟩
    · rw [str_cps]
      exact odd_bad ok fun z => by obtain ⟨c, y, e, _⟩ := z; cases e
    · rw [str_cps]
      exact odd_at ok (c := 65) (by decide) (by decide)
    · rw [str_cps]
      exact odd_bad ok fun z => by
        have := z.len.2
        exact absurd this (by decide)
    · exact ⟨rfl, ⟨_, rfl⟩, rfl⟩
    · exact ⟨rfl, ⟨_, rfl⟩, rfl⟩
    · exact ⟨rfl, ⟨_, rfl⟩, rfl⟩
    · exact ⟨rfl, ⟨_, rfl⟩, rfl⟩
    · exact ⟨rfl, ⟨_, rfl⟩, rfl⟩
    · rw [str_cps]
      exact odd_str fun hm => by
        obtain ⟨y, hy, e⟩ := List.mem_map.mp hm
        exact h99 y hy e
  refine ⟨_, rfl, by simp, _, ne_nms ok, _, rfl, ?_⟩
  by_cases he : rs = []
  · rw [decide_eq_false (by simpa using he)]
    exact ⟨_, rfl, q _ _ (by simp) (by simp) h0 ((WTo.refl hw).mono (by omega))⟩
  · rw [decide_eq_true he]
    refine ⟨_, rfl, _, rfl, r, _, _, n, rfl, hw, by omega, by simp, by simp, .inl ⟨rfl, by have := ok.len; simp; omega⟩, by simpa using he, fun x M1 hx t1 => ?_⟩
    obtain ⟨y, hy, rfl⟩ := List.mem_map.mp hx
    refine nn_1 (M0 := M) ok (ok.names y hy) h0 (by simp) t1 fun ys o4 M2 ho hne hl t2 => ?_
    exact ⟨_, rfl, q _ _ hne hl ho t2⟩
end LawProof
set_option Elab.async false
set_option linter.all false
set_option maxRecDepth 100000
set_option maxHeartbeats 4000000
set_option autoImplicit true
namespace LawProof
open PySem L2 DL FL
def sp_law : SpD := fun ds M Q _ => ∃ ns : List Int, ds = [.lst (ns.map D.int)] /\ ns.length <= 63 /\ ∀ M', Q (.bl true) M'
abbrev N_law : List Str := ["_law_script", "_law_cell", "_law_well_here", "_law_rows_here", "_law_forest", "_law_names_here", "_law_turn", "_law_odd", "_law_other_so", "_law_good", "_law_acts", "_law_told", "_law_some", "_law_bad", "_law_place", "_law_row", "_law_act"]
def l_law_1 (C : Cells) : DTS := (dIf (dTest (dOp neD (dMeth [(0, sp_Asked_name_at)] "name_at" (dVar 4) (dCons (dVar 14) dNil)) (dOp ixA (dVar 5) (dVar 14)))) (dRet (dC (.bl false))) dNext)
def l_law_2 (C : Cells) : DTS := (dSeq (dAsg (dCall sp__law_one [] (dCons (dVar 2) (dCons (dOp addD (dVar 12) (dLst (dCons (dC (.str "0")) (dCons (dLst dNil) (dCons (dTup (dCons (dC (.int 0)) dNil)) (dCons (dC (.dK [] [])) dNil)))))) dNil))) (gN 13))
    (dIf (dTest (dBin bNeT (dThk sp__law_said (dMeth [(0, sp_Asked_name_at)] "name_at" (dVar 4) (dCons (dVar 13) dNil))) (dTup (dCons (dC (.str "place")) (dCons (dVar 13) dNil))))) (dRet (dC (.bl false))) dNext))
def l_law_3 (C : Cells) : DTS := (dSeq (dAsg (dLst (dCons (dUn negD (dC (.int 1))) (dCons (dCB lenF (dCons (dVar 3) dNil)) (dCons (dOp addD (dCB lenF (dCons (dVar 3) dNil)) (dCall sp__law_draw [] (dCons (dVar 2) (dCons (dC (.int 99)) dNil)))) (dCons (dOp powD (dC (.int 10)) (dC (.int 30))) (dCons (dC (.bl true)) (dCons (dC .non) dNil))))))) (gN 12))
    (l_law_2 C))
def l_law_4 (C : Cells) : DTS := (dSeq (dIf (dAnd (dTest (dOp neD (dVar 5) (dLst dNil))) (dTest (dOp neD (dVar 11) (dBin bRepD (dLstM (dCons (dTup (dCons (dC (.str "none")) (dCons (dC .non) dNil))) dNil)) (dC (.int 10)))))) (dRet (dC (.bl false))) dNext)
    (l_law_3 C))
def l_law_5 (C : Cells) : DTS := (dSeq (dAsg (dLc (iS (dCall sp__law_asks [] (dCons (dVar 4) (dCons (dVar 9) dNil)))) (gN 16) dYes (dSaidV lamT sp__law_said (dVar 16)) [16]) (gN 11))
    (l_law_4 C))
def l_law_6 (C : Cells) : DTS := (dSeq (dIf (dTest (dBin bNeX (dLc (iS (dVar 10)) (gN 16) dYes (dSaidS C N_law [4, 7, 9] lamT sp__law_said (dVar 16)) [16]) (dBin bRepD (dLstM (dCons (dTup (dCons (dC (.str "node")) (dCons (dVar 7) dNil))) dNil)) (dC (.int 2))))) (dRet (dC (.bl false))) dNext)
    (l_law_5 C))
def l_law_7 (C : Cells) : DTS := (dSeq (dAsg (dLst (dCons (dLamV 11 C) (dCons (dLamV 10 C) dNil))) (gN 10))
    (l_law_6 C))
def l_law_8 (C : Cells) : DTS := (dSeq (dIf (dTest (dBin bNeX (dLc (iS (dVar 10)) (gN 16) dYes (dSaidS C N_law [4, 7, 8] lamT sp__law_said (dVar 16)) [16]) (dBin bRepD (dLstM (dCons (dTup (dCons (dC (.str "node")) (dCons (dVar 7) dNil))) dNil)) (dC (.int 2))))) (dRet (dC (.bl false))) dNext)
    (l_law_7 C))
def l_law_9 (C : Cells) : DTS := (dSeq (dAsg (dLst (dCons (dLamV 13 C) (dCons (dLamV 12 C) dNil))) (gN 10))
    (l_law_8 C))
def l_law_10 (C : Cells) : DTS := (dSeq (dAsg (dIfE (dTest (dOp neD (dVar 5) (dLst dNil))) (dCall sp__law_one [] (dCons (dVar 2) (dCons (dVar 5) dNil))) (dVar 7)) (gN 9))
    (l_law_9 C))
def l_law_11 (C : Cells) : DTS := (dSeq (dIf (dTest (dBin bNeX (dLc (iS (dCall sp__law_asks [] (dCons (dVar 4) (dCons (dVar 7) dNil)))) (gN 16) dYes (dSaidV lamT sp__law_said (dVar 16)) [16]) (dBin bRepD (dLstM (dCons (dTup (dCons (dC (.str "node")) (dCons (dVar 7) dNil))) dNil)) (dC (.int 10))))) (dRet (dC (.bl false))) dNext)
    (l_law_10 C))
def l_law_12 (C : Cells) : DTS := (dSeq (dAsg (dCall sp__law_one [] (dCons (dVar 2) (dCons (dCall sp__law_no_names [] (dCons (dVar 2) (dCons (dVar 5) dNil))) dNil))) (gN 8))
    (l_law_11 C))
def l_law_13 (C : Cells) : DTS := (dSeq (dAsg (dCall sp__law_one [] (dCons (dVar 2) (dCons (dCall sp__law_no_names [] (dCons (dVar 2) (dCons (dVar 5) dNil))) dNil))) (gN 7))
    (l_law_12 C))
def l_law_14 (C : Cells) : DTS := (dSeq (dFor (iR1 (dC (.int 3))) (gN 6) (l_law_13 C))
    (dFor (iR1 (dCB lenF (dCons (dVar 3) dNil))) (gN 14) (l_law_1 C)))
def l_law_15 (C : Cells) : DTS := (dSeq (dAsg (dTup (dCons (dMake 0 sp_Forest___init__ (dCons (dVar 3) dNil)) (dCons (dLc (iS (dVar 3)) (gN 15) dYes (dOp ixA (dVar 15) (dC (.int 0))) [15]) dNil))) (gT 2 (gsCons (gN 4) (gsCons (gN 5) gsNil))))
    (l_law_14 C))
def l_law_16 (C : Cells) : DTS := (dSeq (dAsg (dCall sp__law_rows [] (dCons (dVar 2) (dCons (dCall sp__law_one [] (dCons (dVar 2) (dCons (dLst (dCons (dC (.int 3)) (dCons (dC (.int 9)) (dCons (dC (.int 25)) dNil)))) dNil))) dNil))) (gN 3))
    (l_law_15 C))
def l_law_17 (C : Cells) : DTS := (dSeq (dAsg (dCall sp__law_well [] (dCons (dVar 1) dNil)) (gN 2))
    (l_law_16 C))
def tc_law (C : Cells) : DTS := (dSeq (dFor (iS (dSl slD (dOp addD (dVar 0) (dLst (dCons (dC (.int 0)) dNil))) dNoPart (dPart (dC (.int 5))))) (gN 1) (l_law_17 C))
    (dRet (dC (.bl true))))
def t_law : DTS := dAllC tc_law
theorem mkF {M : Mem} {Q : DV} {E : DEK} {rs : List Row} (h : RowsOk rs) (q : Q (FD rs) M) : ∀ x, M x = none -> sp_Forest___init__ [.ref x, .lst (rs.map Row.d)] (updM M x (.obj 0 [] [])) (fun d M2 => d = .non /\ frz (.ref x) M2 Q) E := fun x hx => by
  refine ⟨x, rs, rfl, h, updM_same, rfl, ?_⟩
  simp only [updM_updM, frz, updM_same, delM_updM hx]
  exact q
theorem keep_shw {cs : List CelE} {M M' : Mem} (hm : ∀ c ∈ cs, M c.2.1 = some (.cel c.2.2.1 c.2.2.2)) (k : Keep (hidM (adrs cs) M) M') : Keep M (shwM cs M') := fun b d e => by
  by_cases hb : b ∈ adrs cs
  · obtain ⟨c, hc, e1, _, f⟩ := shw_in hb
    rw [f, <- hm c hc, e1]; exact e
  · rw [shwM_out hb]; exact k b d (by rw [hidM_out hb]; exact e)
theorem keep_shn {cs : List CelE} {M : Mem} (h : ∀ c ∈ cs, M c.2.1 = none) : Keep M (shwM cs M) := fun b d e => by
  have hb : b ∉ adrs cs := fun hm => by
    obtain ⟨c, hc, rfl⟩ := List.mem_map.mp hm
    rw [h c hc] at e; cases e
  rw [shwM_out hb]; exact e
theorem keep_hid {cs : List CelE} {M M' : Mem} (h : ∀ c ∈ cs, M c.2.1 = none) (k : Keep (shwM cs M) M') : Keep M (hidM (adrs cs) M') := fun b d e => by
  have hb : b ∉ adrs cs := fun hm => by
    obtain ⟨c, hc, rfl⟩ := List.mem_map.mp hm
    rw [h c hc] at e; cases e
  rw [hidM_out hb]; exact k b d (by rw [shwM_out hb]; exact e)
theorem lam_run {j : Nat} {C : Cells} {L : LamT} {cs : List CelE} {M : Mem} {Qt : DV} {Et : DEK} {o : Said5} (hL : lamT j = some L) (ok : CapOk M C L.N L.cap cs) (h : ∀ M', Keep M M' -> SaidT5 o Qt Et M')
    (t : ∀ (K : DV) (X : DX), (∀ M', Keep (hidM (adrs cs) M) M' -> SaidT5 o K (fun c ns es M2 => X c ns es (capEnv L.N.length cs) M2) M') -> L.τ (capEnv L.N.length cs) (hidM (adrs cs) M) K X) : LamRun lamT j C M Qt Et :=
  ⟨L, cs, hL, ok, t _ _ fun M' k => by
    have := h _ (keep_shw ok.mem k)
    cases o with
    | val => exact fun d _ => this d
    | node d => exact fun _ => this
    | place d => exact fun _ => this⟩
theorem lk_cap {ρ : DL.Env} {i : Nat} {d : D} (hd : ρ[i]? = some (some d)) : ∀ (cs : List CelE), (∀ c ∈ cs, ρ[c.1]? = some (some c.2.2.2)) -> i ∈ cs.map (·.1) -> (cs.map fun c => (c.1, c.2.2.2)).lookup i = some d
  | [], _, hi => by simp at hi
  | c :: cs, h, hi => by
    rw [List.map_cons, List.lookup_cons]
    by_cases e : i = c.1
    · have := h c (by simp)
      rw [<- e, hd] at this
      have := Option.some.inj (Option.some.inj this)
      subst e
      simp [this]
    · have : (i == c.1) = false := by simpa using e
      rw [this]
      refine lk_cap hd cs (fun x hx => h x (List.mem_cons_of_mem _ hx)) ?_
      rw [List.map_cons] at hi
      rcases List.mem_cons.mp hi with z | z
      · exact absurd z e
      · exact z
theorem env_cap {ρ : DL.Env} {M : Mem} {C : Cells} {N : List Str} {cap : List Nat} {cs : List CelE} (hc : CapAt ρ M C N cap cs) {n i : Nat} {d : D} (hi : i ∈ cap) (hn : i < n) (hd : ρ[i]? = some (some d)) : (capEnv n cs)[i]? = some (some d) :=
  capL_get.mpr ⟨hn, lk_cap hd cs hc.val (by rw [hc.ix]; exact hi)⟩
def ask5 (rs : List Row) (x : D) : Said5 := if hasN rs x = true then .val else .node x
section
variable {rs : List Row} {x y : D} {ρ : DL.Env} {M : Mem} {K : DV} {X : DX}
theorem asks_tau (j : Nat) (hj : j < 10) : ∃ L, lamT j = some L /\ L.N = N__law_asks /\ L.cap = [0, 1] /\ ∀ {rs : List Row} {x : D} {ρ : DL.Env} {M : Mem} {K : DV} {X : DX}, RowsOk rs -> (∃ n, tyName x = some n) -> ρ[0]? = some (some (FD rs)) -> ρ[1]? = some (some x) ->
    (∀ M', Keep M M' -> SaidT5 (ask5 rs x) K (fun c ns es M2 => X c ns es ρ M2) M') -> L.τ ρ M K X := by
  have go : ∀ {rs : List Row} {x : D} {ρ : DL.Env} {M : Mem} {K : DV} {X : DX}, (∀ M', Keep M M' -> SaidT5 (ask5 rs x) K (fun c ns es M2 => X c ns es ρ M2) M') -> (∀ p < rs.length, x = nmAt rs p -> ∀ d M', Keep M M' -> K d M') /\ (hasN rs x = false -> ∀ M', Keep M M' -> X 22 ["name"] [x] ρ M') := fun {rs x ρ M K X} h => by
    constructor
    · intro p hp e d M' k
      have := h M' k
      unfold ask5 at this
      rw [if_pos (by rw [e]; exact hasN_at hp)] at this
      exact this d
    · intro e M' k
      have := h M' k
      unfold ask5 at this
      rw [if_neg (by rw [e]; simp)] at this
      exact this
  match j, hj with
  | 0, _ => exact ⟨_, rfl, rfl, rfl, fun {rs x ρ M K X} ok ty h0 h1 h => ⟨_, h0, 0, _, _, _, rfl, rfl, by decide, x, h1, FD rs, x, rs, rfl, rfl, ok, ty, fun p hp e => (go h).1 p hp e _ M (Keep.refl M), (go h).2⟩⟩
  | 1, _ => exact ⟨_, rfl, rfl, rfl, fun {rs x ρ M K X} ok ty h0 h1 h => ⟨_, h0, 0, _, _, _, rfl, rfl, by decide, x, h1, rfl, FD rs, x, rs, rfl, rfl, ok, ty, fun p hp e M' k => (go h).1 p hp e _ M' k, (go h).2⟩⟩
  | 2, _ => exact ⟨_, rfl, rfl, rfl, fun {rs x ρ M K X} ok ty h0 h1 h => ⟨_, h0, 0, _, _, _, rfl, rfl, by decide, x, h1, FD rs, x, rs, rfl, rfl, ok, ty, fun p hp e => (go h).1 p hp e _ M (Keep.refl M), (go h).2⟩⟩
  | 3, _ => exact ⟨_, rfl, rfl, rfl, fun {rs x ρ M K X} ok ty h0 h1 h => ⟨_, h0, 0, _, _, _, rfl, rfl, by decide, x, h1, FD rs, x, rs, rfl, rfl, ok, ty, fun p hp e M' k => (go h).1 p hp e _ M' k, (go h).2⟩⟩
  | 4, _ => exact ⟨_, rfl, rfl, rfl, fun {rs x ρ M K X} ok ty h0 h1 h => ⟨_, h0, 0, _, _, _, rfl, rfl, by decide, x, h1, FD rs, x, rs, rfl, rfl, ok, ty, fun p hp e M' k => (go h).1 p hp e _ M' k, (go h).2⟩⟩
  | 5, _ => exact ⟨_, rfl, rfl, rfl, fun {rs x ρ M K X} ok ty h0 h1 h => ⟨_, h0, 0, _, _, _, rfl, rfl, by decide, x, h1, FD rs, x, rs, rfl, rfl, ok, ty, fun p hp e M' k => (go h).1 p hp e _ M' k, (go h).2⟩⟩
  | 6, _ => exact ⟨_, rfl, rfl, rfl, fun {rs x ρ M K X} ok ty h0 h1 h => ⟨_, h0, 0, _, _, _, rfl, rfl, by decide, x, h1, FD rs, x, rs, rfl, rfl, ok, ty, fun p hp e M' k => (go h).1 p hp e _ M' k, (go h).2⟩⟩
  | 7, _ => exact ⟨_, rfl, rfl, rfl, fun {rs x ρ M K X} ok ty h0 h1 h => ⟨_, h0, 0, _, _, _, rfl, rfl, by decide, x, h1, FD rs, x, rs, rfl, rfl, ok, ty, fun p hp e M' k => (go h).1 p hp e _ M' k, (go h).2⟩⟩
  | 8, _ => exact ⟨_, rfl, rfl, rfl, fun {rs x ρ M K X} ok ty h0 h1 h => ⟨_, h0, 0, _, _, _, rfl, rfl, by decide, x, h1, FD rs, x, rs, rfl, rfl, ok, ty, fun p hp e M' k => (go h).1 p hp e _ M' k, (go h).2⟩⟩
  | 9, _ => exact ⟨_, rfl, rfl, rfl, fun {rs x ρ M K X} ok ty h0 h1 h => ⟨_, h0, 0, _, _, _, rfl, rfl, by decide, x, h1, FD rs, x, rs, rfl, rfl, ok, ty, fun p hp e M' k => (go h).1 p hp e _ M' k, (go h).2⟩⟩
theorem asks_lc {i : Nat} (ok : RowsOk rs) (ty : ∃ n, tyName x = some n) (h4 : ρ[4]? = some (some (FD rs))) (hi : ρ[i]? = some (some x)) (h16 : 16 < ρ.length) (q : ∀ M', Keep M M' -> K (.lst (List.replicate 10 (sd5 (ask5 rs x)))) M') :
    dLc (iS (dCall sp__law_asks [] (dCons (dVar 4) (dCons (dVar i) dNil)))) (gN 16) dYes (dSaidV lamT sp__law_said (dVar 16)) [16] ρ M K X := by
  refine ⟨_, h4, _, hi, FD rs, x, rfl, fun C' cs hc => ⟨_, rfl, fun a ha => ?_⟩⟩
  have k0 : Keep M (shwM cs M) := keep_shn hc.new
  refine lcD_run _ (fun done acc M2 => acc = List.replicate done.length (sd5 (ask5 rs x)) /\ Keep (shwM cs M) M2) ?_ ?_ ⟨rfl, Keep.new ha⟩
  · rintro done y rest acc M2 Nx e hM2 ⟨rfl, k2⟩ nx
    obtain ⟨j, hj, rfl⟩ : ∃ j, j < 10 /\ y = .fn j C' := by
      have : y ∈ [9, 8, 7, 6, 5, 4, 3, 2, 1, 0].map fun j => D.fn j C' := e ▸ by simp
      obtain ⟨j, h1, rfl⟩ := List.mem_map.mp this
      refine ⟨j, ?_, rfl⟩
      simp only [List.mem_cons, List.not_mem_nil, or_false] at h1
      omega
    have hd : done.length < 10 := by have := congrArg List.length e; simp at this; omega
    obtain ⟨L, hL, hN, hcap, tau⟩ := asks_tau j hj
    have okc : CapOk M2 C' L.N L.cap cs := by
      rw [hN, hcap]
      exact ⟨hc.ix, hc.nd, hc.at_, fun c hm => k2 _ _ (shwM_at hc.nd hm)⟩
    refine ⟨_, by rw [List.getElem?_set_self (by simp; omega)], j, C', rfl, ask5 rs x, fun Qt Et h => lam_run hL okc h fun K X hk => ?_, fun M3 k3 => ⟨_, k3 _ _ hM2, by rw [size_line]; simp; omega, nx _ _ updM_same ⟨?_, ?_⟩⟩⟩
    · rw [hN] at hk ⊢
      exact tau ok ty (env_cap hc (by simp) (by simp) rfl) (env_cap hc (by simp) (by simp) rfl) hk
    · rw [List.length_append, List.length_singleton, List.replicate_succ']
    · intro b d hb
      rw [updM_ne (fun z => by rw [z, ha] at hb; cases hb)]
      exact k3 b d (k2 b d hb)
  · rintro acc M2 hM2 ⟨rfl, k2⟩
    refine q _ fun b d hb => ?_
    rw [delM_ne (fun z => by have := k0 b d hb; rw [z, ha] at this; cases this)]
    exact k2 b d (k0 b d hb)
theorem own_lc {C : Cells} {js : List Nat} {cap : List Nat} (o : Said5) (h10 : ρ[10]? = some (some (.lst (js.map fun j => .fn j C)))) (full : ∀ i ∈ cap, ∃ e, ρ[i]? = some (some e)) (h16 : 16 < ρ.length) (hcap : ∀ i ∈ cap, i < 16) (hjs : js.length <= 10)
    (hj : ∀ j ∈ js, ∃ L, lamT j = some L /\ L.N = N_law /\ L.cap = cap /\ ∀ (ρ' : DL.Env) (M : Mem) (K : DV) (X : DX), (∀ i ∈ cap, ∀ d, ρ[i]? = some (some d) -> ρ'[i]? = some (some d)) -> (∀ M', Keep M M' -> SaidT5 o K (fun c ns es M2 => X c ns es ρ' M2) M') -> L.τ ρ' M K X)
    (q : ∀ M', Keep M M' -> K (.lst (List.replicate js.length (sd5 o))) M') : dLc (iS (dVar 10)) (gN 16) dYes (dSaidS C N_law cap lamT sp__law_said (dVar 16)) [16] ρ M K X := by
  refine ⟨_, h10, _, rfl, fun a ha => ?_⟩
  refine lcD_run _ (fun done acc M2 => acc = List.replicate done.length (sd5 o) /\ Keep M M2) ?_ ?_ ⟨rfl, Keep.new ha⟩
  · rintro done y rest acc M2 Nx e hM2 ⟨rfl, k2⟩ nx
    obtain ⟨j, hjm, rfl⟩ : ∃ j, j ∈ js /\ y = .fn j C := by
      have : y ∈ js.map fun j => D.fn j C := e ▸ by simp
      obtain ⟨j, h1, rfl⟩ := List.mem_map.mp this
      exact ⟨j, h1, rfl⟩
    have hd : done.length < js.length := by have := congrArg List.length e; simp at this; omega
    obtain ⟨L, hL, hN, hc2, tau⟩ := hj j hjm
    have off : ∀ i ∈ cap, ((wipeD ρ [16]).set 16 (some (D.fn j C)))[i]? = ρ[i]? := fun i hi => by
      have := hcap i hi
      rw [List.getElem?_set_ne (by omega)]
      show (ρ.set 16 none)[i]? = _
      rw [List.getElem?_set_ne (by omega)]
    refine ⟨fun i hi => by rw [off i hi]; exact full i hi, _, by rw [List.getElem?_set_self (by simp; omega)], j, rfl, fun cs hc => ?_⟩
    have okc : CapOk (shwM cs M2) C L.N L.cap cs := by
      rw [hN, hc2]
      exact ⟨hc.ix, hc.nd, hc.at_, fun c hm => shwM_at hc.nd hm⟩
    have ma : a ∉ adrs cs := fun hm => by
      obtain ⟨c, hcm, rfl⟩ := List.mem_map.mp hm
      rw [hc.new c hcm] at hM2; cases hM2
    refine ⟨o, fun Qt Et h => lam_run hL okc h fun K X hk => ?_, fun M3 k3 => ⟨fun c hcm => k3 _ _ (shwM_at hc.nd hcm), _, by rw [hidM_out ma]; exact k3 _ _ (by rw [shwM_out ma]; exact hM2), by rw [size_line]; simp; omega, nx _ _ updM_same ⟨?_, ?_⟩⟩⟩
    · refine tau _ _ _ _ (fun i hi d hd => ?_) hk
      rw [hN]
      exact env_cap hc hi (by have := hcap i hi; simp; omega) (by rw [off i hi]; exact hd)
    · rw [List.length_append, List.length_singleton, List.replicate_succ']
    · intro b d hb
      rw [updM_ne (fun z => by rw [z, ha] at hb; cases hb)]
      exact keep_hid hc.new k3 b d (k2 b d hb)
  · rintro acc M2 hM2 ⟨rfl, k2⟩
    rw [List.length_map]
    refine q _ fun b d hb => ?_
    rw [delM_ne (fun z => by rw [z, ha] at hb; cases hb)]
    exact k2 b d hb
theorem ask2_first {good : Nat -> Nat -> Prop} {bad : D -> Prop} (tx : ∃ n, tyName x = some n) (ty : ∃ n, tyName y = some n) (hx : hasN rs x = false) (b : bad x) : AskN2 rs x y good bad :=
  ⟨tx, ty, fun p hp q hq e _ => (by rw [e, hasN_at hp] at hx; cases hx), fun _ => b, fun z => (by rw [hx] at z; cases z)⟩
theorem ask2_second {good : Nat -> Nat -> Prop} {bad : D -> Prop} (tx : ∃ n, tyName x = some n) (ty : ∃ n, tyName y = some n) (hy : hasN rs y = false) (b : bad y) (hg : x = y \/ hasN rs x = true) : AskN2 rs x y good bad :=
  ⟨tx, ty, fun p hp q hq _ e => (by rw [e, hasN_at hq] at hy; cases hy), fun z => (by
    rcases hg with rfl | hg
    · exact b
    · rw [hg] at z; cases z), fun _ _ => b⟩
end
def BadP (rs : List Row) (x : D) : Prop := (∃ n, tyName x = some n) /\ (¬ ∃ p < rs.length, x = .int (p : Nat)) /\ eqY 2 x x = some true
theorem eqY_place {x : D} (h : eqY 2 x x = some true) : eqY 3 (.tup [.str "place", x]) (.tup [.str "place", x]) = some true := by
  have h1 : eqY 2 (.str "place") (.str "place") = some true := by
    rw [eqY.eq_def]
    simp [plX, eqX]
  rw [eqY, eqYs, h1, eqYs, h, eqYs]
  rfl
theorem bad_int {rs : List Row} {i : Int} (h : ¬ ∃ p < rs.length, i = (p : Nat)) : BadP rs (.int i) := ⟨⟨_, rfl⟩, fun ⟨p, hp, e⟩ => h ⟨p, hp, D.int.inj e⟩, by rw [eqY.eq_def]; simp [plX, eqX]⟩
theorem bad_oth {rs : List Row} {x : D} (ty : ∃ n, tyName x = some n) (h : ∀ i, x ≠ .int i) (e : eqY 2 x x = some true) : BadP rs x := ⟨ty, fun ⟨p, _, e⟩ => h _ e, e⟩
theorem bad_lits {rs : List Row} : ∀ x ∈ [D.str "0", .lst [], .tup [.int 0], .dK [] []], BadP rs x := fun x hx => by
  simp only [List.mem_cons, List.not_mem_nil, or_false] at hx
  rcases hx with rfl | rfl | rfl | rfl
  · exact bad_oth ⟨_, rfl⟩ (fun i e => by cases e) (by rw [eqY.eq_def]; simp [plX, eqX])
  · exact bad_oth ⟨_, rfl⟩ (fun i e => by cases e) (by decide +kernel)
  · exact bad_oth ⟨_, rfl⟩ (fun i e => by cases e) (by decide +kernel)
  · exact bad_oth ⟨_, rfl⟩ (fun i e => by cases e) (by decide +kernel)
abbrev lwE (s cell : D) (r : Addr) (rs : List Row) (o6 o7 o8 o9 o10 o11 o12 o13 o14 : Option D) : DL.Env :=
  [some s, some cell, some (.ref r), some (.lst (rs.map Row.d)), some (FD rs), some (.lst (rs.map fun x => strD x.nm)), o6, o7, o8, o9, o10, o11, o12, o13, o14, none, none]
section
variable {C : Cells} {s cell odd oth good : D} {r : Addr} {rs : List Row} {o6 o7 o8 o9 o10 o11 o12 o13 o14 : Option D} {M : Mem} {En : DEnds} {n m : Nat} {xs : List D}
theorem law_1 {p : Nat} (ok : RowsOk rs) (hp : p < rs.length) (nx : En.nx (lwE s cell r rs o6 o7 o8 o9 o10 o11 o12 o13 (some (.int (p : Int)))) M) : l_law_1 C En (lwE s cell r rs o6 o7 o8 o9 o10 o11 o12 o13 (some (.int (p : Int)))) M := by
  refine ⟨_, rfl, 0, _, _, _, rfl, rfl, by decide, _, rfl, FD rs, .int (p : Int), rs, rfl, rfl, ok, ⟨_, rfl⟩, fun p' hp' e => ?_, fun hn => absurd ⟨p, hp, rfl⟩ hn⟩
  have : p' = p := by have := D.int.inj e; omega
  subst this
  refine ⟨_, rfl, _, rfl, nmAt rs p', ?_, .bl false, ?_, false, rfl, nx⟩
  · show atI (rs.map fun x => strD x.nm) _ = _
    rw [names_nm]
    exact nms_at hp
  · show some (D.bl (!(_ == _))) = _
    simp
theorem law_2 (ok : RowsOk rs) (hw : Well M r m) (hm : m + 1 <= n) (hn : n <= 100000) (hx : ∀ x ∈ xs, BadP rs x) (hl : xs.length <= 20)
    (nx : ∀ o7 o8 o9 o10 o11 o12 o13 M', Well M' r n -> En.nx (lwE s cell r rs o6 o7 o8 o9 o10 o11 o12 o13 o14) M') : l_law_2 C En (lwE s cell r rs o6 o7 o8 o9 o10 o11 (some (.lst xs)) o13 o14) M := by
  refine ⟨_, rfl, _, rfl, by simp, by simp, by simp, _, addD_lst (by simp; omega), r, _, _, m, rfl, hw, by omega, by simp, by simp, .inl ⟨rfl, by simp; omega⟩, by simp, fun x M1 hxm t1 => ?_⟩
  have hb : BadP rs x := by
    rcases List.mem_append.mp hxm with h | h
    · exact hx x h
    · exact bad_lits x h
  obtain ⟨ty, hno, he⟩ := hb
  refine ⟨.place x, fun Qt Et h => ?_, fun M2 k2 => ?_⟩
  · exact ⟨_, rfl, 0, _, _, _, rfl, rfl, by decide, _, rfl, FD rs, x, rs, rfl, rfl, ok, ty, fun p hp e => absurd ⟨p, hp, e⟩ hno, fun _ => h M1 (Keep.refl M1)⟩
  · refine ⟨_, rfl, by simp, _, _, _, _, 2, true, .same _, .same _, rfl, rfl, by omega, eqY_place he, _, rfl, ?_⟩
    exact nx _ _ _ _ _ _ _ _ ((t1.ok.keep k2).mono hm)
theorem law_3 (ok : RowsOk rs) (hw : Well M r m) (hm : m + 2 <= n) (hn : n <= 100000)
    (nx : ∀ o7 o8 o9 o10 o11 o12 o13 M', Well M' r n -> En.nx (lwE s cell r rs o6 o7 o8 o9 o10 o11 o12 o13 o14) M') : l_law_3 C En (lwE s cell r rs o6 o7 o8 o9 o10 o11 o12 o13 o14) M := by
  have hlen := ok.len
  have ln : ∀ M : Mem, lenF ([D.lst (rs.map Row.d)].map (vw M)) = some (.int (rs.length : Int)) := fun M => by show lenF [.lst _] = _; simp
  refine ⟨.int (-1), rfl, _, rfl, .int (rs.length : Int), ln _, _, rfl, .int (rs.length : Int), ln _, _, rfl, r, _, m, rfl, hw, by omega, by omega, by omega, fun k M1 k0 hk t1 => ?_⟩
  refine ⟨_, rfl, .int (10 ^ 30), by rfl, by simp, ?_⟩
  refine law_2 (C := C) ok t1.ok (by omega) hn (fun x hx => ?_) (by simp) nx
  simp only [List.mem_cons, List.not_mem_nil, or_false] at hx
  rcases hx with rfl | rfl | rfl | rfl | rfl | rfl
  · exact bad_int fun ⟨p, hp, e⟩ => by omega
  · exact bad_int fun ⟨p, hp, e⟩ => by omega
  · exact bad_int fun ⟨p, hp, e⟩ => by omega
  · exact bad_int fun ⟨p, hp, e⟩ => by omega
  · exact bad_oth ⟨_, rfl⟩ (fun i e => by cases e) (by decide +kernel)
  · exact bad_oth ⟨_, rfl⟩ (fun i e => by cases e) (by decide +kernel)
theorem rep_ten (t : D) : (List.replicate (10 : Int).toNat [t]).flatten = List.replicate 10 t := rfl
theorem law_4 (ok : RowsOk rs) (hw : Well M r m) (hm : m + 2 <= n) (hn : n <= 100000) (ht : rs ≠ [] -> ask5 rs good = .val)
    (nx : ∀ o7 o8 o9 o10 o11 o12 o13 M', Well M' r n -> En.nx (lwE s cell r rs o6 o7 o8 o9 o10 o11 o12 o13 o14) M') : l_law_4 C En (lwE s cell r rs o6 o7 o8 o9 o10 (some (.lst (List.replicate 10 (sd5 (ask5 rs good))))) o12 o13 o14) M := by
  refine ⟨_, rfl, by simp, _, ne_nms ok, _, rfl, ?_⟩
  by_cases he : rs = []
  · rw [decide_eq_false (by simpa using he)]
    exact law_3 (C := C) ok hw hm hn nx
  · rw [decide_eq_true he]
    rw [ht he]
    refine ⟨_, rfl, by simp, by simp, fun c hc => ⟨c, _, 10, rfl, updM_same, rfl, by omega, by omega, by simp, ?_⟩⟩
    rw [rep_ten, delM_updM hc]
    have p : plDs 2 (List.replicate 10 (sd5 .val)) = true := by decide +kernel
    have e : neD (.lst (List.replicate 10 (sd5 .val))) (.lst (List.replicate 10 (sd5 .val))) = some (.bl false) := by
      have := neD_lst' p p
      have t : eqTs (List.replicate 10 (sd5 .val)) (List.replicate 10 (sd5 .val)) = true := by decide +kernel
      rw [t] at this; exact this
    exact ⟨.bl false, e, _, rfl, law_3 (C := C) ok hw hm hn nx⟩
theorem law_5 (ok : RowsOk rs) (hw : Well M r m) (hm : m + 2 <= n) (hn : n <= 100000) (tg : ∃ n, tyName good = some n) (ht : rs ≠ [] -> ask5 rs good = .val)
    (nx : ∀ o7 o8 o9 o10 o11 o12 o13 M', Well M' r n -> En.nx (lwE s cell r rs o6 o7 o8 o9 o10 o11 o12 o13 o14) M') : l_law_5 C En (lwE s cell r rs o6 o7 o8 (some good) o10 o11 o12 o13 o14) M :=
  asks_lc ok tg rfl rfl (by simp) fun M' k => law_4 (C := C) ok (hw.keep k) hm hn ht nx
theorem ne_reps {k : Nat} {c : Int} (hc : c.toNat = k) (hk : k <= 10) (hc0 : 0 <= c) {ρ : DL.Env} {X : DX} {T : DV} (h : plX 3 odd = true) (hi : ρ[7]? = some (some odd)) (q : T (.bl false) M) :
    dBin bRepD (dLstM (dCons (dTup (dCons (dC (.str "node")) (dCons (dVar 7) dNil))) dNil)) (dC (.int c)) ρ M (fun e M2 => bNeX (.lst (List.replicate k (sd5 (.node odd)))) e ρ M2 T X) X := by
  refine ⟨_, hi, by simp, by simp, fun a ha => ⟨a, _, c, rfl, updM_same, rfl, by omega, by omega, by simp; omega, ?_⟩⟩
  rw [delM_updM ha, hc]
  have e : (List.replicate k [D.tup [.str "node", odd]]).flatten = List.replicate k (sd5 (.node odd)) := by
    clear hc hk
    induction k with
    | zero => rfl
    | succ k ih => rw [List.replicate_succ, List.flatten_cons, ih, List.replicate_succ]; rfl
  rw [e]
  have p : plXs 4 (List.replicate k (sd5 (.node odd))) = true := plXs_all.mpr fun d hd => by
    rw [List.eq_of_mem_replicate hd]
    show plX 4 (.tup [.str "node", odd]) = true
    simp [plX, plXs, h]
  refine ⟨_, _, 4, .same _, .same _, by omega, p, p, ?_⟩
  rw [eqXs_refl 4 _ p]
  exact q
theorem law_6 (ok : RowsOk rs) (hw : Well M r m) (hm : m + 2 <= n) (hn : n <= 100000) (ho : Odd5 rs odd) (tg : ∃ n, tyName good = some n) (hg : good = odd \/ hasN rs good = true) (ht : rs ≠ [] -> ask5 rs good = .val)
    (nx : ∀ o7 o8 o9 o10 o11 o12 o13 M', Well M' r n -> En.nx (lwE s cell r rs o6 o7 o8 o9 o10 o11 o12 o13 o14) M') : l_law_6 C En (lwE s cell r rs o6 (some odd) o8 (some good) (some (.lst ([11, 10].map fun j => .fn j C))) o11 o12 o13 o14) M := by
  refine own_lc (X := En.ex) (js := [11, 10]) (.node odd) rfl (fun i hi => ?_) (by simp) (by simp) (by simp) (fun j hj => ?_) fun M' k => ?_
  · simp only [List.mem_cons, List.not_mem_nil, or_false] at hi
    rcases hi with rfl | rfl | rfl <;> exact ⟨_, rfl⟩
  · simp only [List.mem_cons, List.not_mem_nil, or_false] at hj
    rcases hj with rfl | rfl
    · exact ⟨_, rfl, rfl, rfl, fun ρ' M K X hρ h => ⟨_, hρ 4 (by simp) _ rfl, 0, _, _, _, rfl, rfl, by decide, good, hρ 9 (by simp) _ rfl, odd, hρ 7 (by simp) _ rfl, FD rs, good, odd, rs, rfl, rfl, ok, ask2_second tg ho.2.1 ho.1 h hg⟩⟩
    · exact ⟨_, rfl, rfl, rfl, fun ρ' M K X hρ h => ⟨_, hρ 4 (by simp) _ rfl, 0, _, _, _, rfl, rfl, by decide, odd, hρ 7 (by simp) _ rfl, good, hρ 9 (by simp) _ rfl, rfl, FD rs, good, odd, rs, rfl, rfl, ok, ask2_second tg ho.2.1 ho.1 h hg⟩⟩
  · exact ne_reps (k := 2) (c := 2) rfl (by omega) (by omega) ho.2.2 rfl ⟨_, rfl, law_5 (C := C) ok (hw.keep k) hm hn tg ht nx⟩
theorem law_8 (ok : RowsOk rs) (hw : Well M r m) (hm : m + 2 <= n) (hn : n <= 100000) (ho : Odd5 rs odd) (ho2 : Odd5 rs oth) (tg : ∃ n, tyName good = some n) (hg : good = odd \/ hasN rs good = true) (ht : rs ≠ [] -> ask5 rs good = .val)
    (nx : ∀ o7 o8 o9 o10 o11 o12 o13 M', Well M' r n -> En.nx (lwE s cell r rs o6 o7 o8 o9 o10 o11 o12 o13 o14) M') : l_law_8 C En (lwE s cell r rs o6 (some odd) (some oth) (some good) (some (.lst ([13, 12].map fun j => .fn j C))) o11 o12 o13 o14) M := by
  refine own_lc (X := En.ex) (js := [13, 12]) (.node odd) rfl (fun i hi => ?_) (by simp) (by simp) (by simp) (fun j hj => ?_) fun M' k => ?_
  · simp only [List.mem_cons, List.not_mem_nil, or_false] at hi
    rcases hi with rfl | rfl | rfl <;> exact ⟨_, rfl⟩
  · simp only [List.mem_cons, List.not_mem_nil, or_false] at hj
    rcases hj with rfl | rfl
    · exact ⟨_, rfl, rfl, rfl, fun ρ' M K X hρ h => ⟨_, hρ 4 (by simp) _ rfl, 0, _, _, _, rfl, rfl, by decide, odd, hρ 7 (by simp) _ rfl, oth, hρ 8 (by simp) _ rfl, FD rs, odd, oth, rs, rfl, rfl, ok, ask2_first ho.2.1 ho2.2.1 ho.1 h⟩⟩
    · exact ⟨_, rfl, rfl, rfl, fun ρ' M K X hρ h => ⟨_, hρ 4 (by simp) _ rfl, 0, _, _, _, rfl, rfl, by decide, odd, hρ 7 (by simp) _ rfl, oth, hρ 8 (by simp) _ rfl, FD rs, odd, oth, rs, rfl, rfl, ok, ask2_first ho.2.1 ho2.2.1 ho.1 h⟩⟩
  · exact ne_reps (k := 2) (c := 2) rfl (by omega) (by omega) ho.2.2 rfl ⟨_, rfl, by simp, law_6 (C := C) ok (hw.keep k) hm hn ho tg hg ht nx⟩
theorem law_10 (ok : RowsOk rs) (hw : Well M r m) (hm : m + 3 <= n) (hn : n <= 100000) (ho : Odd5 rs odd) (ho2 : Odd5 rs oth)
    (nx : ∀ o7 o8 o9 o10 o11 o12 o13 M', Well M' r n -> En.nx (lwE s cell r rs o6 o7 o8 o9 o10 o11 o12 o13 o14) M') : l_law_10 C En (lwE s cell r rs o6 (some odd) (some oth) o9 o10 o11 o12 o13 o14) M := by
  have hlen := ok.len
  refine ⟨_, rfl, by simp, _, ne_nms ok, _, rfl, ?_⟩
  by_cases he : rs = []
  · rw [decide_eq_false (by simpa using he)]
    exact ⟨_, rfl, by simp, law_8 (C := C) ok hw (by omega) hn ho ho2 ho.2.1 (.inl rfl) (fun z => absurd he z) nx⟩
  · rw [decide_eq_true he]
    refine ⟨_, rfl, _, rfl, r, _, _, m, rfl, hw, by omega, by simp, by simp, .inl ⟨rfl, by simp; omega⟩, by simpa using he, fun x M1 hx t1 => ?_⟩
    obtain ⟨y, hy, rfl⟩ := List.mem_map.mp hx
    have hh : hasN rs (strD y.nm) = true := by rw [hasN_str]; simpa using ⟨y, hy, rfl⟩
    exact ⟨by simp, law_8 (C := C) ok t1.ok (by omega) hn ho ho2 ⟨_, rfl⟩ (.inr hh) (fun _ => by unfold ask5; rw [if_pos hh]) nx⟩
theorem law_11 (ok : RowsOk rs) (hw : Well M r m) (hm : m + 3 <= n) (hn : n <= 100000) (ho : Odd5 rs odd) (ho2 : Odd5 rs oth)
    (nx : ∀ o7 o8 o9 o10 o11 o12 o13 M', Well M' r n -> En.nx (lwE s cell r rs o6 o7 o8 o9 o10 o11 o12 o13 o14) M') : l_law_11 C En (lwE s cell r rs o6 (some odd) (some oth) o9 o10 o11 o12 o13 o14) M := by
  refine asks_lc ok ho.2.1 rfl rfl (by simp) fun M' k => ?_
  have e : ask5 rs odd = .node odd := by unfold ask5; rw [if_neg (by rw [ho.1]; simp)]
  rw [e]
  exact ne_reps (k := 10) (c := 10) rfl (by omega) (by omega) ho.2.2 rfl ⟨_, rfl, law_10 (C := C) ok (hw.keep k) hm hn ho ho2 nx⟩
theorem law_13 (ok : RowsOk rs) (h99 : ∀ x ∈ rs, x.nm ≠ [113, 57, 57]) (hw : Well M r m) (hm : m + 7 <= n) (hn : n <= 100000)
    (nx : ∀ o7 o8 o9 o10 o11 o12 o13 M', Well M' r n -> En.nx (lwE s cell r rs o6 o7 o8 o9 o10 o11 o12 o13 o14) M') : l_law_13 C En (lwE s cell r rs o6 o7 o8 o9 o10 o11 o12 o13 o14) M := by
  refine ⟨_, rfl, _, rfl, _, rfl, r, m, rs, rfl, hw, by omega, ok, h99, fun xs M1 hne hl ho t1 => ?_⟩
  refine ⟨r, _, xs, _, rfl, t1.ok, by omega, by simp, by simp, .inl ⟨rfl, by omega⟩, hne, fun x M2 hx t2 => ?_⟩
  refine ⟨_, rfl, _, rfl, _, rfl, r, _, rs, rfl, t2.ok, by omega, ok, h99, fun ys M3 hne2 hl2 ho2 t3 => ?_⟩
  refine ⟨r, _, ys, _, rfl, t3.ok, by omega, by simp, by simp, .inl ⟨rfl, by omega⟩, hne2, fun y M4 hy t4 => ?_⟩
  exact law_11 (C := C) ok t4.ok (by omega) hn (ho x hx) (ho2 y hy) nx
theorem law_14 (ok : RowsOk rs) (h99 : ∀ x ∈ rs, x.nm ≠ [113, 57, 57]) (hw : Well M r m) (hm : m + 30 <= 100000)
    (nx : ∀ o6 o7 o8 o9 o10 o11 o12 o13 o14 M', En.nx (lwE s cell r rs o6 o7 o8 o9 o10 o11 o12 o13 o14) M') : l_law_14 C En (lwE s cell r rs o6 o7 o8 o9 o10 o11 o12 o13 o14) M := by
  have hlen := ok.len
  refine ⟨3, rfl, by omega, by omega, ?_⟩
  refine forD_run _ (fun done ρ M2 => ∃ o6 o7 o8 o9 o10 o11 o12 o13, ρ = lwE s cell r rs o6 o7 o8 o9 o10 o11 o12 o13 o14 /\ Well M2 r (m + 7 * done.length)) ?_ ?_ ⟨_, _, _, _, _, _, _, _, rfl, hw⟩
  · rintro done y rest ρ M2 Nx e ⟨o6, o7, o8, o9, o10, o11, o12, o13, rfl, h2⟩ nx2
    have hd : done.length < 3 := by have := congrArg List.length e; simp at this; omega
    exact law_13 (C := C) (n := m + 7 * (done ++ [y]).length) ok h99 h2 (by simp; omega) (by simp; omega) fun o7 o8 o9 o10 o11 o12 o13 M' h => nx2 _ _ ⟨_, _, _, _, _, _, _, _, rfl, h⟩
  · rintro ρ M2 ⟨o6, o7, o8, o9, o10, o11, o12, o13, rfl, h2⟩
    refine ⟨_, rfl, .int (rs.length : Int), by show lenF [.lst _] = _; simp, rs.length, rfl, by omega, by omega, ?_⟩
    refine forD_run _ (fun done ρ M2 => ∃ o14, ρ = lwE s cell r rs o6 o7 o8 o9 o10 o11 o12 o13 o14) ?_ ?_ ⟨_, rfl⟩
    · rintro done y rest ρ M3 Nx e ⟨o14, rfl⟩ nx2
      obtain ⟨hd, rfl⟩ := range_at e
      exact law_1 (C := C) ok (by simpa using hd) (nx2 _ _ ⟨_, rfl⟩)
    · rintro ρ M3 ⟨o14, rfl⟩
      exact nx _ _ _ _ _ _ _ _ _ _
end
theorem pure_law : ∀ ds M Q E, sp_law ds M Q E -> ds.length = 1 /\ t_law (dEnds Q E) (startD N_law ds) M := by
  rintro ds M Q E ⟨ns, rfl, hl, q⟩
  refine ⟨rfl, fun C => ?_⟩
  refine ⟨_, rfl, by simp, _, cells_add ns hl, _, rfl, _, rfl, _, rfl, ?_⟩
  refine forD_run _ (fun done ρ M1 => ∃ o1 o2 o3 o4 o5 o6 o7 o8 o9 o10 o11 o12 o13 o14 : Option D, ρ = [some (.lst (ns.map D.int)), o1, o2, o3, o4, o5, o6, o7, o8, o9, o10, o11, o12, o13, o14, none, none]) ?_ ?_ ⟨_, _, _, _, _, _, _, _, _, _, _, _, _, _, rfl⟩
  · rintro done y rest ρ M1 Nx e ⟨o1, o2, o3, o4, o5, o6, o7, o8, o9, o10, o11, o12, o13, o14, rfl⟩ nx
    obtain ⟨c, rfl⟩ := cells_int ns 5 y (by rw [show ((5 : Nat) : Int) = 5 from rfl, e]; simp)
    refine ⟨_, rfl, c, rfl, fun r M2 hr hw _ => ?_⟩
    refine ⟨_, rfl, _, rfl, by simp, r, _, _, 0, rfl, hw, by omega, by simp, by simp, .inl ⟨rfl, by simp⟩, by simp, fun x M3 hx h3 => ?_⟩
    have hx60 : ∃ m : Nat, x = .int (m : Int) /\ m <= 60 := by
      simp at hx
      rcases hx with rfl | rfl | rfl
      · exact ⟨3, rfl, by omega⟩
      · exact ⟨9, rfl, by omega⟩
      · exact ⟨25, rfl, by omega⟩
    obtain ⟨m, rfl, hm⟩ := hx60
    refine ⟨r, m, _, rfl, h3.ok, by omega, hm, fun rs M4 hR h99 h4 => ?_⟩
    have hlen := hR.len
    refine ⟨_, rfl, mkF hR ?_⟩
    refine ⟨_, rfl, _, rfl, fun a ha => ?_⟩
    refine lcD_fn (fun y => ixD y (.int 0)) _ (by simp; omega) ha (fun y hy M5 T _ hT => ?_) ?_
    · obtain ⟨x, _, rfl⟩ := List.mem_map.mp hy
      exact ⟨_, rfl, strD x.nm, rfl, hT⟩
    · rw [heads_nm]
      refine ⟨by simp, _, .inl rfl, rfl, _, _, rfl, _, _, rfl, rfl, ?_⟩
      exact law_14 (C := C) hR h99 h4.ok (by omega) fun o6 o7 o8 o9 o10 o11 o12 o13 o14 M' => nx _ _ ⟨_, _, _, _, _, _, _, _, _, _, _, _, _, _, rfl⟩
  · rintro ρ M1 ⟨o1, o2, o3, o4, o5, o6, o7, o8, o9, o10, o11, o12, o13, o14, rfl⟩
    exact q M1
theorem law_sp : ∀ (ns : List Int) (M : Mem) (Qd : DV) (Ed : DEK), ns.length <= 63 -> (∀ M', Qd (.bl true) M') -> sp_law [.lst (ns.map D.int)] M Qd Ed := fun ns M Qd Ed h q => ⟨ns, rfl, h, q⟩
end LawProof
set_option Elab.async false
set_option linter.all false
set_option maxRecDepth 100000
set_option maxHeartbeats 4000000
set_option autoImplicit true
namespace LawProof
open PySem L2 DL
theorem sc_is_integer : FnScope N_is_integer ["thing"] (defScope s_is_integer) := ⟨rfl, rfl, rfl, by decide +kernel, rfl, by decide +kernel, by decide +kernel⟩
theorem hb_is_integer : HBind "is_integer" "is_integer" (defArgs s_is_integer) (defBody s_is_integer) (defScope s_is_integer) ["thing"] := fun _ _ _ _ _ _ us hl => match us, hl with | [_], _ => rfl
theorem sc_is_sequence : FnScope N_is_sequence ["thing"] (defScope s_is_sequence) := ⟨rfl, rfl, rfl, by decide +kernel, rfl, by decide +kernel, by decide +kernel⟩
theorem hb_is_sequence : HBind "is_sequence" "is_sequence" (defArgs s_is_sequence) (defBody s_is_sequence) (defScope s_is_sequence) ["thing"] := fun _ _ _ _ _ _ us hl => match us, hl with | [_], _ => rfl
theorem sc_is_name : FnScope N_is_name ["thing"] (defScope s_is_name) := ⟨rfl, rfl, rfl, by decide +kernel, rfl, by decide +kernel, by decide +kernel⟩
theorem hb_is_name : HBind "is_name" "is_name" (defArgs s_is_name) (defBody s_is_name) (defScope s_is_name) ["thing"] := fun _ _ _ _ _ _ us hl => match us, hl with | [_], _ => rfl
theorem sc_is_value : FnScope N_is_value ["thing"] (defScope s_is_value) := ⟨rfl, rfl, rfl, by decide +kernel, rfl, by decide +kernel, by decide +kernel⟩
theorem hb_is_value : HBind "is_value" "is_value" (defArgs s_is_value) (defBody s_is_value) (defScope s_is_value) ["thing"] := fun _ _ _ _ _ _ us hl => match us, hl with | [_], _ => rfl
theorem sc__law_well : FnScope N__law_well ["_law_cell"] (defScope s__law_well) := ⟨rfl, rfl, rfl, by decide +kernel, rfl, by decide +kernel, by decide +kernel⟩
theorem hb__law_well : HBind "_law_well" "_law_well" (defArgs s__law_well) (defBody s__law_well) (defScope s__law_well) ["_law_cell"] := fun _ _ _ _ _ _ us hl => match us, hl with | [_], _ => rfl
theorem sc__law_draw : FnScope N__law_draw ["_law_well_here", "_law_many"] (defScope s__law_draw) := ⟨rfl, rfl, rfl, by decide +kernel, rfl, by decide +kernel, by decide +kernel⟩
theorem hb__law_draw : HBind "_law_draw" "_law_draw" (defArgs s__law_draw) (defBody s__law_draw) (defScope s__law_draw) ["_law_well_here", "_law_many"] := fun _ _ _ _ _ _ us hl => match us, hl with | [_, _], _ => rfl
theorem sc__law_one : FnScope N__law_one ["_law_well_here", "_law_some"] (defScope s__law_one) := ⟨rfl, rfl, rfl, by decide +kernel, rfl, by decide +kernel, by decide +kernel⟩
theorem hb__law_one : HBind "_law_one" "_law_one" (defArgs s__law_one) (defBody s__law_one) (defScope s__law_one) ["_law_well_here", "_law_some"] := fun _ _ _ _ _ _ us hl => match us, hl with | [_, _], _ => rfl
theorem sc__law_names : FnScope N__law_names ["_law_well_here", "_law_many"] (defScope s__law_names) := ⟨rfl, rfl, rfl, by decide +kernel, rfl, by decide +kernel, by decide +kernel⟩
theorem hb__law_names : HBind "_law_names" "_law_names" (defArgs s__law_names) (defBody s__law_names) (defScope s__law_names) ["_law_well_here", "_law_many"] := fun _ _ _ _ _ _ us hl => match us, hl with | [_, _], _ => rfl
theorem sc__law_value : FnScope N__law_value ["_law_well_here"] (defScope s__law_value) := ⟨rfl, rfl, rfl, by decide +kernel, rfl, by decide +kernel, by decide +kernel⟩
theorem hb__law_value : HBind "_law_value" "_law_value" (defArgs s__law_value) (defBody s__law_value) (defScope s__law_value) ["_law_well_here"] := fun _ _ _ _ _ _ us hl => match us, hl with | [_], _ => rfl
theorem sc__law_levels : FnScope N__law_levels ["_law_well_here", "_law_many"] (defScope s__law_levels) := ⟨rfl, rfl, rfl, by decide +kernel, rfl, by decide +kernel, by decide +kernel⟩
theorem hb__law_levels : HBind "_law_levels" "_law_levels" (defArgs s__law_levels) (defBody s__law_levels) (defScope s__law_levels) ["_law_well_here", "_law_many"] := fun _ _ _ _ _ _ us hl => match us, hl with | [_, _], _ => rfl
theorem sc__law_rows : FnScope N__law_rows ["_law_well_here", "_law_most"] (defScope s__law_rows) := ⟨rfl, rfl, rfl, by decide +kernel, rfl, by decide +kernel, by decide +kernel⟩
theorem hb__law_rows : HBind "_law_rows" "_law_rows" (defArgs s__law_rows) (defBody s__law_rows) (defScope s__law_rows) ["_law_well_here", "_law_most"] := fun _ _ _ _ _ _ us hl => match us, hl with | [_, _], _ => rfl
theorem sc_row_fault : FnScope N_row_fault ["rows", "place"] (defScope s_row_fault) := ⟨rfl, rfl, rfl, by decide +kernel, rfl, by decide +kernel, by decide +kernel⟩
theorem hb_row_fault : HBind "row_fault" "row_fault" (defArgs s_row_fault) (defBody s_row_fault) (defScope s_row_fault) ["rows", "place"] := fun _ _ _ _ _ _ us hl => match us, hl with | [_, _], _ => rfl
theorem sc_Forest___init__ : FnScope N_Forest___init__ ["self", "rows"] (defScope s_Forest___init__) := ⟨rfl, rfl, rfl, by decide +kernel, rfl, by decide +kernel, by decide +kernel⟩
theorem hb_Forest___init__ : HBind "__init__" "Forest.__init__" (defArgs s_Forest___init__) (defBody s_Forest___init__) (defScope s_Forest___init__) ["self", "rows"] := fun _ _ _ _ _ _ us hl => match us, hl with | [_, _], _ => rfl
theorem sc_Forest_names : FnScope N_Forest_names ["self"] (defScope s_Forest_names) := ⟨rfl, rfl, rfl, by decide +kernel, rfl, by decide +kernel, by decide +kernel⟩
theorem hb_Forest_names : HBind "names" "Forest.names" (defArgs s_Forest_names) (defBody s_Forest_names) (defScope s_Forest_names) ["self"] := fun _ _ _ _ _ _ us hl => match us, hl with | [_], _ => rfl
theorem sc_Forest_has_node : FnScope N_Forest_has_node ["self", "name"] (defScope s_Forest_has_node) := ⟨rfl, rfl, rfl, by decide +kernel, rfl, by decide +kernel, by decide +kernel⟩
theorem hb_Forest_has_node : HBind "has_node" "Forest.has_node" (defArgs s_Forest_has_node) (defBody s_Forest_has_node) (defScope s_Forest_has_node) ["self", "name"] := fun _ _ _ _ _ _ us hl => match us, hl with | [_, _], _ => rfl
theorem sc_Forest_worth : FnScope N_Forest_worth ["self", "name"] (defScope s_Forest_worth) := ⟨rfl, rfl, rfl, by decide +kernel, rfl, by decide +kernel, by decide +kernel⟩
theorem hb_Forest_worth : HBind "worth" "Forest.worth" (defArgs s_Forest_worth) (defBody s_Forest_worth) (defScope s_Forest_worth) ["self", "name"] := fun _ _ _ _ _ _ us hl => match us, hl with | [_, _], _ => rfl
theorem sc_Forest_line_to : FnScope N_Forest_line_to ["self", "name"] (defScope s_Forest_line_to) := ⟨rfl, rfl, rfl, by decide +kernel, rfl, by decide +kernel, by decide +kernel⟩
theorem hb_Forest_line_to : HBind "line_to" "Forest.line_to" (defArgs s_Forest_line_to) (defBody s_Forest_line_to) (defScope s_Forest_line_to) ["self", "name"] := fun _ _ _ _ _ _ us hl => match us, hl with | [_, _], _ => rfl
theorem sc_Forest_below : FnScope N_Forest_below ["self", "name"] (defScope s_Forest_below) := ⟨rfl, rfl, rfl, by decide +kernel, rfl, by decide +kernel, by decide +kernel⟩
theorem hb_Forest_below : HBind "below" "Forest.below" (defArgs s_Forest_below) (defBody s_Forest_below) (defScope s_Forest_below) ["self", "name"] := fun _ _ _ _ _ _ us hl => match us, hl with | [_, _], _ => rfl
theorem sc_Asked_check_nodes : FnScope N_Asked_check_nodes ["self", "names"] (defScope s_Asked_check_nodes) := ⟨rfl, rfl, rfl, by decide +kernel, rfl, by decide +kernel, by decide +kernel⟩
theorem hb_Asked_check_nodes : HBind "check_nodes" "Asked.check_nodes" (defArgs s_Asked_check_nodes) (defBody s_Asked_check_nodes) (defScope s_Asked_check_nodes) ["self", "names"] := fun _ _ _ _ _ _ us hl => match us, hl with | [_, _], _ => rfl
theorem sc_Asked_ancestors_of : FnScope N_Asked_ancestors_of ["self", "name"] (defScope s_Asked_ancestors_of) := ⟨rfl, rfl, rfl, by decide +kernel, rfl, by decide +kernel, by decide +kernel⟩
theorem hb_Asked_ancestors_of : HBind "ancestors_of" "Asked.ancestors_of" (defArgs s_Asked_ancestors_of) (defBody s_Asked_ancestors_of) (defScope s_Asked_ancestors_of) ["self", "name"] := fun _ _ _ _ _ _ us hl => match us, hl with | [_, _], _ => rfl
theorem sc_Asked_descendants_of : FnScope N_Asked_descendants_of ["self", "name"] (defScope s_Asked_descendants_of) := ⟨rfl, rfl, rfl, by decide +kernel, rfl, by decide +kernel, by decide +kernel⟩
theorem hb_Asked_descendants_of : HBind "descendants_of" "Asked.descendants_of" (defArgs s_Asked_descendants_of) (defBody s_Asked_descendants_of) (defScope s_Asked_descendants_of) ["self", "name"] := fun _ _ _ _ _ _ us hl => match us, hl with | [_, _], _ => rfl
theorem sc_Asked_parent_of : FnScope N_Asked_parent_of ["self", "name"] (defScope s_Asked_parent_of) := ⟨rfl, rfl, rfl, by decide +kernel, rfl, by decide +kernel, by decide +kernel⟩
theorem hb_Asked_parent_of : HBind "parent_of" "Asked.parent_of" (defArgs s_Asked_parent_of) (defBody s_Asked_parent_of) (defScope s_Asked_parent_of) ["self", "name"] := fun _ _ _ _ _ _ us hl => match us, hl with | [_, _], _ => rfl
theorem sc_Asked_level_of : FnScope N_Asked_level_of ["self", "name"] (defScope s_Asked_level_of) := ⟨rfl, rfl, rfl, by decide +kernel, rfl, by decide +kernel, by decide +kernel⟩
theorem hb_Asked_level_of : HBind "level_of" "Asked.level_of" (defArgs s_Asked_level_of) (defBody s_Asked_level_of) (defScope s_Asked_level_of) ["self", "name"] := fun _ _ _ _ _ _ us hl => match us, hl with | [_, _], _ => rfl
theorem sc_Asked_value_of : FnScope N_Asked_value_of ["self", "name"] (defScope s_Asked_value_of) := ⟨rfl, rfl, rfl, by decide +kernel, rfl, by decide +kernel, by decide +kernel⟩
theorem hb_Asked_value_of : HBind "value_of" "Asked.value_of" (defArgs s_Asked_value_of) (defBody s_Asked_value_of) (defScope s_Asked_value_of) ["self", "name"] := fun _ _ _ _ _ _ us hl => match us, hl with | [_, _], _ => rfl
theorem sc_Asked_roots : FnScope N_Asked_roots ["self"] (defScope s_Asked_roots) := ⟨rfl, rfl, rfl, by decide +kernel, rfl, by decide +kernel, by decide +kernel⟩
theorem hb_Asked_roots : HBind "roots" "Asked.roots" (defArgs s_Asked_roots) (defBody s_Asked_roots) (defScope s_Asked_roots) ["self"] := fun _ _ _ _ _ _ us hl => match us, hl with | [_], _ => rfl
theorem sc_Asked_children_of : FnScope N_Asked_children_of ["self", "name"] (defScope s_Asked_children_of) := ⟨rfl, rfl, rfl, by decide +kernel, rfl, by decide +kernel, by decide +kernel⟩
theorem hb_Asked_children_of : HBind "children_of" "Asked.children_of" (defArgs s_Asked_children_of) (defBody s_Asked_children_of) (defScope s_Asked_children_of) ["self", "name"] := fun _ _ _ _ _ _ us hl => match us, hl with | [_, _], _ => rfl
theorem sc_Asked_rank_of : FnScope N_Asked_rank_of ["self", "name"] (defScope s_Asked_rank_of) := ⟨rfl, rfl, rfl, by decide +kernel, rfl, by decide +kernel, by decide +kernel⟩
theorem hb_Asked_rank_of : HBind "rank_of" "Asked.rank_of" (defArgs s_Asked_rank_of) (defBody s_Asked_rank_of) (defScope s_Asked_rank_of) ["self", "name"] := fun _ _ _ _ _ _ us hl => match us, hl with | [_, _], _ => rfl
theorem sc_Asked_size_of : FnScope N_Asked_size_of ["self", "name"] (defScope s_Asked_size_of) := ⟨rfl, rfl, rfl, by decide +kernel, rfl, by decide +kernel, by decide +kernel⟩
theorem hb_Asked_size_of : HBind "size_of" "Asked.size_of" (defArgs s_Asked_size_of) (defBody s_Asked_size_of) (defScope s_Asked_size_of) ["self", "name"] := fun _ _ _ _ _ _ us hl => match us, hl with | [_, _], _ => rfl
theorem sc_Asked_total_of : FnScope N_Asked_total_of ["self", "name"] (defScope s_Asked_total_of) := ⟨rfl, rfl, rfl, by decide +kernel, rfl, by decide +kernel, by decide +kernel⟩
theorem sc_Asked_is_above : FnScope N_Asked_is_above ["self", "one", "other"] (defScope s_Asked_is_above) := ⟨rfl, rfl, rfl, by decide +kernel, rfl, by decide +kernel, by decide +kernel⟩
theorem hb_Asked_is_above : HBind "is_above" "Asked.is_above" (defArgs s_Asked_is_above) (defBody s_Asked_is_above) (defScope s_Asked_is_above) ["self", "one", "other"] := fun _ _ _ _ _ _ us hl => match us, hl with | [_, _, _], _ => rfl
theorem sc_Asked_meet_of : FnScope N_Asked_meet_of ["self", "one", "other"] (defScope s_Asked_meet_of) := ⟨rfl, rfl, rfl, by decide +kernel, rfl, by decide +kernel, by decide +kernel⟩
theorem hb_Asked_meet_of : HBind "meet_of" "Asked.meet_of" (defArgs s_Asked_meet_of) (defBody s_Asked_meet_of) (defScope s_Asked_meet_of) ["self", "one", "other"] := fun _ _ _ _ _ _ us hl => match us, hl with | [_, _, _], _ => rfl
theorem sc_Asked_place_of : FnScope N_Asked_place_of ["self", "name"] (defScope s_Asked_place_of) := ⟨rfl, rfl, rfl, by decide +kernel, rfl, by decide +kernel, by decide +kernel⟩
theorem hb_Asked_place_of : HBind "place_of" "Asked.place_of" (defArgs s_Asked_place_of) (defBody s_Asked_place_of) (defScope s_Asked_place_of) ["self", "name"] := fun _ _ _ _ _ _ us hl => match us, hl with | [_, _], _ => rfl
theorem sc_Asked_name_at : FnScope N_Asked_name_at ["self", "place"] (defScope s_Asked_name_at) := ⟨rfl, rfl, rfl, by decide +kernel, rfl, by decide +kernel, by decide +kernel⟩
theorem hb_Asked_name_at : HBind "name_at" "Asked.name_at" (defArgs s_Asked_name_at) (defBody s_Asked_name_at) (defScope s_Asked_name_at) ["self", "place"] := fun _ _ _ _ _ _ us hl => match us, hl with | [_, _], _ => rfl
theorem sc__law_said : FnScope N__law_said ["_law_act"] (defScope s__law_said) := ⟨rfl, rfl, rfl, by decide +kernel, rfl, by decide +kernel, by decide +kernel⟩
theorem hb__law_said : HBind "_law_said" "_law_said" (defArgs s__law_said) (defBody s__law_said) (defScope s__law_said) ["_law_act"] := fun _ _ _ _ _ _ us hl => match us, hl with | [_], _ => rfl
theorem sc__law_asks : FnScope N__law_asks ["_law_forest", "_law_name_so"] (defScope s__law_asks) := ⟨rfl, rfl, rfl, by decide +kernel, rfl, by decide +kernel, by decide +kernel⟩
theorem hb__law_asks : HBind "_law_asks" "_law_asks" (defArgs s__law_asks) (defBody s__law_asks) (defScope s__law_asks) ["_law_forest", "_law_name_so"] := fun _ _ _ _ _ _ us hl => match us, hl with | [_, _], _ => rfl
theorem sc__law_no_names : FnScope N__law_no_names ["_law_well_here", "_law_names_here"] (defScope s__law_no_names) := ⟨rfl, rfl, rfl, by decide +kernel, rfl, by decide +kernel, by decide +kernel⟩
theorem hb__law_no_names : HBind "_law_no_names" "_law_no_names" (defArgs s__law_no_names) (defBody s__law_no_names) (defScope s__law_no_names) ["_law_well_here", "_law_names_here"] := fun _ _ _ _ _ _ us hl => match us, hl with | [_, _], _ => rfl
theorem sc_law : FnScope N_law ["_law_script"] (defScope s_law) := ⟨rfl, rfl, rfl, by decide +kernel, rfl, by decide +kernel, by decide +kernel⟩
theorem hb_law : HBind "law" "law" (defArgs s_law) (defBody s_law) (defScope s_law) ["_law_script"] := fun _ _ _ _ _ _ us hl => match us, hl with | [_], _ => rfl
theorem hb_NoNode___init__ : HBind "__init__" "NoNode.__init__" (defArgs s_NoNode___init__) (defBody s_NoNode___init__) (defScope s_NoNode___init__) ["self", "name"] := fun _ _ _ _ _ _ us hl => match us, hl with | [_, _], _ => rfl
theorem hb_NoPlace___init__ : HBind "__init__" "NoPlace.__init__" (defArgs s_NoPlace___init__) (defBody s_NoPlace___init__) (defScope s_NoPlace___init__) ["self", "place"] := fun _ _ _ _ _ _ us hl => match us, hl with | [_, _], _ => rfl
structure Tx (K : PySem.W.Frag) (mg : Str -> Option Value) (base : Heap) : Prop where
  f_is_integer : ∃ fd, FunD K "is_integer" "is_integer" (defArgs s_is_integer) (defBody s_is_integer) (defScope s_is_integer) [] [] (He.fAd K ("is_integer", none)) fd
  f_is_sequence : ∃ fd, FunD K "is_sequence" "is_sequence" (defArgs s_is_sequence) (defBody s_is_sequence) (defScope s_is_sequence) [] [] (He.fAd K ("is_sequence", none)) fd
  f_is_name : ∃ fd, FunD K "is_name" "is_name" (defArgs s_is_name) (defBody s_is_name) (defScope s_is_name) [] [] (He.fAd K ("is_name", none)) fd
  f_is_value : ∃ fd, FunD K "is_value" "is_value" (defArgs s_is_value) (defBody s_is_value) (defScope s_is_value) [] [] (He.fAd K ("is_value", none)) fd
  f__law_well : ∃ fd, FunD K "_law_well" "_law_well" (defArgs s__law_well) (defBody s__law_well) (defScope s__law_well) [] [] (He.fAd K ("_law_well", none)) fd
  f__law_draw : ∃ fd, FunD K "_law_draw" "_law_draw" (defArgs s__law_draw) (defBody s__law_draw) (defScope s__law_draw) [] [] (He.fAd K ("_law_draw", none)) fd
  f__law_one : ∃ fd, FunD K "_law_one" "_law_one" (defArgs s__law_one) (defBody s__law_one) (defScope s__law_one) [] [] (He.fAd K ("_law_one", none)) fd
  f__law_names : ∃ fd, FunD K "_law_names" "_law_names" (defArgs s__law_names) (defBody s__law_names) (defScope s__law_names) [] [] (He.fAd K ("_law_names", none)) fd
  f__law_value : ∃ fd, FunD K "_law_value" "_law_value" (defArgs s__law_value) (defBody s__law_value) (defScope s__law_value) [] [] (He.fAd K ("_law_value", none)) fd
  f__law_levels : ∃ fd, FunD K "_law_levels" "_law_levels" (defArgs s__law_levels) (defBody s__law_levels) (defScope s__law_levels) [] [] (He.fAd K ("_law_levels", none)) fd
  f__law_rows : ∃ fd, FunD K "_law_rows" "_law_rows" (defArgs s__law_rows) (defBody s__law_rows) (defScope s__law_rows) [] [] (He.fAd K ("_law_rows", none)) fd
  f_row_fault : ∃ fd, FunD K "row_fault" "row_fault" (defArgs s_row_fault) (defBody s_row_fault) (defScope s_row_fault) [] [] (He.fAd K ("row_fault", none)) fd
  f__law_said : ∃ fd, FunD K "_law_said" "_law_said" (defArgs s__law_said) (defBody s__law_said) (defScope s__law_said) [] [] (He.fAd K ("_law_said", none)) fd
  f__law_asks : ∃ fd, FunD K "_law_asks" "_law_asks" (defArgs s__law_asks) (defBody s__law_asks) (defScope s__law_asks) [] [] (He.fAd K ("_law_asks", none)) fd
  f__law_no_names : ∃ fd, FunD K "_law_no_names" "_law_no_names" (defArgs s__law_no_names) (defBody s__law_no_names) (defScope s__law_no_names) [] [] (He.fAd K ("_law_no_names", none)) fd
  f_law : ∃ fd, FunD K "law" "law" (defArgs s_law) (defBody s_law) (defScope s_law) [] [] (He.fAd K ("law", none)) fd
  f_Forest__has_node : ∃ fd, FunD K "has_node" "Forest.has_node" (defArgs s_Forest_has_node) (defBody s_Forest_has_node) (defScope s_Forest_has_node) [] [] (He.fAd K ("Forest", some "has_node")) fd
  f_NoNode____init__ : ∃ fd, FunD K "__init__" "NoNode.__init__" (defArgs s_NoNode___init__) (defBody s_NoNode___init__) (defScope s_NoNode___init__) [] [] (He.fAd K ("NoNode", some "__init__")) fd
  f_Forest__line_to : ∃ fd, FunD K "line_to" "Forest.line_to" (defArgs s_Forest_line_to) (defBody s_Forest_line_to) (defScope s_Forest_line_to) [] [] (He.fAd K ("Forest", some "line_to")) fd
  f_Forest__check_nodes : ∃ fd, FunD K "check_nodes" "Asked.check_nodes" (defArgs s_Asked_check_nodes) (defBody s_Asked_check_nodes) (defScope s_Asked_check_nodes) [] [] (He.fAd K ("Forest", some "check_nodes")) fd
  f_Forest__below : ∃ fd, FunD K "below" "Forest.below" (defArgs s_Forest_below) (defBody s_Forest_below) (defScope s_Forest_below) [] [] (He.fAd K ("Forest", some "below")) fd
  f_Forest__worth : ∃ fd, FunD K "worth" "Forest.worth" (defArgs s_Forest_worth) (defBody s_Forest_worth) (defScope s_Forest_worth) [] [] (He.fAd K ("Forest", some "worth")) fd
  f_Forest__names : ∃ fd, FunD K "names" "Forest.names" (defArgs s_Forest_names) (defBody s_Forest_names) (defScope s_Forest_names) [] [] (He.fAd K ("Forest", some "names")) fd
  f_Forest__roots : ∃ fd, FunD K "roots" "Asked.roots" (defArgs s_Asked_roots) (defBody s_Asked_roots) (defScope s_Asked_roots) [] [] (He.fAd K ("Forest", some "roots")) fd
  f_Forest__children_of : ∃ fd, FunD K "children_of" "Asked.children_of" (defArgs s_Asked_children_of) (defBody s_Asked_children_of) (defScope s_Asked_children_of) [] [] (He.fAd K ("Forest", some "children_of")) fd
  f_Forest__parent_of : ∃ fd, FunD K "parent_of" "Asked.parent_of" (defArgs s_Asked_parent_of) (defBody s_Asked_parent_of) (defScope s_Asked_parent_of) [] [] (He.fAd K ("Forest", some "parent_of")) fd
  f_Forest__descendants_of : ∃ fd, FunD K "descendants_of" "Asked.descendants_of" (defArgs s_Asked_descendants_of) (defBody s_Asked_descendants_of) (defScope s_Asked_descendants_of) [] [] (He.fAd K ("Forest", some "descendants_of")) fd
  f_NoPlace____init__ : ∃ fd, FunD K "__init__" "NoPlace.__init__" (defArgs s_NoPlace___init__) (defBody s_NoPlace___init__) (defScope s_NoPlace___init__) [] [] (He.fAd K ("NoPlace", some "__init__")) fd
  f_Forest__place_of : ∃ fd, FunD K "place_of" "Asked.place_of" (defArgs s_Asked_place_of) (defBody s_Asked_place_of) (defScope s_Asked_place_of) [] [] (He.fAd K ("Forest", some "place_of")) fd
  f_Forest__total_of : ∃ fd, FunD K "total_of" "Asked.total_of" (defArgs s_Asked_total_of) (defBody s_Asked_total_of) (defScope s_Asked_total_of) [] [] (He.fAd K ("Forest", some "total_of")) fd
  f_Forest__value_of : ∃ fd, FunD K "value_of" "Asked.value_of" (defArgs s_Asked_value_of) (defBody s_Asked_value_of) (defScope s_Asked_value_of) [] [] (He.fAd K ("Forest", some "value_of")) fd
  f_Forest__size_of : ∃ fd, FunD K "size_of" "Asked.size_of" (defArgs s_Asked_size_of) (defBody s_Asked_size_of) (defScope s_Asked_size_of) [] [] (He.fAd K ("Forest", some "size_of")) fd
  f_Forest__level_of : ∃ fd, FunD K "level_of" "Asked.level_of" (defArgs s_Asked_level_of) (defBody s_Asked_level_of) (defScope s_Asked_level_of) [] [] (He.fAd K ("Forest", some "level_of")) fd
  f_Forest__ancestors_of : ∃ fd, FunD K "ancestors_of" "Asked.ancestors_of" (defArgs s_Asked_ancestors_of) (defBody s_Asked_ancestors_of) (defScope s_Asked_ancestors_of) [] [] (He.fAd K ("Forest", some "ancestors_of")) fd
  f_Forest__rank_of : ∃ fd, FunD K "rank_of" "Asked.rank_of" (defArgs s_Asked_rank_of) (defBody s_Asked_rank_of) (defScope s_Asked_rank_of) [] [] (He.fAd K ("Forest", some "rank_of")) fd
  f_Forest__name_at : ∃ fd, FunD K "name_at" "Asked.name_at" (defArgs s_Asked_name_at) (defBody s_Asked_name_at) (defScope s_Asked_name_at) [] [] (He.fAd K ("Forest", some "name_at")) fd
  f_Forest__meet_of : ∃ fd, FunD K "meet_of" "Asked.meet_of" (defArgs s_Asked_meet_of) (defBody s_Asked_meet_of) (defScope s_Asked_meet_of) [] [] (He.fAd K ("Forest", some "meet_of")) fd
  f_Forest__is_above : ∃ fd, FunD K "is_above" "Asked.is_above" (defArgs s_Asked_is_above) (defBody s_Asked_is_above) (defScope s_Asked_is_above) [] [] (He.fAd K ("Forest", some "is_above")) fd
  f_Forest____init__ : ∃ fd, FunD K "__init__" "Forest.__init__" (defArgs s_Forest___init__) (defBody s_Forest___init__) (defScope s_Forest___init__) [] [] (He.fAd K ("Forest", some "__init__")) fd
  g_is_integer : mg "is_integer" = some (.ref (He.fAd K ("is_integer", none)))
  g_is_sequence : mg "is_sequence" = some (.ref (He.fAd K ("is_sequence", none)))
  g_is_name : mg "is_name" = some (.ref (He.fAd K ("is_name", none)))
  g_is_value : mg "is_value" = some (.ref (He.fAd K ("is_value", none)))
  g__law_well : mg "_law_well" = some (.ref (He.fAd K ("_law_well", none)))
  g__law_draw : mg "_law_draw" = some (.ref (He.fAd K ("_law_draw", none)))
  g__law_one : mg "_law_one" = some (.ref (He.fAd K ("_law_one", none)))
  g__law_names : mg "_law_names" = some (.ref (He.fAd K ("_law_names", none)))
  g__law_value : mg "_law_value" = some (.ref (He.fAd K ("_law_value", none)))
  g__law_levels : mg "_law_levels" = some (.ref (He.fAd K ("_law_levels", none)))
  g__law_rows : mg "_law_rows" = some (.ref (He.fAd K ("_law_rows", none)))
  g_row_fault : mg "row_fault" = some (.ref (He.fAd K ("row_fault", none)))
  g__law_said : mg "_law_said" = some (.ref (He.fAd K ("_law_said", none)))
  g__law_asks : mg "_law_asks" = some (.ref (He.fAd K ("_law_asks", none)))
  g__law_no_names : mg "_law_no_names" = some (.ref (He.fAd K ("_law_no_names", none)))
  g_law : mg "law" = some (.ref (He.fAd K ("law", none)))
  g_Forest : mg "Forest" = some (.ref (He.ga K "Forest"))
  k_Forest : Cls K (He.ga K "Forest")
  g_NoNode : mg "NoNode" = some (.ref (He.ga K "NoNode"))
  g_NoPlace : mg "NoPlace" = some (.ref (He.ga K "NoPlace"))
  g_NoName : mg "NoName" = some (.ref (He.ga K "NoName"))
  g_NoForest : mg "NoForest" = some (.ref (He.ga K "NoForest"))
  g_ForestError : mg "ForestError" = some (.ref (He.ga K "ForestError"))
  n_Forest__spots : NoAttr K (He.ga K "Forest") "spots"
  n_Forest__order : NoAttr K (He.ga K "Forest") "order"
  n_Forest__rows : NoAttr K (He.ga K "Forest") "rows"
  cv_Forest_MOST : CValB K (cl K) 0 "MOST" (.int 60)
  m_Forest__has_node : Meth K (He.ga K "Forest") "has_node" (He.fAd K ("Forest", some "has_node"))
  oex_NoNode : OexC K (He.ga K "NoNode")
  xn_NoNode : xnB K (He.ga K "NoNode") (He.fAd K ("NoNode", some "__init__")) ["name"] = true
  m_Forest__line_to : Meth K (He.ga K "Forest") "line_to" (He.fAd K ("Forest", some "line_to"))
  m_Forest__check_nodes : Meth K (He.ga K "Forest") "check_nodes" (He.fAd K ("Forest", some "check_nodes"))
  m_Forest__below : Meth K (He.ga K "Forest") "below" (He.fAd K ("Forest", some "below"))
  m_Forest__worth : Meth K (He.ga K "Forest") "worth" (He.fAd K ("Forest", some "worth"))
  m_Forest__names : Meth K (He.ga K "Forest") "names" (He.fAd K ("Forest", some "names"))
  m_Forest__roots : Meth K (He.ga K "Forest") "roots" (He.fAd K ("Forest", some "roots"))
  m_Forest__children_of : Meth K (He.ga K "Forest") "children_of" (He.fAd K ("Forest", some "children_of"))
  m_Forest__parent_of : Meth K (He.ga K "Forest") "parent_of" (He.fAd K ("Forest", some "parent_of"))
  m_Forest__descendants_of : Meth K (He.ga K "Forest") "descendants_of" (He.fAd K ("Forest", some "descendants_of"))
  oex_NoPlace : OexC K (He.ga K "NoPlace")
  xn_NoPlace : xnB K (He.ga K "NoPlace") (He.fAd K ("NoPlace", some "__init__")) ["place"] = true
  mt : MtOk K (cl K) mtT0
  isx : IsxOk K (cl K) isxT
  excs : ∀ j ∈ xcs, ExcC K (cl K j)
  xf_place : XfOk K (cl K) [20, 23] "place"
  xf_name : XfOk K (cl K) [18, 22] "name"
  ut_ValueError : UtOk K (cl K) [(22, "ValueError"), (23, "ValueError"), (18, "ValueError"), (20, "ValueError")]
  m_Forest__place_of : Meth K (He.ga K "Forest") "place_of" (He.fAd K ("Forest", some "place_of"))
  m_Forest__total_of : Meth K (He.ga K "Forest") "total_of" (He.fAd K ("Forest", some "total_of"))
  m_Forest__value_of : Meth K (He.ga K "Forest") "value_of" (He.fAd K ("Forest", some "value_of"))
  m_Forest__size_of : Meth K (He.ga K "Forest") "size_of" (He.fAd K ("Forest", some "size_of"))
  m_Forest__level_of : Meth K (He.ga K "Forest") "level_of" (He.fAd K ("Forest", some "level_of"))
  m_Forest__ancestors_of : Meth K (He.ga K "Forest") "ancestors_of" (He.fAd K ("Forest", some "ancestors_of"))
  m_Forest__rank_of : Meth K (He.ga K "Forest") "rank_of" (He.fAd K ("Forest", some "rank_of"))
  m_Forest__name_at : Meth K (He.ga K "Forest") "name_at" (He.fAd K ("Forest", some "name_at"))
  m_Forest__meet_of : Meth K (He.ga K "Forest") "meet_of" (He.fAd K ("Forest", some "meet_of"))
  m_Forest__is_above : Meth K (He.ga K "Forest") "is_above" (He.fAd K ("Forest", some "is_above"))
  mk_Forest : Mk K (He.ga K "Forest") (He.fAd K ("Forest", some "__init__"))
  td__law_asks__law : tabD K ("_law_asks", none) ≠ tabD K ("law", none)
  td_law___law_asks : tabD K ("law", none) ≠ tabD K ("_law_asks", none)
  b_isinstance : mg "isinstance" = none
  b_int : mg "int" = none
  b_bool : mg "bool" = none
  b_tuple : mg "tuple" = none
  b_list : mg "list" = none
  b_all : mg "all" = none
  b_str : mg "str" = none
  b_len : mg "len" = none
  b_range : mg "range" = none
  b_enumerate : mg "enumerate" = none
  b_sum : mg "sum" = none
  b_zip : mg "zip" = none
  b_ValueError : mg "ValueError" = none
  c_LETTERS : ∃ t, mg "LETTERS" = some (.str "abcdefghijklmnopqrstuvwxyz" t)
  c_SIGNS : ∃ t, mg "SIGNS" = some (.str "abcdefghijklmnopqrstuvwxyz0123456789" t)
  c_MOST_SIGNS : ∃ t, mg "MOST_SIGNS" = some (.int 8 t)
  c_MOST_VALUE : ∃ t, mg "MOST_VALUE" = some (.int 1000000000000000000000000000000 t)
  tk__law_asks : ∃ h, TabK h K ("_law_asks", none)
  tb__law_asks : LamX.TabB base mg (codeF K (He.fAd K ("_law_asks", none))) (tabD K ("_law_asks", none))
  tk_law : ∃ h, TabK h K ("law", none)
  tb_law : LamX.TabB base mg (codeF K (He.fAd K ("law", none))) (tabD K ("law", none))
theorem fo_spots {K : PySem.W.Frag} {mg : Str -> Option Value} {base : Heap} (T : Tx K mg base) : FldOk K (cl K) [0] "spots" := by
  intro c hc
  rcases List.mem_cons.mp hc with rfl | hc
  · exact ⟨T.k_Forest, T.n_Forest__spots⟩
  cases hc
theorem fo_order {K : PySem.W.Frag} {mg : Str -> Option Value} {base : Heap} (T : Tx K mg base) : FldOk K (cl K) [0] "order" := by
  intro c hc
  rcases List.mem_cons.mp hc with rfl | hc
  · exact ⟨T.k_Forest, T.n_Forest__order⟩
  cases hc
theorem fo_rows {K : PySem.W.Frag} {mg : Str -> Option Value} {base : Heap} (T : Tx K mg base) : FldOk K (cl K) [0] "rows" := by
  intro c hc
  rcases List.mem_cons.mp hc with rfl | hc
  · exact ⟨T.k_Forest, T.n_Forest__rows⟩
  cases hc
section
variable {P : Program} {w : World} {K : PySem.W.Frag} {mg : Str -> Option Value} {base : Heap}
theorem x_NoNode (T : Tx K mg base) : ExcK P w K mg base "NoNode" (cl K 22) ["name"] := by
  obtain ⟨fd, F⟩ := T.f_NoNode____init__
  have z := xnB_ok T.xn_NoNode
  exact ⟨T.oex_NoNode, T.g_NoNode, He.fAd K ("NoNode", some "__init__"), fd, ["self", "name"], z.1, z.2.1, xinit1 T.oex_NoNode (z.2.2 "name" (by simp)) F ⟨rfl, rfl, rfl, by decide +kernel, rfl, by decide +kernel, by decide +kernel⟩, F.bindsN hb_NoNode___init__⟩
theorem x_NoPlace (T : Tx K mg base) : ExcK P w K mg base "NoPlace" (cl K 23) ["place"] := by
  obtain ⟨fd, F⟩ := T.f_NoPlace____init__
  have z := xnB_ok T.xn_NoPlace
  exact ⟨T.oex_NoPlace, T.g_NoPlace, He.fAd K ("NoPlace", some "__init__"), fd, ["self", "place"], z.1, z.2.1, xinit1 T.oex_NoPlace (z.2.2 "place" (by simp)) F ⟨rfl, rfl, rfl, by decide +kernel, rfl, by decide +kernel, by decide +kernel⟩, F.bindsN hb_NoPlace___init__⟩
theorem core_is_integer (T : Tx K mg base) {f : Addr} (F : ∃ fd, FunD K "is_integer" "is_integer" (defArgs s_is_integer) (defBody s_is_integer) (defScope s_is_integer) [] [] f fd) : FnC (clw K P w) P w K mg base 1 "is_integer" "is_integer" (defArgs s_is_integer) (defBody s_is_integer) (defScope s_is_integer) f ["thing"] sp_is_integer := by
  refine fnC_of (k := 0) (t := t_is_integer) F sc_is_integer (fun cdv A outer s H E c => ?_) pure_is_integer
  exact (dss_one (ds_ret (d_andV (d_callB (call_isi.or (call_isiT.or call_isiK)) lc_isi rfl T.b_isinstance (by decide +kernel) (da_cons (d_var 0) (da_cons (d_ty rfl T.b_int (by decide +kernel)) da_nil))) (d_one (d_notV (d_callB (call_isi.or (call_isiT.or call_isiK)) lc_isi rfl T.b_isinstance (by decide +kernel) (da_cons (d_var 0) (da_cons (d_ty rfl T.b_bool (by decide +kernel)) da_nil))))))))
theorem core_is_sequence (T : Tx K mg base) {f : Addr} (F : ∃ fd, FunD K "is_sequence" "is_sequence" (defArgs s_is_sequence) (defBody s_is_sequence) (defScope s_is_sequence) [] [] f fd) : FnC (clw K P w) P w K mg base 1 "is_sequence" "is_sequence" (defArgs s_is_sequence) (defBody s_is_sequence) (defScope s_is_sequence) f ["thing"] sp_is_sequence := by
  refine fnC_of (k := 0) (t := t_is_sequence) F sc_is_sequence (fun cdv A outer s H E c => ?_) pure_is_sequence
  exact (dss_one (ds_ret (d_callB (call_isi.or (call_isiT.or call_isiK)) lc_isi rfl T.b_isinstance (by decide +kernel) (da_cons (d_var 0) (da_cons (d_tup (da_cons (d_ty rfl T.b_list (by decide +kernel)) (da_cons (d_ty rfl T.b_tuple (by decide +kernel)) da_nil))) da_nil)))))
theorem core_is_name (T : Tx K mg base) {f : Addr} (F : ∃ fd, FunD K "is_name" "is_name" (defArgs s_is_name) (defBody s_is_name) (defScope s_is_name) [] [] f fd) : FnC (clw K P w) P w K mg base 1 "is_name" "is_name" (defArgs s_is_name) (defBody s_is_name) (defScope s_is_name) f ["thing"] sp_is_name := by
  refine fnC_of (k := 0) (t := t_is_name) F sc_is_name (fun cdv A outer s H E c => ?_) pure_is_name
  exact (dss_cons (ds_if (DW.dt (dw_or (d_tnot (d_val (d_callB (call_isi.or (call_isiT.or call_isiK)) lc_isi rfl T.b_isinstance (by decide +kernel) (da_cons (d_var 0) (da_cons (d_ty rfl T.b_str (by decide +kernel)) da_nil))))) (dw_or1 (d_tnot (d_tchain op_le op_le (lop_cmp _) (lop_cmp _) d_int (d_callB call_len lc_len rfl T.b_len PySem.boot_len (da_cons (d_var 0) da_nil)) (d_globI rfl T.c_MOST_SIGNS)))))) (dss_one (ds_ret d_bl)) dss_nil)
      (dss_one (ds_ret (d_andV (d_cmp (op_inA (RoomG.u1 c.hr)) lop_in (d_ixA (RoomG.u1 c.hr) (d_var 0) d_int) (d_globS rfl T.c_LETTERS) rfl) (d_one (d_callB (cr_all c.calm) lc_all rfl T.b_all (by decide +kernel) (da_cons (d_lc (own := [("sign", 1)]) c.calm sc_is_name.nd (di_seq (d_var 0)) (blkOk_by (own := [("sign", 1)]) (N := N_is_name) (sc := defScope s_is_name) (by decide +kernel)) (fun _ _ _ _ _ => (dg_name 1 sc_is_name.nd)) (fun _ _ _ _ _ => dts_nil) (fun _ _ _ _ _ => (d_cmp (op_inA (RoomG.u1 c.blk.hr)) lop_in (d_var 1) (d_globS rfl T.c_SIGNS) rfl))) da_nil)))))))
theorem core_is_value (T : Tx K mg base) {f : Addr} (F : ∃ fd, FunD K "is_value" "is_value" (defArgs s_is_value) (defBody s_is_value) (defScope s_is_value) [] [] f fd) : FnC (clw K P w) P w K mg base 2 "is_value" "is_value" (defArgs s_is_value) (defBody s_is_value) (defScope s_is_value) f ["thing"] sp_is_value := by
  have G0 : FnB (clw K P w) P w K mg base 1 "is_integer" ["thing"] sp_is_integer := (core_is_integer T T.f_is_integer).fn T.g_is_integer hb_is_integer
  refine fnC_of (k := 1) (t := t_is_value) F sc_is_value (fun cdv A outer s H E c => ?_) pure_is_value
  exact (dss_one (ds_ret (d_andV (d_fn c G0 (by decide) rfl (da_cons (d_var 0) da_nil)) (d_one (d_chain op_le op_le (lop_cmp _) (lop_cmp _) (d_un un_neg lun_neg (d_globI rfl T.c_MOST_VALUE)) (d_var 0) (d_globI rfl T.c_MOST_VALUE))))))
theorem core__law_well (T : Tx K mg base) {f : Addr} (F : ∃ fd, FunD K "_law_well" "_law_well" (defArgs s__law_well) (defBody s__law_well) (defScope s__law_well) [] [] f fd) : FnC (clw K P w) P w K mg base 1 "_law_well" "_law_well" (defArgs s__law_well) (defBody s__law_well) (defScope s__law_well) f ["_law_cell"] sp__law_well := by
  refine fnC_of (k := 0) (t := t__law_well) F sc__law_well (fun cdv A outer s H E c => ?_) pure__law_well
  exact (dss_one (ds_ret (d_lstM (da_cons (d_op op_mul lop_mul (d_var 0) (d_callTy call_int1 lc_int rfl T.b_int (by decide +kernel) (da_cons (d_cmp op_ge (lop_cmp _) (d_var 0) (d_op op_pow lop_pow d_int d_int) (nomark _)) da_nil))) (da_cons (d_op op_mod lop_mod (d_callTy call_int1 lc_int rfl T.b_int (by decide +kernel) (da_cons (d_var 0) da_nil)) d_int) (da_cons d_int da_nil))))))
theorem core__law_draw (T : Tx K mg base) {f : Addr} (F : ∃ fd, FunD K "_law_draw" "_law_draw" (defArgs s__law_draw) (defBody s__law_draw) (defScope s__law_draw) [] [] f fd) : FnC (clw K P w) P w K mg base 1 "_law_draw" "_law_draw" (defArgs s__law_draw) (defBody s__law_draw) (defScope s__law_draw) f ["_law_well_here", "_law_many"] sp__law_draw := by
  refine fnC_of (k := 0) (t := t__law_draw) F sc__law_draw (fun cdv A outer s H E c => ?_) pure__law_draw
  exact (dss_cons (ds_if (d_tcmp op_gt (lop_cmp _) (d_ixA (RoomG.u1 c.hr) (d_var 0) d_int) d_int (nomark _)) (dss_cons (ds_set 2 sc__law_draw.nd (d_op op_mod lop_mod (d_callTy call_int1 lc_int rfl T.b_int (by decide +kernel) (da_cons (d_ixA (RoomG.u1 c.hr) (d_var 0) d_int) da_nil)) (d_var 1)))
      (dss_cons (ds_asg (d_op op_fdivW lop_fdiv (d_ixA (RoomG.u1 c.hr) (d_var 0) d_int) (d_var 1)) (dg_subL (d_var 0) d_int))
      (dss_one (ds_ret (d_var 2))))) dss_nil)
      (dss_cons (ds_asg (d_op op_addAll lop_add (d_ixA (RoomG.u1 c.hr) (d_var 0) d_int) d_int) (dg_subL (d_var 0) d_int))
      (dss_cons (ds_set 3 sc__law_draw.nd (d_op op_mod lop_mod (d_callTy call_int1 lc_int rfl T.b_int (by decide +kernel) (da_cons (d_op op_pow lop_pow (d_op op_addAll lop_add (d_op op_addAll lop_add (d_ixA (RoomG.u1 c.hr) (d_var 0) d_int) (d_op op_mul lop_mul d_int (d_ixA (RoomG.u1 c.hr) (d_var 0) d_int))) d_int) d_int) da_nil)) d_int))
      (dss_cons (ds_set 3 sc__law_draw.nd (d_op op_mod lop_mod (d_callTy call_int1 lc_int rfl T.b_int (by decide +kernel) (da_cons (d_op op_mul lop_mul (d_op op_addAll lop_add (d_var 3) (d_ixA (RoomG.u1 c.hr) (d_var 0) d_int)) (d_op op_addAll lop_add (d_op op_fdivW lop_fdiv (d_var 3) d_int) d_int)) da_nil)) d_int))
      (dss_one (ds_ret (d_op op_mod lop_mod (d_callTy call_int1 lc_int rfl T.b_int (by decide +kernel) (da_cons (d_op op_fdivW lop_fdiv (d_op op_mod lop_mod (d_callTy call_int1 lc_int rfl T.b_int (by decide +kernel) (da_cons (d_op op_mul lop_mul (d_var 3) (d_op op_addAll lop_add (d_op op_fdivW lop_fdiv (d_var 3) d_int) d_int)) da_nil)) d_int) d_int) da_nil)) (d_var 1))))))))
theorem core__law_one (T : Tx K mg base) {f : Addr} (F : ∃ fd, FunD K "_law_one" "_law_one" (defArgs s__law_one) (defBody s__law_one) (defScope s__law_one) [] [] f fd) : FnC (clw K P w) P w K mg base 2 "_law_one" "_law_one" (defArgs s__law_one) (defBody s__law_one) (defScope s__law_one) f ["_law_well_here", "_law_some"] sp__law_one := by
  have G0 : FnB (clw K P w) P w K mg base 1 "_law_draw" ["_law_well_here", "_law_many"] sp__law_draw := (core__law_draw T T.f__law_draw).fn T.g__law_draw hb__law_draw
  refine fnC_of (k := 1) (t := t__law_one) F sc__law_one (fun cdv A outer s H E c => ?_) pure__law_one
  exact (dss_one (ds_ret (d_ixA (RoomG.u1 c.hr) (d_var 1) (d_fn c G0 (by decide) rfl (da_cons (d_var 0) (da_cons (d_callB call_len lc_len rfl T.b_len PySem.boot_len (da_cons (d_var 1) da_nil)) da_nil))))))
theorem core__law_names (T : Tx K mg base) {f : Addr} (F : ∃ fd, FunD K "_law_names" "_law_names" (defArgs s__law_names) (defBody s__law_names) (defScope s__law_names) [] [] f fd) : FnC (clw K P w) P w K mg base 3 "_law_names" "_law_names" (defArgs s__law_names) (defBody s__law_names) (defScope s__law_names) f ["_law_well_here", "_law_many"] sp__law_names := by
  have G0 : FnB (clw K P w) P w K mg base 1 "_law_draw" ["_law_well_here", "_law_many"] sp__law_draw := (core__law_draw T T.f__law_draw).fn T.g__law_draw hb__law_draw
  have G1 : FnB (clw K P w) P w K mg base 2 "_law_one" ["_law_well_here", "_law_some"] sp__law_one := (core__law_one T T.f__law_one).fn T.g__law_one hb__law_one
  refine fnC_of (k := 2) (t := t__law_names) F sc__law_names (fun cdv A outer s H E c => ?_) pure__law_names
  exact (dss_cons (ds_par (i := 2) (j := 3) c.calm sc__law_names.nd (da_cons d_str (da_cons (d_lstM da_nil) da_nil)))
      (dss_cons (ds_for c.po c.calm (di_range1 rfl T.b_range (d_var 1)) (dg_name 4 sc__law_names.nd) (dss_cons (ds_set 5 sc__law_names.nd (d_fn c G1 (by decide) rfl (da_cons (d_var 0) (da_cons (d_var 2) da_nil))))
      (dss_cons (ds_for c.po c.calm (di_range1 rfl T.b_range (d_fn c G0 (by decide) rfl (da_cons (d_var 0) (da_cons d_int da_nil)))) (dg_name 6 sc__law_names.nd) (dss_one (ds_set 5 sc__law_names.nd (d_op op_addAll lop_add (d_var 5) (d_fn c G1 (by decide) rfl (da_cons (d_var 0) (da_cons (d_op op_addAll lop_add (d_var 2) d_str) da_nil)))))))
      (dss_cons (ds_if (DW.dt (dw_and (d_tcmp (op_neA c.hr.room.units) lop_ne (d_var 3) (d_lst da_nil) (nomark _)) (dw_and1 (d_tcmp (op_eqA c.hr.room.units) lop_eq (d_fn c G0 (by decide) rfl (da_cons (d_var 0) (da_cons d_int da_nil))) d_int (nomark _))))) (dss_cons (ds_set 7 sc__law_names.nd (d_fn c G1 (by decide) rfl (da_cons (d_var 0) (da_cons (d_var 3) da_nil))))
      (dss_cons (ds_set 8 sc__law_names.nd (d_fn c G0 (by decide) rfl (da_cons (d_var 0) (da_cons (d_callB call_len lc_len rfl T.b_len PySem.boot_len (da_cons (d_var 7) da_nil)) da_nil))))
      (dss_one (ds_set 5 sc__law_names.nd (d_op op_addAll lop_add (d_op op_addAll lop_add (d_slice (d_var 7) do_none (do_some (d_var 8))) (d_fn c G1 (by decide) rfl (da_cons (d_var 0) (da_cons (d_var 2) da_nil)))) (d_slice (d_var 7) (do_some (d_op op_addAll lop_add (d_var 8) d_int)) do_none)))))) dss_nil)
      (dss_one (ds_expr (d_bm PySem.F.plainAttrs_list PySem.F.slot_list_append PySem.F.type_list_append mt_append lm_app (d_var 3) (da_cons (d_ifE (d_tcmp (op_inA (RoomG.u1 c.hr)) lop_in (d_var 5) (d_var 3) rfl) (d_op op_addAll lop_add d_str (d_callTy call_str_int lc_str rfl T.b_str (by decide +kernel) (da_cons (d_var 4) da_nil))) (d_var 5)) da_nil))))))))
      (dss_one (ds_ret (d_frz (d_var 3))))))
theorem core__law_value (T : Tx K mg base) {f : Addr} (F : ∃ fd, FunD K "_law_value" "_law_value" (defArgs s__law_value) (defBody s__law_value) (defScope s__law_value) [] [] f fd) : FnC (clw K P w) P w K mg base 3 "_law_value" "_law_value" (defArgs s__law_value) (defBody s__law_value) (defScope s__law_value) f ["_law_well_here"] sp__law_value := by
  have G0 : FnB (clw K P w) P w K mg base 2 "_law_one" ["_law_well_here", "_law_some"] sp__law_one := (core__law_one T T.f__law_one).fn T.g__law_one hb__law_one
  have G1 : FnB (clw K P w) P w K mg base 1 "_law_draw" ["_law_well_here", "_law_many"] sp__law_draw := (core__law_draw T T.f__law_draw).fn T.g__law_draw hb__law_draw
  refine fnC_of (k := 2) (t := t__law_value) F sc__law_value (fun cdv A outer s H E c => ?_) pure__law_value
  exact (dss_cons (ds_if (d_tcmp (op_eqA c.hr.room.units) lop_eq (d_fn c G1 (by decide) rfl (da_cons (d_var 0) (da_cons d_int da_nil))) d_int (nomark _)) (dss_one (ds_ret (d_op op_sub lop_sub (d_fn c G1 (by decide) rfl (da_cons (d_var 0) (da_cons d_int da_nil))) d_int))) dss_nil)
      (dss_cons (ds_set 1 sc__law_value.nd (d_op op_addAll lop_add (d_op op_mul lop_mul (d_fn c G1 (by decide) rfl (da_cons (d_var 0) (da_cons (d_op op_pow lop_pow d_int d_int) da_nil))) (d_op op_pow lop_pow d_int d_int)) (d_fn c G1 (by decide) rfl (da_cons (d_var 0) (da_cons (d_op op_pow lop_pow d_int d_int) da_nil)))))
      (dss_one (ds_ret (d_fn c G0 (by decide) rfl (da_cons (d_var 0) (da_cons (d_lst (da_cons (d_var 1) (da_cons (d_op op_sub lop_sub d_int (d_var 1)) (da_cons (d_op op_pow lop_pow d_int d_int) (da_cons (d_op op_sub lop_sub d_int (d_op op_pow lop_pow d_int d_int)) da_nil))))) da_nil)))))))
theorem core__law_levels (T : Tx K mg base) {f : Addr} (F : ∃ fd, FunD K "_law_levels" "_law_levels" (defArgs s__law_levels) (defBody s__law_levels) (defScope s__law_levels) [] [] f fd) : FnC (clw K P w) P w K mg base 2 "_law_levels" "_law_levels" (defArgs s__law_levels) (defBody s__law_levels) (defScope s__law_levels) f ["_law_well_here", "_law_many"] sp__law_levels := by
  have G0 : FnB (clw K P w) P w K mg base 1 "_law_draw" ["_law_well_here", "_law_many"] sp__law_draw := (core__law_draw T T.f__law_draw).fn T.g__law_draw hb__law_draw
  refine fnC_of (k := 1) (t := t__law_levels) F sc__law_levels (fun cdv A outer s H E c => ?_) pure__law_levels
  exact (dss_cons (ds_par (i := 2) (j := 3) c.calm sc__law_levels.nd (da_cons (d_lstM da_nil) (da_cons (d_fn c G0 (by decide) rfl (da_cons (d_var 0) (da_cons d_int da_nil))) da_nil)))
      (dss_cons (ds_for c.po c.calm (di_range1 rfl T.b_range (d_var 1)) (dg_name 4 sc__law_levels.nd) (dss_cons (ds_set 5 sc__law_levels.nd (d_ifE (d_tcmp (op_neA c.hr.room.units) lop_ne (d_var 2) (d_lst da_nil) (nomark _)) (d_op op_addAll lop_add (d_ixA (RoomG.u1 c.hr) (d_var 2) (d_un un_neg lun_neg d_int)) d_int) d_int))
      (dss_cons (ds_set 6 sc__law_levels.nd (d_var 5))
      (dss_cons (ds_if (DW.dt (dw_or (d_tcmp (op_eqA c.hr.room.units) lop_eq (d_var 3) d_int (nomark _)) (dw_or1 (DW.dt (dw_and (d_tcmp (op_eqA c.hr.room.units) lop_eq (d_var 3) d_int (nomark _)) (dw_and1 (d_tcmp (op_eqA c.hr.room.units) lop_eq (d_fn c G0 (by decide) rfl (da_cons (d_var 0) (da_cons d_int da_nil))) d_int (nomark _)))))))) (dss_one (ds_set 6 sc__law_levels.nd (d_fn c G0 (by decide) rfl (da_cons (d_var 0) (da_cons (d_op op_addAll lop_add (d_var 5) d_int) da_nil))))) dss_nil)
      (dss_cons (ds_if (d_tcmp (op_eqA c.hr.room.units) lop_eq (d_var 3) d_int (nomark _)) (dss_one (ds_set 6 sc__law_levels.nd (d_fn c G0 (by decide) rfl (da_cons (d_var 0) (da_cons (d_op op_addAll lop_add d_int (d_ixA (RoomG.u1 c.hr) (d_lst (da_cons (d_var 5) (da_cons d_int da_nil))) (d_callTy call_int1 lc_int rfl T.b_int (by decide +kernel) (da_cons (d_cmp op_gt (lop_cmp _) (d_var 5) d_int (nomark _)) da_nil)))) da_nil))))) dss_nil)
      (dss_one (ds_expr (d_bm PySem.F.plainAttrs_list PySem.F.slot_list_append PySem.F.type_list_append mt_append lm_app (d_var 2) (da_cons (d_var 6) da_nil)))))))))
      (dss_one (ds_ret (d_frz (d_var 2))))))
theorem core__law_rows (T : Tx K mg base) {f : Addr} (F : ∃ fd, FunD K "_law_rows" "_law_rows" (defArgs s__law_rows) (defBody s__law_rows) (defScope s__law_rows) [] [] f fd) : FnC (clw K P w) P w K mg base 4 "_law_rows" "_law_rows" (defArgs s__law_rows) (defBody s__law_rows) (defScope s__law_rows) f ["_law_well_here", "_law_most"] sp__law_rows := by
  have G0 : FnB (clw K P w) P w K mg base 3 "_law_value" ["_law_well_here"] sp__law_value := (core__law_value T T.f__law_value).fn T.g__law_value hb__law_value
  have G1 : FnB (clw K P w) P w K mg base 2 "_law_levels" ["_law_well_here", "_law_many"] sp__law_levels := (core__law_levels T T.f__law_levels).fn T.g__law_levels hb__law_levels
  have G2 : FnB (clw K P w) P w K mg base 3 "_law_names" ["_law_well_here", "_law_many"] sp__law_names := (core__law_names T T.f__law_names).fn T.g__law_names hb__law_names
  have G3 : FnB (clw K P w) P w K mg base 1 "_law_draw" ["_law_well_here", "_law_many"] sp__law_draw := (core__law_draw T T.f__law_draw).fn T.g__law_draw hb__law_draw
  refine fnC_of (k := 3) (t := t__law_rows) F sc__law_rows (fun cdv A outer s H E c => ?_) pure__law_rows
  exact (dss_cons (ds_set 2 sc__law_rows.nd (d_fn c G3 (by decide) rfl (da_cons (d_var 0) (da_cons (d_op op_addAll lop_add (d_var 1) d_int) da_nil))))
      (dss_cons (ds_asg (d_tup (da_cons (d_fn c G2 (by decide) rfl (da_cons (d_var 0) (da_cons (d_var 2) da_nil))) (da_cons (d_fn c G1 (by decide) rfl (da_cons (d_var 0) (da_cons (d_var 2) da_nil))) da_nil))) (dg_tup c.calm (dgs_cons (dg_name 3 sc__law_rows.nd) (dgs_cons (dg_name 4 sc__law_rows.nd) dgs_nil))))
      (dss_one (ds_ret (d_lc (own := [("_law_k", 5)]) c.calm sc__law_rows.nd (di_range1 rfl T.b_range (d_var 2)) (blkOk_by (own := [("_law_k", 5)]) (N := N__law_rows) (sc := defScope s__law_rows) (by decide +kernel)) (fun _ _ _ _ _ => (dg_name 5 sc__law_rows.nd)) (fun _ _ _ _ _ => dts_nil) (fun _ _ _ _ _ => (d_tup (da_cons (d_ixA (RoomG.u1 c.blk.hr) (d_var 3) (d_var 5)) (da_cons (d_fn c.blk G0 (by decide) rfl (da_cons (d_var 0) da_nil)) (da_cons (d_ixA (RoomG.u1 c.blk.hr) (d_var 4) (d_var 5)) da_nil))))))))))
theorem core_row_fault (T : Tx K mg base) {f : Addr} (F : ∃ fd, FunD K "row_fault" "row_fault" (defArgs s_row_fault) (defBody s_row_fault) (defScope s_row_fault) [] [] f fd) : FnC (clw K P w) P w K mg base 3 "row_fault" "row_fault" (defArgs s_row_fault) (defBody s_row_fault) (defScope s_row_fault) f ["rows", "place"] sp_row_fault := by
  have G0 : FnB (clw K P w) P w K mg base 1 "is_integer" ["thing"] sp_is_integer := (core_is_integer T T.f_is_integer).fn T.g_is_integer hb_is_integer
  have G1 : FnB (clw K P w) P w K mg base 2 "is_value" ["thing"] sp_is_value := (core_is_value T T.f_is_value).fn T.g_is_value hb_is_value
  have G2 : FnB (clw K P w) P w K mg base 1 "is_name" ["thing"] sp_is_name := (core_is_name T T.f_is_name).fn T.g_is_name hb_is_name
  have G3 : FnB (clw K P w) P w K mg base 1 "is_sequence" ["thing"] sp_is_sequence := (core_is_sequence T T.f_is_sequence).fn T.g_is_sequence hb_is_sequence
  refine fnC_of (k := 2) (t := t_row_fault) F sc_row_fault (fun cdv A outer s H E c => ?_) pure_row_fault
  exact (dss_cons (ds_set 2 sc_row_fault.nd (d_ixA (RoomG.u1 c.hr) (d_var 0) (d_var 1)))
      (dss_cons (ds_if (DW.dt (dw_or (d_tnot (d_val (d_fn c G3 (by decide) rfl (da_cons (d_var 2) da_nil)))) (dw_or1 (d_tcmp (op_neA c.hr.room.units) lop_ne (d_callB call_len lc_len rfl T.b_len PySem.boot_len (da_cons (d_var 2) da_nil)) d_int (nomark _))))) (dss_one (ds_ret d_str)) dss_nil)
      (dss_cons (ds_asg (d_var 2) (dg_tup c.calm (dgs_cons (dg_name 3 sc_row_fault.nd) (dgs_cons (dg_name 4 sc_row_fault.nd) (dgs_cons (dg_name 5 sc_row_fault.nd) dgs_nil)))))
      (dss_cons (ds_if (d_tnot (d_val (d_fn c G2 (by decide) rfl (da_cons (d_var 3) da_nil)))) (dss_one (ds_ret d_str)) dss_nil)
      (dss_cons (ds_if (d_tnot (d_val (d_fn c G1 (by decide) rfl (da_cons (d_var 4) da_nil)))) (dss_one (ds_ret d_str)) dss_nil)
      (dss_cons (ds_if (DW.dt (dw_or (d_tnot (d_val (d_fn c G0 (by decide) rfl (da_cons (d_var 5) da_nil)))) (dw_or1 (d_tnot (d_tchain op_le op_le (lop_cmp _) (lop_cmp _) d_int (d_var 5) (d_ifE (d_tcmp op_gt (lop_cmp _) (d_var 1) d_int (nomark _)) (d_op op_addAll lop_add (d_ixA (RoomG.u1 c.hr) (d_ixA (RoomG.u1 c.hr) (d_var 0) (d_op op_sub lop_sub (d_var 1) d_int)) d_int) d_int) d_int)))))) (dss_one (ds_ret d_str)) dss_nil)
      (dss_one (ds_ret (d_ifE (d_tcmp (op_inA (RoomG.u1 c.hr)) lop_in (d_var 3) (d_lc (own := [("other", 6)]) c.calm sc_row_fault.nd (di_seq (d_slice (d_var 0) do_none (do_some (d_var 1)))) (blkOk_by (own := [("other", 6)]) (N := N_row_fault) (sc := defScope s_row_fault) (by decide +kernel)) (fun _ _ _ _ _ => (dg_name 6 sc_row_fault.nd)) (fun _ _ _ _ _ => dts_nil) (fun _ _ _ _ _ => (d_ixA (RoomG.u1 c.blk.hr) (d_var 6) d_int))) rfl) d_str d_non)))))))))
theorem core_Forest___init__ (T : Tx K mg base) {f : Addr} (F : ∃ fd, FunD K "__init__" "Forest.__init__" (defArgs s_Forest___init__) (defBody s_Forest___init__) (defScope s_Forest___init__) [] [] f fd) : FnC (clw K P w) P w K mg base 4 "__init__" "Forest.__init__" (defArgs s_Forest___init__) (defBody s_Forest___init__) (defScope s_Forest___init__) f ["self", "rows"] sp_Forest___init__ := by
  have G0 : FnB (clw K P w) P w K mg base 3 "row_fault" ["rows", "place"] sp_row_fault := (core_row_fault T T.f_row_fault).fn T.g_row_fault hb_row_fault
  have G1 : FnB (clw K P w) P w K mg base 1 "is_sequence" ["thing"] sp_is_sequence := (core_is_sequence T T.f_is_sequence).fn T.g_is_sequence hb_is_sequence
  refine fnC_of (k := 3) (t := t_Forest___init__) F sc_Forest___init__ (fun cdv A outer s H E c => ?_) pure_Forest___init__
  exact (dss_cons (ds_if (DW.dt (dw_or (d_tnot (d_val (d_fn c G1 (by decide) rfl (da_cons (d_var 1) da_nil)))) (dw_or1 (d_tcmp op_gt (lop_cmp _) (d_callB call_len lc_len rfl T.b_len PySem.boot_len (da_cons (d_var 1) da_nil)) (d_cval T.cv_Forest_MOST rfl T.g_Forest) (nomark _))))) (dss_one ds_never) dss_nil)
      (dss_cons (ds_for c.po c.calm (di_range1 rfl T.b_range (d_callB call_len lc_len rfl T.b_len PySem.boot_len (da_cons (d_var 1) da_nil))) (dg_name 2 sc_Forest___init__.nd) (dss_cons (ds_set 3 sc_Forest___init__.nd (d_fn c G0 (by decide) rfl (da_cons (d_var 1) (da_cons (d_var 2) da_nil))))
      (dss_one (ds_if (d_tcmp op_notN lop_notN (d_var 3) d_non (nomark _)) (dss_one ds_never) dss_nil))))
      (dss_cons (ds_fld (fo_rows T) (d_var 0) (d_callTy call_tuple_of lc_tup rfl T.b_tuple (by decide +kernel) (da_cons (d_lc (own := [("row", 4)]) c.calm sc_Forest___init__.nd (di_seq (d_var 1)) (blkOk_by (own := [("row", 4)]) (N := N_Forest___init__) (sc := defScope s_Forest___init__) (by decide +kernel)) (fun _ _ _ _ _ => (dg_name 4 sc_Forest___init__.nd)) (fun _ _ _ _ _ => dts_nil) (fun _ _ _ _ _ => (d_callTy call_tuple_of lc_tup rfl T.b_tuple (by decide +kernel) (da_cons (d_var 4) da_nil)))) da_nil)))
      (dss_cons (ds_fld (fo_order T) (d_var 0) (d_callTy call_tuple_of lc_tup rfl T.b_tuple (by decide +kernel) (da_cons (d_lc (own := [("row", 4)]) c.calm sc_Forest___init__.nd (di_seq (d_var 1)) (blkOk_by (own := [("row", 4)]) (N := N_Forest___init__) (sc := defScope s_Forest___init__) (by decide +kernel)) (fun _ _ _ _ _ => (dg_name 4 sc_Forest___init__.nd)) (fun _ _ _ _ _ => dts_nil) (fun _ _ _ _ _ => (d_ixA (RoomG.u1 c.blk.hr) (d_var 4) d_int))) da_nil)))
      (dss_one (ds_fld (fo_spots T) (d_var 0) (d_dc (own := [("place", 2), ("row", 4)]) c.calm sc_Forest___init__.nd (di_enumT rfl T.b_enumerate (d_var 1)) (blkOk_by (own := [("place", 2), ("row", 4)]) (N := N_Forest___init__) (sc := defScope s_Forest___init__) (by decide +kernel)) (fun _ _ _ _ _ => (dg_tup c.blk.calm (dgs_cons (dg_name 2 sc_Forest___init__.nd) (dgs_cons (dg_name 4 sc_Forest___init__.nd) dgs_nil)))) (fun _ _ _ _ _ => dts_nil) (fun _ _ _ _ _ => (d_ixA (RoomG.u1 c.blk.hr) (d_var 4) d_int)) (fun _ _ _ _ _ => (d_var 2)))))))))
theorem core_Forest_names (T : Tx K mg base) {f : Addr} (F : ∃ fd, FunD K "names" "Forest.names" (defArgs s_Forest_names) (defBody s_Forest_names) (defScope s_Forest_names) [] [] f fd) : FnC (clw K P w) P w K mg base 1 "names" "Forest.names" (defArgs s_Forest_names) (defBody s_Forest_names) (defScope s_Forest_names) f ["self"] sp_Forest_names := by
  refine fnC_of (k := 0) (t := t_Forest_names) F sc_Forest_names (fun cdv A outer s H E c => ?_) pure_Forest_names
  exact (dss_one (ds_ret (d_callTy call_list_of lc_lst rfl T.b_list (by decide +kernel) (da_cons (d_fld (fo_order T) (d_var 0)) da_nil))))
theorem core_Forest_has_node (T : Tx K mg base) {f : Addr} (F : ∃ fd, FunD K "has_node" "Forest.has_node" (defArgs s_Forest_has_node) (defBody s_Forest_has_node) (defScope s_Forest_has_node) [] [] f fd) : FnC (clw K P w) P w K mg base 1 "has_node" "Forest.has_node" (defArgs s_Forest_has_node) (defBody s_Forest_has_node) (defScope s_Forest_has_node) f ["self", "name"] sp_Forest_has_node := by
  refine fnC_of (k := 0) (t := t_Forest_has_node) F sc_Forest_has_node (fun cdv A outer s H E c => ?_) pure_Forest_has_node
  exact (dss_one (ds_ret (d_andV (d_callB (call_isi.or (call_isiT.or call_isiK)) lc_isi rfl T.b_isinstance (by decide +kernel) (da_cons (d_var 1) (da_cons (d_ty rfl T.b_str (by decide +kernel)) da_nil))) (d_one (d_cmp (op_inA (RoomG.u1 c.hr)) lop_in (d_var 1) (d_fld (fo_spots T) (d_var 0)) rfl)))))
theorem core_Forest_worth (T : Tx K mg base) {f : Addr} (F : ∃ fd, FunD K "worth" "Forest.worth" (defArgs s_Forest_worth) (defBody s_Forest_worth) (defScope s_Forest_worth) [] [] f fd) : FnC (clw K P w) P w K mg base 1 "worth" "Forest.worth" (defArgs s_Forest_worth) (defBody s_Forest_worth) (defScope s_Forest_worth) f ["self", "name"] sp_Forest_worth := by
  refine fnC_of (k := 0) (t := t_Forest_worth) F sc_Forest_worth (fun cdv A outer s H E c => ?_) pure_Forest_worth
  exact (dss_one (ds_ret (d_ixA (RoomG.u1 c.hr) (d_ixA (RoomG.u1 c.hr) (d_fld (fo_rows T) (d_var 0)) (d_ixA (RoomG.u1 c.hr) (d_fld (fo_spots T) (d_var 0)) (d_var 1))) d_int)))
theorem core_Forest_line_to (T : Tx K mg base) {f : Addr} (F : ∃ fd, FunD K "line_to" "Forest.line_to" (defArgs s_Forest_line_to) (defBody s_Forest_line_to) (defScope s_Forest_line_to) [] [] f fd) : FnC (clw K P w) P w K mg base 1 "line_to" "Forest.line_to" (defArgs s_Forest_line_to) (defBody s_Forest_line_to) (defScope s_Forest_line_to) f ["self", "name"] sp_Forest_line_to := by
  refine fnC_of (k := 0) (t := t_Forest_line_to) F sc_Forest_line_to (fun cdv A outer s H E c => ?_) pure_Forest_line_to
  exact (dss_cons (ds_set 2 sc_Forest_line_to.nd (d_ixA (RoomG.u1 c.hr) (d_fld (fo_spots T) (d_var 0)) (d_var 1)))
      (dss_cons (ds_par (i := 3) (j := 4) c.calm sc_Forest_line_to.nd (da_cons (d_ixA (RoomG.u1 c.hr) (d_ixA (RoomG.u1 c.hr) (d_fld (fo_rows T) (d_var 0)) (d_var 2)) d_int) (da_cons (d_lstM da_nil) da_nil)))
      (dss_cons (ds_for c.po c.calm (di_seq (d_rev (d_slice (d_fld (fo_rows T) (d_var 0)) do_none (do_some (d_var 2))))) (dg_tup c.calm (dgs_cons (dg_name 5 sc_Forest_line_to.nd) (dgs_cons (dg_name 6 sc_Forest_line_to.nd) (dgs_cons (dg_name 7 sc_Forest_line_to.nd) dgs_nil)))) (dss_one (ds_if (d_tcmp op_lt (lop_cmp _) (d_var 7) (d_var 3) (nomark _)) (dss_cons (ds_expr (d_bm PySem.F.plainAttrs_list PySem.F.slot_list_append PySem.F.type_list_append mt_append lm_app (d_var 4) (da_cons (d_var 5) da_nil)))
      (dss_one (ds_set 3 sc_Forest_line_to.nd (d_var 7)))) dss_nil)))
      (dss_one (ds_ret (d_rev (d_var 4)))))))
theorem core_Forest_below (T : Tx K mg base) {f : Addr} (F : ∃ fd, FunD K "below" "Forest.below" (defArgs s_Forest_below) (defBody s_Forest_below) (defScope s_Forest_below) [] [] f fd) : FnC (clw K P w) P w K mg base 1 "below" "Forest.below" (defArgs s_Forest_below) (defBody s_Forest_below) (defScope s_Forest_below) f ["self", "name"] sp_Forest_below := by
  refine fnC_of (k := 0) (t := t_Forest_below) F sc_Forest_below (fun cdv A outer s H E c => ?_) pure_Forest_below
  exact (dss_cons (ds_par (i := 2) (j := 3) c.calm sc_Forest_below.nd (da_cons (d_ixA (RoomG.u1 c.hr) (d_fld (fo_spots T) (d_var 0)) (d_var 1)) (da_cons (d_lstM da_nil) da_nil)))
      (dss_cons (ds_set 4 sc_Forest_below.nd (d_ixA (RoomG.u1 c.hr) (d_ixA (RoomG.u1 c.hr) (d_fld (fo_rows T) (d_var 0)) (d_var 2)) d_int))
      (dss_cons (ds_for c.po c.calm (di_seq (d_slice (d_fld (fo_rows T) (d_var 0)) (do_some (d_op op_addAll lop_add (d_var 2) d_int)) do_none)) (dg_tup c.calm (dgs_cons (dg_name 5 sc_Forest_below.nd) (dgs_cons (dg_name 6 sc_Forest_below.nd) (dgs_cons (dg_name 7 sc_Forest_below.nd) dgs_nil)))) (dss_cons (ds_if (d_tcmp op_le (lop_cmp _) (d_var 7) (d_var 4) (nomark _)) (dss_one ds_break) dss_nil)
      (dss_one (ds_expr (d_bm PySem.F.plainAttrs_list PySem.F.slot_list_append PySem.F.type_list_append mt_append lm_app (d_var 3) (da_cons (d_var 5) da_nil))))))
      (dss_one (ds_ret (d_frz (d_var 3)))))))
theorem core_Asked_check_nodes (T : Tx K mg base) {f : Addr} (F : ∃ fd, FunD K "check_nodes" "Asked.check_nodes" (defArgs s_Asked_check_nodes) (defBody s_Asked_check_nodes) (defScope s_Asked_check_nodes) [] [] f fd) : FnC (clw K P w) P w K mg base 3 "check_nodes" "Asked.check_nodes" (defArgs s_Asked_check_nodes) (defBody s_Asked_check_nodes) (defScope s_Asked_check_nodes) f ["self", "names"] sp_Asked_check_nodes := by
  have G0 : ∀ c spd, List.lookup c ([(0, sp_Forest_has_node)] : List (Nat × SpD)) = some spd -> MethB (clw K P w) P w K mg base 2 c "has_node" spd := (tb_cons ((core_Forest_has_node T T.f_Forest__has_node).meth (c := 0) T.k_Forest T.m_Forest__has_node hb_Forest_has_node (by decide)) tb_nil)
  refine fnC_of (k := 2) (t := t_Asked_check_nodes) F sc_Asked_check_nodes (fun cdv A outer s H E c => ?_) pure_Asked_check_nodes
  exact (dss_one (ds_for c.po c.calm (di_seq (d_var 1)) (dg_name 2 sc_Asked_check_nodes.nd) (dss_one (ds_if (d_tnot (d_val (d_meth c G0 (d_var 0) (da_cons (d_var 2) da_nil)))) (dss_one (ds_raise c (by decide) (x_NoNode T) (by decide) rfl (da_cons (d_var 2) da_nil))) dss_nil))))
theorem core_Asked_ancestors_of (T : Tx K mg base) {f : Addr} (F : ∃ fd, FunD K "ancestors_of" "Asked.ancestors_of" (defArgs s_Asked_ancestors_of) (defBody s_Asked_ancestors_of) (defScope s_Asked_ancestors_of) [] [] f fd) : FnC (clw K P w) P w K mg base 4 "ancestors_of" "Asked.ancestors_of" (defArgs s_Asked_ancestors_of) (defBody s_Asked_ancestors_of) (defScope s_Asked_ancestors_of) f ["self", "name"] sp_Asked_ancestors_of := by
  have G0 : ∀ c spd, List.lookup c ([(0, sp_Forest_line_to)] : List (Nat × SpD)) = some spd -> MethB (clw K P w) P w K mg base 3 c "line_to" spd := (tb_cons ((core_Forest_line_to T T.f_Forest__line_to).meth (c := 0) T.k_Forest T.m_Forest__line_to hb_Forest_line_to (by decide)) tb_nil)
  have G1 : ∀ c spd, List.lookup c ([(0, sp_Asked_check_nodes)] : List (Nat × SpD)) = some spd -> MethB (clw K P w) P w K mg base 3 c "check_nodes" spd := (tb_cons ((core_Asked_check_nodes T T.f_Forest__check_nodes).meth (c := 0) T.k_Forest T.m_Forest__check_nodes hb_Asked_check_nodes (by decide)) tb_nil)
  refine fnC_of (k := 3) (t := t_Asked_ancestors_of) F sc_Asked_ancestors_of (fun cdv A outer s H E c => ?_) pure_Asked_ancestors_of
  exact (dss_cons (ds_expr (d_meth c G1 (d_var 0) (da_cons (d_lst (da_cons (d_var 1) da_nil)) da_nil)))
      (dss_one (ds_ret (d_meth c G0 (d_var 0) (da_cons (d_var 1) da_nil)))))
theorem core_Asked_descendants_of (T : Tx K mg base) {f : Addr} (F : ∃ fd, FunD K "descendants_of" "Asked.descendants_of" (defArgs s_Asked_descendants_of) (defBody s_Asked_descendants_of) (defScope s_Asked_descendants_of) [] [] f fd) : FnC (clw K P w) P w K mg base 4 "descendants_of" "Asked.descendants_of" (defArgs s_Asked_descendants_of) (defBody s_Asked_descendants_of) (defScope s_Asked_descendants_of) f ["self", "name"] sp_Asked_descendants_of := by
  have G0 : ∀ c spd, List.lookup c ([(0, sp_Forest_below)] : List (Nat × SpD)) = some spd -> MethB (clw K P w) P w K mg base 3 c "below" spd := (tb_cons ((core_Forest_below T T.f_Forest__below).meth (c := 0) T.k_Forest T.m_Forest__below hb_Forest_below (by decide)) tb_nil)
  have G1 : ∀ c spd, List.lookup c ([(0, sp_Asked_check_nodes)] : List (Nat × SpD)) = some spd -> MethB (clw K P w) P w K mg base 3 c "check_nodes" spd := (tb_cons ((core_Asked_check_nodes T T.f_Forest__check_nodes).meth (c := 0) T.k_Forest T.m_Forest__check_nodes hb_Asked_check_nodes (by decide)) tb_nil)
  refine fnC_of (k := 3) (t := t_Asked_descendants_of) F sc_Asked_descendants_of (fun cdv A outer s H E c => ?_) pure_Asked_descendants_of
  exact (dss_cons (ds_expr (d_meth c G1 (d_var 0) (da_cons (d_lst (da_cons (d_var 1) da_nil)) da_nil)))
      (dss_one (ds_ret (d_meth c G0 (d_var 0) (da_cons (d_var 1) da_nil)))))
theorem core_Asked_parent_of (T : Tx K mg base) {f : Addr} (F : ∃ fd, FunD K "parent_of" "Asked.parent_of" (defArgs s_Asked_parent_of) (defBody s_Asked_parent_of) (defScope s_Asked_parent_of) [] [] f fd) : FnC (clw K P w) P w K mg base 4 "parent_of" "Asked.parent_of" (defArgs s_Asked_parent_of) (defBody s_Asked_parent_of) (defScope s_Asked_parent_of) f ["self", "name"] sp_Asked_parent_of := by
  have G0 : ∀ c spd, List.lookup c ([(0, sp_Forest_line_to)] : List (Nat × SpD)) = some spd -> MethB (clw K P w) P w K mg base 3 c "line_to" spd := (tb_cons ((core_Forest_line_to T T.f_Forest__line_to).meth (c := 0) T.k_Forest T.m_Forest__line_to hb_Forest_line_to (by decide)) tb_nil)
  have G1 : ∀ c spd, List.lookup c ([(0, sp_Asked_check_nodes)] : List (Nat × SpD)) = some spd -> MethB (clw K P w) P w K mg base 3 c "check_nodes" spd := (tb_cons ((core_Asked_check_nodes T T.f_Forest__check_nodes).meth (c := 0) T.k_Forest T.m_Forest__check_nodes hb_Asked_check_nodes (by decide)) tb_nil)
  refine fnC_of (k := 3) (t := t_Asked_parent_of) F sc_Asked_parent_of (fun cdv A outer s H E c => ?_) pure_Asked_parent_of
  exact (dss_cons (ds_expr (d_meth c G1 (d_var 0) (da_cons (d_lst (da_cons (d_var 1) da_nil)) da_nil)))
      (dss_one (ds_ret (d_ixA (RoomG.u1 c.hr) (d_orT (d_meth c G0 (d_var 0) (da_cons (d_var 1) da_nil)) (d_one (d_lst (da_cons d_non da_nil)))) (d_un un_neg lun_neg d_int)))))
theorem core_Asked_level_of (T : Tx K mg base) {f : Addr} (F : ∃ fd, FunD K "level_of" "Asked.level_of" (defArgs s_Asked_level_of) (defBody s_Asked_level_of) (defScope s_Asked_level_of) [] [] f fd) : FnC (clw K P w) P w K mg base 4 "level_of" "Asked.level_of" (defArgs s_Asked_level_of) (defBody s_Asked_level_of) (defScope s_Asked_level_of) f ["self", "name"] sp_Asked_level_of := by
  have G0 : ∀ c spd, List.lookup c ([(0, sp_Forest_line_to)] : List (Nat × SpD)) = some spd -> MethB (clw K P w) P w K mg base 3 c "line_to" spd := (tb_cons ((core_Forest_line_to T T.f_Forest__line_to).meth (c := 0) T.k_Forest T.m_Forest__line_to hb_Forest_line_to (by decide)) tb_nil)
  have G1 : ∀ c spd, List.lookup c ([(0, sp_Asked_check_nodes)] : List (Nat × SpD)) = some spd -> MethB (clw K P w) P w K mg base 3 c "check_nodes" spd := (tb_cons ((core_Asked_check_nodes T T.f_Forest__check_nodes).meth (c := 0) T.k_Forest T.m_Forest__check_nodes hb_Asked_check_nodes (by decide)) tb_nil)
  refine fnC_of (k := 3) (t := t_Asked_level_of) F sc_Asked_level_of (fun cdv A outer s H E c => ?_) pure_Asked_level_of
  exact (dss_cons (ds_expr (d_meth c G1 (d_var 0) (da_cons (d_lst (da_cons (d_var 1) da_nil)) da_nil)))
      (dss_one (ds_ret (d_callB call_len lc_len rfl T.b_len PySem.boot_len (da_cons (d_meth c G0 (d_var 0) (da_cons (d_var 1) da_nil)) da_nil)))))
theorem core_Asked_value_of (T : Tx K mg base) {f : Addr} (F : ∃ fd, FunD K "value_of" "Asked.value_of" (defArgs s_Asked_value_of) (defBody s_Asked_value_of) (defScope s_Asked_value_of) [] [] f fd) : FnC (clw K P w) P w K mg base 4 "value_of" "Asked.value_of" (defArgs s_Asked_value_of) (defBody s_Asked_value_of) (defScope s_Asked_value_of) f ["self", "name"] sp_Asked_value_of := by
  have G0 : ∀ c spd, List.lookup c ([(0, sp_Forest_worth)] : List (Nat × SpD)) = some spd -> MethB (clw K P w) P w K mg base 3 c "worth" spd := (tb_cons ((core_Forest_worth T T.f_Forest__worth).meth (c := 0) T.k_Forest T.m_Forest__worth hb_Forest_worth (by decide)) tb_nil)
  have G1 : ∀ c spd, List.lookup c ([(0, sp_Asked_check_nodes)] : List (Nat × SpD)) = some spd -> MethB (clw K P w) P w K mg base 3 c "check_nodes" spd := (tb_cons ((core_Asked_check_nodes T T.f_Forest__check_nodes).meth (c := 0) T.k_Forest T.m_Forest__check_nodes hb_Asked_check_nodes (by decide)) tb_nil)
  refine fnC_of (k := 3) (t := t_Asked_value_of) F sc_Asked_value_of (fun cdv A outer s H E c => ?_) pure_Asked_value_of
  exact (dss_cons (ds_expr (d_meth c G1 (d_var 0) (da_cons (d_lst (da_cons (d_var 1) da_nil)) da_nil)))
      (dss_one (ds_ret (d_meth c G0 (d_var 0) (da_cons (d_var 1) da_nil)))))
theorem core_Asked_roots (T : Tx K mg base) {f : Addr} (F : ∃ fd, FunD K "roots" "Asked.roots" (defArgs s_Asked_roots) (defBody s_Asked_roots) (defScope s_Asked_roots) [] [] f fd) : FnC (clw K P w) P w K mg base 2 "roots" "Asked.roots" (defArgs s_Asked_roots) (defBody s_Asked_roots) (defScope s_Asked_roots) f ["self"] sp_Asked_roots := by
  have G0 : ∀ c spd, List.lookup c ([(0, sp_Forest_names)] : List (Nat × SpD)) = some spd -> MethB (clw K P w) P w K mg base 1 c "names" spd := (tb_cons ((core_Forest_names T T.f_Forest__names).meth (c := 0) T.k_Forest T.m_Forest__names hb_Forest_names (by decide)) tb_nil)
  have G1 : ∀ c spd, List.lookup c ([(0, sp_Forest_line_to)] : List (Nat × SpD)) = some spd -> MethB (clw K P w) P w K mg base 1 c "line_to" spd := (tb_cons ((core_Forest_line_to T T.f_Forest__line_to).meth (c := 0) T.k_Forest T.m_Forest__line_to hb_Forest_line_to (by decide)) tb_nil)
  refine fnC_of (k := 1) (t := t_Asked_roots) F sc_Asked_roots (fun cdv A outer s H E c => ?_) pure_Asked_roots
  exact (dss_one (ds_ret (d_lc (own := [("name", 1)]) c.calm sc_Asked_roots.nd (di_seq (d_meth0 c G0 (d_var 0))) (blkOk_by (own := [("name", 1)]) (N := N_Asked_roots) (sc := defScope s_Asked_roots) (by decide +kernel)) (fun _ _ _ _ _ => (dg_name 1 sc_Asked_roots.nd)) (fun _ _ _ _ _ => (dts_one (d_tcmp (op_eqA c.blk.hr.room.units) lop_eq (d_meth c.blk G1 (d_var 0) (da_cons (d_var 1) da_nil)) (d_lst da_nil) (nomark _)))) (fun _ _ _ _ _ => (d_var 1)))))
theorem core_Asked_children_of (T : Tx K mg base) {f : Addr} (F : ∃ fd, FunD K "children_of" "Asked.children_of" (defArgs s_Asked_children_of) (defBody s_Asked_children_of) (defScope s_Asked_children_of) [] [] f fd) : FnC (clw K P w) P w K mg base 4 "children_of" "Asked.children_of" (defArgs s_Asked_children_of) (defBody s_Asked_children_of) (defScope s_Asked_children_of) f ["self", "name"] sp_Asked_children_of := by
  have G0 : ∀ c spd, List.lookup c ([(0, sp_Forest_below)] : List (Nat × SpD)) = some spd -> MethB (clw K P w) P w K mg base 3 c "below" spd := (tb_cons ((core_Forest_below T T.f_Forest__below).meth (c := 0) T.k_Forest T.m_Forest__below hb_Forest_below (by decide)) tb_nil)
  have G1 : ∀ c spd, List.lookup c ([(0, sp_Forest_line_to)] : List (Nat × SpD)) = some spd -> MethB (clw K P w) P w K mg base 3 c "line_to" spd := (tb_cons ((core_Forest_line_to T T.f_Forest__line_to).meth (c := 0) T.k_Forest T.m_Forest__line_to hb_Forest_line_to (by decide)) tb_nil)
  have G2 : ∀ c spd, List.lookup c ([(0, sp_Asked_check_nodes)] : List (Nat × SpD)) = some spd -> MethB (clw K P w) P w K mg base 3 c "check_nodes" spd := (tb_cons ((core_Asked_check_nodes T T.f_Forest__check_nodes).meth (c := 0) T.k_Forest T.m_Forest__check_nodes hb_Asked_check_nodes (by decide)) tb_nil)
  refine fnC_of (k := 3) (t := t_Asked_children_of) F sc_Asked_children_of (fun cdv A outer s H E c => ?_) pure_Asked_children_of
  exact (dss_cons (ds_expr (d_meth c G2 (d_var 0) (da_cons (d_lst (da_cons (d_var 1) da_nil)) da_nil)))
      (dss_one (ds_ret (d_lc (own := [("other", 2)]) c.calm sc_Asked_children_of.nd (di_seq (d_meth c G0 (d_var 0) (da_cons (d_var 1) da_nil))) (blkOk_by (own := [("other", 2)]) (N := N_Asked_children_of) (sc := defScope s_Asked_children_of) (by decide +kernel)) (fun _ _ _ _ _ => (dg_name 2 sc_Asked_children_of.nd)) (fun _ _ _ _ _ => (dts_one (d_tcmp (op_eqA c.blk.hr.room.units) lop_eq (d_ixA (RoomG.u1 c.blk.hr) (d_meth c.blk G1 (d_var 0) (da_cons (d_var 2) da_nil)) (d_un un_neg lun_neg d_int)) (d_var 1) (nomark _)))) (fun _ _ _ _ _ => (d_var 2))))))
theorem core_Asked_rank_of (T : Tx K mg base) {f : Addr} (F : ∃ fd, FunD K "rank_of" "Asked.rank_of" (defArgs s_Asked_rank_of) (defBody s_Asked_rank_of) (defScope s_Asked_rank_of) [] [] f fd) : FnC (clw K P w) P w K mg base 5 "rank_of" "Asked.rank_of" (defArgs s_Asked_rank_of) (defBody s_Asked_rank_of) (defScope s_Asked_rank_of) f ["self", "name"] sp_Asked_rank_of := by
  have G0 : ∀ c spd, List.lookup c ([(0, sp_Asked_roots)] : List (Nat × SpD)) = some spd -> MethB (clw K P w) P w K mg base 4 c "roots" spd := (tb_cons ((core_Asked_roots T T.f_Forest__roots).meth (c := 0) T.k_Forest T.m_Forest__roots hb_Asked_roots (by decide)) tb_nil)
  have G1 : ∀ c spd, List.lookup c ([(0, sp_Asked_children_of)] : List (Nat × SpD)) = some spd -> MethB (clw K P w) P w K mg base 4 c "children_of" spd := (tb_cons ((core_Asked_children_of T T.f_Forest__children_of).meth (c := 0) T.k_Forest T.m_Forest__children_of hb_Asked_children_of (by decide)) tb_nil)
  have G2 : ∀ c spd, List.lookup c ([(0, sp_Asked_parent_of)] : List (Nat × SpD)) = some spd -> MethB (clw K P w) P w K mg base 4 c "parent_of" spd := (tb_cons ((core_Asked_parent_of T T.f_Forest__parent_of).meth (c := 0) T.k_Forest T.m_Forest__parent_of hb_Asked_parent_of (by decide)) tb_nil)
  refine fnC_of (k := 4) (t := t_Asked_rank_of) F sc_Asked_rank_of (fun cdv A outer s H E c => ?_) pure_Asked_rank_of
  exact (dss_cons (ds_set 2 sc_Asked_rank_of.nd (d_meth c G2 (d_var 0) (da_cons (d_var 1) da_nil)))
      (dss_cons (ds_set 3 sc_Asked_rank_of.nd (d_ifE (d_tcmp op_isN lop_isN (d_var 2) d_non (nomark _)) (d_meth0 c G0 (d_var 0)) (d_meth c G1 (d_var 0) (da_cons (d_var 2) da_nil))))
      (dss_one (ds_ret (d_bm PySem.F.plainAttrs_list PySem.F.slot_list_index PySem.F.type_list_index mt_index lm_index (d_var 3) (da_cons (d_var 1) da_nil))))))
theorem core_Asked_size_of (T : Tx K mg base) {f : Addr} (F : ∃ fd, FunD K "size_of" "Asked.size_of" (defArgs s_Asked_size_of) (defBody s_Asked_size_of) (defScope s_Asked_size_of) [] [] f fd) : FnC (clw K P w) P w K mg base 5 "size_of" "Asked.size_of" (defArgs s_Asked_size_of) (defBody s_Asked_size_of) (defScope s_Asked_size_of) f ["self", "name"] sp_Asked_size_of := by
  have G0 : ∀ c spd, List.lookup c ([(0, sp_Asked_descendants_of)] : List (Nat × SpD)) = some spd -> MethB (clw K P w) P w K mg base 4 c "descendants_of" spd := (tb_cons ((core_Asked_descendants_of T T.f_Forest__descendants_of).meth (c := 0) T.k_Forest T.m_Forest__descendants_of hb_Asked_descendants_of (by decide)) tb_nil)
  refine fnC_of (k := 4) (t := t_Asked_size_of) F sc_Asked_size_of (fun cdv A outer s H E c => ?_) pure_Asked_size_of
  exact (dss_one (ds_ret (d_op op_addAll lop_add d_int (d_callB call_len lc_len rfl T.b_len PySem.boot_len (da_cons (d_meth c G0 (d_var 0) (da_cons (d_var 1) da_nil)) da_nil)))))
theorem core_Asked_total_of (T : Tx K mg base) {f : Addr} (F : ∃ fd, FunD K "total_of" "Asked.total_of" (defArgs s_Asked_total_of) (defBody s_Asked_total_of) (defScope s_Asked_total_of) [] [] f fd) : FnC (clw K P w) P w K mg base 5 "total_of" "Asked.total_of" (defArgs s_Asked_total_of) (defBody s_Asked_total_of) (defScope s_Asked_total_of) f ["self", "name"] sp_Asked_total_of := by
  have G0 : ∀ c spd, List.lookup c ([(0, sp_Asked_descendants_of)] : List (Nat × SpD)) = some spd -> MethB (clw K P w) P w K mg base 4 c "descendants_of" spd := (tb_cons ((core_Asked_descendants_of T T.f_Forest__descendants_of).meth (c := 0) T.k_Forest T.m_Forest__descendants_of hb_Asked_descendants_of (by decide)) tb_nil)
  have G1 : ∀ c spd, List.lookup c ([(0, sp_Forest_worth)] : List (Nat × SpD)) = some spd -> MethB (clw K P w) P w K mg base 4 c "worth" spd := (tb_cons ((core_Forest_worth T T.f_Forest__worth).meth (c := 0) T.k_Forest T.m_Forest__worth hb_Forest_worth (by decide)) tb_nil)
  refine fnC_of (k := 4) (t := t_Asked_total_of) F sc_Asked_total_of (fun cdv A outer s H E c => ?_) pure_Asked_total_of
  exact (dss_one (ds_ret (d_callB (cr_sum c.calm) lc_sum rfl T.b_sum (by decide +kernel) (da_cons (d_lc (own := [("other", 2)]) c.calm sc_Asked_total_of.nd (di_seq (d_op op_addAll lop_add (d_lst (da_cons (d_var 1) da_nil)) (d_meth c G0 (d_var 0) (da_cons (d_var 1) da_nil)))) (blkOk_by (own := [("other", 2)]) (N := N_Asked_total_of) (sc := defScope s_Asked_total_of) (by decide +kernel)) (fun _ _ _ _ _ => (dg_name 2 sc_Asked_total_of.nd)) (fun _ _ _ _ _ => dts_nil) (fun _ _ _ _ _ => (d_meth c.blk G1 (d_var 0) (da_cons (d_var 2) da_nil)))) da_nil))))
theorem core_Asked_is_above (T : Tx K mg base) {f : Addr} (F : ∃ fd, FunD K "is_above" "Asked.is_above" (defArgs s_Asked_is_above) (defBody s_Asked_is_above) (defScope s_Asked_is_above) [] [] f fd) : FnC (clw K P w) P w K mg base 4 "is_above" "Asked.is_above" (defArgs s_Asked_is_above) (defBody s_Asked_is_above) (defScope s_Asked_is_above) f ["self", "one", "other"] sp_Asked_is_above := by
  have G0 : ∀ c spd, List.lookup c ([(0, sp_Forest_line_to)] : List (Nat × SpD)) = some spd -> MethB (clw K P w) P w K mg base 3 c "line_to" spd := (tb_cons ((core_Forest_line_to T T.f_Forest__line_to).meth (c := 0) T.k_Forest T.m_Forest__line_to hb_Forest_line_to (by decide)) tb_nil)
  have G1 : ∀ c spd, List.lookup c ([(0, sp_Asked_check_nodes)] : List (Nat × SpD)) = some spd -> MethB (clw K P w) P w K mg base 3 c "check_nodes" spd := (tb_cons ((core_Asked_check_nodes T T.f_Forest__check_nodes).meth (c := 0) T.k_Forest T.m_Forest__check_nodes hb_Asked_check_nodes (by decide)) tb_nil)
  refine fnC_of (k := 3) (t := t_Asked_is_above) F sc_Asked_is_above (fun cdv A outer s H E c => ?_) pure_Asked_is_above
  exact (dss_cons (ds_expr (d_meth c G1 (d_var 0) (da_cons (d_lst (da_cons (d_var 1) (da_cons (d_var 2) da_nil))) da_nil)))
      (dss_one (ds_ret (d_cmp (op_inA (RoomG.u1 c.hr)) lop_in (d_var 1) (d_meth c G0 (d_var 0) (da_cons (d_var 2) da_nil)) rfl))))
theorem core_Asked_meet_of (T : Tx K mg base) {f : Addr} (F : ∃ fd, FunD K "meet_of" "Asked.meet_of" (defArgs s_Asked_meet_of) (defBody s_Asked_meet_of) (defScope s_Asked_meet_of) [] [] f fd) : FnC (clw K P w) P w K mg base 4 "meet_of" "Asked.meet_of" (defArgs s_Asked_meet_of) (defBody s_Asked_meet_of) (defScope s_Asked_meet_of) f ["self", "one", "other"] sp_Asked_meet_of := by
  have G0 : ∀ c spd, List.lookup c ([(0, sp_Forest_line_to)] : List (Nat × SpD)) = some spd -> MethB (clw K P w) P w K mg base 3 c "line_to" spd := (tb_cons ((core_Forest_line_to T T.f_Forest__line_to).meth (c := 0) T.k_Forest T.m_Forest__line_to hb_Forest_line_to (by decide)) tb_nil)
  have G1 : ∀ c spd, List.lookup c ([(0, sp_Asked_check_nodes)] : List (Nat × SpD)) = some spd -> MethB (clw K P w) P w K mg base 3 c "check_nodes" spd := (tb_cons ((core_Asked_check_nodes T T.f_Forest__check_nodes).meth (c := 0) T.k_Forest T.m_Forest__check_nodes hb_Asked_check_nodes (by decide)) tb_nil)
  refine fnC_of (k := 3) (t := t_Asked_meet_of) F sc_Asked_meet_of (fun cdv A outer s H E c => ?_) pure_Asked_meet_of
  exact (dss_cons (ds_expr (d_meth c G1 (d_var 0) (da_cons (d_lst (da_cons (d_var 1) (da_cons (d_var 2) da_nil))) da_nil)))
      (dss_cons (ds_set 3 sc_Asked_meet_of.nd d_non)
      (dss_cons (ds_for c.po c.calm (di_zip rfl T.b_zip (d_op op_addAll lop_add (d_meth c G0 (d_var 0) (da_cons (d_var 1) da_nil)) (d_lst (da_cons (d_var 1) da_nil))) (d_op op_addAll lop_add (d_meth c G0 (d_var 0) (da_cons (d_var 2) da_nil)) (d_lst (da_cons (d_var 2) da_nil)))) (dg_tup c.calm (dgs_cons (dg_name 4 sc_Asked_meet_of.nd) (dgs_cons (dg_name 5 sc_Asked_meet_of.nd) dgs_nil))) (dss_cons (ds_if (d_tcmp (op_neA c.hr.room.units) lop_ne (d_var 4) (d_var 5) (nomark _)) (dss_one (ds_ret (d_var 3))) dss_nil)
      (dss_one (ds_set 3 sc_Asked_meet_of.nd (d_var 4)))))
      (dss_one (ds_ret (d_var 3))))))
theorem core_Asked_place_of (T : Tx K mg base) {f : Addr} (F : ∃ fd, FunD K "place_of" "Asked.place_of" (defArgs s_Asked_place_of) (defBody s_Asked_place_of) (defScope s_Asked_place_of) [] [] f fd) : FnC (clw K P w) P w K mg base 4 "place_of" "Asked.place_of" (defArgs s_Asked_place_of) (defBody s_Asked_place_of) (defScope s_Asked_place_of) f ["self", "name"] sp_Asked_place_of := by
  have G0 : ∀ c spd, List.lookup c ([(0, sp_Forest_names)] : List (Nat × SpD)) = some spd -> MethB (clw K P w) P w K mg base 3 c "names" spd := (tb_cons ((core_Forest_names T T.f_Forest__names).meth (c := 0) T.k_Forest T.m_Forest__names hb_Forest_names (by decide)) tb_nil)
  have G1 : ∀ c spd, List.lookup c ([(0, sp_Asked_check_nodes)] : List (Nat × SpD)) = some spd -> MethB (clw K P w) P w K mg base 3 c "check_nodes" spd := (tb_cons ((core_Asked_check_nodes T T.f_Forest__check_nodes).meth (c := 0) T.k_Forest T.m_Forest__check_nodes hb_Asked_check_nodes (by decide)) tb_nil)
  refine fnC_of (k := 3) (t := t_Asked_place_of) F sc_Asked_place_of (fun cdv A outer s H E c => ?_) pure_Asked_place_of
  exact (dss_cons (ds_expr (d_meth c G1 (d_var 0) (da_cons (d_lst (da_cons (d_var 1) da_nil)) da_nil)))
      (dss_one (ds_ret (d_bm PySem.F.plainAttrs_list PySem.F.slot_list_index PySem.F.type_list_index mt_index lm_index (d_meth0 c G0 (d_var 0)) (da_cons (d_var 1) da_nil)))))
theorem core_Asked_name_at (T : Tx K mg base) {f : Addr} (F : ∃ fd, FunD K "name_at" "Asked.name_at" (defArgs s_Asked_name_at) (defBody s_Asked_name_at) (defScope s_Asked_name_at) [] [] f fd) : FnC (clw K P w) P w K mg base 3 "name_at" "Asked.name_at" (defArgs s_Asked_name_at) (defBody s_Asked_name_at) (defScope s_Asked_name_at) f ["self", "place"] sp_Asked_name_at := by
  have G0 : ∀ c spd, List.lookup c ([(0, sp_Forest_names)] : List (Nat × SpD)) = some spd -> MethB (clw K P w) P w K mg base 2 c "names" spd := (tb_cons ((core_Forest_names T T.f_Forest__names).meth (c := 0) T.k_Forest T.m_Forest__names hb_Forest_names (by decide)) tb_nil)
  have G1 : FnB (clw K P w) P w K mg base 1 "is_integer" ["thing"] sp_is_integer := (core_is_integer T T.f_is_integer).fn T.g_is_integer hb_is_integer
  refine fnC_of (k := 2) (t := t_Asked_name_at) F sc_Asked_name_at (fun cdv A outer s H E c => ?_) pure_Asked_name_at
  exact (dss_cons (ds_if (DW.dt (dw_or (d_tnot (d_val (d_fn c G1 (by decide) rfl (da_cons (d_var 1) da_nil)))) (dw_or1 (d_tnot (d_tchain op_le op_lt (lop_cmp _) (lop_cmp _) d_int (d_var 1) (d_callB call_len lc_len rfl T.b_len PySem.boot_len (da_cons (d_meth0 c G0 (d_var 0)) da_nil))))))) (dss_one (ds_raise c (by decide) (x_NoPlace T) (by decide) rfl (da_cons (d_var 1) da_nil))) dss_nil)
      (dss_one (ds_ret (d_ixA (RoomG.u1 c.hr) (d_meth0 c G0 (d_var 0)) (d_var 1)))))
theorem core__law_said (T : Tx K mg base) {f : Addr} (F : ∃ fd, FunD K "_law_said" "_law_said" (defArgs s__law_said) (defBody s__law_said) (defScope s__law_said) [] [] f fd) : FnTC (clw K P w) P w K mg base 6 "_law_said" "_law_said" (defArgs s__law_said) (defBody s__law_said) (defScope s__law_said) f "_law_act" sp__law_said := by
  obtain ⟨fd, F⟩ := F
  refine ⟨fd, F, fn_dT (t := t__law_said) F sc__law_said rfl (Or.inl rfl) (fun cdv A outer s H E d0 TH c act => ?_) pure__law_said⟩
  exact (dss_cons (ds_try c T.mt rfl rfl (fun _ _ _ c1 => (dss_one (ds_expr (act _ _ _ _ _ c1)))) (.as (i := 1) (k := 22) sc__law_said.nd rfl rfl ⟨rfl, by decide, .inl T.g_NoNode⟩ (fun x a oe cls d pn hx hz hf => (dss_cons (ds_if (DW.dt (dw_or (d_val (d_isx T.isx T.excs hx hz hf rfl T.b_isinstance (da_cons (d_var 1) (da_cons (d_clsN (c := 23) rfl T.g_NoPlace) da_nil)))) (dw_or (d_val (d_isx T.isx T.excs hx hz hf rfl T.b_isinstance (da_cons (d_var 1) (da_cons (d_clsN (c := 18) rfl T.g_NoName) da_nil)))) (dw_or1 (d_tnot (d_val (d_isxT T.ut_ValueError hx hz hf rfl T.b_isinstance (da_cons (d_var 1) (da_cons (d_ty rfl T.b_ValueError (by decide +kernel)) da_nil))))))))) (dss_one (ds_ret (d_tup (da_cons d_str (da_cons d_non da_nil))))) dss_nil)
      (dss_one (ds_ret (d_tup (da_cons d_str (da_cons (d_xf T.xf_name hx hz hf (d_var 1)) da_nil))))))) (.as (i := 1) (k := 23) sc__law_said.nd rfl rfl ⟨rfl, by decide, .inl T.g_NoPlace⟩ (fun x a oe cls d pn hx hz hf => (dss_one (ds_ret (d_ifE (DW.dt (dw_and (d_val (d_isx T.isx T.excs hx hz hf rfl T.b_isinstance (da_cons (d_var 1) (da_cons (d_clsN (c := 17) rfl T.g_ForestError) da_nil)))) (dw_and1 (d_tnot (d_val (d_isx T.isx T.excs hx hz hf rfl T.b_isinstance (da_cons (d_var 1) (da_cons (d_clsN (c := 22) rfl T.g_NoNode) da_nil)))))))) (d_tup (da_cons d_str (da_cons (d_xf T.xf_place hx hz hf (d_var 1)) da_nil))) (d_tup (da_cons d_str (da_cons d_non da_nil))))))) (.only (k := 17) ⟨rfl, by decide, .inl T.g_ForestError⟩ (fun x a oe cls d pn hx hz hf => (dss_one (ds_ret (d_tup (da_cons d_str (da_cons d_non da_nil)))))) .nil))))
      (dss_one (ds_ret (d_tup (da_cons d_str (da_cons d_non da_nil))))))
theorem lamsOk (T : Tx K mg base) : LamsOk (clw K P w) P w K mg base 5 lamT := by
  have G0 : ∀ c spd, List.lookup c ([(0, sp_Asked_place_of)] : List (Nat × SpD)) = some spd -> MethB (clw K P w) P w K mg base 5 c "place_of" spd := (tb_cons ((core_Asked_place_of T T.f_Forest__place_of).meth (c := 0) T.k_Forest T.m_Forest__place_of hb_Asked_place_of (by decide)) tb_nil)
  have G1 : ∀ c spd, List.lookup c ([(0, sp_Asked_total_of)] : List (Nat × SpD)) = some spd -> MethBK (clw K P w) P w K mg base 5 c "total_of" 1 ["name"] [0, 1] spd := (tb_cons ((core_Asked_total_of T T.f_Forest__total_of).methK (c := 0) T.k_Forest T.m_Forest__total_of (fun _ _ _ _ _ _ us ws hu hw => match us, ws, hu, hw with | [_], [_], _, _ => rfl) (by decide)) tb_nil)
  have G2 : ∀ c spd, List.lookup c ([(0, sp_Asked_value_of)] : List (Nat × SpD)) = some spd -> MethB (clw K P w) P w K mg base 5 c "value_of" spd := (tb_cons ((core_Asked_value_of T T.f_Forest__value_of).meth (c := 0) T.k_Forest T.m_Forest__value_of hb_Asked_value_of (by decide)) tb_nil)
  have G3 : ∀ c spd, List.lookup c ([(0, sp_Asked_size_of)] : List (Nat × SpD)) = some spd -> MethB (clw K P w) P w K mg base 5 c "size_of" spd := (tb_cons ((core_Asked_size_of T T.f_Forest__size_of).meth (c := 0) T.k_Forest T.m_Forest__size_of hb_Asked_size_of (by decide)) tb_nil)
  have G4 : ∀ c spd, List.lookup c ([(0, sp_Asked_level_of)] : List (Nat × SpD)) = some spd -> MethB (clw K P w) P w K mg base 5 c "level_of" spd := (tb_cons ((core_Asked_level_of T T.f_Forest__level_of).meth (c := 0) T.k_Forest T.m_Forest__level_of hb_Asked_level_of (by decide)) tb_nil)
  have G5 : ∀ c spd, List.lookup c ([(0, sp_Asked_descendants_of)] : List (Nat × SpD)) = some spd -> MethB (clw K P w) P w K mg base 5 c "descendants_of" spd := (tb_cons ((core_Asked_descendants_of T T.f_Forest__descendants_of).meth (c := 0) T.k_Forest T.m_Forest__descendants_of hb_Asked_descendants_of (by decide)) tb_nil)
  have G6 : ∀ c spd, List.lookup c ([(0, sp_Asked_ancestors_of)] : List (Nat × SpD)) = some spd -> MethB (clw K P w) P w K mg base 5 c "ancestors_of" spd := (tb_cons ((core_Asked_ancestors_of T T.f_Forest__ancestors_of).meth (c := 0) T.k_Forest T.m_Forest__ancestors_of hb_Asked_ancestors_of (by decide)) tb_nil)
  have G7 : ∀ c spd, List.lookup c ([(0, sp_Asked_rank_of)] : List (Nat × SpD)) = some spd -> MethB (clw K P w) P w K mg base 5 c "rank_of" spd := (tb_cons ((core_Asked_rank_of T T.f_Forest__rank_of).meth (c := 0) T.k_Forest T.m_Forest__rank_of hb_Asked_rank_of (by decide)) tb_nil)
  have G8 : ∀ c spd, List.lookup c ([(0, sp_Asked_children_of)] : List (Nat × SpD)) = some spd -> MethB (clw K P w) P w K mg base 5 c "children_of" spd := (tb_cons ((core_Asked_children_of T T.f_Forest__children_of).meth (c := 0) T.k_Forest T.m_Forest__children_of hb_Asked_children_of (by decide)) tb_nil)
  have G9 : ∀ c spd, List.lookup c ([(0, sp_Asked_parent_of)] : List (Nat × SpD)) = some spd -> MethB (clw K P w) P w K mg base 5 c "parent_of" spd := (tb_cons ((core_Asked_parent_of T T.f_Forest__parent_of).meth (c := 0) T.k_Forest T.m_Forest__parent_of hb_Asked_parent_of (by decide)) tb_nil)
  have G10 : ∀ c spd, List.lookup c ([(0, sp_Asked_meet_of)] : List (Nat × SpD)) = some spd -> MethBK (clw K P w) P w K mg base 5 c "meet_of" 1 ["other", "one"] [0, 2, 1] spd := (tb_cons ((core_Asked_meet_of T T.f_Forest__meet_of).methK (c := 0) T.k_Forest T.m_Forest__meet_of (fun _ _ _ _ _ _ us ws hu hw => match us, ws, hu, hw with | [_], [_, _], _, _ => rfl) (by decide)) tb_nil)
  have G11 : ∀ c spd, List.lookup c ([(0, sp_Asked_is_above)] : List (Nat × SpD)) = some spd -> MethB (clw K P w) P w K mg base 5 c "is_above" spd := (tb_cons ((core_Asked_is_above T T.f_Forest__is_above).meth (c := 0) T.k_Forest T.m_Forest__is_above hb_Asked_is_above (by decide)) tb_nil)
  have G12 : ∀ c spd, List.lookup c ([(0, sp_Asked_meet_of)] : List (Nat × SpD)) = some spd -> MethB (clw K P w) P w K mg base 5 c "meet_of" spd := (tb_cons ((core_Asked_meet_of T T.f_Forest__meet_of).meth (c := 0) T.k_Forest T.m_Forest__meet_of hb_Asked_meet_of (by decide)) tb_nil)
  intro j L h
  match j, h with
  | 0, h =>
    obtain rfl := Option.some.inj h
    exact ⟨_, rfl, rfl, lamS3_by (by decide +kernel), (.inl ⟨rfl, fun _ _ _ _ _ => rfl⟩), fun A outer s H E C f c' cL => (d_meth cL G0 (d_var 0) (da_cons (d_var 1) da_nil))⟩
  | 1, h =>
    obtain rfl := Option.some.inj h
    exact ⟨_, rfl, rfl, lamS3_by (by decide +kernel), (.inr ⟨by decide, ["_law_of"], rfl, by decide +kernel, fun _ _ _ _ _ _ => ⟨_, rfl, fun us h => match us, h with | [_], _ => rfl⟩⟩), fun A outer s H E C f c' cL => (d_methK0 cL G1 (d_var 0) (dk_cons (d_var 1) dk_nil))⟩
  | 2, h =>
    obtain rfl := Option.some.inj h
    exact ⟨_, rfl, rfl, lamS3_by (by decide +kernel), (.inl ⟨rfl, fun _ _ _ _ _ => rfl⟩), fun A outer s H E C f c' cL => (d_meth cL G2 (d_var 0) (da_cons (d_var 1) da_nil))⟩
  | 3, h =>
    obtain rfl := Option.some.inj h
    exact ⟨_, rfl, rfl, lamS3_by (by decide +kernel), (.inr ⟨by decide, ["_law_of"], rfl, by decide +kernel, fun _ _ _ _ _ _ => ⟨_, rfl, fun us h => match us, h with | [_], _ => rfl⟩⟩), fun A outer s H E C f c' cL => (d_meth cL G3 (d_var 0) (da_cons (d_var 1) da_nil))⟩
  | 4, h =>
    obtain rfl := Option.some.inj h
    exact ⟨_, rfl, rfl, lamS3_by (by decide +kernel), (.inl ⟨rfl, fun _ _ _ _ _ => rfl⟩), fun A outer s H E C f c' cL => (d_meth cL G4 (d_var 0) (da_cons (d_var 1) da_nil))⟩
  | 5, h =>
    obtain rfl := Option.some.inj h
    exact ⟨_, rfl, rfl, lamS3_by (by decide +kernel), (.inr ⟨by decide, ["_law_of"], rfl, by decide +kernel, fun _ _ _ _ _ _ => ⟨_, rfl, fun us h => match us, h with | [_], _ => rfl⟩⟩), fun A outer s H E C f c' cL => (d_meth cL G5 (d_var 0) (da_cons (d_var 1) da_nil))⟩
  | 6, h =>
    obtain rfl := Option.some.inj h
    exact ⟨_, rfl, rfl, lamS3_by (by decide +kernel), (.inl ⟨rfl, fun _ _ _ _ _ => rfl⟩), fun A outer s H E C f c' cL => (d_meth cL G6 (d_var 0) (da_cons (d_var 1) da_nil))⟩
  | 7, h =>
    obtain rfl := Option.some.inj h
    exact ⟨_, rfl, rfl, lamS3_by (by decide +kernel), (.inl ⟨rfl, fun _ _ _ _ _ => rfl⟩), fun A outer s H E C f c' cL => (d_meth cL G7 (d_var 0) (da_cons (d_var 1) da_nil))⟩
  | 8, h =>
    obtain rfl := Option.some.inj h
    exact ⟨_, rfl, rfl, lamS3_by (by decide +kernel), (.inr ⟨by decide, ["_law_of"], rfl, by decide +kernel, fun _ _ _ _ _ _ => ⟨_, rfl, fun us h => match us, h with | [_], _ => rfl⟩⟩), fun A outer s H E C f c' cL => (d_meth cL G8 (d_var 0) (da_cons (d_var 1) da_nil))⟩
  | 9, h =>
    obtain rfl := Option.some.inj h
    exact ⟨_, rfl, rfl, lamS3_by (by decide +kernel), (.inl ⟨rfl, fun _ _ _ _ _ => rfl⟩), fun A outer s H E C f c' cL => (d_meth cL G9 (d_var 0) (da_cons (d_var 1) da_nil))⟩
  | 10, h =>
    obtain rfl := Option.some.inj h
    exact ⟨_, rfl, rfl, lamS3_by (by decide +kernel), (.inr ⟨by decide, ["_law_of"], rfl, by decide +kernel, fun _ _ _ _ _ _ => ⟨_, rfl, fun us h => match us, h with | [_], _ => rfl⟩⟩), fun A outer s H E C f c' cL => (d_methK0 cL G10 (d_var 4) (dk_cons (d_var 7) (dk_cons (d_var 9) dk_nil)))⟩
  | 11, h =>
    obtain rfl := Option.some.inj h
    exact ⟨_, rfl, rfl, lamS3_by (by decide +kernel), (.inl ⟨rfl, fun _ _ _ _ _ => rfl⟩), fun A outer s H E C f c' cL => (d_meth cL G11 (d_var 4) (da_cons (d_var 9) (da_cons (d_var 7) da_nil)))⟩
  | 12, h =>
    obtain rfl := Option.some.inj h
    exact ⟨_, rfl, rfl, lamS3_by (by decide +kernel), (.inr ⟨by decide, ["_law_of"], rfl, by decide +kernel, fun _ _ _ _ _ _ => ⟨_, rfl, fun us h => match us, h with | [_], _ => rfl⟩⟩), fun A outer s H E C f c' cL => (d_meth cL G12 (d_var 4) (da_cons (d_var 7) (da_cons (d_var 8) da_nil)))⟩
  | 13, h =>
    obtain rfl := Option.some.inj h
    exact ⟨_, rfl, rfl, lamS3_by (by decide +kernel), (.inl ⟨rfl, fun _ _ _ _ _ => rfl⟩), fun A outer s H E C f c' cL => (d_meth cL G11 (d_var 4) (da_cons (d_var 7) (da_cons (d_var 8) da_nil)))⟩
  | n + 14, h => cases h
theorem core__law_asks (T : Tx K mg base) (F : ∃ fd, FunD K "_law_asks" "_law_asks" (defArgs s__law_asks) (defBody s__law_asks) (defScope s__law_asks) [] [] (He.fAd K ("_law_asks", none)) fd) : FnC (clw K P w) P w K mg base 4 "_law_asks" "_law_asks" (defArgs s__law_asks) (defBody s__law_asks) (defScope s__law_asks) (He.fAd K ("_law_asks", none)) ["_law_forest", "_law_name_so"] sp__law_asks := by
  obtain ⟨h_law, tk_law⟩ := T.tk_law
  obtain ⟨h__law_asks, tk__law_asks⟩ := T.tk__law_asks
  have tb := T.tb__law_asks
  have tc := tabs_cl tk_law.nz tk__law_asks.nz
  refine fnC_ofTX (k := 3) (t := t__law_asks) (cap := [0, 1]) tk__law_asks F sc__law_asks (cap_by (by decide +kernel)) (by decide) sc__law_asks.nd (fun A outer s H E c => ?_) pure__law_asks
  have hql : ((cxOf (L2.CX P w) P w K mg base N__law_asks "_law_asks" (defScope s__law_asks) (He.fAd K ("_law_asks", none)) (.ref (codeF K (He.fAd K ("_law_asks", none)))) A outer s H E).env.qual ++ "<lambda>" : Str) = "_law_asks.<locals>.<lambda>" := show ("_law_asks" ++ ".<locals>." ++ "<lambda>" : Str) = "_law_asks.<locals>.<lambda>" by decide +kernel
  have hmT : (tabD K ("_law_asks", none), ((cxOf (L2.CX P w) P w K mg base N__law_asks "_law_asks" (defScope s__law_asks) (He.fAd K ("_law_asks", none)) (.ref (codeF K (He.fAd K ("_law_asks", none)))) A outer s H E).env.qual ++ "<lambda>" : Str)) ∈ tabsOf (cl K) := by
    rw [tc]; exact (List.mem_cons_of_mem _ (List.mem_cons.mpr (.inl (Prod.ext rfl (show ("_law_asks" ++ ".<locals>." ++ "<lambda>" : Str) = "_law_asks.<locals>.<lambda>" by decide +kernel)))))
  have hu : ∀ p ∈ tabsOf (cl K), p.1 = tabD K ("_law_asks", none) -> p.2 = ((cxOf (L2.CX P w) P w K mg base N__law_asks "_law_asks" (defScope s__law_asks) (He.fAd K ("_law_asks", none)) (.ref (codeF K (He.fAd K ("_law_asks", none)))) A outer s H E).env.qual ++ "<lambda>" : Str) := fun p hp e => by
    rw [tc] at hp
    rcases List.mem_cons.mp hp with rfl | hp
    · exact absurd e T.td_law___law_asks
    rcases List.mem_cons.mp hp with rfl | hp
    · exact (show ("_law_asks.<locals>.<lambda>" : Str) = "_law_asks" ++ ".<locals>." ++ "<lambda>" by decide +kernel)
    cases hp
  exact (dsx_cons (ds_set 2 sc__law_asks.nd (d_lst (da_cons (d_lamV tb rfl hmT hu (by rw [hql]; rfl) (free_by (show freeB (defScope s__law_asks) _ = true by decide +kernel)) [] rfl (by decide) rfl) (da_cons (d_lamV tb rfl hmT hu (by rw [hql]; rfl) (free_by (show freeB (defScope s__law_asks) _ = true by decide +kernel)) [(0, _, _)] rfl (by decide) rfl) da_nil))))
      (dsx_cons (ds_set 2 sc__law_asks.nd (d_op op_addAll lop_add (d_var 2) (d_lst (da_cons (d_lamV tb rfl hmT hu (by rw [hql]; rfl) (free_by (show freeB (defScope s__law_asks) _ = true by decide +kernel)) [] rfl (by decide) rfl) da_nil))))
      (dsx_cons (ds_set 2 sc__law_asks.nd (d_op op_addAll lop_add (d_var 2) (d_lst (da_cons (d_lamV tb rfl hmT hu (by rw [hql]; rfl) (free_by (show freeB (defScope s__law_asks) _ = true by decide +kernel)) [] rfl (by decide) rfl) (da_cons (d_lamV tb rfl hmT hu (by rw [hql]; rfl) (free_by (show freeB (defScope s__law_asks) _ = true by decide +kernel)) [(0, _, _)] rfl (by decide) rfl) da_nil)))))
      (dsx_cons (ds_set 2 sc__law_asks.nd (d_op op_addAll lop_add (d_var 2) (d_lst (da_cons (d_lamV tb rfl hmT hu (by rw [hql]; rfl) (free_by (show freeB (defScope s__law_asks) _ = true by decide +kernel)) [] rfl (by decide) rfl) (da_cons (d_lamV tb rfl hmT hu (by rw [hql]; rfl) (free_by (show freeB (defScope s__law_asks) _ = true by decide +kernel)) [(0, _, _)] rfl (by decide) rfl) da_nil)))))
      (dsx_cons (ds_set 2 sc__law_asks.nd (d_op op_addAll lop_add (d_var 2) (d_lst (da_cons (d_lamV tb rfl hmT hu (by rw [hql]; rfl) (free_by (show freeB (defScope s__law_asks) _ = true by decide +kernel)) [] rfl (by decide) rfl) (da_cons (d_lamV tb rfl hmT hu (by rw [hql]; rfl) (free_by (show freeB (defScope s__law_asks) _ = true by decide +kernel)) [(0, _, _)] rfl (by decide) rfl) da_nil)))))
      (dsx_ret (d_op op_addAll lop_add (d_var 2) (d_lst (da_cons (d_lamV tb rfl hmT hu (by rw [hql]; rfl) (free_by (show freeB (defScope s__law_asks) _ = true by decide +kernel)) [] rfl (by decide) rfl) da_nil)))))))))
theorem core__law_no_names (T : Tx K mg base) {f : Addr} (F : ∃ fd, FunD K "_law_no_names" "_law_no_names" (defArgs s__law_no_names) (defBody s__law_no_names) (defScope s__law_no_names) [] [] f fd) : FnC (clw K P w) P w K mg base 3 "_law_no_names" "_law_no_names" (defArgs s__law_no_names) (defBody s__law_no_names) (defScope s__law_no_names) f ["_law_well_here", "_law_names_here"] sp__law_no_names := by
  have G0 : FnB (clw K P w) P w K mg base 2 "_law_one" ["_law_well_here", "_law_some"] sp__law_one := (core__law_one T T.f__law_one).fn T.g__law_one hb__law_one
  refine fnC_of (k := 2) (t := t__law_no_names) F sc__law_no_names (fun cdv A outer s H E c => ?_) pure__law_no_names
  exact (dss_cons (ds_set 2 sc__law_no_names.nd (d_lst (da_cons d_non (da_cons d_bl (da_cons d_int (da_cons d_int (da_cons d_str (da_cons d_str (da_cons d_str (da_cons (d_lst da_nil) (da_cons (d_lst (da_cons d_str da_nil)) (da_cons (d_tup da_nil) (da_cons (d_tup (da_cons d_str (da_cons d_int da_nil))) (da_cons d_dict0 (da_cons d_str da_nil)))))))))))))))
      (dss_cons (ds_if (d_tcmp (op_neA c.hr.room.units) lop_ne (d_var 1) (d_lst da_nil) (nomark _)) (dss_cons (ds_set 3 sc__law_no_names.nd (d_fn c G0 (by decide) rfl (da_cons (d_var 0) (da_cons (d_var 1) da_nil))))
      (dss_cons (ds_set 2 sc__law_no_names.nd (d_op op_addAll lop_add (d_var 2) (d_lst (da_cons (d_lst (da_cons (d_var 3) da_nil)) (da_cons (d_tup (da_cons (d_var 3) da_nil)) (da_cons (d_bm0 PySem.F.plainAttrs_str PySem.F.slot_str_upper PySem.F.type_str_upper mt_upperS lm_upper (d_var 3)) (da_cons (d_op op_addAll lop_add (d_var 3) d_str) (da_cons (d_op op_addAll lop_add (d_var 3) d_str) (da_cons (d_op op_addAll lop_add d_str (d_var 3)) da_nil)))))))))
      (dss_one (ds_set 2 sc__law_no_names.nd (d_op op_addAll lop_add (d_var 2) (d_lc (own := [("_law_one_so", 4)]) c.calm sc__law_no_names.nd (di_seq (d_lst (da_cons (d_slice (d_var 3) do_none (do_some (d_un un_neg lun_neg d_int))) (da_cons (d_op op_addAll lop_add (d_var 3) d_str) (da_cons (d_slice (d_var 3) (do_some d_int) do_none) da_nil))))) (blkOk_by (own := [("_law_one_so", 4)]) (N := N__law_no_names) (sc := defScope s__law_no_names) (by decide +kernel)) (fun _ _ _ _ _ => (dg_name 4 sc__law_no_names.nd)) (fun _ _ _ _ _ => (dts_one (d_tcmp (op_ninA (RoomG.u1 c.blk.hr)) lop_nin (d_var 4) (d_var 1) rfl))) (fun _ _ _ _ _ => (d_var 4)))))))) dss_nil)
      (dss_one (ds_ret (d_var 2)))))
theorem core_law (T : Tx K mg base) (F : ∃ fd, FunD K "law" "law" (defArgs s_law) (defBody s_law) (defScope s_law) [] [] (He.fAd K ("law", none)) fd) : FnC (clw K P w) P w K mg base 8 "law" "law" (defArgs s_law) (defBody s_law) (defScope s_law) (He.fAd K ("law", none)) ["_law_script"] sp_law := by
  have G0 : ∀ c spd, List.lookup c ([(0, sp_Asked_name_at)] : List (Nat × SpD)) = some spd -> MethB (clw K P w) P w K mg base 7 c "name_at" spd := (tb_cons ((core_Asked_name_at T T.f_Forest__name_at).meth (c := 0) T.k_Forest T.m_Forest__name_at hb_Asked_name_at (by decide)) tb_nil)
  have G1 : FnTB (clw K P w) P w K mg base 6 "_law_said" "_law_act" sp__law_said := (core__law_said T T.f__law_said).thk T.g__law_said hb__law_said
  have G2 : ∀ c spd, List.lookup c ([(0, sp_Asked_name_at)] : List (Nat × SpD)) = some spd -> MethB (clw K P w) P w K mg base 5 c "name_at" spd := (tb_cons ((core_Asked_name_at T T.f_Forest__name_at).meth (c := 0) T.k_Forest T.m_Forest__name_at hb_Asked_name_at (by decide)) tb_nil)
  have G3 : FnB (clw K P w) P w K mg base 2 "_law_one" ["_law_well_here", "_law_some"] sp__law_one := (core__law_one T T.f__law_one).fn T.g__law_one hb__law_one
  have G4 : FnB (clw K P w) P w K mg base 1 "_law_draw" ["_law_well_here", "_law_many"] sp__law_draw := (core__law_draw T T.f__law_draw).fn T.g__law_draw hb__law_draw
  have G5 : FnB (clw K P w) P w K mg base 4 "_law_asks" ["_law_forest", "_law_name_so"] sp__law_asks := (core__law_asks T T.f__law_asks).fn T.g__law_asks hb__law_asks
  have G6 : FnB (clw K P w) P w K mg base 3 "_law_no_names" ["_law_well_here", "_law_names_here"] sp__law_no_names := (core__law_no_names T T.f__law_no_names).fn T.g__law_no_names hb__law_no_names
  have G7 : MkB (clw K P w) P w K mg base 4 "Forest" 0 ["self", "rows"] sp_Forest___init__ := (core_Forest___init__ T T.f_Forest____init__).mk (c := 0) T.g_Forest T.mk_Forest hb_Forest___init__
  have G8 : FnB (clw K P w) P w K mg base 4 "_law_rows" ["_law_well_here", "_law_most"] sp__law_rows := (core__law_rows T T.f__law_rows).fn T.g__law_rows hb__law_rows
  have G9 : FnB (clw K P w) P w K mg base 1 "_law_well" ["_law_cell"] sp__law_well := (core__law_well T T.f__law_well).fn T.g__law_well hb__law_well
  obtain ⟨h_law, tk_law⟩ := T.tk_law
  obtain ⟨h__law_asks, tk__law_asks⟩ := T.tk__law_asks
  have tb := T.tb_law
  have tc := tabs_cl tk_law.nz tk__law_asks.nz
  refine fnC_ofT (k := 7) (t := t_law) tk_law F sc_law (fun A outer s H E c => ?_) pure_law
  have hql : ((cxOf (L2.CX P w) P w K mg base N_law "law" (defScope s_law) (He.fAd K ("law", none)) (.ref (codeF K (He.fAd K ("law", none)))) A outer s H E).env.qual ++ "<lambda>" : Str) = "law.<locals>.<lambda>" := show ("law" ++ ".<locals>." ++ "<lambda>" : Str) = "law.<locals>.<lambda>" by decide +kernel
  have hmT : (tabD K ("law", none), ((cxOf (L2.CX P w) P w K mg base N_law "law" (defScope s_law) (He.fAd K ("law", none)) (.ref (codeF K (He.fAd K ("law", none)))) A outer s H E).env.qual ++ "<lambda>" : Str)) ∈ tabsOf (cl K) := by
    rw [tc]; exact (List.mem_cons.mpr (.inl (Prod.ext rfl (show ("law" ++ ".<locals>." ++ "<lambda>" : Str) = "law.<locals>.<lambda>" by decide +kernel))))
  have hu : ∀ p ∈ tabsOf (cl K), p.1 = tabD K ("law", none) -> p.2 = ((cxOf (L2.CX P w) P w K mg base N_law "law" (defScope s_law) (He.fAd K ("law", none)) (.ref (codeF K (He.fAd K ("law", none)))) A outer s H E).env.qual ++ "<lambda>" : Str) := fun p hp e => by
    rw [tc] at hp
    rcases List.mem_cons.mp hp with rfl | hp
    · exact (show ("law.<locals>.<lambda>" : Str) = "law" ++ ".<locals>." ++ "<lambda>" by decide +kernel)
    rcases List.mem_cons.mp hp with rfl | hp
    · exact absurd e T.td__law_asks__law
    cases hp
  exact dss_allC (t := tc_law) (dss_cons (ds_for c.po c.calm (di_seq (d_slice (d_op op_addAll lop_add (d_var 0) (d_lst (da_cons d_int da_nil))) do_none (do_some d_int))) (dg_name 1 sc_law.nd) (dss_cons (ds_set 2 sc_law.nd (d_fn c G9 (by decide) rfl (da_cons (d_var 1) da_nil)))
      (dss_cons (ds_set 3 sc_law.nd (d_fn c G8 (by decide) rfl (da_cons (d_var 2) (da_cons (d_fn c G3 (by decide) rfl (da_cons (d_var 2) (da_cons (d_lst (da_cons d_int (da_cons d_int (da_cons d_int da_nil)))) da_nil))) da_nil))))
      (dss_cons (ds_asg (d_tup (da_cons (d_make c G7 (by decide) rfl (da_cons (d_var 3) da_nil)) (da_cons (d_lc (own := [("_law_row", 15)]) c.calm sc_law.nd (di_seq (d_var 3)) (blkOk_by (own := [("_law_row", 15)]) (N := N_law) (sc := defScope s_law) (by decide +kernel)) (fun _ _ _ _ _ => (dg_name 15 sc_law.nd)) (fun _ _ _ _ _ => dts_nil) (fun _ _ _ _ _ => (d_ixA (RoomG.u1 c.blk.hr) (d_var 15) d_int))) da_nil))) (dg_tup c.calm (dgs_cons (dg_name 4 sc_law.nd) (dgs_cons (dg_name 5 sc_law.nd) dgs_nil))))
      (dss_cons (ds_for c.po c.calm (di_range1 rfl T.b_range d_int) (dg_name 6 sc_law.nd) (dss_cons (ds_set 7 sc_law.nd (d_fn c G3 (by decide) rfl (da_cons (d_var 2) (da_cons (d_fn c G6 (by decide) rfl (da_cons (d_var 2) (da_cons (d_var 5) da_nil))) da_nil))))
      (dss_cons (ds_set 8 sc_law.nd (d_fn c G3 (by decide) rfl (da_cons (d_var 2) (da_cons (d_fn c G6 (by decide) rfl (da_cons (d_var 2) (da_cons (d_var 5) da_nil))) da_nil))))
      (dss_cons (ds_if (d_tcmpG (bin_neX c.hr.room.units) (d_lc (own := [("_law_act", 16)]) c.calm sc_law.nd (di_seq (d_fn c G5 (by decide) rfl (da_cons (d_var 4) (da_cons (d_var 7) da_nil)))) (blkOk_by (own := [("_law_act", 16)]) (N := N_law) (sc := defScope s_law) (by decide +kernel)) (fun _ _ _ _ _ => (dg_name 16 sc_law.nd)) (fun _ _ _ _ _ => dts_nil) (fun _ _ _ _ _ => (d_saidV (c.blk.mono (by decide)) G1 (lamsOk T) rfl (d_var 16)))) (d_bin bin_repD (d_lstM (da_cons (d_tup (da_cons d_str (da_cons (d_var 7) da_nil))) da_nil)) d_int) (nomark _)) (dss_one (ds_ret d_bl)) dss_nil)
      (dss_cons (ds_set 9 sc_law.nd (d_ifE (d_tcmp (op_neA c.hr.room.units) lop_ne (d_var 5) (d_lst da_nil) (nomark _)) (d_fn c G3 (by decide) rfl (da_cons (d_var 2) (da_cons (d_var 5) da_nil))) (d_var 7)))
      (dss_cons (ds_set 10 sc_law.nd (d_lst (da_cons (d_lamV tb rfl hmT hu (by rw [hql]; rfl) (free_by (show freeB (defScope s_law) _ = true by decide +kernel)) [] rfl (by decide) rfl) (da_cons (d_lamV tb rfl hmT hu (by rw [hql]; rfl) (free_by (show freeB (defScope s_law) _ = true by decide +kernel)) [(0, _, _)] rfl (by decide) rfl) da_nil))))
      (dss_cons (ds_if (d_tcmpG (bin_neX c.hr.room.units) (d_lcS (own := [("_law_act", 16)]) (cap := [4, 7, 8]) (c.mono (by decide)) G1 (lamsOk T) (fun _ => rfl) sc_law.nd (by decide) (cap_by (show capB N_law (defScope s_law) _ = true by decide +kernel)) (by decide) (di_seq (d_var 10)) (blkOk_by (own := [("_law_act", 16)]) (N := N_law) (sc := defScope s_law) (by decide +kernel)) (fun _ _ _ _ _ => (dg_name 16 sc_law.nd)) (fun _ _ _ _ _ => rfl) (fun _ _ _ _ _ => (d_var 16))) (d_bin bin_repD (d_lstM (da_cons (d_tup (da_cons d_str (da_cons (d_var 7) da_nil))) da_nil)) d_int) (nomark _)) (dss_one (ds_ret d_bl)) dss_nil)
      (dss_cons (ds_set 10 sc_law.nd (d_lst (da_cons (d_lamV tb rfl hmT hu (by rw [hql]; rfl) (free_by (show freeB (defScope s_law) _ = true by decide +kernel)) [] rfl (by decide) rfl) (da_cons (d_lamV tb rfl hmT hu (by rw [hql]; rfl) (free_by (show freeB (defScope s_law) _ = true by decide +kernel)) [(0, _, _)] rfl (by decide) rfl) da_nil))))
      (dss_cons (ds_if (d_tcmpG (bin_neX c.hr.room.units) (d_lcS (own := [("_law_act", 16)]) (cap := [4, 7, 9]) (c.mono (by decide)) G1 (lamsOk T) (fun _ => rfl) sc_law.nd (by decide) (cap_by (show capB N_law (defScope s_law) _ = true by decide +kernel)) (by decide) (di_seq (d_var 10)) (blkOk_by (own := [("_law_act", 16)]) (N := N_law) (sc := defScope s_law) (by decide +kernel)) (fun _ _ _ _ _ => (dg_name 16 sc_law.nd)) (fun _ _ _ _ _ => rfl) (fun _ _ _ _ _ => (d_var 16))) (d_bin bin_repD (d_lstM (da_cons (d_tup (da_cons d_str (da_cons (d_var 7) da_nil))) da_nil)) d_int) (nomark _)) (dss_one (ds_ret d_bl)) dss_nil)
      (dss_cons (ds_setLc (own := [("_law_act", 16)]) 11 c.calm sc_law.nd (di_seq (d_fn c G5 (by decide) rfl (da_cons (d_var 4) (da_cons (d_var 9) da_nil)))) (blkOk_by (own := [("_law_act", 16)]) (N := N_law) (sc := defScope s_law) (by decide +kernel)) (fun _ _ _ _ _ => (dg_name 16 sc_law.nd)) (fun _ _ _ _ _ => dts_nil) (fun _ _ _ _ _ => (d_saidV (c.blk.mono (by decide)) G1 (lamsOk T) rfl (d_var 16))))
      (dss_cons (ds_if (DW.dt (dw_and (d_tcmp (op_neA c.hr.room.units) lop_ne (d_var 5) (d_lst da_nil) (nomark _)) (dw_and1 (d_tcmp (op_neA c.hr.room.units) lop_ne (d_var 11) (d_bin bin_repD (d_lstM (da_cons (d_tup (da_cons d_str (da_cons d_non da_nil))) da_nil)) d_int) (nomark _))))) (dss_one (ds_ret d_bl)) dss_nil)
      (dss_cons (ds_set 12 sc_law.nd (d_lst (da_cons (d_un un_neg lun_neg d_int) (da_cons (d_callB call_len lc_len rfl T.b_len PySem.boot_len (da_cons (d_var 3) da_nil)) (da_cons (d_op op_addAll lop_add (d_callB call_len lc_len rfl T.b_len PySem.boot_len (da_cons (d_var 3) da_nil)) (d_fn c G4 (by decide) rfl (da_cons (d_var 2) (da_cons d_int da_nil)))) (da_cons (d_op op_pow lop_pow d_int d_int) (da_cons d_bl (da_cons d_non da_nil))))))))
      (dss_cons (ds_set 13 sc_law.nd (d_fn c G3 (by decide) rfl (da_cons (d_var 2) (da_cons (d_op op_addAll lop_add (d_var 12) (d_lst (da_cons d_str (da_cons (d_lst da_nil) (da_cons (d_tup (da_cons d_int da_nil)) (da_cons d_dict0 da_nil)))))) da_nil))))
      (dss_one (ds_if (d_tcmpG (bin_neT c.hr.room.units) (d_lamcall (c.mono (by decide)) G1 rfl tb rfl hmT hu (lamS2_by (show lamSB2 N_law (defScope s_law) _ = true by decide +kernel)) (.no rfl (fun _ _ _ _ _ => rfl)) (fun _ _ _ _ _ _ _ cL => (d_meth cL G2 (d_var 4) (da_cons (d_var 13) da_nil)))) (d_tup (da_cons d_str (da_cons (d_var 13) da_nil))) (nomark _)) (dss_one (ds_ret d_bl)) dss_nil)))))))))))))))
      (dss_one (ds_for c.po c.calm (di_range1 rfl T.b_range (d_callB call_len lc_len rfl T.b_len PySem.boot_len (da_cons (d_var 3) da_nil))) (dg_name 14 sc_law.nd) (dss_one (ds_if (d_tcmp (op_neA c.hr.room.units) lop_ne (d_meth c G0 (d_var 4) (da_cons (d_var 14) da_nil)) (d_ixA (RoomG.u1 c.hr) (d_var 5) (d_var 14)) (nomark _)) (dss_one (ds_ret d_bl)) dss_nil)))))))))
      (dss_one (ds_ret d_bl)))
end
end LawProof
set_option Elab.async false
set_option linter.all false
set_option maxRecDepth 100000
set_option maxHeartbeats 4000000
set_option autoImplicit true
namespace LawProof
open PySem L2 DL
theorem tx_of {K : PySem.W.Frag} {h : Heap} {mg : Str -> Option Value} (X : K.In h) (G : h.Ns mainGlobals mg) (c : He.SaysD fa fn K) (e : ex K = true) (tk__law_asks : ∃ h, TabK h K ("_law_asks", none)) (tb__law_asks : LamX.TabB base mg (codeF K (He.fAd K ("_law_asks", none))) (tabD K ("_law_asks", none))) (tk_law : ∃ h, TabK h K ("law", none)) (tb_law : LamX.TabB base mg (codeF K (He.fAd K ("law", none))) (tabD K ("law", none))) : Tx K mg base :=
  { f_is_integer := c.def_ 0 (d := d_is_integer) rfl,
    f_is_sequence := c.def_ 1 (d := d_is_sequence) rfl,
    f_is_name := c.def_ 2 (d := d_is_name) rfl,
    f_is_value := c.def_ 3 (d := d_is_value) rfl,
    f__law_well := c.def_ 4 (d := d__law_well) rfl,
    f__law_draw := c.def_ 5 (d := d__law_draw) rfl,
    f__law_one := c.def_ 6 (d := d__law_one) rfl,
    f__law_names := c.def_ 7 (d := d__law_names) rfl,
    f__law_value := c.def_ 8 (d := d__law_value) rfl,
    f__law_levels := c.def_ 9 (d := d__law_levels) rfl,
    f__law_rows := c.def_ 10 (d := d__law_rows) rfl,
    f_row_fault := c.def_ 11 (d := d_row_fault) rfl,
    f__law_said := c.def_ 12 (d := d__law_said) rfl,
    f__law_asks := c.def_ 13 (d := d__law_asks) rfl,
    f__law_no_names := c.def_ 14 (d := d__law_no_names) rfl,
    f_law := c.def_ 15 (d := d_law) rfl,
    f_Forest__has_node := c.def_ 16 (d := d_Forest__has_node) rfl,
    f_NoNode____init__ := c.def_ 17 (d := d_NoNode____init__) rfl,
    f_Forest__line_to := c.def_ 18 (d := d_Forest__line_to) rfl,
    f_Forest__check_nodes := c.def_ 19 (d := d_Forest__check_nodes) rfl,
    f_Forest__below := c.def_ 20 (d := d_Forest__below) rfl,
    f_Forest__worth := c.def_ 21 (d := d_Forest__worth) rfl,
    f_Forest__names := c.def_ 22 (d := d_Forest__names) rfl,
    f_Forest__roots := c.def_ 23 (d := d_Forest__roots) rfl,
    f_Forest__children_of := c.def_ 24 (d := d_Forest__children_of) rfl,
    f_Forest__parent_of := c.def_ 25 (d := d_Forest__parent_of) rfl,
    f_Forest__descendants_of := c.def_ 26 (d := d_Forest__descendants_of) rfl,
    f_NoPlace____init__ := c.def_ 27 (d := d_NoPlace____init__) rfl,
    f_Forest__place_of := c.def_ 28 (d := d_Forest__place_of) rfl,
    f_Forest__total_of := c.def_ 29 (d := d_Forest__total_of) rfl,
    f_Forest__value_of := c.def_ 30 (d := d_Forest__value_of) rfl,
    f_Forest__size_of := c.def_ 31 (d := d_Forest__size_of) rfl,
    f_Forest__level_of := c.def_ 32 (d := d_Forest__level_of) rfl,
    f_Forest__ancestors_of := c.def_ 33 (d := d_Forest__ancestors_of) rfl,
    f_Forest__rank_of := c.def_ 34 (d := d_Forest__rank_of) rfl,
    f_Forest__name_at := c.def_ 35 (d := d_Forest__name_at) rfl,
    f_Forest__meet_of := c.def_ 36 (d := d_Forest__meet_of) rfl,
    f_Forest__is_above := c.def_ 37 (d := d_Forest__is_above) rfl,
    f_Forest____init__ := c.def_ 38 (d := d_Forest____init__) rfl,
    g_is_integer := He.glo_ok X G (c.fact 0 (f := .glo "is_integer") rfl),
    g_is_sequence := He.glo_ok X G (c.fact 1 (f := .glo "is_sequence") rfl),
    g_is_name := He.glo_ok X G (c.fact 2 (f := .glo "is_name") rfl),
    g_is_value := He.glo_ok X G (c.fact 3 (f := .glo "is_value") rfl),
    g__law_well := He.glo_ok X G (c.fact 4 (f := .glo "_law_well") rfl),
    g__law_draw := He.glo_ok X G (c.fact 5 (f := .glo "_law_draw") rfl),
    g__law_one := He.glo_ok X G (c.fact 6 (f := .glo "_law_one") rfl),
    g__law_names := He.glo_ok X G (c.fact 7 (f := .glo "_law_names") rfl),
    g__law_value := He.glo_ok X G (c.fact 8 (f := .glo "_law_value") rfl),
    g__law_levels := He.glo_ok X G (c.fact 9 (f := .glo "_law_levels") rfl),
    g__law_rows := He.glo_ok X G (c.fact 10 (f := .glo "_law_rows") rfl),
    g_row_fault := He.glo_ok X G (c.fact 11 (f := .glo "row_fault") rfl),
    g__law_said := He.glo_ok X G (c.fact 12 (f := .glo "_law_said") rfl),
    g__law_asks := He.glo_ok X G (c.fact 13 (f := .glo "_law_asks") rfl),
    g__law_no_names := He.glo_ok X G (c.fact 14 (f := .glo "_law_no_names") rfl),
    g_law := He.glo_ok X G (c.fact 15 (f := .glo "law") rfl),
    g_Forest := He.glo_ok X G (c.fact 16 (f := .glo "Forest") rfl),
    k_Forest := He.cls_ok (c.fact 17 (f := .cls "Forest") rfl),
    g_NoNode := He.glo_ok X G (c.fact 18 (f := .glo "NoNode") rfl),
    g_NoPlace := He.glo_ok X G (c.fact 19 (f := .glo "NoPlace") rfl),
    g_NoName := He.glo_ok X G (c.fact 20 (f := .glo "NoName") rfl),
    g_NoForest := He.glo_ok X G (c.fact 21 (f := .glo "NoForest") rfl),
    g_ForestError := He.glo_ok X G (c.fact 22 (f := .glo "ForestError") rfl),
    n_Forest__spots := He.noat_ok (c.fact 23 (f := .noat "Forest" "spots") rfl),
    n_Forest__order := He.noat_ok (c.fact 24 (f := .noat "Forest" "order") rfl),
    n_Forest__rows := He.noat_ok (c.fact 25 (f := .noat "Forest" "rows") rfl),
    cv_Forest_MOST := cvalB_ok (c := 0) (ex_0 e),
    m_Forest__has_node := He.meth_ok (c.fact 26 (f := .meth "Forest" "has_node") rfl),
    oex_NoNode := oexB_ok (ex_1 e),
    xn_NoNode := ex_2 e,
    m_Forest__line_to := He.meth_ok (c.fact 27 (f := .meth "Forest" "line_to") rfl),
    m_Forest__check_nodes := He.meth_ok (c.fact 28 (f := .meth "Forest" "check_nodes") rfl),
    m_Forest__below := He.meth_ok (c.fact 29 (f := .meth "Forest" "below") rfl),
    m_Forest__worth := He.meth_ok (c.fact 30 (f := .meth "Forest" "worth") rfl),
    m_Forest__names := He.meth_ok (c.fact 31 (f := .meth "Forest" "names") rfl),
    m_Forest__roots := He.meth_ok (c.fact 32 (f := .meth "Forest" "roots") rfl),
    m_Forest__children_of := He.meth_ok (c.fact 33 (f := .meth "Forest" "children_of") rfl),
    m_Forest__parent_of := He.meth_ok (c.fact 34 (f := .meth "Forest" "parent_of") rfl),
    m_Forest__descendants_of := He.meth_ok (c.fact 35 (f := .meth "Forest" "descendants_of") rfl),
    oex_NoPlace := oexB_ok (ex_3 e),
    xn_NoPlace := ex_4 e,
    mt := mtB_ok (ex_5 e),
    isx := isxB_ok (ex_6 e),
    excs := excsB_ok (ex_7 e),
    xf_place := xfOkB_ok (ex_8 e),
    xf_name := xfOkB_ok (ex_9 e),
    ut_ValueError := utB_ok (ex_10 e),
    m_Forest__place_of := He.meth_ok (c.fact 36 (f := .meth "Forest" "place_of") rfl),
    m_Forest__total_of := He.meth_ok (c.fact 37 (f := .meth "Forest" "total_of") rfl),
    m_Forest__value_of := He.meth_ok (c.fact 38 (f := .meth "Forest" "value_of") rfl),
    m_Forest__size_of := He.meth_ok (c.fact 39 (f := .meth "Forest" "size_of") rfl),
    m_Forest__level_of := He.meth_ok (c.fact 40 (f := .meth "Forest" "level_of") rfl),
    m_Forest__ancestors_of := He.meth_ok (c.fact 41 (f := .meth "Forest" "ancestors_of") rfl),
    m_Forest__rank_of := He.meth_ok (c.fact 42 (f := .meth "Forest" "rank_of") rfl),
    m_Forest__name_at := He.meth_ok (c.fact 43 (f := .meth "Forest" "name_at") rfl),
    m_Forest__meet_of := He.meth_ok (c.fact 44 (f := .meth "Forest" "meet_of") rfl),
    m_Forest__is_above := He.meth_ok (c.fact 45 (f := .meth "Forest" "is_above") rfl),
    mk_Forest := He.mkr_ok (c.fact 46 (f := .mkr "Forest") rfl),
    td__law_asks__law := of_decide_eq_true (ex_11 e),
    td_law___law_asks := of_decide_eq_true (ex_12 e),
    b_isinstance := He.free_ok X G (c.fact 47 (f := .free "isinstance") rfl),
    b_int := He.free_ok X G (c.fact 48 (f := .free "int") rfl),
    b_bool := He.free_ok X G (c.fact 49 (f := .free "bool") rfl),
    b_tuple := He.free_ok X G (c.fact 50 (f := .free "tuple") rfl),
    b_list := He.free_ok X G (c.fact 51 (f := .free "list") rfl),
    b_all := He.free_ok X G (c.fact 52 (f := .free "all") rfl),
    b_str := He.free_ok X G (c.fact 53 (f := .free "str") rfl),
    b_len := He.free_ok X G (c.fact 54 (f := .free "len") rfl),
    b_range := He.free_ok X G (c.fact 55 (f := .free "range") rfl),
    b_enumerate := He.free_ok X G (c.fact 56 (f := .free "enumerate") rfl),
    b_sum := He.free_ok X G (c.fact 57 (f := .free "sum") rfl),
    b_zip := He.free_ok X G (c.fact 58 (f := .free "zip") rfl),
    b_ValueError := He.free_ok X G (c.fact 59 (f := .free "ValueError") rfl),
    c_LETTERS := He.str_ok X G (c.fact 60 (f := .str "LETTERS" "abcdefghijklmnopqrstuvwxyz") rfl),
    c_SIGNS := He.str_ok X G (c.fact 61 (f := .str "SIGNS" "abcdefghijklmnopqrstuvwxyz0123456789") rfl),
    c_MOST_SIGNS := He.int_ok X G (c.fact 62 (f := .int "MOST_SIGNS" 8) rfl),
    c_MOST_VALUE := He.int_ok X G (c.fact 63 (f := .int "MOST_VALUE" 1000000000000000000000000000000) rfl),
    tk__law_asks := tk__law_asks,
    tb__law_asks := tb__law_asks,
    tk_law := tk_law,
    tb_law := tb_law }
end LawProof
open PySem PySem.W PySem.Calls PyProof.Rows
set_option maxRecDepth 100000 in
set_option maxHeartbeats 0 in
theorem PySem.Challenge.cw_forestrows_k05_questions_refused_holds : PySem.Challenge.rw_forestrows_k05_questions_refused.Holds := by
  w_on; o_law
  refine HandSHeadRun.head_any (r := OpenLaw.row PySem.Challenge.rw_forestrows_k05_questions_refused) (q := view (OpenLaw.row PySem.Challenge.rw_forestrows_k05_questions_refused).prog [33]) (H := LawProof.hk) (ob := LawProof.ob) (M := 20000) (loose := LawProof.loose) (d := HandSHeadRun.topDef (OpenLaw.row PySem.Challenge.rw_forestrows_k05_questions_refused).prog 33) (kwd := []) LawProof.ob_eq
    (by kernel_rfl) (fun s => by kernel_rfl) LawProof.run (by kernel_rfl) (by kernel_rfl) (by kernel_rfl) (by rfl) (by first | assumption | decide +kernel) (by decide +kernel) ⟨rfl, rfl, rfl, rfl, rfl, by decide +kernel⟩ ?hw ?hc
  case hw => w_witness2
  case hc =>
    refine DL.walk_DT (l := PySem.Challenge.rw_forestrows_k05_questions_refused) (n := 63) (k := 8) (x := "_law_script") rfl (by decide) (by kernel_rfl) ⟨⟨rfl, by decide, by decide⟩, rfl⟩ ?F
    intro w mg fa h Y G hmg0
    obtain ⟨K0, KX0, c1, c2, c3⟩ := Y
    have KX := DL.cut_in (ts := LawProof.ts) KX0
    have tk : ∀ d ∈ LawProof.ts, DL.TabK h (DL.cutTab K0 LawProof.ts) d := fun d hd => DL.tabK_of KX0 (List.all_eq_true.mp c3 d hd)
    generalize DL.cutTab K0 LawProof.ts = K at KX c1 c2 tk
    have hmg : mg ("law" : PySem.Str) = some (.ref fa) := by
      have e : (HandSHeadRun.topDef (OpenLaw.row PySem.Challenge.rw_forestrows_k05_questions_refused).prog 33).name = ("law" : PySem.Str) := by kernel_rfl
      rw [<- e]
      exact hmg0
    have tk__law_asks := tk ("_law_asks", none) (show (("_law_asks", none) : Str × Option Str) ∈ ([("_law_asks", none), ("law", none)] : List (Str × Option Str)) from (.head _))
    have tk_law := tk ("law", none) (show (("law", none) : Str × Option Str) ∈ ([("_law_asks", none), ("law", none)] : List (Str × Option Str)) from (.tail _ (.head _)))
    refine ⟨LawProof.clw K PySem.Challenge.rw_forestrows_k05_questions_refused.prog w, K, LawProof.sp_law, DL.csOf K LawProof.ts, fun q hq => ?_, KX, DL.tabs_at KX tk, LawProof.law_sp, fun base KB NB TBs => ?_⟩
    · have hq : q ∈ DL.tabsOf (LawProof.cl K) := hq
      rw [LawProof.tabs_cl tk_law.nz tk__law_asks.nz] at hq
      rcases List.mem_cons.mp hq with rfl | hq
      · exact (show DL.tabD K ("law", none) ∈ [DL.tabD K ("_law_asks", none), DL.tabD K ("law", none)] from (.tail _ (.head _)))
      rcases List.mem_cons.mp hq with rfl | hq
      · exact (show DL.tabD K ("_law_asks", none) ∈ [DL.tabD K ("_law_asks", none), DL.tabD K ("law", none)] from (.head _))
      cases hq
    have T := LawProof.tx_of KB NB c1 c2 ⟨h, tk__law_asks⟩ (TBs (DL.codeF K (He.fAd K ("_law_asks", none)), DL.tabD K ("_law_asks", none)) (show (DL.codeF K (He.fAd K ("_law_asks", none)), DL.tabD K ("_law_asks", none)) ∈ [(DL.codeF K (He.fAd K ("_law_asks", none)), DL.tabD K ("_law_asks", none)), (DL.codeF K (He.fAd K ("law", none)), DL.tabD K ("law", none))] from (.head _))) ⟨h, tk_law⟩ (TBs (DL.codeF K (He.fAd K ("law", none)), DL.tabD K ("law", none)) (show (DL.codeF K (He.fAd K ("law", none)), DL.tabD K ("law", none)) ∈ [(DL.codeF K (He.fAd K ("_law_asks", none)), DL.tabD K ("_law_asks", none)), (DL.codeF K (He.fAd K ("law", none)), DL.tabD K ("law", none))] from (.tail _ (.head _))))
    have e := hmg.symm.trans T.g_law
    cases e
    obtain ⟨f, fd2, h1, h2, h3, h4⟩ := (LawProof.core_law (P := PySem.Challenge.rw_forestrows_k05_questions_refused.prog) (w := w) (base := base) T T.f_law).fn T.g_law LawProof.hb_law
    have e1 := h1.symm.trans T.g_law
    cases e1
    exact ⟨fd2, h3, h4⟩
