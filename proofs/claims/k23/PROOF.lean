import PyProof.Rows.All
import Wide.All
import OpenK.AllK
import Wide.FinOn
import HandS.ForMost
import KE.KeyNested
import HandS.TupSets
import HandS.Set
import HandS.Exc
import HandS.Lambda
import HandS.Flow
import HandS.Style
import HandS.NoneIn
import HandS.Zip
import HandS.Deep
import HandS.TupAny
import HandS.TupMul
import HandS.Replace
import HandS.IsInst
import HandS.Codes
import PyProof.ReprRoads
import HandS.More
import KE.SortData
import HandS.Conv
import HandS.SetTxt0
import HandS.SetFor
import HandS.SetBool
import PyProof.SumAny
import PyProof.ListStr
import HandS.Star
import HandS.ExcOwn
import HandS.WordsExc
import HandS.CallSlots
import HandS.ExcInit
import HandS.ExcField
import HandS.ExcIs
import KE.KExcIs
import HandS.Property
import HandS.Iter
import HandS.ListItems
import PyProof.DictUpdate
import PyProof.FactsLen
import PyProof.Methods
import HandS.DeepEq
import HandS.DictEq
import KE.KDictZip
import HandS.DictComp
import HandS.Small
import HandS.Defaults
import HandS.TupLe
import KE.KDictDisplayH
import KE.GoesEnum
import HandS.HotCalls
import HandS.TryOnly
import HandS.EndTab
import HandS.Finally
import KE.KDictList
import PyProof.AutoSeq1
import PyProof.Gen
import PyProof.GenQ
import PyProof.ForAny
import HandS.GenList
import KE.GoesComp
import KE.GoesRaise
import HandS.RaiseFrom
import HandS.ExcInitHot
import KE.KAsSuite
import PySem.Challenge.RW_scriptpicks_k23_starts_equal
set_option Elab.async false
set_option linter.all false
set_option maxRecDepth 100000
set_option maxHeartbeats 4000000
/-! Data layer, part 0: sets of tuples of any data that can be a key: a member more. -/
namespace DL
open PySem L2 PyProof.Rows
/-- the tuple at a is the key k -/
def IsN (h : Heap) (k : NestedKey) (a : Addr) : Prop := NestedIs h k (.ref a) ∧ k.depth ≤ 8
theorem IsN.knd {P : Program} {w : World} {h : Heap} {k : NestedKey} {a : Addr} (z : IsN h k a) : (nestedKind P w).is h k a := z
theorem IsN.up {h h' : Heap} {k : NestedKey} {a : Addr} (z : IsN h k a) (kp : ∀ b o, h.get? b = some o → h'.get? b = some o) : IsN h' k a :=
  ⟨NestedIs.at (fun b o _ _ e _ => kp b o e) k _ z.1, z.2⟩
section
variable {P : Program} {w : World} {A : Around} {E : Value → Shared → Prop} {s : Shared}
/-- of no class statement, n levels down -/
def PlainAt (P : Program) (w : World) (n : Nat) (s : Shared) (v : Value) : Prop := ∀ (A : Around) (E : Value → Shared → Prop) (Q : Bool → Shared → Prop), Q false s → wpAny (model P w) A (ofAClassStatement n v) Q E s
/-- whether the hash goes by value: one of both -/
def ByVal (P : Program) (w : World) (n : Nat) (s : Shared) (v : Value) : Prop := ∀ (A : Around) (E : Value → Shared → Prop) (Q : Bool → Shared → Prop), (∀ b, Q b s) → wpAny (model P w) A (hashByValue n v) Q E s
theorem PlainAt.of {n : Nat} {v : Value} (e : ofAClassStatement n v = pure false) : PlainAt P w n s v := fun A E Q q => by
  rw [e]; exact wpAny_pure q
theorem ByVal.of {n : Nat} {v : Value} {b : Bool} (e : hashByValue n v = pure b) : ByVal P w n s v := fun A E Q q => by
  rw [e]; exact wpAny_pure (q b)
theorem PlainAt.tup {n m : Nat} {a : Addr} {o : Obj} {vs : Array Value} (oa : s.heap.get? a = some o) (oc : o.cls = .type "tuple") (od : o.data = .seq vs m) (all : ∀ v ∈ vs.toList, PlainAt P w n s v) : PlainAt P w (n + 1) s (.ref a) := fun A E Q q => by
  have ty : s.TypeIs (.ref a) "tuple" := ⟨o, oa, oc⟩
  unfold ofAClassStatement
  refine wpAny_bind (wpAny_typeOf ty ?_)
  dsimp only
  have e : (("tuple" : String) == "tuple") = true := by decide
  simp only [e, if_true, Bool.not_true, Bool.false_eq_true, if_false]
  show wpAny _ _ (seqItems? (.ref a) >>= _) _ _ s
  refine wpAny_bind (wpAny_seqItems oa od (wpAny_bind ?_))
  show wpAny _ _ (forIn vs _ _) _ _ s
  rw [← Array.forIn_toList]
  refine wpAny_forIn_list _ (fun rest r s' => (r.1 = none ∧ s' = s) ∧ ∀ v ∈ rest, PlainAt P w n s v) _ ?_ ?_ _ _ ⟨⟨rfl, rfl⟩, all⟩
  · rintro v rest r s' ⟨⟨_, rfl⟩, al⟩
    refine wpAny_bind (al v List.mem_cons_self _ _ _ ?_)
    simp only [Bool.false_eq_true, if_false]
    exact wpAny_pure ⟨⟨rfl, rfl⟩, fun u hu => al u (List.mem_cons_of_mem _ hu)⟩
  · rintro ⟨r1, r2⟩ s' ⟨⟨hr, rfl⟩, _⟩
    simp only at hr
    subst hr
    exact wpAny_pure q
theorem ByVal.tup {n m : Nat} {a : Addr} {o : Obj} {vs : Array Value} (oa : s.heap.get? a = some o) (oc : o.cls = .type "tuple") (od : o.data = .seq vs m) (all : ∀ v ∈ vs.toList, ByVal P w n s v) : ByVal P w (n + 1) s (.ref a) := fun A E Q q => by
  have ty : s.TypeIs (.ref a) "tuple" := ⟨o, oa, oc⟩
  unfold hashByValue
  refine wpAny_bind (wpAny_specialOf ty F.slot_tuple_hash.lookup ?_)
  show wpAny _ _ (seqItems? (.ref a) >>= _) _ _ s
  refine wpAny_bind (wpAny_seqItems oa od (wpAny_bind ?_))
  show wpAny _ _ (forIn vs _ _) _ _ s
  rw [← Array.forIn_toList]
  refine wpAny_forIn_list _ (fun rest r s' => ((r.1 = none ∨ r.1 = some false) ∧ s' = s) ∧ ∀ v ∈ rest, ByVal P w n s v) _ ?_ ?_ _ _ ⟨⟨.inl rfl, rfl⟩, all⟩
  · rintro v rest r s' ⟨⟨_, rfl⟩, al⟩
    refine wpAny_bind (al v List.mem_cons_self _ _ _ fun b => ?_)
    cases b with
    | true =>
      simp only [Bool.not_true, Bool.false_eq_true, if_false]
      exact wpAny_pure ⟨⟨.inl rfl, rfl⟩, fun u hu => al u (List.mem_cons_of_mem _ hu)⟩
    | false =>
      simp only [Bool.not_false, if_true]
      exact wpAny_pure (wpAny_pure (q _))
  · rintro ⟨r1, r2⟩ s' ⟨⟨hr, rfl⟩, _⟩
    simp only at hr
    rcases hr with rfl | rfl
    · exact wpAny_pure (q _)
    · exact wpAny_pure (q _)
end
abbrev KA : Type := Addr × NestedKey
def hN (w : World) (L : List KA) : List Int := L.map fun p => p.2.hash w
def rwN (w : World) (L : List KA) : List (Int × Value) := L.map fun p => (p.2.hash w, Value.ref p.1)
/-- the set at a has the keys L, at their addresses -/
structure SetN (w : World) (h : Heap) (a : Addr) (L : List KA) (es : Array (Int × Value)) (ep : Nat) (t : SetTable) : Prop where
  ob : ∃ o, h.get? a = some o ∧ o.ExactSet ∧ o.data = .set es ep t
  rows : es.toList = rwN w L
  tab : TabOk t (hN w L)
  nd : (L.map (·.2)).Nodup
  tup : ∀ p ∈ L, IsN h p.2 p.1
  led : w.params.followText "set-order" = true ∨ t.led = true
  room : L.length * 5 < t.mask * 3
  few : L.length < 64
/-- what the set has of the first i -/
structure GotN (ks : List KA) (i : Nat) (L : List KA) : Prop where
  sub : ∀ p ∈ L, p ∈ ks.take i
  all : ∀ p ∈ ks.take i, p.2 ∈ L.map (·.2)
  len : L.length ≤ i
/-- the same but for the members' own objects -/
def SetN0 (w : World) (h : Heap) (a : Addr) (L : List KA) : Prop := ∃ es ep t, (∃ o, h.get? a = some o ∧ o.ExactSet ∧ o.data = .set es ep t) ∧ es.toList = rwN w L ∧ TabOk t (hN w L) ∧ (L.map (·.2)).Nodup ∧ (w.params.followText "set-order" = true ∨ t.led = true) ∧ L.length * 5 < t.mask * 3 ∧ L.length < 64
section
variable {P : Program} {w : World} {A : Around} {E : Value → Shared → Prop} {s : Shared} {a : Addr} {L : List KA} {es : Array (Int × Value)} {ep : Nat} {t : SetTable}
end
end DL

/-! Data layer, part 1: plain data, reading of data in a heap, environments, the relation of a state to an environment. -/
namespace DL
open PySem L2

inductive D where
  | non
  | bl (b : Bool)
  | int (i : Int)
  | str (x : Str)
  | lst (xs : List D)
  | tup (xs : List D)
  | dic (kvs : List (Key × D))
  | scr (ns : List Int)
  /-- an instance of a class of the program's own that nobody changes any more: the class's name, its attributes -/
  | obj (c : Str) (fs : List (Str × D))

/-- the name that stands for the very thing at an address: no class has it -/
def itS (a : Addr) : Str := ⟨#[0, a]⟩
/-- the class of that name of the module -/
def ClsAt (K : PySem.W.Frag) (c : Str) (C : Addr) : Prop := PySem.W.nsIn K mainGlobals c = some (some (.ref C))

mutual
inductive RD (K : PySem.W.Frag) (F : Hp) : V → D → Prop
  | non : RD K F .non .non
  | bl (b : Bool) : RD K F (.bl b) (.bl b)
  | int (i : Int) : RD K F (.int i) (.int i)
  | str (x : Str) : RD K F (.str x) (.str x)
  | lst {a : Addr} {xs : List V} {ds : List D} : F a = some (.lst xs) → RDs K F xs ds → RD K F (.ref a) (.lst ds)
  | scr {a : Addr} (ns : List Int) : SqL K F a (ns.map V.int) → RD K F (.ref a) (.scr ns)
  | tup {a : Addr} {xs : List V} {ds : List D} : SqT K F a xs → RDs K F xs ds → RD K F (.ref a) (.tup ds)
  | dic {a : Addr} {o : Obj} {kvs : List (Key × V)} {ds : List (Key × D)} : F a = some (.frz o (.dK kvs)) → RDk K F kvs ds → RD K F (.ref a) (.dic ds)
  | obj {a C dx : Addr} {c : Str} {vs : List (Str × V)} {ds : List (Str × D)} : ClsAt K c C → F a = some (.ins C dx vs) → RDf K F vs ds → RD K F (.ref a) (.obj c ds)
  | it {a : Addr} : (∀ C, ¬ ClsAt K (itS a) C) → RD K F (.ref a) (.obj (itS a) [])
inductive RDs (K : PySem.W.Frag) (F : Hp) : List V → List D → Prop
  | nil : RDs K F [] []
  | cons {v : V} {vs : List V} {d : D} {ds : List D} : RD K F v d → RDs K F vs ds → RDs K F (v :: vs) (d :: ds)
inductive RDk (K : PySem.W.Frag) (F : Hp) : List (Key × V) → List (Key × D) → Prop
  | nil : RDk K F [] []
  | cons {k : Key} {v : V} {vs : List (Key × V)} {d : D} {ds : List (Key × D)} : RD K F v d → RDk K F vs ds → RDk K F ((k, v) :: vs) ((k, d) :: ds)
inductive RDf (K : PySem.W.Frag) (F : Hp) : List (Str × V) → List (Str × D) → Prop
  | nil : RDf K F [] []
  | cons {k : Str} {v : V} {vs : List (Str × V)} {d : D} {ds : List (Str × D)} : RD K F v d → RDf K F vs ds → RDf K F ((k, v) :: vs) ((k, d) :: ds)
end

theorem same_rd {F F' : Hp} {a : Addr} {u : HO} (e : Same F F') (h : Rd F a u) : Rd F' a u := by
  rcases h with h | ⟨o, h⟩
  · exact .inl (e _ _ h)
  · exact .inr ⟨o, e _ _ h⟩
theorem same_sqT {K : PySem.W.Frag} {F F' : Hp} {a : Addr} {xs : List V} (e : Same F F') (h : SqT K F a xs) : SqT K F' a xs := by
  rcases h with h | h
  · exact .inl (same_rd e h)
  · exact .inr h

mutual
theorem RD.mono {K : PySem.W.Frag} {F F' : Hp} (e : Same F F') : ∀ (d : D) {v : V}, RD K F v d → RD K F' v d
  | .non, _, h => by cases h; exact .non
  | .bl b, _, h => by cases h; exact .bl b
  | .int i, _, h => by cases h; exact .int i
  | .str x, _, h => by cases h; exact .str x
  | .lst ds, _, h => by
    cases h with
    | lst h1 h2 => exact .lst (e _ _ h1) (RDs.mono e ds h2)
  | .tup ds, _, h => by
    cases h with
    | tup h1 h2 => exact .tup (same_sqT e h1) (RDs.mono e ds h2)
  | .dic ds, _, h => by
    cases h with
    | dic h1 h2 => exact .dic (e _ _ h1) (RDk.mono e ds h2)
  | .scr ns, _, h => by
    cases h with
    | scr _ h1 => exact .scr ns (e.seq h1)
  | .obj c ds, _, h => by
    cases h with
    | obj h1 h2 h3 => exact .obj h1 (e _ _ h2) (RDf.mono e ds h3)
    | it h1 => exact .it h1
theorem RDs.mono {K : PySem.W.Frag} {F F' : Hp} (e : Same F F') : ∀ (ds : List D) {vs : List V}, RDs K F vs ds → RDs K F' vs ds
  | [], _, h => by cases h; exact .nil
  | d :: ds, _, h => by
    cases h with
    | cons h1 h2 => exact .cons (RD.mono e d h1) (RDs.mono e ds h2)
theorem RDk.mono {K : PySem.W.Frag} {F F' : Hp} (e : Same F F') : ∀ (ds : List (Key × D)) {vs : List (Key × V)}, RDk K F vs ds → RDk K F' vs ds
  | [], _, h => by cases h; exact .nil
  | (k, d) :: ds, _, h => by
    cases h with
    | cons h1 h2 => exact .cons (RD.mono e d h1) (RDk.mono e ds h2)
theorem RDf.mono {K : PySem.W.Frag} {F F' : Hp} (e : Same F F') : ∀ (ds : List (Str × D)) {vs : List (Str × V)}, RDf K F vs ds → RDf K F' vs ds
  | [], _, h => by cases h; exact .nil
  | (k, d) :: ds, _, h => by
    cases h with
    | cons h1 h2 => exact .cons (RD.mono e d h1) (RDf.mono e ds h2)
end

section
variable {K : PySem.W.Frag} {F : Hp}
theorem RDs.length : ∀ {vs : List V} {ds : List D}, RDs K F vs ds → vs.length = ds.length
  | _, [], h => by cases h; rfl
  | _, d :: ds, h => by
    cases h with
    | cons h1 h2 => rw [List.length_cons, List.length_cons, RDs.length h2]
theorem RDs.get : ∀ {vs : List V} {ds : List D} {i : Nat} {d : D}, RDs K F vs ds → ds[i]? = some d → ∃ v, vs[i]? = some v ∧ RD K F v d
  | _, [], _, _, h, e => by simp at e
  | _, x :: ds, 0, d, h, e => by
    cases h with
    | cons h1 h2 =>
      have q : x = d := Option.some.inj e
      subst q
      exact ⟨_, rfl, h1⟩
  | _, x :: ds, i + 1, d, h, e => by
    cases h with
    | cons h1 h2 => exact RDs.get (i := i) h2 e
theorem RDs.app : ∀ {vs ws : List V} {ds es : List D}, RDs K F vs ds → RDs K F ws es → RDs K F (vs ++ ws) (ds ++ es)
  | _, _, [], _, h, h' => by cases h; exact h'
  | _, _, d :: ds, _, h, h' => by
    cases h with
    | cons h1 h2 => exact .cons h1 (RDs.app h2 h')
theorem RDs.tk : ∀ {vs : List V} {ds : List D} (n : Nat), RDs K F vs ds → RDs K F (vs.take n) (ds.take n)
  | _, [], n, h => by cases h; simp; exact .nil
  | _, d :: ds, 0, h => by simp; exact .nil
  | _, d :: ds, n + 1, h => by
    cases h with
    | cons h1 h2 => exact .cons h1 (RDs.tk n h2)
theorem RDs.dp : ∀ {vs : List V} {ds : List D} (n : Nat), RDs K F vs ds → RDs K F (vs.drop n) (ds.drop n)
  | _, [], n, h => by cases h; simp; exact .nil
  | _, d :: ds, 0, h => h
  | _, d :: ds, n + 1, h => by
    cases h with
    | cons h1 h2 => exact RDs.dp n h2
theorem RDs.upd {x : V} {e : D} (r : RD K F x e) : ∀ {vs : List V} {ds : List D} (n : Nat), RDs K F vs ds → RDs K F (vs.set n x) (ds.set n e)
  | _, [], n, h => by cases h; exact .nil
  | _, d :: ds, 0, h => by
    cases h with
    | cons h1 h2 => exact .cons r h2
  | _, d :: ds, n + 1, h => by
    cases h with
    | cons h1 h2 => exact .cons h1 (RDs.upd r n h2)
theorem RDs.ints : ∀ (ns : List Int), RDs K F (ns.map V.int) (ns.map D.int)
  | [] => .nil
  | n :: ns => .cons (.int n) (RDs.ints ns)
end

/-! ### environments -/
/-- an error: its class's name, its attributes -/
structure Exn where
  c : Str
  fs : List (Str × D)
/-- further things that a name may own: a set of tuples, a dict with texts as keys -/
inductive Tg where
  | st (ds : List D)
  | dk (kvs : List (Key × D))
/-- what a slot holds: shared data that nobody changes any more, or a list that this name owns -/
inductive OV where
  | sh (d : D)
  | ow (xs : List D)
  /-- a dict with tuples as keys that this name owns -/
  | od (kvs : List (D × D))
  /-- an instance that this name owns (self in __init__) -/
  | oi (c : Str) (fs : List (Str × D))
  | th (t : Tg)
  /-- the error of an except clause -/
  | exc (x : Exn)
def OV.own : OV → Bool
  | .ow _ => true
  | .od _ => true
  | .oi _ _ => true
  | .th _ => true
  | .exc _ => false
  | .sh _ => false
/-- frozen: as plain data (a dict of the third kind is never frozen) -/
def OV.d : OV → D
  | .sh d => d
  | .ow xs => .lst xs
  | .od _ => .non
  | .oi _ _ => .non
  | .th _ => .non
  | .exc _ => .non
abbrev En := List (Option OV)
inductive Rs (α : Type) where
  | ok (a : α) (r : En)
  | bad
  | ex (x : Exn) (r : En)
@[inline] def Rs.bind {α β : Type} (x : Rs α) (k : α → En → Rs β) : Rs β :=
  match x with
  | .ok a r => k a r
  | .bad => .bad
  | .ex x r => .ex x r
def Rs.map {α β : Type} (f : α → β) (x : Rs α) : Rs β :=
  match x with
  | .ok a r => .ok (f a) r
  | .bad => .bad
  | .ex x r => .ex x r
/-- an error in it is as bad as anything -/
def Rs.noE {α : Type} (x : Rs α) : Rs α :=
  match x with
  | .ok a r => .ok a r
  | _ => .bad
def ofO {α : Type} (o : Option α) (r : En) : Rs α :=
  match o with
  | some a => .ok a r
  | none => .bad

/-- at a def's entry: the frozen heap, the heap, the slots of the parameters by reference and their addresses; X: further objects that stay as they are -/
structure G where
  F0 : Hp
  H0 : Hp
  B : List (Nat × Addr)
  X : List (Addr × HO)
  w : World
  /-- the wish about errors, the error that is handled -/
  W : Option WX
  xc : Option (Addr × Value × Option Addr)
  /-- the tables of code objects, with the name of all that they hold -/
  T : List (Addr × Str)

/-! data as a dict key -/
mutual
def D.nk : D → Option NestedKey
  | .non => some .none
  | .bl b => some (.num (if b = true then 1 else 0))
  | .int i => some (.num i)
  | .str x => some (.text x)
  | .tup ds => (nks ds).map NestedKey.tup
  | _ => none
def nks : List D → Option (List NestedKey)
  | [] => some []
  | d :: ds => d.nk.bind fun k => (nks ds).map fun ks => k :: ks
end
/-- the dict's object at a: its entries (key, the key's address, the value) -/
def OdO (w : World) (a : Addr) (xs : List (NestedKey × Addr × V)) : HO := .ext fun h => (a == sysModules) = false ∧ (xs.map (·.1)).Nodup ∧ ∃ us ep, Vals (xs.map (·.2.2)) us ∧ h.get? a = some { cls := .type "dict", data := .dict (List.zipWith (fun (x : NestedKey × Addr × V) (u : Value) => (⟨x.1.hash w, .ref x.2.1, u⟩ : DictEntry)) xs us).toArray ep }
inductive RDm (K : PySem.W.Frag) (F : Hp) : List (NestedKey × Addr × V) → List (D × D) → Prop
  | nil : RDm K F [] []
  | cons {k : NestedKey} {a : Addr} {v : V} {xs : List (NestedKey × Addr × V)} {kd d : D} {ds : List (D × D)} : RD K F (.ref a) kd → kd.nk = some k ∧ k.depth ≤ 8 → RD K F v d → RDm K F xs ds → RDm K F ((k, a, v) :: xs) ((kd, d) :: ds)
theorem RDm.mono {K : PySem.W.Frag} {F F' : Hp} (e : Same F F') : ∀ (ds : List (D × D)) {xs : List (NestedKey × Addr × V)}, RDm K F xs ds → RDm K F' xs ds
  | [], _, h => by cases h; exact .nil
  | (kd, d) :: ds, _, h => by
    cases h with
    | cons h1 h2 h3 h4 => exact .cons (RD.mono e kd h1) h2 (RD.mono e d h3) (RDm.mono e ds h4)
/-- the instance's object: class, dict, attributes -/
def OiO (x : Addr × Addr × List (Str × V)) : HO := .ins x.1 x.2.1 x.2.2
def RDi (K : PySem.W.Frag) (c : Str) (F : Hp) (x : Addr × Addr × List (Str × V)) (fs : List (Str × D)) : Prop := ClsAt K c x.1 ∧ RDf K F x.2.2 fs
theorem RDi.mono {K : PySem.W.Frag} {c : Str} {F F' : Hp} (e : Same F F') (fs : List (Str × D)) {x : Addr × Addr × List (Str × V)} (h : RDi K c F x fs) : RDi K c F' x fs := ⟨h.1, RDf.mono e fs h.2⟩
/-- the members of a set, each at its address -/
inductive RDn (K : PySem.W.Frag) (F : Hp) : List KA → List D → Prop
  | nil : RDn K F [] []
  | cons {a : Addr} {k : NestedKey} {d : D} {L : List KA} {ds : List D} : RD K F (.ref a) d → d.nk = some k ∧ k.depth ≤ 8 → RDn K F L ds → RDn K F ((a, k) :: L) (d :: ds)
theorem RDn.mono {K : PySem.W.Frag} {F F' : Hp} (e : Same F F') : ∀ (ds : List D) {L : List KA}, RDn K F L ds → RDn K F' L ds
  | [], _, h => by cases h; exact .nil
  | d :: ds, _, h => by
    cases h with
    | cons h1 h2 h3 => exact .cons (RD.mono e d h1) h2 (RDn.mono e ds h3)
/-- the set's object: what was put in, in its order -/
def StO (w : World) (a : Addr) (ks : List KA) : HO := .ext fun h => ∃ L, SetN0 w h a L ∧ GotN ks ks.length L
def RT (K : PySem.W.Frag) (w : World) (F : Hp) (a : Addr) (o : HO) : Tg → Prop
  | .st ds => ∃ L, o = StO w a L ∧ RDn K F L ds
  | .dk kvs => ∃ vs, o = .dK vs ∧ RDk K F vs kvs
theorem RT.mono {K : PySem.W.Frag} {w : World} {a : Addr} {o : HO} {F F' : Hp} (e : Same F F') : ∀ (t : Tg), RT K w F a o t → RT K w F' a o t
  | .st ds, ⟨L, h1, h2⟩ => ⟨L, h1, RDn.mono e ds h2⟩
  | .dk kvs, ⟨vs, h1, h2⟩ => ⟨vs, h1, RDk.mono e kvs h2⟩
/-- an error of that class and with that dict is read as x -/
def RX (K : PySem.W.Frag) (F : Hp) (cls : Value) (d : Option Addr) (x : Exn) : Prop := ∃ C, cls = .ref C ∧ ClsAt K x.c C ∧ ((d = none ∧ x.fs = []) ∨ ∃ dd vs, d = some dd ∧ F dd = some (.xd vs) ∧ RDf K F vs x.fs)
theorem RX.mono {K : PySem.W.Frag} {F F' : Hp} {cls : Value} {d : Option Addr} {x : Exn} (e : Same F F') (h : RX K F cls d x) : RX K F' cls d x := by
  obtain ⟨C, h1, h2, h3 | ⟨dd, vs, h3, h4, h5⟩⟩ := h
  · exact ⟨C, h1, h2, .inl h3⟩
  · exact ⟨C, h1, h2, .inr ⟨dd, vs, h3, e _ _ h4, RDf.mono e _ h5⟩⟩
def RE (K : PySem.W.Frag) (xc : Option (Addr × Value × Option Addr)) (F : Hp) (v : V) (x : Exn) : Prop := ∃ a cls d, v = .ref a ∧ xc = some (a, cls, d) ∧ RX K F cls d x
theorem RE.mono {K : PySem.W.Frag} {xc : Option (Addr × Value × Option Addr)} {F F' : Hp} {v : V} {x : Exn} (e : Same F F') (h : RE K xc F v x) : RE K xc F' v x := by
  obtain ⟨a, cls, d, h1, h2, h3⟩ := h
  exact ⟨a, cls, d, h1, h2, h3.mono e⟩
def RO (K : PySem.W.Frag) (w : World) (xc : Option (Addr × Value × Option Addr)) (F H : Hp) (v : V) : OV → Prop
  | .sh d => RD K F v d
  | .ow xs => ∃ a vs, v = .ref a ∧ F a = none ∧ H a = some (.lst vs) ∧ RDs K F vs xs
  | .od kvs => ∃ a xs, v = .ref a ∧ F a = none ∧ H a = some (OdO w a xs) ∧ RDm K F xs kvs
  | .oi c fs => ∃ a xs, v = .ref a ∧ F a = none ∧ H a = some (OiO xs) ∧ RDi K c F xs fs
  | .th t => ∃ a o, v = .ref a ∧ F a = none ∧ H a = some o ∧ RT K w F a o t
  | .exc x => RE K xc F v x

/-- the table at P holds code objects of the name q alone -/
def TabF (F H : Hp) (P : Addr) (q : Str) : Prop := ∃ ps : Array Value, H P = some (.tbl ps) ∧ TriplesOk ps.toList ∧ ∀ (pos : Pos) (cv : Value), codeAmong pos ps.toList = some cv → ∃ c, cv = .ref c ∧ F c = some (LamX.CodeO c q)
def Tbs (g : G) (F H : Hp) : Prop := ∀ p ∈ g.T, F p.1 = none ∧ g.H0 p.1 ≠ none ∧ (∀ q ∈ g.B, q.2 ≠ p.1) ∧ TabF F H p.1 p.2
section
variable {g : G} {F F' H H' : Hp} {a : Addr} {o : HO}
theorem Tbs.go (h : Tbs g F H) (sF : Same F F') (nF : ∀ p ∈ g.T, F' p.1 = none) (sH : ∀ p ∈ g.T, ∀ ps, H p.1 = some (.tbl ps) → H' p.1 = some (.tbl ps)) : Tbs g F' H' := fun p hp => by
  obtain ⟨_, h2, h3, ps, h4, h5, h6⟩ := h p hp
  refine ⟨nF p hp, h2, h3, ps, sH p hp ps h4, h5, fun pos cv e => ?_⟩
  obtain ⟨c, e1, e2⟩ := h6 pos cv e
  exact ⟨c, e1, sF _ _ e2⟩
theorem Tbs.tn (h : Tbs g F H) (h0 : g.H0 a = none) : ∀ p ∈ g.T, p.1 ≠ a := fun p hp z => (h p hp).2.1 (by rw [z]; exact h0)
theorem Tbs.tno (h : Tbs g F H) {i : Nat} (ao : g.H0 a = none ∨ (i, a) ∈ g.B) : ∀ p ∈ g.T, p.1 ≠ a := fun p hp z => by
  rcases ao with q | q
  · exact h.tn q p hp z
  · exact (h p hp).2.2.1 _ q z.symm
theorem Tbs.fresh (h : Tbs g F H) (hp : H a = none) : ∀ p ∈ g.T, p.1 ≠ a := fun p hm z => by
  obtain ⟨_, _, _, ps, h4, _⟩ := h p hm
  rw [z, hp] at h4
  cases h4
theorem Tbs.at (h : Tbs g F H) (n : ∀ p ∈ g.T, p.1 ≠ a) : Tbs g F (L2.upd H a o) := h.go (fun _ _ e => e) (fun p hp => (h p hp).1) fun p hp ps e => by rw [upd_ne (n p hp)]; exact e
theorem Tbs.atF (h : Tbs g F H) (n : ∀ p ∈ g.T, p.1 ≠ a) (hF : F a = none) : Tbs g (L2.upd F a o) H := h.go (fun b x e => by
  rw [upd_ne (ne_of_none e hF)]
  exact e) (fun p hp => by rw [upd_ne (n p hp)]; exact (h p hp).1) fun p hp ps e => e
theorem Tbs.atFH {u : HO} (h : Tbs g F H) (n : ∀ p ∈ g.T, p.1 ≠ a) (hF : F a = none) : Tbs g (L2.upd F a o) (L2.upd H a u) := (h.atF n hF).at n
theorem Tbs.up (h : Tbs g F H) (e : Same H H') : Tbs g F H' := h.go (fun _ _ e => e) (fun p hp => (h p hp).1) fun p hp ps z => e _ _ z
theorem Tbs.call (h : Tbs g F H) (s1 : Same F F') (s3 : Same H H') (fr : ∀ b o, F' b = some o → F b = none → H b = none) : Tbs g F' H' := h.go s1 (fun p hp => by
  cases z : F' p.1 with
  | none => rfl
  | some u =>
    obtain ⟨h1, _, _, ps, h4, _⟩ := h p hp
    rw [fr _ _ z h1] at h4
    cases h4) fun p hp ps z => s3 _ _ z
theorem Tbs.callA (h : Tbs g F H) (s1 : Same F F') (s3 : ∀ b o, H b = some o → b ≠ a → H' b = some o) (fr : ∀ b o, F' b = some o → F b = none → H b = none) (n : ∀ p ∈ g.T, p.1 ≠ a) : Tbs g F' H' := h.go s1 (fun p hp => by
  cases z : F' p.1 with
  | none => rfl
  | some u =>
    obtain ⟨h1, _, _, ps, h4, _⟩ := h p hp
    rw [fr _ _ z h1] at h4
    cases h4) fun p hp ps z => s3 _ _ z (n p hp)
end
structure Rel (K : PySem.W.Frag) (g : G) (F H : Hp) (s : St) (r : En) : Prop where
  sub : Same F H
  f0 : Same g.F0 F
  fnew : ∀ b o, F b = some o → g.F0 b = none → g.H0 b = none
  keep : ∀ b o, g.H0 b = some o → (∀ p ∈ g.B, p.2 ≠ b) → (∀ p ∈ g.T, p.1 ≠ b) → H b = some o
  slot : ∀ (i : Nat) (o : OV), r[i]? = some (some o) → ∃ v, s[i]? = some (some v) ∧ RO K g.w g.xc F H v o
  own : ∀ (i : Nat) (o : OV) (a : Addr), r[i]? = some (some o) → o.own = true → s[i]? = some (some (.ref a)) → g.H0 a = none ∨ (i, a) ∈ g.B
  dist : ∀ (i j : Nat) (o u : OV) (a : Addr), i ≠ j → r[i]? = some (some o) → o.own = true → r[j]? = some (some u) → u.own = true → s[i]? = some (some (.ref a)) → s[j]? = some (some (.ref a)) → False
  pin : ∀ p ∈ g.B, s[p.1]? = some (some (.ref p.2)) ∧ ∃ o, r[p.1]? = some (some o) ∧ o.own = true
  len : r.length = s.length
  tb : Tbs g F H
  ext : ∀ p ∈ g.X, H p.1 = some p.2 ∧ F p.1 = none ∧ ∀ (j : Nat) (o : OV), r[j]? = some (some o) → o.own = true → s[j]? ≠ some (some (.ref p.1))

/-- what is wanted of an error that is let out -/
def exW (K : PySem.W.Frag) (g : G) (x : Exn) (r : En) : Prop := match g.W with
  | none => False
  | some W => ∀ F' H' s' cls d, Rel K g F' H' s' r → RX K F' cls d x → W cls d s' H'
/-- what is wanted of a result -/
def post {α : Type} (K : PySem.W.Frag) (g : G) (P : α → En → Prop) : Rs α → Prop
  | .ok a r => P a r
  | .bad => False
  | .ex x r => exW K g x r
section
variable {K : PySem.W.Frag} {g : G}
theorem post_bind {α β : Type} {P : β → En → Prop} {x : Rs α} {k : α → En → Rs β} (h : post K g P (x.bind k)) : post K g (fun a r => post K g P (k a r)) x := by
  cases x with
  | ok a r => exact h
  | bad => exact h
  | ex x r => exact h
theorem post_map {α β : Type} {P : β → En → Prop} {x : Rs α} {f : α → β} (h : post K g P (x.map f)) : post K g (fun a r => P (f a) r) x := by
  cases x with
  | ok a r => exact h
  | bad => exact h
  | ex x r => exact h
theorem post_mono {α : Type} {P P' : α → En → Prop} {x : Rs α} (h : post K g P x) (i : ∀ a r, P a r → P' a r) : post K g P' x := by
  cases x with
  | ok a r => exact i a r h
  | bad => exact h
  | ex x r => exact h
theorem post_ofO {α : Type} {P : α → En → Prop} {o : Option α} {r : En} (h : post K g P (ofO o r)) : ∃ a, o = some a ∧ P a r := by
  cases o with
  | none => exact h.elim
  | some a => exact ⟨a, rfl, h⟩
/-- no error: then the wish does not matter -/
theorem post_noE {α : Type} {P : α → En → Prop} {x : Rs α} {g' : G} (h : post K g P x.noE) : post K g' P x := by
  cases x with
  | ok a r => exact h
  | bad => exact h
  | ex x r => exact h.elim
end

section
variable {K : PySem.W.Frag} {g : G} {F F' H H' : Hp} {s : St} {r : En}
theorem Rel.live (R : Rel K g F H s r) {b : Addr} (h : H b = none) : g.H0 b = none := by
  cases e : g.H0 b with
  | none => rfl
  | some o =>
    by_cases hb : ∀ p ∈ g.B, p.2 ≠ b
    · by_cases ht : ∀ p ∈ g.T, p.1 ≠ b
      · rw [R.keep b o e hb ht] at h; cases h
      · exact (ht (R.tb.fresh h)).elim
    · have : ∃ p ∈ g.B, p.2 = b := Classical.byContradiction fun hn => hb fun p hp q => hn ⟨p, hp, q⟩
      obtain ⟨p, hp, q⟩ := this
      obtain ⟨h1, o', h2, h3⟩ := R.pin p hp
      obtain ⟨v, h4, h5⟩ := R.slot _ _ h2
      rw [h1] at h4
      cases h4
      cases o' with
      | sh d => cases h3
      | ow xs =>
        obtain ⟨a, vs, e1, _, e2, _⟩ := h5
        cases e1
        rw [q, h] at e2; cases e2
      | od xs =>
        obtain ⟨a, vs, e1, _, e2, _⟩ := h5
        cases e1
        rw [q, h] at e2; cases e2
      | oi c xs =>
        obtain ⟨a, vs, e1, _, e2, _⟩ := h5
        cases e1
        rw [q, h] at e2; cases e2
      | th xs =>
        obtain ⟨a, vs, e1, _, e2, _⟩ := h5
        cases e1
        rw [q, h] at e2; cases e2
      | exc c => cases h3
theorem Rel.ff (R : Rel K g F H s r) {b : Addr} (h : H b = none) : F b = none := R.sub.free h
theorem RO.mono {w : World} {xc : Option (Addr × Value × Option Addr)} {v : V} {o : OV} (e : Same F F') (eh : ∀ a vs, v = .ref a → F a = none → H a = some vs → F' a = none ∧ H' a = some vs) (h : RO K w xc F H v o) : RO K w xc F' H' v o := by
  cases o with
  | sh d => exact RD.mono e d h
  | ow xs =>
    obtain ⟨a, vs, e1, e2, e3, e4⟩ := h
    obtain ⟨e5, e6⟩ := eh a _ e1 e2 e3
    exact ⟨a, vs, e1, e5, e6, RDs.mono e xs e4⟩
  | od xs =>
    obtain ⟨a, vs, e1, e2, e3, e4⟩ := h
    obtain ⟨e5, e6⟩ := eh a _ e1 e2 e3
    exact ⟨a, vs, e1, e5, e6, RDm.mono e xs e4⟩
  | oi c xs =>
    obtain ⟨a, vs, e1, e2, e3, e4⟩ := h
    obtain ⟨e5, e6⟩ := eh a _ e1 e2 e3
    exact ⟨a, vs, e1, e5, e6, RDi.mono e xs e4⟩
  | th xs =>
    obtain ⟨a, vs, e1, e2, e3, e4⟩ := h
    obtain ⟨e5, e6⟩ := eh a _ e1 e2 e3
    exact ⟨a, vs, e1, e5, e6, RT.mono e xs e4⟩
  | exc c => exact RE.mono e h
theorem same_upd {H : Hp} {p : Addr} {o : HO} (h : H p = none) : Same H (L2.upd H p o) := fun b x e => by
  rw [upd_ne (ne_of_none e h)]
  exact e
/-- a new object, frozen at once -/
theorem Rel.alloc (R : Rel K g F H s r) {p : Addr} {o : HO} (h : H p = none) : Rel K g (L2.upd F p o) (L2.upd H p o) s r := by
  have hF := R.ff h
  refine ⟨fun b u e => ?_, R.f0.trans (same_upd hF), fun b u e e0 => ?_, fun b u e hb ht => ?_, fun i u e => ?_, R.own, R.dist, R.pin, R.len, R.tb.atFH (R.tb.fresh h) hF, fun q hq => ?_⟩
  · by_cases hb : b = p
    · subst hb; rw [upd_same] at e ⊢; exact e
    · rw [upd_ne hb] at e ⊢; exact R.sub b u e
  · by_cases hb : b = p
    · subst hb; exact R.live h
    · rw [upd_ne hb] at e; exact R.fnew b u e e0
  · have q := R.keep b u e hb ht
    rw [upd_ne (ne_of_none q h)]; exact q
  · obtain ⟨v, h1, h2⟩ := R.slot i u e
    refine ⟨v, h1, h2.mono (same_upd hF) fun a vs e1 e2 e3 => ?_⟩
    have hn := ne_of_none e3 h
    rw [upd_ne hn, upd_ne hn]
    exact ⟨e2, e3⟩
  · obtain ⟨x1, x2, x3⟩ := R.ext q hq
    have hn := ne_of_none x1 h
    rw [upd_ne hn, upd_ne hn]
    exact ⟨x1, x2, x3⟩
/-- a new object, not frozen -/
theorem Rel.laid (R : Rel K g F H s r) {p : Addr} {o : HO} (h : H p = none) : Rel K g F (L2.upd H p o) s r := by
  refine ⟨R.sub.trans (same_upd h), R.f0, R.fnew, fun b u e hb ht => same_upd h b u (R.keep b u e hb ht), fun i u e => ?_, R.own, R.dist, R.pin, R.len, R.tb.at (R.tb.fresh h), fun q hq => ⟨same_upd h _ _ (R.ext q hq).1, (R.ext q hq).2⟩⟩
  obtain ⟨v, h1, h2⟩ := R.slot i u e
  exact ⟨v, h1, h2.mono (Same.refl F) fun a vs e1 e2 e3 => ⟨e2, same_upd h _ _ e3⟩⟩
end

/-- a value that an expression gives: an owned list is new and no slot's -/
def RV (K : PySem.W.Frag) (g : G) (F H : Hp) (s : St) (r : En) (v : V) : OV → Prop
  | .sh d => RD K F v d
  | .ow xs => ∃ a vs, v = .ref a ∧ F a = none ∧ H a = some (.lst vs) ∧ RDs K F vs xs ∧ g.H0 a = none ∧ (∀ (j : Nat) (o : OV), r[j]? = some (some o) → o.own = true → s[j]? ≠ some (some (.ref a))) ∧ ∀ p ∈ g.X, p.1 ≠ a
  | .od _ => False
  | .oi _ _ => False
  | .th _ => False
  | .exc _ => False

/-! ### readings by data -/
def PO (K : PySem.W.Frag) (g : G) (F : Hp) (s : St) (Q : VK) (o : OV) (r' : En) : Prop := ∀ F' H' v, Same F F' → Rel K g F' H' s r' → RV K g F' H' s r' v o → Q v H'
def PD (K : PySem.W.Frag) (g : G) (F : Hp) (s : St) (Q : VK) (d : D) (r' : En) : Prop := ∀ F' H' v, Same F F' → Rel K g F' H' s r' → RD K F' v d → Q v H'
def tO (K : PySem.W.Frag) (g : G) (f : En → Rs OV) : TE := fun s H Q => ∃ F r, Rel K g F H s r ∧ post K g (PO K g F s Q) (f r)
def tD (K : PySem.W.Frag) (g : G) (f : En → Rs D) : TE := fun s H Q => ∃ F r, Rel K g F H s r ∧ post K g (PD K g F s Q) (f r)
/-- the expression e computes f, by data -/
def DE (X : Cx) (g : G) (e : Expr) (f : En → Rs D) : Prop := PE X e (tD X.K g f)
def DO (X : Cx) (g : G) (e : Expr) (f : En → Rs OV) : Prop := PE X e (tO X.K g f)

theorem PE.imp {X : Cx} {e : Expr} {t t' : TE} (h : PE X e t) (i : ∀ s H Q, t' s H Q → t s H Q) : PE X e t' :=
  ⟨fun pins s σ H Q I q => h.run pins s σ H Q I (i σ H Q q)⟩
theorem PT.imp {X : Cx} {e : Expr} {t t' : TT} (h : PT X e t) (i : ∀ s H Q, t' s H Q → t s H Q) : PT X e t' :=
  ⟨fun pins s σ H Q I q => h.run pins s σ H Q I (i σ H Q q)⟩
theorem PS.imp {X : Cx} {e : Stmt} {t t' : TS} (h : PS X e t) (i : ∀ D s H, t' D s H → t D s H) : PS X e t' :=
  ⟨fun pins s σ H Q I q => h.run pins s σ H Q I (i Q σ H q)⟩
theorem PSs.imp {X : Cx} {e : List Stmt} {t t' : TS} (h : PSs X e t) (i : ∀ D s H, t' D s H → t D s H) : PSs X e t' :=
  ⟨fun pins s σ H Q I q => h.run pins s σ H Q I (i Q σ H q)⟩
theorem PI.imp {X : Cx} {tg e : Expr} {t t' : TI} (h : PI X tg e t) (i : ∀ s H R, t' s H R → t s H R) : PI X tg e t' :=
  ⟨fun pins s σ H Q I q => h.run pins s σ H Q I (i σ H Q q)⟩
theorem PA.imp {X : Cx} {e : List Expr} {t t' : TA} (h : PA X e t) (i : ∀ s H Q, t' s H Q → t s H Q) : PA X e t' :=
  ⟨fun pos pins s σ H Q I q => h.run pos pins s σ H Q I (i σ H Q q)⟩

section
variable {X : Cx} {g : G} {e a b : Expr} {pos : Pos}
/-- freeze what an expression gives -/
theorem RV.frz {K : PySem.W.Frag} {F H : Hp} {s : St} {r : En} {v : V} {o : OV} (R : Rel K g F H s r) (hv : RV K g F H s r v o) : ∃ F', Same F F' ∧ Rel K g F' H s r ∧ RD K F' v o.d := by
  cases o with
  | sh d => exact ⟨F, Same.refl _, R, hv⟩
  | ow xs =>
    obtain ⟨a, vs, rfl, e2, e3, e4, e5, e6, e7⟩ := hv
    have sF : Same F (L2.upd F a (.lst vs)) := same_upd e2
    refine ⟨L2.upd F a (.lst vs), sF, ⟨fun b u e => ?_, R.f0.trans sF, fun b u e e0 => ?_, R.keep, fun i u e => ?_, R.own, R.dist, R.pin, R.len, R.tb.atF (R.tb.tn e5) e2, fun q hq => ⟨(R.ext q hq).1, by rw [upd_ne (e7 q hq)]; exact (R.ext q hq).2.1, (R.ext q hq).2.2⟩⟩, .lst upd_same (RDs.mono sF xs e4)⟩
    · by_cases hb : b = a
      · subst hb; rw [L2.upd_same] at e; cases e; exact e3
      · rw [upd_ne hb] at e; exact R.sub b u e
    · by_cases hb : b = a
      · subst hb; exact e5
      · rw [upd_ne hb] at e; exact R.fnew b u e e0
    · obtain ⟨v, h1, h2⟩ := R.slot i u e
      refine ⟨v, h1, ?_⟩
      cases u with
      | sh d => exact RD.mono sF d h2
      | ow ys =>
        obtain ⟨b, ws, rfl, f2, f3, f4⟩ := h2
        have hb : b ≠ a := fun z => e6 i _ e rfl (by rw [h1, z])
        exact ⟨b, ws, rfl, by rw [upd_ne hb]; exact f2, f3, RDs.mono sF ys f4⟩
      | od ys =>
        obtain ⟨b, ws, rfl, f2, f3, f4⟩ := h2
        have hb : b ≠ a := fun z => e6 i _ e rfl (by rw [h1, z])
        exact ⟨b, ws, rfl, by rw [upd_ne hb]; exact f2, f3, RDm.mono sF ys f4⟩
      | oi c ys =>
        obtain ⟨b, ws, rfl, f2, f3, f4⟩ := h2
        have hb : b ≠ a := fun z => e6 i _ e rfl (by rw [h1, z])
        exact ⟨b, ws, rfl, by rw [upd_ne hb]; exact f2, f3, RDi.mono sF ys f4⟩
      | th ys =>
        obtain ⟨b, ws, rfl, f2, f3, f4⟩ := h2
        have hb : b ≠ a := fun z => e6 i _ e rfl (by rw [h1, z])
        exact ⟨b, ws, rfl, by rw [upd_ne hb]; exact f2, f3, RT.mono sF ys f4⟩
      | exc c => exact RE.mono sF h2
  | od xs => exact hv.elim
  | oi c xs => exact hv.elim
  | th xs => exact hv.elim
  | exc c => exact hv.elim
theorem DO.frz {f : En → Rs OV} (h : DO X g e f) : DE X g e (fun r => (f r).map OV.d) :=
  PE.imp h fun s H Q ⟨F, r, R, q⟩ => ⟨F, r, R, post_mono (post_map q) fun o r' q F' H' v sm R' hv => by
    obtain ⟨F2, s2, R2, h2⟩ := RV.frz R' hv
    exact q F2 H' v (sm.trans s2) R2 h2⟩
theorem DE.sh {f : En → Rs D} (h : DE X g e f) : DO X g e (fun r => (f r).map OV.sh) :=
  PE.imp h fun s H Q ⟨F, r, R, q⟩ => ⟨F, r, R, post_mono (post_map q) fun o r' q F' H' v sm R' hv => q F' H' v sm R' hv⟩

/-! ### constants and names -/
def cD (d : D) : En → Rs D := fun r => .ok d r
theorem de_int {i : Int} {j : Nat} : DE X g (.Constant (.int i) j pos) (cD (.int i)) :=
  PE.imp pe_int fun s H Q ⟨F, r, R, q⟩ => q F H _ (Same.refl _) R (.int i)
theorem de_bl {i : Bool} {j : Nat} : DE X g (.Constant (.bool i) j pos) (cD (.bl i)) :=
  PE.imp pe_bl fun s H Q ⟨F, r, R, q⟩ => q F H _ (Same.refl _) R (.bl i)
theorem de_str {i : Str} {j : Nat} : DE X g (.Constant (.str i) j pos) (cD (.str i)) :=
  PE.imp pe_str fun s H Q ⟨F, r, R, q⟩ => q F H _ (Same.refl _) R (.str i)
theorem de_non {j : Nat} : DE X g (.Constant .none j pos) (cD .non) :=
  PE.imp pe_non fun s H Q ⟨F, r, R, q⟩ => q F H _ (Same.refl _) R .non
/-- a name's value: what is owned is frozen (not a parameter by reference) -/
def vD (i : Nat) : En → Rs D := fun r =>
  match r[i]? with
  | some (some (.sh d)) => .ok d r
  | some (some (.ow xs)) => .ok (.lst xs) (r.set i (some (.sh (.lst xs))))
  | _ => .bad
theorem de_var (i : Nat) {x : Str} (hb : ∀ p ∈ g.B, p.1 ≠ i) (h : PE X (.Name x pos) (tVar i)) : DE X g (.Name x pos) (vD i) := by
  refine PE.imp h fun s H Q ⟨F, r, R, q⟩ => ?_
  unfold vD at q
  revert q
  cases e : r[i]? with
  | none => exact fun q => q.elim
  | some w =>
    cases w with
    | none => exact fun q => q.elim
    | some o =>
      obtain ⟨v, h1, h2⟩ := R.slot i o e
      cases o with
      | sh d => exact fun q => ⟨v, h1, q F H v (Same.refl _) R h2⟩
      | ow xs =>
        intro q
        obtain ⟨a, vs, rfl, e2, e3, e4⟩ := h2
        have sF : Same F (L2.upd F a (.lst vs)) := same_upd e2
        have hi : i < r.length := by
          have := (List.getElem?_eq_some_iff.mp e).1
          exact this
        have ne : ∀ j u, (r.set i (some (.sh (.lst xs))))[j]? = some (some u) → u.own = true → j ≠ i ∧ r[j]? = some (some u) := fun j u z zo => by
          by_cases hj : i = j
          · subst hj
            rw [List.getElem?_set_self hi] at z
            cases z
            cases zo
          · rw [List.getElem?_set_ne hj] at z
            exact ⟨fun z => hj z.symm, z⟩
        have h0 : g.H0 a = none := by
          rcases R.own i _ a e rfl h1 with z | z
          · exact z
          · exact absurd rfl (hb _ z)
        refine ⟨_, h1, q (L2.upd F a (.lst vs)) H (.ref a) sF ⟨fun b u e => ?_, R.f0.trans sF, fun b u e e0 => ?_, R.keep, fun j u z => ?_, fun j u b z zo => ?_, fun j k u w b hjk z zo y yo => ?_, fun p hp => ?_, ?_, R.tb.atF (R.tb.tn h0) e2, fun p hp => ?_⟩ (.lst upd_same (RDs.mono sF xs e4))⟩
        · by_cases hb : b = a
          · subst hb; rw [upd_same] at e; cases e; exact e3
          · rw [upd_ne hb] at e; exact R.sub b u e
        · by_cases hb : b = a
          · subst hb; exact h0
          · rw [upd_ne hb] at e; exact R.fnew b u e e0
        · by_cases hj : i = j
          · subst hj
            rw [List.getElem?_set_self hi] at z
            cases z
            exact ⟨_, h1, .lst upd_same (RDs.mono sF xs e4)⟩
          · rw [List.getElem?_set_ne hj] at z
            obtain ⟨w, g1, g2⟩ := R.slot j u z
            refine ⟨w, g1, ?_⟩
            cases u with
            | sh d => exact RD.mono sF d g2
            | ow ys =>
              obtain ⟨b, ws, rfl, f2, f3, f4⟩ := g2
              have hb : b ≠ a := fun zz => R.dist i j _ _ a hj e rfl z rfl h1 (by rw [g1, zz])
              exact ⟨b, ws, rfl, by rw [upd_ne hb]; exact f2, f3, RDs.mono sF ys f4⟩
            | od ys =>
              obtain ⟨b, ws, rfl, f2, f3, f4⟩ := g2
              have hb : b ≠ a := fun zz => R.dist i j _ _ a hj e rfl z rfl h1 (by rw [g1, zz])
              exact ⟨b, ws, rfl, by rw [upd_ne hb]; exact f2, f3, RDm.mono sF ys f4⟩
            | oi c ys =>
              obtain ⟨b, ws, rfl, f2, f3, f4⟩ := g2
              have hb : b ≠ a := fun zz => R.dist i j _ _ a hj e rfl z rfl h1 (by rw [g1, zz])
              exact ⟨b, ws, rfl, by rw [upd_ne hb]; exact f2, f3, RDi.mono sF ys f4⟩
            | th ys =>
              obtain ⟨b, ws, rfl, f2, f3, f4⟩ := g2
              have hb : b ≠ a := fun zz => R.dist i j _ _ a hj e rfl z rfl h1 (by rw [g1, zz])
              exact ⟨b, ws, rfl, by rw [upd_ne hb]; exact f2, f3, RT.mono sF ys f4⟩
            | exc c => exact RE.mono sF g2
        · obtain ⟨_, z'⟩ := ne j u z zo
          exact R.own j u b z' zo
        · obtain ⟨_, z'⟩ := ne j u z zo
          obtain ⟨_, y'⟩ := ne k w y yo
          exact R.dist j k u w b hjk z' zo y' yo
        · obtain ⟨p1, o, p2, p3⟩ := R.pin p hp
          refine ⟨p1, o, ?_, p3⟩
          rw [List.getElem?_set_ne fun z => hb p hp z.symm]
          exact p2
        · rw [List.length_set]; exact R.len
        · obtain ⟨x1, x2, x3⟩ := R.ext p hp
          refine ⟨x1, ?_, fun j u z zo => x3 j u (ne j u z zo).2 zo⟩
          have hn : p.1 ≠ a := fun zz => x3 i _ e rfl (by rw [h1, zz])
          rw [upd_ne hn]; exact x2
      | od xs => exact fun q => q.elim
      | oi c xs => exact fun q => q.elim
      | th xs => exact fun q => q.elim
      | exc c => exact fun q => q.elim
/-- a further object that stays -/
def G.more (g : G) (a : Addr) (o : HO) : G := { g with X := (a, o) :: g.X }
theorem Rel.more {K : PySem.W.Frag} {F H : Hp} {s : St} {r : En} {a : Addr} {o : HO} (R : Rel K g F H s r) (h1 : H a = some o) (h2 : F a = none) (h3 : ∀ (j : Nat) (o : OV), r[j]? = some (some o) → o.own = true → s[j]? ≠ some (some (.ref a))) : Rel K (g.more a o) F H s r :=
  ⟨R.sub, R.f0, R.fnew, R.keep, R.slot, R.own, R.dist, R.pin, R.len, R.tb, fun p hp => by
    rcases List.mem_cons.mp hp with e | hp
    · subst e; exact ⟨h1, h2, h3⟩
    · exact R.ext p hp⟩
theorem Rel.less {K : PySem.W.Frag} {F H : Hp} {s : St} {r : En} {a : Addr} {o : HO} (R : Rel K (g.more a o) F H s r) : Rel K g F H s r ∧ H a = some o ∧ F a = none ∧ ∀ (j : Nat) (o : OV), r[j]? = some (some o) → o.own = true → s[j]? ≠ some (some (.ref a)) :=
  ⟨⟨R.sub, R.f0, R.fnew, R.keep, R.slot, R.own, R.dist, R.pin, R.len, R.tb, fun p hp => R.ext p (List.mem_cons_of_mem _ hp)⟩, R.ext (a, o) (List.mem_cons_self ..)⟩
end
end DL

/-! Data layer, part 2: operands, operators, tests, displays, statements. -/
namespace DL
open PySem L2

/-! ### operands: an expression, or a name that is only looked at -/
inductive Opd where
  | ex (f : En → Rs D)
  | va (i : Nat)
/-- is the slot filled -/
def fill (r : En) (i : Nat) : Rs Unit :=
  match r[i]? with
  | some (some _) => .ok () r
  | _ => .bad
theorem post_fill {K : PySem.W.Frag} {g : G} {P : Unit → En → Prop} {r : En} {i : Nat} (h : post K g P (fill r i)) : (∃ o, r[i]? = some (some o)) ∧ P () r := by
  unfold fill at h
  split at h
  · next o e => exact ⟨⟨o, e⟩, h⟩
  · exact h.elim
def Opd.run : Opd → En → Rs (Sum D Nat)
  | .ex f, r => (f r).map Sum.inl
  | .va i, r => (fill r i).bind fun _ r => .ok (.inr i) r
def lookV (r : En) (i : Nat) : Option OV :=
  match r[i]? with
  | some (some (.sh d)) => some (.sh d)
  | some (some (.ow xs)) => some (.ow xs)
  | _ => none
theorem lookV_some {r : En} {i : Nat} {o : OV} (h : lookV r i = some o) : r[i]? = some (some o) := by
  unfold lookV at h
  split at h
  · next x e => rw [e, h]
  · next x e => rw [e, h]
  · cases h
theorem lookV_noi {r : En} {i : Nat} {c : Str} {kvs : List (Str × D)} (h : lookV r i = some (.oi c kvs)) : False := by
  unfold lookV at h
  split at h
  · cases h
  · cases h
  · cases h
theorem lookV_noth {r : En} {i : Nat} {t : Tg} (h : lookV r i = some (.th t)) : False := by
  unfold lookV at h
  split at h
  · cases h
  · cases h
  · cases h
theorem lookV_nox {r : En} {i : Nat} {x : Exn} (h : lookV r i = some (.exc x)) : False := by
  unfold lookV at h
  split at h
  · cases h
  · cases h
  · cases h
theorem lookV_nod {r : En} {i : Nat} {kvs : List (D × D)} (h : lookV r i = some (.od kvs)) : False := by
  unfold lookV at h
  split at h
  · cases h
  · cases h
  · cases h
def look (r : En) : Sum D Nat → Option D
  | .inl d => some d
  | .inr i => (lookV r i).map OV.d
/-- read as data: frozen, or a list whose items are frozen -/
def RB (K : PySem.W.Frag) (F H : Hp) (v : V) (d : D) : Prop :=
  RD K F v d ∨ ∃ a vs xs, v = .ref a ∧ d = .lst xs ∧ H a = some (.lst vs) ∧ RDs K F vs xs
def OpdOk (K : PySem.W.Frag) (F : Hp) (s : St) (v : V) : Sum D Nat → Prop
  | .inl d => RD K F v d
  | .inr i => s[i]? = some (some v)
def PB (K : PySem.W.Frag) (g : G) (F : Hp) (s : St) (Q : VK) (z : Sum D Nat) (r' : En) : Prop := ∀ F' H' v, Same F F' → Rel K g F' H' s r' → OpdOk K F' s v z → Q v H'
def tB (K : PySem.W.Frag) (g : G) (p : Opd) : TE := fun s H Q => ∃ F r, Rel K g F H s r ∧ post K g (PB K g F s Q) (p.run r)
def DB (X : Cx) (g : G) (e : Expr) (p : Opd) : Prop := PE X e (tB X.K g p)

section
variable {K : PySem.W.Frag} {g : G} {F F' H H' : Hp} {s : St} {r : En} {v : V} {d : D}
theorem RB.rd (sub : Same F H) (h : RB K F H v d) : RD K H v d := by
  rcases h with h | ⟨a, vs, xs, rfl, rfl, h1, h2⟩
  · exact RD.mono sub d h
  · exact .lst h1 (RDs.mono sub xs h2)
theorem RB.lst {ds : List D} (sub : Same F H) (h : RB K F H v (.lst ds)) : ∃ a vs, v = .ref a ∧ H a = some (.lst vs) ∧ RDs K F vs ds := by
  rcases h with h | ⟨a, vs, xs, rfl, e, h1, h2⟩
  · cases h with
    | lst h1 h2 => exact ⟨_, _, rfl, sub _ _ h1, h2⟩
  · cases e
    exact ⟨a, vs, rfl, h1, h2⟩
theorem RB.flat (h : RB K F H v d) (hd : ∀ xs, d ≠ .lst xs) : RD K F v d := by
  rcases h with h | ⟨a, vs, xs, rfl, e, h1, h2⟩
  · exact h
  · exact absurd e (hd xs)
theorem look_ok {z : Sum D Nat} (R : Rel K g F H s r) (h : OpdOk K F s v z) (e : look r z = some d) : RB K F H v d := by
  cases z with
  | inl x => cases e; exact .inl h
  | inr i =>
    obtain ⟨o, q, rfl⟩ := Option.map_eq_some_iff.mp e
    obtain ⟨w, h1, h2⟩ := R.slot i o (lookV_some q)
    have hv : s[i]? = some (some v) := h
    rw [hv] at h1
    cases h1
    cases o with
    | sh d => exact .inl h2
    | ow xs =>
      obtain ⟨a, vs, e1, _, e3, e4⟩ := h2
      exact .inr ⟨a, vs, xs, e1, rfl, e3, e4⟩
    | od xs => exact (lookV_nod q).elim
    | oi c xs => exact (lookV_noi q).elim
    | th xs => exact (lookV_noth q).elim
    | exc c => exact (lookV_nox q).elim
theorem OpdOk.mono {z : Sum D Nat} (e : Same F F') (h : OpdOk K F s v z) : OpdOk K F' s v z := by
  cases z with
  | inl x => exact RD.mono e x h
  | inr i => exact h
end

section
variable {X : Cx} {g : G} {e a b c : Expr} {pos : Pos} {p q : Opd}
theorem DE.opd {f : En → Rs D} (h : DE X g e f) : DB X g e (.ex f) := PE.imp h fun s H Q ⟨F, r, R, q⟩ => ⟨F, r, R, post_map (f := Sum.inl) q⟩
theorem db_var (i : Nat) {x : Str} (h : PE X (.Name x pos) (tVar i)) : DB X g (.Name x pos) (.va i) :=
  PE.imp h fun s H Q ⟨F, r, R, q⟩ => by
    obtain ⟨⟨o, e⟩, q⟩ := post_fill (post_bind q)
    obtain ⟨v, h1, h2⟩ := R.slot i o e
    exact ⟨v, h1, q F H v (Same.refl _) R h1⟩

/-! ### operators -/
def op1 (p : Opd) (sem : D → Option D) : En → Rs D := fun r => (p.run r).bind fun x r1 => ofO ((look r1 x).bind sem) r1
def op2 (p q : Opd) (sem : D → D → Option D) : En → Rs D := fun r => (p.run r).bind fun x r1 => (q.run r1).bind fun y r2 => ofO ((look r2 x).bind fun dx => (look r2 y).bind fun dy => sem dx dy) r2
def rD2 (K : PySem.W.Frag) (g : G) (sem : D → D → Option D) : R2 := fun x y H Q => ∃ F s r dx dy d, Rel K g F H s r ∧ RB K F H x dx ∧ RB K F H y dy ∧ sem dx dy = some d ∧ PD K g F s Q d r

theorem tD_op2 {K : PySem.W.Frag} {sem : D → D → Option D} {s : St} {H : Hp} {Q : VK} (h : tD K g (op2 p q sem) s H Q) :
    tB K g p s H fun x H1 => tB K g q s H1 fun y H2 => rD2 K g sem x y H2 Q := by
  obtain ⟨F, r, R, h⟩ := h
  refine ⟨F, r, R, post_mono (post_bind h) fun z r1 q1 F1 H1 v sm R1 hv => ⟨F1, r1, R1, post_mono (post_bind q1) fun y r2 q2 F2 H2 w s2 R2 hw => ?_⟩⟩
  obtain ⟨d, e, q2⟩ := post_ofO q2
  obtain ⟨dx, e1, e⟩ := Option.bind_eq_some_iff.mp e
  obtain ⟨dy, e2, e3⟩ := Option.bind_eq_some_iff.mp e
  exact ⟨F2, s, r2, dx, dy, d, R2, look_ok R2 (hv.mono s2) e1, look_ok R2 hw e2, e3, fun F3 H3 v3 s3 R3 h3 => q2 F3 H3 v3 ((sm.trans s2).trans s3) R3 h3⟩
theorem de_op {op : Operator} {sem : D → D → Option D} (ho : OpR X (binaryOp op) (rD2 X.K g sem)) (ha : DB X g a p) (hb : DB X g b q) : DE X g (.BinOp a op b pos) (op2 p q sem) :=
  PE.imp (pe_op ho ha hb) fun s H Q h => tD_op2 h
theorem de_cmp {op : CmpOp} {sem : D → D → Option D} (ho : OpR X (compareOp op) (rD2 X.K g sem)) (ha : DB X g a p) (hb : DB X g b q) (hm : behindInMarks op b = false) : DE X g (.Compare a [op] [b] pos) (op2 p q sem) :=
  PE.imp (pe_cmpR ho ha hb hm) fun s H Q h => tD_op2 h
theorem de_ix {sem : D → D → Option D} (ho : IxR X (rD2 X.K g sem)) (ha : DB X g a p) (hb : DB X g b q) (hs : PlainIx b) : DE X g (.Subscript a b pos) (op2 p q sem) :=
  PE.imp (pe_ix ho ha hb hs) fun s H Q h => tD_op2 h

/-! ### tests -/
def PT' (K : PySem.W.Frag) (g : G) (F : Hp) (s : St) (Q : Bool → Hp → Prop) (b : Bool) (r' : En) : Prop := ∀ F' H', Same F F' → Rel K g F' H' s r' → Q b H'
def tTD (K : PySem.W.Frag) (g : G) (f : En → Rs Bool) : TT := fun s H Q => ∃ F r, Rel K g F H s r ∧ post K g (PT' K g F s Q) (f r)
def DT (X : Cx) (g : G) (e : Expr) (f : En → Rs Bool) : Prop := PT X e (tTD X.K g f)
def D.asB : D → Option Bool
  | .bl b => some b
  | _ => none
def toB (f : En → Rs D) : En → Rs Bool := fun r => (f r).bind fun d r1 => ofO d.asB r1
theorem asB_some {d : D} {b : Bool} (h : d.asB = some b) : d = .bl b := by
  cases d <;> first | (cases h; rfl) | cases h
/-- a comparison as a test -/
theorem dt_cmp {op : CmpOp} {sem : D → D → Option D} (ho : OpR X (compareOp op) (rD2 X.K g sem)) (ha : DB X g a p) (hb : DB X g b q) (hm : behindInMarks op b = false) : DT X g (.Compare a [op] [b] pos) (toB (op2 p q sem)) :=
  PT.imp (pt_cmpR ho ha hb hm) fun s H Q ⟨F, r, R, h⟩ => by
    refine tD_op2 ⟨F, r, R, post_mono (post_bind h) fun d r1 q F1 H1 v sm R1 hv => ?_⟩
    obtain ⟨b, e, q⟩ := post_ofO q
    have e := asB_some e
    subst e
    cases hv
    exact ⟨b, rfl, q F1 H1 sm R1⟩
/-- a plain bool expression as a test -/
theorem dt_val {f : En → Rs D} (h : DE X g e f) (he : ∀ whole, isTrue e X.env whole = (do let v ← whole; standAt e.pos; holding [v] (truthy v)) := by intro _; rfl) : DT X g e (toB f) :=
  PT.imp (pt_val h he) fun s H Q ⟨F, r, R, h⟩ => by
    refine ⟨F, r, R, post_mono (post_bind h) fun d r1 q F1 H1 v sm R1 hv => ?_⟩
    obtain ⟨b, e, q⟩ := post_ofO q
    have e := asB_some e
    subst e
    cases hv
    exact ⟨b, rfl, q F1 H1 sm R1⟩
def notT (f : En → Rs Bool) : En → Rs Bool := fun r => (f r).map (!·)
theorem dt_not {f : En → Rs Bool} (h : DT X g a f) : DT X g (.UnaryOp .Not a pos) (notT f) :=
  PT.imp (pt_not h) fun s H Q ⟨F, r, R, h⟩ => ⟨F, r, R, post_mono (post_map (f := fun b : Bool => !b) h) fun c r1 q => q⟩
/-- and, or as tests -/
def DW (X : Cx) (g : G) (e : Expr) (f : En → Rs Bool) : Prop := PW X e (tTD X.K g f)
def andT (f h : En → Rs Bool) : En → Rs Bool := fun r => (f r).bind fun b r1 => if b = true then h r1 else .ok false r1
def orT (f h : En → Rs Bool) : En → Rs Bool := fun r => (f r).bind fun b r1 => if b = true then .ok true r1 else h r1
theorem PW.imp {X : Cx} {e : Expr} {t t' : TT} (h : PW X e t) (i : ∀ s H Q, t' s H Q → t s H Q) : PW X e t' :=
  ⟨fun wh pins s σ H Q I q => h.run wh pins s σ H Q I (i σ H Q q)⟩
theorem dw_or1 {f : En → Rs Bool} (h : DT X g a f) : DW X g (.BoolOp .Or [a] pos) f := pw_or1 h
theorem dw_or {f h : En → Rs Bool} {rest : List Expr} (hf : DT X g a f) (hh : DW X g (.BoolOp .Or (b :: rest) pos) h) : DW X g (.BoolOp .Or (a :: b :: rest) pos) (orT f h) :=
  PW.imp (pw_or hf hh) fun s H Q ⟨F, r, R, q⟩ => ⟨F, r, R, post_mono (post_bind q) fun c r1 q F1 H1 sm R1 => by
    cases c with
    | false => exact ⟨F1, r1, R1, post_mono q fun c r2 q F2 H2 s2 R2 => q F2 H2 (sm.trans s2) R2⟩
    | true => exact q F1 H1 sm R1⟩
theorem DW.dt {f : En → Rs Bool} (h : DW X g e f) : DT X g e f := PW.pt h

/-! ### and, or, not, if as values; truth -/
def andD (f h : En → Rs D) : En → Rs D := fun r => (f r).bind fun d r1 => (ofO d.asB r1).bind fun c r1 => if c = true then h r1 else .ok (.bl false) r1
def orD (f h : En → Rs D) : En → Rs D := fun r => (f r).bind fun d r1 => (ofO d.asB r1).bind fun c r1 => if c = true then .ok (.bl true) r1 else h r1
theorem de_one {op : BoolOp} {f : En → Rs D} (h : DE X g a f) : DE X g (.BoolOp op [a] pos) f := pe_one h
theorem de_and {f h : En → Rs D} {rest : List Expr} (hf : DE X g a f) (hh : DE X g (.BoolOp .And (b :: rest) pos) h) : DE X g (.BoolOp .And (a :: b :: rest) pos) (andD f h) :=
  PE.imp (pe_and hf hh) fun s H Q ⟨F, r, R, q⟩ => ⟨F, r, R, post_mono (post_bind q) fun d r1 q F1 H1 v sm R1 hv => by
    obtain ⟨c, e, q⟩ := post_ofO (post_bind q)
    have e := asB_some e
    subst e
    cases hv
    refine ⟨c, rfl, ?_⟩
    cases c with
    | true => exact ⟨F1, r1, R1, post_mono q fun c r2 q F2 H2 v s2 R2 hv => q F2 H2 v (sm.trans s2) R2 hv⟩
    | false => exact q F1 H1 _ sm R1 (.bl false)⟩
def notD (f : En → Rs D) : En → Rs D := fun r => (f r).bind fun d r1 => (ofO d.asB r1).map fun c => .bl (!c)
def ifD {α : Type} (c : En → Rs Bool) (f h : En → Rs α) : En → Rs α := fun r => (c r).bind fun b r1 => if b = true then f r1 else h r1
theorem de_if {t : En → Rs Bool} {f h : En → Rs D} (hc : DT X g c t) (hf : DE X g a f) (hh : DE X g b h) : DE X g (.IfExp c a b pos) (ifD t f h) :=
  PE.imp (pe_ifExp hc hf hh) fun s H Q ⟨F, r, R, q⟩ => ⟨F, r, R, post_mono (post_bind q) fun c r1 q F1 H1 sm R1 => by
    cases c with
    | true => exact ⟨F1, r1, R1, post_mono q fun c r2 q F2 H2 v s2 R2 hv => q F2 H2 v (sm.trans s2) R2 hv⟩
    | false => exact ⟨F1, r1, R1, post_mono q fun c r2 q F2 H2 v s2 R2 hv => q F2 H2 v (sm.trans s2) R2 hv⟩⟩
/-! ### argument lists of data; displays -/
def evs : List (En → Rs D) → En → Rs (List D)
  | [], r => .ok [] r
  | f :: fs, r => (f r).bind fun d r1 => (evs fs r1).bind fun ds r2 => .ok (d :: ds) r2
def PA' (K : PySem.W.Frag) (g : G) (F : Hp) (s : St) (Q : List V → Hp → Prop) (ds : List D) (r' : En) : Prop := ∀ F' H' vs, Same F F' → Rel K g F' H' s r' → RDs K F' vs ds → Q vs H'
def tAD (K : PySem.W.Frag) (g : G) (f : En → Rs (List D)) : TA := fun s H Q => ∃ F r, Rel K g F H s r ∧ post K g (PA' K g F s Q) (f r)
def DA (X : Cx) (g : G) (es : List Expr) (fs : List (En → Rs D)) : Prop := PA X es (tAD X.K g (evs fs))
theorem da_nil : DA X g [] [] := PA.imp pa_nil fun s H Q ⟨F, r, R, q⟩ => q F H [] (Same.refl _) R .nil
theorem da_cons {es : List Expr} {f : En → Rs D} {fs : List (En → Rs D)} (h : DE X g e f) (hs : DA X g es fs) (hst : starEach (e :: es) X.env = (false, eval e X.env) :: starEach es X.env := by rfl) : DA X g (e :: es) (f :: fs) :=
  PA.imp (pa_cons h hs hst) fun s H Q ⟨F, r, R, q⟩ => ⟨F, r, R, post_mono (post_bind q) fun d r1 q F1 H1 v sm R1 hv => ⟨F1, r1, R1, post_mono (post_bind q) fun ds r2 q F2 H2 vs s2 R2 hvs =>
    q F2 H2 (v :: vs) (sm.trans s2) R2 (.cons (RD.mono s2 d hv) hvs)⟩⟩
def tupD (fs : List (En → Rs D)) : En → Rs D := fun r => (evs fs r).bind fun ds r1 => if ds.length ≤ 1000 then .ok (.tup ds) r1 else .bad
def lstD (fs : List (En → Rs D)) : En → Rs OV := fun r => (evs fs r).bind fun ds r1 => if ds.length ≤ 1000 then .ok (.ow ds) r1 else .bad
theorem le_line {n : Nat} (h : n ≤ 1000) : n ≤ sizeLine := Nat.le_of_lt (small1000 h)
theorem post_if {K : PySem.W.Frag} {g : G} {α : Type} {P : α → En → Prop} {c : Prop} [Decidable c] {x : Rs α} (h : post K g P (if c then x else .bad)) : c ∧ post K g P x := by
  by_cases hc : c
  · rw [if_pos hc] at h; exact ⟨hc, h⟩
  · rw [if_neg hc] at h; exact h.elim
theorem de_tup {es : List Expr} {fs : List (En → Rs D)} {k : Nat} (h : DA X g es fs) : DE X g (.Tuple es k pos) (tupD fs) :=
  PE.imp (pe_tup h) fun s H Q ⟨F, r, R, q⟩ => ⟨F, r, R, post_mono (post_bind q) fun ds r1 q F1 H1 vs sm R1 hvs => by
    obtain ⟨hl, q⟩ := post_if q
    refine ⟨le_line (by rw [hvs.length]; exact hl), fun p np => ?_⟩
    have sF := same_upd (o := .tup vs) (R1.ff np)
    exact q _ _ _ (sm.trans sF) (R1.alloc np) (.tup (.of upd_same) (RDs.mono sF ds hvs))⟩
/-- a list just made is nobody's -/
theorem RV.new {K : PySem.W.Frag} {F H : Hp} {s : St} {r : En} {p : Addr} {vs : List V} {ds : List D} (R : Rel K g F H s r) (np : H p = none) (hvs : RDs K F vs ds) : RV K g F (L2.upd H p (.lst vs)) s r (.ref p) (.ow ds) := by
  refine ⟨p, vs, rfl, R.ff np, upd_same, hvs, R.live np, fun j o e eo z => ?_, fun q hq z => by have := (R.ext q hq).1; rw [z, np] at this; cases this⟩
  obtain ⟨v, h1, h2⟩ := R.slot j o e
  rw [z] at h1
  cases h1
  cases o with
  | sh d => cases eo
  | ow xs =>
    obtain ⟨a, ws, e1, _, e3, _⟩ := h2
    cases e1
    rw [np] at e3; cases e3
  | od xs =>
    obtain ⟨a, ws, e1, _, e3, _⟩ := h2
    cases e1
    rw [np] at e3; cases e3
  | oi c xs =>
    obtain ⟨a, ws, e1, _, e3, _⟩ := h2
    cases e1
    rw [np] at e3; cases e3
  | th xs =>
    obtain ⟨a, ws, e1, _, e3, _⟩ := h2
    cases e1
    rw [np] at e3; cases e3
  | exc c => cases eo
theorem do_lst {es : List Expr} {fs : List (En → Rs D)} (h : DA X g es fs) : DO X g (.List es pos) (lstD fs) :=
  PE.imp (pe_lst h) fun s H Q ⟨F, r, R, q⟩ => ⟨F, r, R, post_mono (post_bind q) fun ds r1 q F1 H1 vs sm R1 hvs => by
    obtain ⟨hl, q⟩ := post_if q
    refine ⟨le_line (by rw [hvs.length]; exact hl), fun p np => ?_⟩
    exact q _ _ _ sm (R1.laid np) (RV.new R1 np hvs)⟩
end
end DL

/-! Data layer, part 3: statements, targets, what is walked, loops, comprehensions. -/
namespace DL
open PySem L2

inductive SRs where
  | nx (r : En)
  | rt (o : OV) (r : En)
  | bk (r : En)
  | ct (r : En)
  | bad
  | ex (x : Exn) (r : En)
def SPost (K : PySem.W.Frag) (g : G) (F : Hp) (E : Ends) : SRs → Prop
  | .nx r' => ∀ F' H' s', Same F F' → Rel K g F' H' s' r' → E.nx s' H'
  | .rt o r' => ∀ F' H' s' v, Same F F' → Rel K g F' H' s' r' → RV K g F' H' s' r' v o → E.rt v H'
  | .bk r' => ∀ F' H' s', Same F F' → Rel K g F' H' s' r' → E.bk s' H'
  | .ct r' => ∀ F' H' s', Same F F' → Rel K g F' H' s' r' → E.ct s' H'
  | .bad => False
  | .ex x r' => exW K g x r'
def tSD (K : PySem.W.Frag) (g : G) (f : En → SRs) : TS := fun E s H => ∃ F r, Rel K g F H s r ∧ SPost K g F E (f r)
def DS (X : Cx) (g : G) (st : Stmt) (f : En → SRs) : Prop := PS X st (tSD X.K g f)
def DSs (X : Cx) (g : G) (st : List Stmt) (f : En → SRs) : Prop := PSs X st (tSD X.K g f)

theorem SPost.mono {K : PySem.W.Frag} {g : G} {F F' : Hp} {E : Ends} {x : SRs} (h : SPost K g F E x) (e : Same F F') : SPost K g F' E x := by
  cases x with
  | nx r => exact fun F2 H2 s2 e2 R2 => h F2 H2 s2 (e.trans e2) R2
  | rt o r => exact fun F2 H2 s2 v e2 R2 => h F2 H2 s2 v (e.trans e2) R2
  | bk r => exact fun F2 H2 s2 e2 R2 => h F2 H2 s2 (e.trans e2) R2
  | ct r => exact fun F2 H2 s2 e2 R2 => h F2 H2 s2 (e.trans e2) R2
  | bad => exact h
  | ex x r => exact h

def seqS (f h : En → SRs) : En → SRs := fun r => match f r with
  | .nx r1 => h r1
  | x => x
def nxS : En → SRs := fun r => .nx r
/-- a result that goes on -/
def thenS {α : Type} (x : Rs α) (k : α → En → SRs) : SRs := match x with
  | .ok a r => k a r
  | .bad => .bad
  | .ex x r => .ex x r
theorem post_then {α : Type} {K : PySem.W.Frag} {g : G} {F : Hp} {E : Ends} {x : Rs α} {k : α → En → SRs} (h : SPost K g F E (thenS x k)) : post K g (fun a r => SPost K g F E (k a r)) x := by
  cases x with
  | ok a r => exact h
  | bad => exact h
  | ex x r => exact h

section
variable {X : Cx} {g : G} {e a b c : Expr} {pos : Pos} {st : Stmt} {sts : List Stmt}
theorem ds_nil : DSs X g [] nxS := PSs.imp pss_nil fun E s H ⟨F, r, R, q⟩ => q F H s (Same.refl _) R
theorem ds_cons {f h : En → SRs} (h1 : DS X g st f) (h2 : DSs X g sts h) : DSs X g (st :: sts) (seqS f h) :=
  PSs.imp (pss_cons h1 h2) fun E s H ⟨F, r, R, q⟩ => by
    refine ⟨F, r, R, ?_⟩
    unfold seqS at q
    revert q
    cases f r with
    | nx r1 => exact fun q F1 H1 s1 sm R1 => ⟨F1, r1, R1, q.mono sm⟩
    | rt o r1 => exact fun q => q
    | bk r1 => exact fun q => q
    | ct r1 => exact fun q => q
    | bad => exact fun q => q
    | ex x r1 => exact fun q => q
theorem ds_one {f : En → SRs} (h1 : DS X g st f) : DSs X g [st] f := pss_one h1
def bkS : En → SRs := fun r => .bk r
def ctS : En → SRs := fun r => .ct r
def rtS (f : En → Rs OV) : En → SRs := fun r => thenS (f r) fun o r1 => .rt o r1
theorem ds_ret {f : En → Rs OV} (h : DO X g e f) : DS X g (.Return (some e) pos) (rtS f) :=
  PS.imp (ps_ret h) fun E s H ⟨F, r, R, q⟩ => ⟨F, r, R, post_mono (post_then q) fun o r1 q F1 H1 v sm R1 hv => q F1 H1 s v sm R1 hv⟩
def rtN : En → SRs := fun r => .rt (.sh .non) r
def ifS (t : En → Rs Bool) (f h : En → SRs) : En → SRs := fun r => thenS (t r) fun b r1 => if b = true then f r1 else h r1
theorem ds_if {t : En → Rs Bool} {f h : En → SRs} {sa sb : List Stmt} (hc : DT X g c t) (hf : DSs X g sa f) (hh : DSs X g sb h) : DS X g (.If c sa sb pos) (ifS t f h) :=
  PS.imp (ps_if hc hf hh) fun E s H ⟨F, r, R, q⟩ => ⟨F, r, R, post_mono (post_then q) fun b r1 q F1 H1 sm R1 => by
    cases b with
    | true => exact ⟨F1, r1, R1, q.mono sm⟩
    | false => exact ⟨F1, r1, R1, q.mono sm⟩⟩
/-- an expression whose value is dropped -/
def exS (f : En → Rs D) : En → SRs := fun r => thenS (f r) fun _ r1 => .nx r1
/-! ### stores -/
/-- a slot gets a value -/
theorem Rel.set {K : PySem.W.Frag} {F H : Hp} {s : St} {r : En} {i : Nat} {v : V} {o : OV} (R : Rel K g F H s r) (hb : ∀ p ∈ g.B, p.1 ≠ i) (hv : RV K g F H s r v o) : Rel K g F H (s.set i (some v)) (r.set i (some o)) := by
  have hl := R.len
  have cs : ∀ (j : Nat) (u : OV), (r.set i (some o))[j]? = some (some u) → (j = i ∧ u = o ∧ (s.set i (some v))[j]? = some (some v)) ∨ (j ≠ i ∧ r[j]? = some (some u) ∧ (s.set i (some v))[j]? = s[j]?) := fun j u z => by
    by_cases hj : i = j
    · subst hj
      have hi : i < r.length := by
        have := (List.getElem?_eq_some_iff.mp z).1
        rw [List.length_set] at this
        exact this
      rw [List.getElem?_set_self hi] at z
      cases z
      exact .inl ⟨rfl, rfl, List.getElem?_set_self (by rw [← hl]; exact hi)⟩
    · rw [List.getElem?_set_ne hj] at z
      exact .inr ⟨fun z => hj z.symm, z, List.getElem?_set_ne hj⟩
  refine ⟨R.sub, R.f0, R.fnew, R.keep, fun j u z => ?_, fun j u a z zo za => ?_, fun j k u w a hjk z zo y yo za ya => ?_, fun p hp => ?_, by rw [List.length_set, List.length_set]; exact hl, R.tb, fun p hp => ?_⟩
  · rcases cs j u z with ⟨rfl, rfl, e⟩ | ⟨hj, z', e⟩
    · refine ⟨v, e, ?_⟩
      cases u with
      | sh d => exact hv
      | ow xs =>
        obtain ⟨a, vs, e1, e2, e3, e4, _⟩ := hv
        exact ⟨a, vs, e1, e2, e3, e4⟩
      | od xs => exact hv.elim
      | oi c xs => exact hv.elim
      | th xs => exact hv.elim
      | exc c => exact hv.elim
    · rw [e]; exact R.slot j u z'
  · rcases cs j u z with ⟨rfl, rfl, e⟩ | ⟨hj, z', e⟩
    · rw [e] at za
      cases za
      cases u with
      | sh d => cases zo
      | ow xs =>
        obtain ⟨b, vs, e1, e2, e3, e4, e5, _⟩ := hv
        cases e1
        exact .inl e5
      | od xs => exact hv.elim
      | oi c xs => exact hv.elim
      | th xs => exact hv.elim
      | exc c => exact hv.elim
    · rw [e] at za; exact R.own j u a z' zo za
  · have key : ∀ (k : Nat) (w : OV), r[k]? = some (some w) → w.own = true → s[k]? = some (some (.ref a)) → v = .ref a → o.own = true → False := fun k2 w2 y2 yo2 ya2 hva ho => by
      cases o with
      | sh d => cases ho
      | ow xs =>
        obtain ⟨b, vs, e1, e2, e3, e4, e5, e6, e7⟩ := hv
        rw [hva] at e1
        cases e1
        exact e6 k2 w2 y2 yo2 ya2
      | od xs => exact hv.elim
      | oi c xs => exact hv.elim
      | th xs => exact hv.elim
      | exc c => exact hv.elim
    rcases cs j u z with ⟨ej, eu, e⟩ | ⟨hj, z', e⟩
    · rcases cs k w y with ⟨ek, _, _⟩ | ⟨hk, y', e'⟩
      · exact hjk (ej.trans ek.symm)
      · rw [e] at za
        rw [e'] at ya
        exact key k w y' yo ya (by cases za; rfl) (by rw [← eu]; exact zo)
    · rcases cs k w y with ⟨ek, ew, e'⟩ | ⟨hk, y', e'⟩
      · rw [e'] at ya
        rw [e] at za
        exact key j u z' zo za (by cases ya; rfl) (by rw [← ew]; exact yo)
      · rw [e] at za
        rw [e'] at ya
        exact R.dist j k u w a hjk z' zo y' yo za ya
  · obtain ⟨p1, u, p2, p3⟩ := R.pin p hp
    have h := hb p hp
    exact ⟨by rw [List.getElem?_set_ne fun z => h z.symm]; exact p1, u, by rw [List.getElem?_set_ne fun z => h z.symm]; exact p2, p3⟩
  · obtain ⟨x1, x2, x3⟩ := R.ext p hp
    refine ⟨x1, x2, fun j u z zo za => ?_⟩
    rcases cs j u z with ⟨rfl, rfl, e⟩ | ⟨hj, z', e⟩
    · rw [e] at za
      cases u with
      | sh d => cases zo
      | ow xs =>
        obtain ⟨b, vs, e1, e2, e3, e4, e5, e6, e7⟩ := hv
        cases za
        cases e1
        exact e7 p hp rfl
      | od xs => exact hv.elim
      | oi c xs => exact hv.elim
      | th xs => exact hv.elim
      | exc c => exact hv.elim
    · rw [e] at za; exact x3 j u z' zo za
def setS (i : Nat) (f : En → Rs OV) : En → SRs := fun r => thenS (f r) fun o r1 => .nx (r1.set i (some o))
theorem ds_set {i : Nat} {x : Str} {pos' : Pos} {f : En → Rs OV} (hb : ∀ p ∈ g.B, p.1 ≠ i) (hN : X.N.Nodup) (h : DO X g e f) (hi : X.N[i]? = some x := by rfl) (hx : Loc X.env.scope x := by first | exact Or.inl rfl | exact Or.inr rfl)
    (hs : swapsWith e (some (.Name x pos')) pos.line X.env = pure false := by rfl) (hf : X.fn x = true ∨ X.env.scope.names.lookup x = some .local := by first | exact .inl rfl | exact .inr rfl | assumption) : DS X g (.Assign [.Name x pos'] e pos) (setS i f) :=
  PS.imp (ps_set hN hi hx h hs hf) fun E s H ⟨F, r, R, q⟩ => ⟨F, r, R, post_mono (post_then q) fun o r1 q F1 H1 v sm R1 hv => q F1 H1 _ sm (R1.set hb hv)⟩

/-! ### targets (ks: the slots that are stored to) -/
def Agr (ks : List Nat) (s s' : St) : Prop := s'.length = s.length ∧ ∀ i : Nat, i ∉ ks → s'[i]? = s[i]?
theorem Agr.refl (ks : List Nat) (s : St) : Agr ks s s := ⟨rfl, fun _ _ => rfl⟩
theorem Agr.trans {k1 k2 : List Nat} {s s1 s2 : St} (a : Agr k1 s s1) (b : Agr k2 s1 s2) : Agr (k1 ++ k2) s s2 :=
  ⟨b.1.trans a.1, fun i hi => (b.2 i fun z => hi (List.mem_append_right _ z)).trans (a.2 i fun z => hi (List.mem_append_left _ z))⟩
def tGD (K : PySem.W.Frag) (g : G) (ks : List Nat) (h : D → En → Option En) : TG := fun v s H Q => ∃ F r d r', Rel K g F H s r ∧ RD K F v d ∧ h d r = some r' ∧ ∀ s', Agr ks s s' → Rel K g F H s' r' → Q s' H
def DG (X : Cx) (g : G) (e : Expr) (ks : List Nat) (h : D → En → Option En) : Prop := PG X e (tGD X.K g ks h)
theorem PG.imp {X : Cx} {e : Expr} {t t' : TG} (h : PG X e t) (i : ∀ v s H Q, t' v s H Q → t v s H Q) : PG X e t' :=
  ⟨fun pins s σ H v u Q I rv q => h.run pins s σ H v u Q I rv (i v σ H Q q)⟩
theorem PGs.imp {X : Cx} {e : List Expr} {t t' : TGs} (h : PGs X e t) (i : ∀ v s H Q, t' v s H Q → t v s H Q) : PGs X e t' :=
  ⟨fun pins s σ H v u Q I rv q => h.run pins s σ H v u Q I rv (i v σ H Q q)⟩
def gN (i : Nat) : D → En → Option En := fun d r => some (r.set i (some (.sh d)))
theorem dg_name {i : Nat} {x : Str} (hb : ∀ p ∈ g.B, p.1 ≠ i) (hN : X.N.Nodup) (hi : X.N[i]? = some x := by rfl) (hx : Loc X.env.scope x := by first | exact Or.inl rfl | exact Or.inr rfl)
    (hf : X.fn x = true ∨ X.env.scope.names.lookup x = some .local := by first | exact .inl rfl | exact .inr rfl | assumption) : DG X g (.Name x pos) [i] (gN i) :=
  PG.imp (pg_name hN hi hx hf) fun v s H Q ⟨F, r, d, r', R, hd, e, q⟩ => by
    cases e
    exact q _ ⟨List.length_set .., fun j hj => List.getElem?_set_ne fun z => hj (by rw [z]; exact List.mem_singleton.mpr rfl)⟩ (R.set hb (o := .sh d) hd)
def tGsD (K : PySem.W.Frag) (g : G) (ks : List Nat) (h : List D → En → Option En) : TGs := fun vs s H Q => ∃ F r ds r', Rel K g F H s r ∧ RDs K F vs ds ∧ h ds r = some r' ∧ ∀ s', Agr ks s s' → Rel K g F H s' r' → Q s' H
def DGs (X : Cx) (g : G) (es : List Expr) (ks : List Nat) (h : List D → En → Option En) : Prop := PGs X es (tGsD X.K g ks h)
def gsNil : List D → En → Option En
  | [], r => some r
  | _ :: _, _ => none
def gsCons (h : D → En → Option En) (hs : List D → En → Option En) : List D → En → Option En
  | [], _ => none
  | d :: ds, r => (h d r).bind fun r1 => hs ds r1
theorem dgs_nil : DGs X g [] [] gsNil := PGs.imp pgs_nil fun vs s H Q ⟨F, r, ds, r', R, hd, e, q⟩ => by
  cases ds with
  | nil => cases hd; cases e; exact ⟨rfl, q s (Agr.refl _ _) R⟩
  | cons d ds => cases e
theorem dgs_cons {es : List Expr} {k1 k2 : List Nat} {h : D → En → Option En} {hs : List D → En → Option En} (h1 : DG X g e k1 h) (h2 : DGs X g es k2 hs)
    (ha : (assignEach (e :: es) X.env).map (·.2) = assign e X.env :: (assignEach es X.env).map (·.2) := by rfl) : DGs X g (e :: es) (k1 ++ k2) (gsCons h hs) :=
  PGs.imp (pgs_cons h1 h2 ha) fun vs s H Q ⟨F, r, ds, r', R, hd, e, q⟩ => by
    cases ds with
    | nil => cases e
    | cons d ds =>
      obtain ⟨r1, e1, e2⟩ := Option.bind_eq_some_iff.mp e
      cases hd with
      | cons a1 a2 => exact ⟨_, _, rfl, F, r, d, r1, R, a1, e1, fun s1 g1 R1 => ⟨F, r1, ds, r', R1, a2, e2, fun s2 g2 R2 => q s2 (g1.trans g2) R2⟩⟩
def gT (n : Nat) (hs : List D → En → Option En) : D → En → Option En
  | .tup ds, r => if ds.length = n then hs ds r else none
  | .lst ds, r => if ds.length = n then hs ds r else none
  | _, _ => none
theorem gT_some {n : Nat} {hs : List D → En → Option En} {d : D} {r r' : En} (e : gT n hs d r = some r') : ∃ ds, (d = .tup ds ∨ d = .lst ds) ∧ ds.length = n ∧ hs ds r = some r' := by
  cases d with
  | tup ds =>
    have e' : (if ds.length = n then hs ds r else none) = some r' := e
    by_cases hl : ds.length = n
    · rw [if_pos hl] at e'; exact ⟨ds, .inl rfl, hl, e'⟩
    · rw [if_neg hl] at e'; cases e'
  | lst ds =>
    have e' : (if ds.length = n then hs ds r else none) = some r' := e
    by_cases hl : ds.length = n
    · rw [if_pos hl] at e'; exact ⟨ds, .inr rfl, hl, e'⟩
    · rw [if_neg hl] at e'; cases e'
  | _ => cases e
theorem dg_tup {es : List Expr} {k n : Nat} {ks : List Nat} {hs : List D → En → Option En} (hc : X.calm = true) (h : DGs X g es ks hs) (hn : (assignEach es X.env).length = n := by rfl) (hst : (assignEach es X.env).findIdx? (·.1) = none := by rfl) : DG X g (.Tuple es k pos) ks (gT n hs) :=
  ⟨fun pins s σ H v u Q I rv ⟨F, r, d, r', R, hd, e, q⟩ => by
    obtain ⟨ds, ed, hl, e'⟩ := gT_some e
    rcases ed with rfl | rfl
    · cases hd with
      | tup a1 a2 => exact (pg_tup hc h hn hst).run pins s σ H _ u Q I rv ⟨_, _, rfl, same_sqT R.sub a1, by rw [a2.length]; exact hl, F, r, ds, r', R, a2, e', q⟩
    · cases hd with
      | lst a1 a2 => exact (pg_unl hc h hn hst).run pins s σ H _ u Q I rv ⟨_, _, rfl, .of (R.sub _ _ a1), by rw [a2.length]; exact hl, F, r, ds, r', R, a2, e', q⟩⟩
def asgS (f : En → Rs D) (h : D → En → Option En) : En → SRs := fun r => thenS (f r) fun d r1 => match h d r1 with
  | some r2 => .nx r2
  | none => .bad
theorem ds_asg {tg : Expr} {f : En → Rs D} {ks : List Nat} {h : D → En → Option En} (he : DE X g e f) (hg : DG X g tg ks h) (hs : swapsWithSole [tg] e pos.line X.env = pure false := by rfl) (hw : swappedStores [tg] e X.env = pure none := by rfl)
    (h1 : (assignEach [tg] X.env).map (·.2) = [assign tg X.env] := by rfl) : DS X g (.Assign [tg] e pos) (asgS f h) :=
  PS.imp (ps_asg he hg hs hw h1) fun E s H ⟨F, r, R, q⟩ => ⟨F, r, R, post_mono (post_then q) fun d r1 q F1 H1 v sm R1 hv => by
    revert q
    cases eh : h d r1 with
    | none => exact fun q => q.elim
    | some r2 => exact fun q => ⟨F1, r1, d, r2, R1, hv, eh, fun s' _ R' => q F1 H1 s' sm R'⟩⟩
end
end DL

/-! Data layer, part 4: what is walked, for, list comprehensions. -/
namespace DL
open PySem L2

/-- the iterator J yields the data ds -/
def Wk (K : PySem.W.Frag) (B : List (Nat × Addr)) (F : Hp) (J : It) (ds : List D) : Prop :=
  ∀ (g : G) (F1 H1 : Hp) (s : St) (r : En), g.B = B → Same F F1 → Rel K g F1 H1 s r →
    (∀ (i : Nat) (d : D), ds[i]? = some d → J.go i H1 ∧ ∀ x H2, J.yld i H1 x H2 → ∃ F2, Same F1 F2 ∧ Rel K g F2 H2 s r ∧ RD K F2 x d) ∧ (∀ i, ds.length ≤ i → J.stop i H1)
theorem Wk.mono {K : PySem.W.Frag} {B : List (Nat × Addr)} {F F' : Hp} {J : It} {ds : List D} (h : Wk K B F J ds) (e : Same F F') : Wk K B F' J ds := fun g F1 H1 s r hB e1 R => h g F1 H1 s r hB (e.trans e1) R
def PI' (K : PySem.W.Frag) (g : G) (F : Hp) (s : St) (Q : It → Hp → Prop) (ds : List D) (r' : En) : Prop := ∀ F' H' J, Same F F' → Rel K g F' H' s r' → Wk K g.B F' J ds → Q J H'
def tID (K : PySem.W.Frag) (g : G) (f : En → Rs (List D)) : TI := fun s H Q => ∃ F r, Rel K g F H s r ∧ post K g (PI' K g F s Q) (f r)
def DI (X : Cx) (g : G) (tg e : Expr) (f : En → Rs (List D)) : Prop := PI X tg e (tID X.K g f)

/-- over a list; over a tuple -/
def D.asL : D → Option (List D)
  | .lst ds => some ds
  | _ => none
def itL (f : En → Rs D) : En → Rs (List D) := fun r => (f r).bind fun d r1 => ofO d.asL r1
section
variable {X : Cx} {g : G} {e a b c tg : Expr} {pos : Pos}
theorem wk_list {K : PySem.W.Frag} {B : List (Nat × Addr)} {F : Hp} {p : Addr} {vs : List V} {ds : List D} (h1 : F p = some (.lst vs)) (h2 : RDs K F vs ds) : Wk K B F (Itl K p) ds := fun g F1 H1 s r _ sm R => by
  have h1' : SqL K H1 p vs := .of (R.sub _ _ (sm _ _ h1))
  refine ⟨fun i d e => ?_, fun i hi => ⟨vs, h1', by rw [h2.length]; exact hi⟩⟩
  obtain ⟨v, e1, e2⟩ := h2.get e
  refine ⟨⟨vs, v, h1', e1⟩, fun x H2 ⟨eh, ey⟩ => ?_⟩
  subst eh
  have := ey vs h1'
  rw [e1] at this
  cases this
  exact ⟨F1, Same.refl _, R, RD.mono sm d e2⟩
theorem wk_tup {K : PySem.W.Frag} {B : List (Nat × Addr)} {F : Hp} {p : Addr} {vs : List V} {ds : List D} (h1 : SqT K F p vs) (h2 : RDs K F vs ds) : Wk K B F (Itt K p) ds := fun g F1 H1 s r _ sm R => by
  have h1' := same_sqT R.sub (same_sqT sm h1)
  refine ⟨fun i d e => ?_, fun i hi => ⟨vs, h1', by rw [h2.length]; exact hi⟩⟩
  obtain ⟨v, e1, e2⟩ := h2.get e
  refine ⟨⟨vs, v, h1', e1⟩, fun x H2 ⟨eh, ey⟩ => ?_⟩
  subst eh
  have := ey vs h1'
  rw [e1] at this
  cases this
  exact ⟨F1, Same.refl _, R, RD.mono sm d e2⟩
def D.asI : D → Option Int
  | .int i => some i
  | _ => none
theorem asI_some {d : D} {i : Int} (h : d.asI = some i) : d = .int i := by
  cases d <;> first | (cases h; rfl) | cases h
/-- lo, lo + 1, .. : n of them -/
def rangeD (lo : Int) (n : Nat) : List D := (List.range n).map fun (k : Nat) => D.int (lo + (k : Int))
theorem rangeD_get {lo : Int} {n i : Nat} {d : D} (h : (rangeD lo n)[i]? = some d) : i < n ∧ d = .int (lo + i) := by
  unfold rangeD at h
  rw [List.getElem?_map] at h
  obtain ⟨k, h1, h2⟩ := Option.map_eq_some_iff.mp h
  obtain ⟨h3, h4⟩ := List.getElem?_eq_some_iff.mp h1
  rw [List.length_range] at h3
  rw [List.getElem_range] at h4
  exact ⟨h3, by rw [← h2, ← h4]⟩
theorem wk_range {K : PySem.W.Frag} {B : List (Nat × Addr)} {F : Hp} {lo : Int} {n : Nat} : Wk K B F (Itr lo n) (rangeD lo n) := fun g F1 H1 s r _ sm R => by
  refine ⟨fun i d e => ?_, fun i hi => ?_⟩
  · obtain ⟨h1, rfl⟩ := rangeD_get e
    refine ⟨h1, fun x H2 ⟨eh, ex⟩ => ?_⟩
    subst eh ex
    exact ⟨F1, Same.refl _, R, .int _⟩
  · unfold rangeD at hi
    rw [List.length_map, List.length_range] at hi
    exact hi
def rg1 (f : En → Rs D) : En → Rs (List D) := fun r => (f r).bind fun d r1 => (ofO d.asI r1).bind fun i r1 => if -1000000 ≤ i ∧ i ≤ 1000000 then .ok (rangeD 0 i.toNat) r1 else .bad
def rg2 (f h : En → Rs D) : En → Rs (List D) := fun r => (f r).bind fun d r1 => (h r1).bind fun d' r2 => (ofO d.asI r2).bind fun i r2 => (ofO d'.asI r2).bind fun j r2 => if (-1000000 ≤ i ∧ i ≤ 1000000) ∧ -1000000 ≤ j ∧ j ≤ 1000000 then .ok (rangeD i (j - i).toNat) r2 else .bad
theorem di_range1 {f : En → Rs D} {p : Pos} (hg : Gl X "range") (hm : X.mg "range" = none) (h : DE X g a f) (hs : starEach [a] X.env = [(false, eval a X.env)] := by rfl) : DI X g tg (.Call (.Name "range" p) [a] [] pos) (rg1 f) :=
  PI.imp (pi_range1 hg hm (pa_cons h pa_nil hs) hs) fun s H Q ⟨F, r, R, q⟩ => ⟨F, r, R, post_mono (post_bind q) fun d r1 q F1 H1 v sm R1 hv => by
    obtain ⟨i, ed, q⟩ := post_ofO (post_bind q)
    have ed := asI_some ed
    subst ed
    obtain ⟨hi, q⟩ := post_if q
    cases hv
    exact ⟨i, rfl, by omega, by omega, q F1 H1 _ sm R1 wk_range⟩⟩
/-! ### for -/
def forS (h : D → En → Option En) (body : En → SRs) : List D → En → SRs
  | [], r => .nx r
  | d :: ds, r =>
    match h d r with
    | none => .bad
    | some r1 =>
      match body r1 with
      | .nx r2 => forS h body ds r2
      | .ct r2 => forS h body ds r2
      | .bk r2 => .nx r2
      | .rt o r2 => .rt o r2
      | .bad => .bad
      | .ex x r2 => .ex x r2
def forD (f : En → Rs (List D)) (h : D → En → Option En) (body : En → SRs) : En → SRs := fun r => thenS (f r) fun ds r1 => forS h body ds r1
theorem ds_for {f : En → Rs (List D)} {ks : List Nat} {h : D → En → Option En} {bf : En → SRs} {body : List Stmt} {iter : Expr} (hp : PassesOwn (model X.prog X.w) X.A X.env X.xe) (hc : X.calm = true)
    (hi : DI X g tg iter f) (hg : DG X g tg ks h) (hb : DSs X g body bf) (hs : ∀ x, foldedSetIterable iter X.env x = pure x := by intro _; rfl) : DS X g (.For tg iter body [] pos) (forD f h bf) :=
  PS.imp (ps_for hp hc hi hg hb hs) fun E s H ⟨F, r, R, q⟩ => ⟨F, r, R, post_mono (post_then q) fun ds r1 q F1 H1 J sm R1 wk => by
    refine ⟨fun i m s2 H2 => m = ds.length - i ∧ i ≤ ds.length ∧ ∃ F2 r2, Same F1 F2 ∧ Rel X.K g F2 H2 s2 r2 ∧ SPost X.K g F1 E (forS h bf (ds.drop i) r2), ⟨ds.length, rfl, Nat.zero_le _, F1, r1, Same.refl _, R1, by rw [List.drop_zero]; exact q.mono sm⟩, ?_⟩
    rintro i m s2 H2 ⟨rfl, hi, F2, r2, sm2, R2, q2⟩
    obtain ⟨w1, w2⟩ := wk g F2 H2 s2 r2 rfl sm2 R2
    by_cases hlt : i < ds.length
    · have ed : ds[i]? = some ds[i] := List.getElem?_eq_getElem hlt
      obtain ⟨go, yl⟩ := w1 i _ ed
      rw [List.drop_eq_getElem_cons hlt] at q2
      refine .inr ⟨go, fun s3 H3 => ∃ F3 r3, Same F1 F3 ∧ Rel X.K g F3 H3 s3 r3 ∧ SPost X.K g F1 E (forS h bf (ds.drop (i + 1)) r3), fun s3 H3 ⟨F3, r3, a1, a2, a3⟩ => ⟨ds.length - (i + 1), by omega, rfl, hlt, F3, r3, a1, a2, a3⟩, fun x H3 hy => ?_⟩
      obtain ⟨F3, sm3, R3, hx⟩ := yl x H3 hy
      have q3 : SPost X.K g F1 E (match h ds[i] r2 with
        | none => .bad
        | some r1 => match bf r1 with
          | .nx r2 => forS h bf (ds.drop (i + 1)) r2
          | .ct r2 => forS h bf (ds.drop (i + 1)) r2
          | .bk r2 => .nx r2
          | .rt o r2 => .rt o r2
          | .bad => .bad
          | .ex x r2 => .ex x r2) := q2
      cases eh : h ds[i] r2 with
      | none => rw [eh] at q3; exact q3.elim
      | some r3 =>
        rw [eh] at q3
        refine ⟨F3, r2, ds[i], r3, R3, hx, eh, fun s4 _ R4 => ⟨F3, r3, R4, ?_⟩⟩
        have sm13 : Same F1 F3 := sm2.trans sm3
        revert q3
        show SPost X.K g F1 E (match bf r3 with
          | .nx r2 => forS h bf (ds.drop (i + 1)) r2
          | .ct r2 => forS h bf (ds.drop (i + 1)) r2
          | .bk r2 => .nx r2
          | .rt o r2 => .rt o r2
          | .bad => .bad
          | .ex x r2 => .ex x r2) → _
        cases bf r3 with
        | nx r4 => exact fun q3 F5 H5 s5 sm5 R5 => ⟨F5, r4, sm13.trans sm5, R5, q3⟩
        | ct r4 => exact fun q3 F5 H5 s5 sm5 R5 => ⟨F5, r4, sm13.trans sm5, R5, q3⟩
        | bk r4 => exact fun q3 F5 H5 s5 sm5 R5 => q3 F5 H5 s5 (sm13.trans sm5) R5
        | rt o r4 => exact fun q3 F5 H5 s5 v sm5 R5 hv => q3 F5 H5 s5 v (sm13.trans sm5) R5 hv
        | bad => exact fun q3 => q3
        | ex x r4 => exact fun q3 => q3
    · have ei : i = ds.length := by omega
      rw [List.drop_of_length_le (by omega)] at q2
      exact .inl ⟨w2 i (by omega), q2 F2 H2 s2 sm2 R2⟩⟩

/-! ### while -/
/-! ### list comprehensions -/
/-- without a wish about errors -/
def G.nw (g : G) : G := { g with W := none }
/-- a block's own: no error leaves it -/
structure Blk (g g' : G) : Prop where
  B : g'.B = g.B
  w : g'.w = g.w
  xc : g'.xc = g.xc
  W : g'.W = none
theorem Rel.nw {K : PySem.W.Frag} {g : G} {F H : Hp} {s : St} {r : En} (R : Rel K g F H s r) : Rel K g.nw F H s r := ⟨R.sub, R.f0, R.fnew, R.keep, R.slot, R.own, R.dist, R.pin, R.len, R.tb, R.ext⟩
theorem Rel.unw {K : PySem.W.Frag} {g : G} {F H : Hp} {s : St} {r : En} (R : Rel K g.nw F H s r) : Rel K g F H s r := ⟨R.sub, R.f0, R.fnew, R.keep, R.slot, R.own, R.dist, R.pin, R.len, R.tb, R.ext⟩
theorem post_w {α : Type} {K : PySem.W.Frag} {g g' : G} {P : α → En → Prop} {x : Rs α} (h : post K g P x) (hw : g.W = none := by rfl) : post K g' P x := by
  cases x with
  | ok a r => exact h
  | bad => exact h
  | ex x r =>
    have h : exW K g x r := h
    unfold exW at h
    rw [hw] at h
    exact h.elim
def wipeE (r : En) : List Nat → En
  | [] => r
  | v :: vs => (wipeE r vs).set v none
theorem wipeE_len (r : En) : ∀ vs, (wipeE r vs).length = r.length
  | [] => rfl
  | v :: vs => by unfold wipeE; rw [List.length_set, wipeE_len r vs]
theorem wipeE_some {r : En} {i : Nat} {o : OV} : ∀ {vs : List Nat}, (wipeE r vs)[i]? = some (some o) → r[i]? = some (some o) ∧ i ∉ vs
  | [], h => ⟨h, by simp⟩
  | v :: vs, h => by
    unfold wipeE at h
    by_cases hv : v = i
    · subst hv
      by_cases hl : v < (wipeE r vs).length
      · rw [List.getElem?_set_self hl] at h; cases h
      · rw [List.getElem?_eq_none (by simpa using hl)] at h; cases h
    · rw [List.getElem?_set_ne hv] at h
      obtain ⟨h1, h2⟩ := wipeE_some h
      exact ⟨h1, fun z => (List.mem_cons.mp z).elim (fun z => hv z.symm) h2⟩
theorem wipeE_keep {r : En} {i : Nat} : ∀ {vs : List Nat}, i ∉ vs → (wipeE r vs)[i]? = r[i]?
  | [], _ => rfl
  | v :: vs, h => by
    unfold wipeE
    rw [List.getElem?_set_ne fun z => h (by rw [z]; exact List.mem_cons_self ..)]
    exact wipeE_keep fun z => h (List.mem_cons_of_mem _ z)
theorem wipe_keep {s : St} {i : Nat} : ∀ {vs : List Nat}, i ∉ vs → (wipe s vs)[i]? = s[i]?
  | [], _ => rfl
  | v :: vs, h => by
    unfold wipe
    rw [List.getElem?_set_ne fun z => h (by rw [z]; exact List.mem_cons_self ..)]
    exact wipe_keep fun z => h (List.mem_cons_of_mem _ z)
/-- forget the slots vs -/
theorem Rel.forget {K : PySem.W.Frag} {F H : Hp} {s s' : St} {r : En} {vs : List Nat} (R : Rel K g F H s r) (hb : ∀ p ∈ g.B, p.1 ∉ vs) (hl : s'.length = s.length) (hs : ∀ i, i ∉ vs → s'[i]? = s[i]?) : Rel K g F H s' (wipeE r vs) := by
  refine ⟨R.sub, R.f0, R.fnew, R.keep, fun i o e => ?_, fun i o a e eo ea => ?_, fun i j o u a hij e eo e' eo' ea ea' => ?_, fun p hp => ?_, by rw [wipeE_len, hl]; exact R.len, R.tb, fun p hp => ?_⟩
  · obtain ⟨h1, h2⟩ := wipeE_some e
    obtain ⟨v, h3, h4⟩ := R.slot i o h1
    exact ⟨v, by rw [hs i h2]; exact h3, h4⟩
  · obtain ⟨h1, h2⟩ := wipeE_some e
    rw [hs i h2] at ea
    exact R.own i o a h1 eo ea
  · obtain ⟨h1, h2⟩ := wipeE_some e
    obtain ⟨h3, h4⟩ := wipeE_some e'
    rw [hs i h2] at ea
    rw [hs j h4] at ea'
    exact R.dist i j o u a hij h1 eo h3 eo' ea ea'
  · obtain ⟨p1, o, p2, p3⟩ := R.pin p hp
    exact ⟨by rw [hs _ (hb p hp)]; exact p1, o, by rw [wipeE_keep (hb p hp)]; exact p2, p3⟩
  · obtain ⟨x1, x2, x3⟩ := R.ext p hp
    refine ⟨x1, x2, fun j o e eo => ?_⟩
    obtain ⟨h1, h2⟩ := wipeE_some e
    rw [hs j h2]
    exact x3 j o h1 eo
theorem agr_wipe {ks vs : List Nat} {s s' : St} (a : Agr ks (wipe s vs) s') (h : ∀ i ∈ ks, i ∈ vs) : wipe s' vs = wipe s vs := by
  refine List.ext_getElem? fun i => ?_
  by_cases hi : i ∈ vs
  · have no : ∀ (t : St) (us : List Nat), i ∈ us → (wipe t us)[i]? = if i < t.length then some none else none := fun t us => by
      induction us with
      | nil => intro z; cases z
      | cons v us ih =>
        intro z
        unfold wipe
        by_cases hv : v = i
        · subst hv
          by_cases hl : v < (wipe t us).length
          · rw [List.getElem?_set_self hl, if_pos (by rw [wipe_length] at hl; exact hl)]
          · rw [List.getElem?_eq_none (by simpa using hl), if_neg (by rw [wipe_length] at hl; exact hl)]
        · rw [List.getElem?_set_ne hv]
          exact ih ((List.mem_cons.mp z).resolve_left fun z => hv z.symm)
    rw [no _ _ hi, no _ _ hi, a.1, wipe_length]
  · rw [wipe_keep hi, a.2 i fun z => hi (h i z)]
def lcS (vs : List Nat) (h : D → En → Option En) (t : En → Rs Bool) (elt : En → Rs D) : List D → En → Rs (List D)
  | [], r => .ok [] r
  | d :: ds, r =>
    match h d (wipeE r vs) with
    | none => .bad
    | some r1 => (t r1).bind fun b r2 => if b = true then (elt r2).bind fun y r3 => (lcS vs h t elt ds (wipeE r3 vs)).bind fun ys r4 => .ok (y :: ys) r4 else lcS vs h t elt ds (wipeE r2 vs)
def lcD (f : En → Rs (List D)) (vs : List Nat) (h : D → En → Option En) (t : En → Rs Bool) (elt : En → Rs D) : En → Rs OV := fun r => (f r).bind fun ds r1 => if ds.length ≤ 1000000 then (lcS vs h t elt ds r1).noE.bind fun ys r2 => .ok (.ow ys) (wipeE r2 vs) else .bad
theorem not_own {K : PySem.W.Frag} {F H : Hp} {s : St} {r : En} {p : Addr} (R : Rel K g F H s r) (np : H p = none) (j : Nat) (o : OV) (e : r[j]? = some (some o)) (eo : o.own = true) : s[j]? ≠ some (some (.ref p)) := fun z => by
  obtain ⟨v, h1, h2⟩ := R.slot j o e
  rw [z] at h1
  cases h1
  cases o with
  | sh d => cases eo
  | ow xs =>
    obtain ⟨a, ws, e1, _, e3, _⟩ := h2
    cases e1
    rw [np] at e3; cases e3
  | od xs =>
    obtain ⟨a, ws, e1, _, e3, _⟩ := h2
    cases e1
    rw [np] at e3; cases e3
  | oi c xs =>
    obtain ⟨a, ws, e1, _, e3, _⟩ := h2
    cases e1
    rw [np] at e3; cases e3
  | th xs =>
    obtain ⟨a, ws, e1, _, e3, _⟩ := h2
    cases e1
    rw [np] at e3; cases e3
  | exc c => cases eo
/-- between two turns of a comprehension: the list at A holds what was made so far -/
def LcI (K : PySem.W.Frag) (g : G) (F1 : Hp) (s : St) (Q : VK) (A : Addr) (vs : List Nat) (h : D → En → Option En) (t : En → Rs Bool) (fe : En → Rs D) (ds : List D) (i : Nat) (H2 : Hp) : Prop :=
  ∃ F2 r2 acc vacc, Same F1 F2 ∧ Rel K g F2 H2 s r2 ∧ H2 A = some (.lst vacc) ∧ F2 A = none ∧ (∀ (j : Nat) (o : OV), r2[j]? = some (some o) → o.own = true → s[j]? ≠ some (some (.ref A))) ∧ RDs K F2 vacc acc ∧ acc.length ≤ i ∧
    post K g.nw (fun ys r3 => PO K g F1 s Q (.ow (acc ++ ys)) (wipeE r3 vs)) (lcS vs h t fe (ds.drop i) r2)
/-- what is held still is changed (the list at A grows) -/
theorem Rel.grow {K : PySem.W.Frag} {F H : Hp} {s : St} {r : En} {A : Addr} {o o' : HO} (R : Rel K (g.more A o) F H s r) (h0 : g.H0 A = none) (hX : ∀ p ∈ g.X, p.1 ≠ A) : Rel K g F (L2.upd H A o') s r := by
  obtain ⟨R, h1, h2, h3⟩ := R.less
  refine ⟨fun b u e => ?_, R.f0, R.fnew, fun b u e hb ht => ?_, fun i u e => ?_, R.own, R.dist, R.pin, R.len, R.tb.at (R.tb.tn h0), fun p hp => ?_⟩
  · rw [upd_ne fun z => by rw [z, h2] at e; cases e]; exact R.sub b u e
  · rw [upd_ne fun z => by rw [z, h0] at e; cases e]; exact R.keep b u e hb ht
  · obtain ⟨v, a1, a2⟩ := R.slot i u e
    refine ⟨v, a1, ?_⟩
    cases u with
    | sh d => exact a2
    | ow xs =>
      obtain ⟨b, ws, e1, e2, e3, e4⟩ := a2
      refine ⟨b, ws, e1, e2, ?_, e4⟩
      rw [upd_ne fun z => h3 i _ e rfl (by rw [a1, e1, z])]
      exact e3
    | od xs =>
      obtain ⟨b, ws, e1, e2, e3, e4⟩ := a2
      refine ⟨b, ws, e1, e2, ?_, e4⟩
      rw [upd_ne fun z => h3 i _ e rfl (by rw [a1, e1, z])]
      exact e3
    | oi c xs =>
      obtain ⟨b, ws, e1, e2, e3, e4⟩ := a2
      refine ⟨b, ws, e1, e2, ?_, e4⟩
      rw [upd_ne fun z => h3 i _ e rfl (by rw [a1, e1, z])]
      exact e3
    | th xs =>
      obtain ⟨b, ws, e1, e2, e3, e4⟩ := a2
      refine ⟨b, ws, e1, e2, ?_, e4⟩
      rw [upd_ne fun z => h3 i _ e rfl (by rw [a1, e1, z])]
      exact e3
    | exc c => exact a2
  · obtain ⟨x1, x2, x3⟩ := R.ext p hp
    exact ⟨by rw [upd_ne (hX p hp)]; exact x1, x2, x3⟩
theorem lc_imp {K : PySem.W.Frag} {vs ks : List Nat} {f : En → Rs (List D)} {h : D → En → Option En} {t : En → Rs Bool} {fe : En → Rs D} {s : St} {H : Hp} {Q : VK} (hb : ∀ p ∈ g.B, p.1 ∉ vs) (hks : ∀ i ∈ ks, i ∈ vs) (h0 : tO K g (lcD f vs h t fe) s H Q) :
    tLc (tID K g f) (fun v s H Q => ∃ g' : G, Blk g g' ∧ tGD K g' ks h v s H Q) (fun s H Q => ∃ g' : G, Blk g g' ∧ tTD K g' t s H Q) (fun s H Q => ∃ g' : G, Blk g g' ∧ tD K g' fe s H Q) vs s H Q := by
  obtain ⟨F, r, R, q⟩ := h0
  refine ⟨F, r, R, post_mono (post_bind q) fun ds r1 q F1 H1 J sm R1 wk => ?_⟩
  obtain ⟨hl, q⟩ := post_if q
  have q : post K g.nw _ _ := post_noE (post_bind q)
  intro A nA
  have hA0 : g.H0 A = none := R1.live nA
  have hAX : ∀ p ∈ g.X, p.1 ≠ A := fun p hp z => by have := (R1.ext p hp).1; rw [z, nA] at this; cases this
  refine ⟨fun i m H2 => m = ds.length - i ∧ i ≤ ds.length ∧ LcI K g F1 s Q A vs h t fe ds i H2, ⟨ds.length, rfl, Nat.zero_le _, F1, r1, [], [], Same.refl _, R1.laid nA, upd_same, R1.ff nA, fun j o e eo => not_own R1 nA j o e eo, .nil, Nat.le_refl _, ?_⟩, ?_⟩
  · rw [List.drop_zero]
    exact post_mono q fun ys r3 q F3 H3 v sm3 R3 hv => q F3 H3 v (sm.trans sm3) R3 hv
  rintro i m H2 ⟨rfl, hi2, F2, r2, acc, vacc, sm2, R2, hA, hFA, hAo, hacc, hal, q2⟩
  obtain ⟨w1, w2⟩ := wk g F2 H2 s r2 rfl sm2 R2
  by_cases hlt : i < ds.length
  · have ed : ds[i]? = some ds[i] := List.getElem?_eq_getElem hlt
    obtain ⟨go, yl⟩ := w1 i _ ed
    rw [List.drop_eq_getElem_cons hlt] at q2
    refine .inr ⟨go, fun H3 => LcI K g F1 s Q A vs h t fe ds (i + 1) H3, fun H3 hh => ⟨ds.length - (i + 1), by omega, rfl, hlt, hh⟩, fun x H3 hy => ?_⟩
    -- the turn, with the list at A held still
    have R2m : Rel K (g.more A (.lst vacc)) F2 H2 s r2 := R2.more hA hFA hAo
    obtain ⟨w1m, _⟩ := wk (g.more A (.lst vacc)) F2 H2 s r2 rfl sm2 R2m
    obtain ⟨F3, sm3, R3, hx⟩ := (w1m i _ ed).2 x H3 hy
    have R3w : Rel K (g.more A (.lst vacc)) F3 H3 (wipe s vs) (wipeE r2 vs) := R3.forget hb (wipe_length _ _) fun i hi => wipe_keep hi
    have q3 : post K g.nw (fun ys r3 => PO K g F1 s Q (.ow (acc ++ ys)) (wipeE r3 vs)) (match h ds[i] (wipeE r2 vs) with
      | none => .bad
      | some r1 => (t r1).bind fun b r2 => if b = true then (fe r2).bind fun y r3 => (lcS vs h t fe (ds.drop (i + 1)) (wipeE r3 vs)).bind fun ys r4 => .ok (y :: ys) r4 else lcS vs h t fe (ds.drop (i + 1)) (wipeE r2 vs)) := q2
    cases eh : h ds[i] (wipeE r2 vs) with
    | none => rw [eh] at q3; exact q3.elim
    | some r3 =>
      rw [eh] at q3
      refine ⟨(g.more A (.lst vacc)).nw, ⟨rfl, rfl, rfl, rfl⟩, F3, _, ds[i], r3, R3w.nw, hx, eh, fun s4 ag R4 => ⟨agr_wipe ag hks, (g.more A (.lst vacc)).nw, ⟨rfl, rfl, rfl, rfl⟩, F3, r3, R4, post_mono (post_w (post_bind q3)) fun b r4 q4 F4 H4 sm4 R4' => ?_⟩⟩
      have wkeep : ∀ i, i ∉ vs → s[i]? = s4[i]? := fun i hi => by rw [ag.2 i fun z => hi (hks i z), wipe_keep hi]
      have hl4 : s.length = s4.length := by rw [ag.1, wipe_length]
      have sm14 : Same F1 F4 := (sm2.trans sm3).trans sm4
      cases b with
      | false =>
        obtain ⟨R5, a1, a2, a3⟩ := R4'.unw.less
        refine ⟨F4, wipeE r4 vs, acc, vacc, sm14, R5.forget hb hl4 wkeep, a1, a2, fun j o e eo => ?_, RDs.mono (sm3.trans sm4) acc hacc, by omega, q4⟩
        obtain ⟨e1, e2⟩ := wipeE_some e
        rw [wkeep j e2]
        exact a3 j o e1 eo
      | true =>
        refine ⟨(g.more A (.lst vacc)).nw, ⟨rfl, rfl, rfl, rfl⟩, F4, r4, R4', post_mono (post_w (post_bind q4)) fun y r5 q5 F5 H5 v sm5 R5' hv => ?_⟩
        have R5' := R5'.unw
        have a1 := R5'.less.2.1
        have a2 := R5'.less.2.2.1
        have a3 := R5'.less.2.2.2
        have sm15 : Same F1 F5 := sm14.trans sm5
        have hacc5 := RDs.mono ((sm3.trans sm4).trans sm5) acc hacc
        refine ⟨vacc, a1, ?_, F5, wipeE r5 vs, acc ++ [y], vacc ++ [v], sm15, (R5'.grow hA0 hAX).forget hb hl4 wkeep, upd_same, a2, fun j o e eo => ?_, hacc5.app (.cons hv .nil), by rw [List.length_append]; simp; omega, ?_⟩
        · rw [hacc.length]
          have : (1000000 : Nat) < sizeLine := by decide
          omega
        · obtain ⟨e1, e2⟩ := wipeE_some e
          rw [wkeep j e2]
          exact a3 j o e1 eo
        · refine post_mono (post_bind q5) fun ys r6 q6 => ?_
          have q6 : PO K g F1 s Q (.ow (acc ++ y :: ys)) (wipeE r6 vs) := q6
          rw [List.append_assoc]
          exact q6
  · rw [List.drop_of_length_le (by omega)] at q2
    have q2 : PO K g F1 s Q (.ow (acc ++ [])) (wipeE r2 vs) := q2
    rw [List.append_nil] at q2
    refine .inl ⟨w2 i (by omega), q2 F2 H2 (.ref A) sm2 (R2.forget hb rfl fun _ _ => rfl) ⟨A, vacc, rfl, hFA, hA, hacc, hA0, fun j o e eo => ?_, hAX⟩⟩
    obtain ⟨e1, e2⟩ := wipeE_some e
    exact hAo j o e1 eo
theorem do_lc {elt iter : Expr} {ifs : List Expr} {scope : Scope} {own : List (Str × Nat)} {vs ks : List Nat} {f : En → Rs (List D)} {h : D → En → Option En} {t : En → Rs Bool} {fe : En → Rs D} (hc : X.calm = true) (hN : X.N.Nodup) (hi : DI X g tg iter f) (ok : BlkOk X.N X.env.scope scope own)
    (hvs : own.map (·.2) = vs) (hb : ∀ p ∈ g.B, p.1 ∉ vs) (hks : ∀ i ∈ ks, i ∈ vs)
    (hg : ∀ (s : Shared) (H : Hp) (C : Addr) (cl : List (Str × Addr)) (fp : List Addr) (g' : G), Blk g g' → DG (X.blk s H scope (compEnvC scope cl C X.env) fp) g' tg ks h)
    (ht : ∀ (s : Shared) (H : Hp) (C : Addr) (cl : List (Str × Addr)) (fp : List Addr) (g' : G), Blk g g' → PTs (X.blk s H scope (compEnvC scope cl C X.env) fp) ifs (tTD X.K g' t))
    (he : ∀ (s : Shared) (H : Hp) (C : Addr) (cl : List (Str × Addr)) (fp : List Addr) (g' : G), Blk g g' → DE (X.blk s H scope (compEnvC scope cl C X.env) fp) g' elt fe) (hs : ∀ x, foldedSetIterable iter X.env x = pure x := by intro _; rfl) :
    DO X g (.ListComp elt [⟨tg, iter, ifs, 0⟩] scope pos) (lcD f vs h t fe) := by
  subst hvs
  exact PE.imp (pe_lc hc hN hi ok (g := fun v s H Q => ∃ g' : G, Blk g g' ∧ tGD X.K g' ks h v s H Q) (tt := fun s H Q => ∃ g' : G, Blk g g' ∧ tTD X.K g' t s H Q) (te := fun s H Q => ∃ g' : G, Blk g g' ∧ tD X.K g' fe s H Q)
    (fun s H C cl fp => ⟨fun pins s2 σ H2 v u Q I rv ⟨g', eg, q⟩ => (hg s H C cl fp g' eg).run pins s2 σ H2 v u Q I rv q⟩)
    (fun s H C cl fp => ⟨fun pins s2 σ H2 Q I ⟨g', eg, q⟩ => (ht s H C cl fp g' eg).run pins s2 σ H2 Q I q⟩)
    (fun s H C cl fp => ⟨fun pins s2 σ H2 Q I ⟨g', eg, q⟩ => (he s H C cl fp g' eg).run pins s2 σ H2 Q I q⟩) hs) fun s H Q h0 => lc_imp hb hks h0
/-- name = [..] on one line, the name a plain local -/
theorem ds_setLc {i : Nat} {y : Str} {py spos : Pos} {elt iter : Expr} {ifs : List Expr} {scope : Scope} {own : List (Str × Nat)} {vs ks : List Nat} {f : En → Rs (List D)} {h : D → En → Option En} {t : En → Rs Bool} {fe : En → Rs D} (hbi : ∀ p ∈ g.B, p.1 ≠ i) (hc : X.calm = true) (hN : X.N.Nodup) (hi : DI X g tg iter f) (ok : BlkOk X.N X.env.scope scope own)
    (hvs : own.map (·.2) = vs) (hb : ∀ p ∈ g.B, p.1 ∉ vs) (hks : ∀ i ∈ ks, i ∈ vs)
    (hg : ∀ (s : Shared) (H : Hp) (C : Addr) (cl : List (Str × Addr)) (fp : List Addr) (g' : G), Blk g g' → DG (X.blk s H scope (compEnvC scope cl C X.env) fp) g' tg ks h)
    (ht : ∀ (s : Shared) (H : Hp) (C : Addr) (cl : List (Str × Addr)) (fp : List Addr) (g' : G), Blk g g' → PTs (X.blk s H scope (compEnvC scope cl C X.env) fp) ifs (tTD X.K g' t))
    (he : ∀ (s : Shared) (H : Hp) (C : Addr) (cl : List (Str × Addr)) (fp : List Addr) (g' : G), Blk g g' → DE (X.blk s H scope (compEnvC scope cl C X.env) fp) g' elt fe)
    (hsw : swapsWith (.ListComp elt [⟨tg, iter, ifs, 0⟩] scope pos) (some (.Name y py)) spos.line X.env = pure true) (hy : X.N[i]? = some y := by rfl) (hyl : X.env.scope.names.lookup y = some .local := by rfl) (hs : ∀ x, foldedSetIterable iter X.env x = pure x := by intro _; rfl) :
    DS X g (.Assign [.Name y py] (.ListComp elt [⟨tg, iter, ifs, 0⟩] scope pos) spos) (setS i (lcD f vs h t fe)) := by
  subst hvs
  refine PS.imp (ps_setLc hc hN hy hyl hsw hi ok (g := fun v s H Q => ∃ g' : G, Blk g g' ∧ tGD X.K g' ks h v s H Q) (tt := fun s H Q => ∃ g' : G, Blk g g' ∧ tTD X.K g' t s H Q) (te := fun s H Q => ∃ g' : G, Blk g g' ∧ tD X.K g' fe s H Q)
    (fun s H C cl fp => ⟨fun pins s2 σ H2 v u Q I rv ⟨g', eg, q⟩ => (hg s H C cl fp g' eg).run pins s2 σ H2 v u Q I rv q⟩)
    (fun s H C cl fp => ⟨fun pins s2 σ H2 Q I ⟨g', eg, q⟩ => (ht s H C cl fp g' eg).run pins s2 σ H2 Q I q⟩)
    (fun s H C cl fp => ⟨fun pins s2 σ H2 Q I ⟨g', eg, q⟩ => (he s H C cl fp g' eg).run pins s2 σ H2 Q I q⟩) hs) fun E s H ⟨F, r, R, q⟩ => ?_
  exact lc_imp hb hks ⟨F, r, R, post_mono (post_then q) fun o r1 q F1 H1 v sm R1 hv => q F1 H1 _ sm (R1.set hbi hv)⟩
end
end DL

/-! Data layer, part 5: what a def promises by data (its callers outside any repr), calls, the law's own call. -/
namespace DL
open PySem L2

/-- like FnOk, for callers that stand in no repr -/
structure FnG (P : Program) (w : World) (K : PySem.W.Frag) (mg : Str → Option Value) (base : Heap) (CX : CXT) (k : Nat) (f : Addr) (fd : FuncData) (ps : List Str) (sp : Sp) : Prop where
  len : ∀ vs H Q E, sp vs H Q E → vs.length = ps.length
  run : ∀ (A : Around) (outer : List Env) (s : Shared) (H : Hp) (args : Args) (us : List Value) (vs : List V) (Q : VK) (E : XK), A.guards = some [] → Room k A → Env0 P w K mg base A outer s H →
    BindsTo s fd args (ps.zip us) → Vals vs us → sp vs H Q E → codeAny (model P w) A (.call (.ref f) args) (CR CX outer P w H s Q E) s
section
variable {P : Program} {w : World} {K : PySem.W.Frag} {mg : Str → Option Value} {base : Heap} {CX : CXT}
theorem FnG.mono {j k : Nat} {f : Addr} {fd : FuncData} {ps : List Str} {sp : Sp} (F : FnG P w K mg base CX j f fd ps sp) (h : j ≤ k) : FnG P w K mg base CX k f fd ps sp :=
  ⟨F.len, fun A o s H as us vs Q E hg hr => F.run A o s H as us vs Q E hg (hr.mono h)⟩
theorem FnG.imp {k : Nat} {f : Addr} {fd : FuncData} {ps : List Str} {sp sp' : Sp} (F : FnG P w K mg base CX k f fd ps sp) (h : ∀ vs H Q E, sp' vs H Q E → sp vs H Q E) : FnG P w K mg base CX k f fd ps sp' :=
  ⟨fun vs H Q E q => F.len vs H Q E (h _ _ _ _ q), fun A o s H as us vs Q E hg hr e0 hb rv hs => F.run A o s H as us vs Q E hg hr e0 hb rv (h _ _ _ _ hs)⟩
/-- a def by its body -/
theorem fnG_of {x qual : Str} {st : Stmt} {f : Addr} {fd : FuncData} {N ps : List Str} {k : Nat} {sp : Sp} (F : Fun K x qual st f fd) (S : FnScope N ps (defScope st)) (len : ∀ vs H Q E, sp vs H Q E → vs.length = ps.length)
    (hbody : ∀ (cdv : Value) (A : Around) (outer : List Env) (s : Shared) (H : Hp) (vs : List V) (Q : VK) (E : XK), A.guards = some [] → Room k (A.deeper (PyProof.Rows.envOfC qual (defScope st) s.heap.objs.size f cdv)) → sp vs H Q E →
      ∃ t, PSs (cxOf CX P w K mg base N qual (defScope st) f cdv A outer s H E) (defBody st) t ∧ t { nx := fun _ H' => Q .non H', rt := Q } (start N vs) H) : FnG P w K mg base CX (k + 1) f fd ps sp := by
  obtain ⟨oc, od, kV, doc, pm, an, cdv, ct, osl, rfl, lk, hcd⟩ := F.ex
  refine ⟨len, ?_⟩
  intro A outer s H args us vs Q E hgd room en bind rel want
  have inK : K.In s.heap := en.mod.kin.keeps fun b u z => (en.bs b u z).1
  have nolim : s.heap.NoLimit := en.mod.nolimit.keeps fun b u z => (en.bs b u z).1
  have kinds : ∀ y ∈ ps.zip us, (defScope st).names.lookup y.1 = some .local ∨ ((defScope st).names.lookup y.1 = some .cell ∧ ((cellsFrom (s.heap.objs.size + 1) (defScope st).names []).lookup y.1).isSome = true) := by
    rintro ⟨nm, vl⟩ hy
    cases S.par nm (List.of_mem_zip hy).1 with
    | inl q => exact Or.inl q
    | inr q => exact Or.inr ⟨q, PySem.W.cellsFrom_some _ _ _ (.inl q)⟩
  refine codeAny_call_function room.depth (inK _ _ lk) rfl S.co S.gen rfl (PySem.W.codeRec_of inK hcd) (bind _ _ _ _ ?_)
  refine PySem.wpAny_newFunctionEnv_cells S.kind kinds fun env eenv s1 ic => ?_
  subst eenv
  refine ⟨nolim.keeps ic.toInCall.keep, codeAny_func ?_⟩
  obtain ⟨t, pt, tq⟩ := hbody cdv A outer s H vs Q E hgd (room.deeper _) want
  have inv0 : Inv (cxOf CX P w K mg base N qual (defScope st) f cdv A outer s H E) [] (start N vs) H s1 := inv_start S room.hd en (len _ _ _ _ want) rel ic
  refine wpAny_mono (pt.run [] s1 (start N vs) H _ inv0 tq) ?_ fun _ _ z => z
  intro fl s2 hs2
  have ending : ∀ {σ2 : St} {H2 : Hp} {v : V} {u : Value}, Inv (cxOf CX P w K mg base N qual (defScope st) f cdv A outer s H E) [] σ2 H2 s2 → RelV v u → Q v H2 → CE outer P w H s Q u s2 := by
    intro σ2 H2 v u J rv qv
    exact ⟨v, H2, J.os, J.bare, J.base, J.hok, rv, qv⟩
  cases fl with
  | next => obtain ⟨σ2, H2, J, qv⟩ := hs2; exact ending (v := V.non) (u := Value.none) J rfl qv
  | ret u => obtain ⟨v, σ2, H2, J, rv, qv⟩ := hs2; exact ending J rv qv
  | brk => obtain ⟨_, _, _, z⟩ := hs2; exact z.elim
  | cont => obtain ⟨_, _, _, z⟩ := hs2; exact z.elim
end

section
variable {X : Cx} {CX : CXT} {k : Nat} {f : Addr} {fd : FuncData} {ps : List Str} {sp : Sp} {E : XK} {x : Str} {p pos : Pos} {e : Expr} {es : List Expr} {t : TA}
theorem runG {pins : List (Addr × Obj)} {σ : St} {H : Hp} {s : Shared} {Q : VK} {us : List Value} {vs : List V} (F : FnG X.prog X.w X.K X.mg X.base CX k f fd ps sp) (hgd : X.A.guards = some []) (hr : Room k X.A) (hb : Binds X.K fd ps []) (hx : Passes CX X E)
    (I : Inv X pins σ H s) (r : Vals vs us) (h : sp vs H Q E) : wpAny (model X.prog X.w) X.A (call (.ref f) us) (EP X pins σ Q) X.xe s := by
  have bl := hb s us I.kIn (by rw [List.append_nil, ← r.length]; exact F.len _ _ _ _ h)
  rw [List.append_nil] at bl
  refine wpAny_call (codeAny_mono (F.run X.A X.stack s H ⟨us, []⟩ us vs Q E hgd hr I.env0 bl r h) ?_)
  intro res s2 hq
  cases res with
  | error er => exact hx pins σ H s er s2 I hq
  | ok fl =>
    cases fl with
    | ret u => exact I.after hq
    | next => cases hq
    | brk => cases hq
    | cont => cases hq
theorem pe_callG1 (F : FnG X.prog X.w X.K X.mg X.base CX k f fd ps sp) (hgd : X.A.guards = some []) (hr : Room k X.A) (hg : Gl X x) (hm : X.mg x = some (.ref f)) (hk : PySem.W.keepIn X.K (.ref f) = true) (hb : Binds X.K fd ps []) (hx : Passes CX X E)
    (ha : PA X (e :: es) t) (hdb : (x == ("__debug__" : Str)) = false := by decide) (he : starEach (e :: es) X.env = (false, eval e X.env) :: starEach es X.env := by rfl) (hpl : (backTo pos (starEach es X.env)).any (·.1) = false := by rfl) :
    PE X (.Call (.Name x p) (e :: es) [] pos) (fun σ H Q => t σ H fun vs H1 => sp vs H1 Q E) := by
  constructor
  intro pins s σ H Q I h
  refine PySem.wpAny_Call_Name_kw (ld_glob I hg hm ?_ hdb)
  refine PySem.W.callWith_K (h₀ := X.base) I.ok.mod.kin hk (thn (ha.run pos pins s σ H _ I h) ?_) he hpl
  rintro us s1 ⟨vs, H1, I1, rv, q⟩
  exact ⟨I1.kIn, runG F hgd hr hb hx I1 rv q⟩
end

/-! ### promises by data -/
def RVf (K : PySem.W.Frag) (F' H' H : Hp) (v : V) : OV → Prop
  | .sh d => RD K F' v d
  | .ow xs => ∃ a vs, v = .ref a ∧ F' a = none ∧ H' a = some (.lst vs) ∧ RDs K F' vs xs ∧ H a = none
  | .od _ => False
  | .oi _ _ => False
  | .th _ => False
  | .exc _ => False
def Fresh (F F' H : Hp) : Prop := ∀ b o, F' b = some o → F b = none → H b = none
def spP (K : PySem.W.Frag) (n : Nat) (f : List D → Option OV) : Sp := fun vs H Q _ => ∃ F ds o, Same F H ∧ RDs K F vs ds ∧ ds.length = n ∧ f ds = some o ∧
  ∀ F' H' v, Same F F' → Same F' H' → Fresh F F' H → Same H H' → RVf K F' H' H v o → Q v H'
def spB (K : PySem.W.Frag) (n : Nat) (f : List D → List D → Option (OV × List D)) : Sp := fun vs H Q _ => ∃ F a bs vb ws ds o bs', vs = .ref a :: ws ∧ Same F H ∧ F a = none ∧ H a = some (.lst vb) ∧ RDs K F vb bs ∧ RDs K F ws ds ∧ ds.length = n ∧ f bs ds = some (o, bs') ∧
  ∀ F' H' v vb', Same F F' → Same F' H' → Fresh F F' H → (∀ b o, H b = some o → b ≠ a → H' b = some o) → F' a = none → H' a = some (.lst vb') → RDs K F' vb' bs' → RVf K F' H' H v o → Q v H'
def startE (n : Nat) (os : List OV) : En := os.map some ++ List.replicate (n - os.length) none
def fnP (n : Nat) (m : En → SRs) : List D → Option OV := fun ds => match m (startE n (ds.map OV.sh)) with
  | .nx _ => some (.sh .non)
  | .rt o _ => some o
  | _ => none
def OV.lst? : OV → Option (List D)
  | .ow xs => some xs
  | _ => none
def fnB (n : Nat) (m : En → SRs) : List D → List D → Option (OV × List D) := fun bs ds => match m (startE n (.ow bs :: ds.map OV.sh)) with
  | .nx r => ((lookV r 0).bind OV.lst?).map fun b => (.sh .non, b)
  | .rt o r => ((lookV r 0).bind OV.lst?).map fun b => (o, b)
  | _ => none

theorem startE_get {n : Nat} {os : List OV} {i : Nat} {o : OV} (h : (startE n os)[i]? = some (some o)) : os[i]? = some o := by
  unfold startE at h
  by_cases hi : i < os.length
  · rw [List.getElem?_append_left (by simpa using hi), List.getElem?_map] at h
    cases e : os[i]? with
    | none => rw [e] at h; cases h
    | some a => rw [e] at h; cases h; rfl
  · rw [List.getElem?_append_right (by simpa using hi), List.getElem?_replicate] at h
    split at h <;> cases h
theorem start_get {N : List Str} {vs : List V} {i : Nat} {v : V} (h : vs[i]? = some v) : (start N vs)[i]? = some (some v) := by
  unfold L2.start
  have hi : i < vs.length := (List.getElem?_eq_some_iff.mp h).1
  rw [List.getElem?_append_left (by simpa using hi), List.getElem?_map, h]
  rfl
theorem start_len (N : List Str) (vs : List V) (os : List OV) (h : vs.length = os.length) : (startE N.length os).length = (start N vs).length := by
  unfold L2.start startE
  simp [h]
section
variable {K : PySem.W.Frag} {F H : Hp} {w : World}
theorem relP {N : List Str} {vs : List V} {ds : List D} (sub : Same F H) (h : RDs K F vs ds) : Rel K ⟨F, H, [], [], w, none, none, []⟩ F H (start N vs) (startE N.length (ds.map OV.sh)) := by
  have nown : ∀ (i : Nat) (o : OV), (startE N.length (ds.map OV.sh))[i]? = some (some o) → ∃ d, ds[i]? = some d ∧ o = .sh d := fun i o e => by
    have q := startE_get e
    rw [List.getElem?_map] at q
    obtain ⟨d, q1, q2⟩ := Option.map_eq_some_iff.mp q
    exact ⟨d, q1, q2.symm⟩
  refine ⟨sub, Same.refl _, fun b o e z => ?_, fun b o e _ _ => e, fun i o e => ?_, fun i o a e eo => ?_, fun i j o u a _ e eo => ?_, fun p hp => ?_, start_len N vs _ (by rw [List.length_map, h.length]), fun p hp => (nomatch hp), fun p hp => ?_⟩
  · have z : F b = none := z
    rw [z] at e; cases e
  · obtain ⟨d, h1, rfl⟩ := nown i o e
    obtain ⟨v, h2, h3⟩ := h.get h1
    exact ⟨v, start_get h2, h3⟩
  · obtain ⟨d, h1, rfl⟩ := nown i o e
    cases eo
  · obtain ⟨d, h1, rfl⟩ := nown i o e
    cases eo
  · cases hp
  · cases hp
theorem relB {N : List Str} {a : Addr} {vb ws : List V} {bs ds : List D} (sub : Same F H) (fa : F a = none) (ha : H a = some (.lst vb)) (hb : RDs K F vb bs) (h : RDs K F ws ds) :
    Rel K ⟨F, H, [(0, a)], [], w, none, none, []⟩ F H (start N (.ref a :: ws)) (startE N.length (.ow bs :: ds.map OV.sh)) := by
  have nown : ∀ (i : Nat) (o : OV), (startE N.length (.ow bs :: ds.map OV.sh))[i]? = some (some o) → (i = 0 ∧ o = .ow bs) ∨ ∃ j d, i = j + 1 ∧ ds[j]? = some d ∧ o = .sh d := fun i o e => by
    have q := startE_get e
    cases i with
    | zero => cases q; exact .inl ⟨rfl, rfl⟩
    | succ j =>
      have q : (ds.map OV.sh)[j]? = some o := q
      rw [List.getElem?_map] at q
      obtain ⟨d, q1, q2⟩ := Option.map_eq_some_iff.mp q
      exact .inr ⟨j, d, rfl, q1, q2.symm⟩
  have s0 : (start N (.ref a :: ws))[0]? = some (some (.ref a)) := start_get rfl
  refine ⟨sub, Same.refl _, fun b o e z => ?_, fun b o e _ _ => e, fun i o e => ?_, fun i o b e eo es => ?_, fun i j o u b hij e eo e' eo' => ?_, fun p hp => ?_, start_len N (.ref a :: ws) (.ow bs :: ds.map OV.sh) (by simp [h.length]), fun p hp => (nomatch hp), fun p hp => by cases hp⟩
  · have z : F b = none := z
    rw [z] at e; cases e
  · rcases nown i o e with ⟨rfl, rfl⟩ | ⟨j, d, rfl, h1, rfl⟩
    · exact ⟨_, s0, a, vb, rfl, fa, ha, hb⟩
    · obtain ⟨v, h2, h3⟩ := h.get h1
      exact ⟨v, start_get (i := j + 1) h2, h3⟩
  · rcases nown i o e with ⟨rfl, rfl⟩ | ⟨j, d, rfl, h1, rfl⟩
    · rw [s0] at es
      cases es
      exact .inr (List.mem_singleton.mpr rfl)
    · cases eo
  · rcases nown i o e with ⟨rfl, rfl⟩ | ⟨j, d, rfl, h1, rfl⟩
    · rcases nown j u e' with ⟨rfl, rfl⟩ | ⟨k, d, rfl, h1, rfl⟩
      · exact absurd rfl hij
      · cases eo'
    · cases eo
  · have hp := List.mem_singleton.mp hp
    subst hp
    exact ⟨s0, .ow bs, by unfold startE; rfl, rfl⟩
end

section
variable {P : Program} {w : World} {K : PySem.W.Frag} {mg : Str → Option Value} {base : Heap}
/-- a def without parameters by reference -/
theorem fnP_ok {x qual : Str} {st : Stmt} {f : Addr} {fd : FuncData} {N ps : List Str} {k n np : Nat} {m : En → SRs} (F : Fun K x qual st f fd) (S : FnScope N ps (defScope st)) (en : N.length = n) (ep : ps.length = np)
    (hbody : ∀ (cdv : Value) (A : Around) (outer : List Env) (s : Shared) (H : Hp) (E : XK) (g : G), A.guards = some [] → Room k (A.deeper (PyProof.Rows.envOfC qual (defScope st) s.heap.objs.size f cdv)) → g.B = [] → g.w = w → g.W = none → g.xc = none →
      DSs (cxOf CX0 P w K mg base N qual (defScope st) f cdv A outer s H E).nox g (defBody st) m) : FnG P w K mg base CX0 (k + 1) f fd ps (spP K np (fnP n m)) := by
  subst en ep
  refine fnG_of F S (fun vs H Q E ⟨F, ds, o, _, h, hl, _⟩ => by rw [h.length]; exact hl) fun cdv A outer s H vs Q E hg hr hsp => ?_
  obtain ⟨Fz, ds, o, sub, h, hl, ef, q⟩ := hsp
  refine ⟨_, PSs.nox (hbody cdv A outer s H E ⟨Fz, H, [], [], w, none, none, []⟩ hg hr rfl rfl rfl rfl), Fz, startE N.length (ds.map OV.sh), relP sub h, ?_⟩
  unfold fnP at ef
  revert ef
  cases m (startE N.length (ds.map OV.sh)) with
  | nx r' =>
    intro ef F' H' s' sm R'
    cases ef
    exact q F' H' .non sm R'.sub (fun b o e e0 => R'.fnew b o e e0) (fun b o e => R'.keep b o e (fun p hp => by cases hp) fun p hp => by cases hp) .non
  | rt o' r' =>
    intro ef F' H' s' v sm R' hv
    cases ef
    refine q F' H' v sm R'.sub (fun b o e e0 => R'.fnew b o e e0) (fun b o e => R'.keep b o e (fun p hp => by cases hp) fun p hp => by cases hp) ?_
    cases o with
    | sh d => exact hv
    | ow xs =>
      obtain ⟨a, vs, e1, e2, e3, e4, e5, _⟩ := hv
      exact ⟨a, vs, e1, e2, e3, e4, e5⟩
    | od xs => exact hv.elim
    | oi c xs => exact hv.elim
    | th xs => exact hv.elim
    | exc c => exact hv.elim
  | bk r' => intro ef; cases ef
  | ct r' => intro ef; cases ef
  | bad => intro ef; cases ef
  | ex x r' => intro ef; cases ef
/-- a def whose first parameter is a list by reference -/
theorem fnB_ok {x qual : Str} {st : Stmt} {f : Addr} {fd : FuncData} {N : List Str} {p0 : Str} {ps : List Str} {k n np : Nat} {m : En → SRs} (F : Fun K x qual st f fd) (S : FnScope N (p0 :: ps) (defScope st)) (en : N.length = n) (ep : ps.length = np)
    (hbody : ∀ (cdv : Value) (A : Around) (outer : List Env) (s : Shared) (H : Hp) (E : XK) (g : G), A.guards = some [] → Room k (A.deeper (PyProof.Rows.envOfC qual (defScope st) s.heap.objs.size f cdv)) → g.B.map (·.1) = [0] → g.w = w → g.W = none → g.xc = none →
      DSs (cxOf CX0 P w K mg base N qual (defScope st) f cdv A outer s H E).nox g (defBody st) m) : FnG P w K mg base CX0 (k + 1) f fd (p0 :: ps) (spB K np (fnB n m)) := by
  subst en ep
  refine fnG_of F S (fun vs H Q E ⟨F, a, bs, vb, ws, ds, o, bs', e, _, _, _, _, h, hl, _⟩ => by rw [e, List.length_cons, List.length_cons, h.length, hl]) fun cdv A outer s H vs Q E hg hr hsp => ?_
  obtain ⟨Fz, a, bs, vb, ws, ds, o, bs', rfl, sub, fa, ha, hb, h, hl, ef, q⟩ := hsp
  refine ⟨_, PSs.nox (hbody cdv A outer s H E ⟨Fz, H, [(0, a)], [], w, none, none, []⟩ hg hr rfl rfl rfl rfl), Fz, startE N.length (.ow bs :: ds.map OV.sh), relB sub fa ha hb h, ?_⟩
  unfold fnB at ef
  have outs : ∀ {F' H' : Hp} {s' : St} {r' : En}, Rel K ⟨Fz, H, [(0, a)], [], w, none, none, []⟩ F' H' s' r' → (lookV r' 0).bind OV.lst? = some bs' → F' a = none ∧ ∃ vb', H' a = some (.lst vb') ∧ RDs K F' vb' bs' := fun {F' H' s' r'} R' e => by
    obtain ⟨o1, e1, e2⟩ := Option.bind_eq_some_iff.mp e
    obtain ⟨p1, _⟩ := R'.pin (0, a) (List.mem_singleton.mpr rfl)
    obtain ⟨v, h1, h2⟩ := R'.slot 0 o1 (lookV_some e1)
    rw [p1] at h1
    cases h1
    cases o1 with
    | sh d => cases e2
    | ow xs =>
      cases e2
      obtain ⟨b, vs, e3, e4, e5, e6⟩ := h2
      cases e3
      exact ⟨e4, vs, e5, e6⟩
    | od xs => cases e2
    | oi c xs => cases e2
    | th xs => cases e2
    | exc c => cases e2
  have kp : ∀ {F' H' : Hp} {s' : St} {r' : En}, Rel K ⟨Fz, H, [(0, a)], [], w, none, none, []⟩ F' H' s' r' → ∀ b o, H b = some o → b ≠ a → H' b = some o := fun {F' H' s' r'} R' b o e hb => R'.keep b o e (fun p hp => by
    have hp := List.mem_singleton.mp hp
    subst hp
    exact fun z => hb z.symm) fun p hp => by cases hp
  revert ef
  cases m (startE N.length (.ow bs :: ds.map OV.sh)) with
  | nx r' =>
    intro ef F' H' s' sm R'
    obtain ⟨b, e1, e2⟩ := Option.map_eq_some_iff.mp ef
    cases e2
    obtain ⟨f1, vb', f2, f3⟩ := outs R' e1
    exact q F' H' .non vb' sm R'.sub (fun b o e e0 => R'.fnew b o e e0) (kp R') f1 f2 f3 .non
  | rt o' r' =>
    intro ef F' H' s' v sm R' hv
    obtain ⟨b, e1, e2⟩ := Option.map_eq_some_iff.mp ef
    cases e2
    obtain ⟨f1, vb', f2, f3⟩ := outs R' e1
    refine q F' H' v vb' sm R'.sub (fun b o e e0 => R'.fnew b o e e0) (kp R') f1 f2 f3 ?_
    cases o with
    | sh d => exact hv
    | ow xs =>
      obtain ⟨a, vs, e1, e2, e3, e4, e5, _⟩ := hv
      exact ⟨a, vs, e1, e2, e3, e4, e5⟩
    | od xs => exact hv.elim
    | oi c xs => exact hv.elim
    | th xs => exact hv.elim
    | exc c => exact hv.elim
  | bk r' => intro ef; cases ef
  | ct r' => intro ef; cases ef
  | bad => intro ef; cases ef
  | ex x r' => intro ef; cases ef
end

/-! ### calls -/
structure HasP (P : Program) (w : World) (K : PySem.W.Frag) (mg : Str → Option Value) (base : Heap) (k : Nat) (x : Str) (n : Nat) (f : List D → Option OV) : Prop where
  ex : ∃ fa fd ps, FnG P w K mg base CX0 k fa fd ps (spP K n f) ∧ mg x = some (.ref fa) ∧ PySem.W.keepIn K (.ref fa) = true ∧ Binds K fd ps []
structure HasB (P : Program) (w : World) (K : PySem.W.Frag) (mg : Str → Option Value) (base : Heap) (k : Nat) (x : Str) (n : Nat) (f : List D → List D → Option (OV × List D)) : Prop where
  ex : ∃ fa fd ps, FnG P w K mg base CX0 k fa fd ps (spB K n f) ∧ mg x = some (.ref fa) ∧ PySem.W.keepIn K (.ref fa) = true ∧ Binds K fd ps []
theorem HasP.mono {P : Program} {w : World} {K : PySem.W.Frag} {mg : Str → Option Value} {base : Heap} {j k : Nat} {x : Str} {n : Nat} {f : List D → Option OV} (h : HasP P w K mg base j x n f) (hk : j ≤ k) : HasP P w K mg base k x n f := by
  obtain ⟨fa, fd, ps, F, h1, h2, h3⟩ := h.ex
  exact ⟨fa, fd, ps, F.mono hk, h1, h2, h3⟩
theorem HasB.mono {P : Program} {w : World} {K : PySem.W.Frag} {mg : Str → Option Value} {base : Heap} {j k : Nat} {x : Str} {n : Nat} {f : List D → List D → Option (OV × List D)} (h : HasB P w K mg base j x n f) (hk : j ≤ k) : HasB P w K mg base k x n f := by
  obtain ⟨fa, fd, ps, F, h1, h2, h3⟩ := h.ex
  exact ⟨fa, fd, ps, F.mono hk, h1, h2, h3⟩
/-- f(e, ..) by data -/
def callP (n : Nat) (f : List D → Option OV) (fs : List (En → Rs D)) : En → Rs OV := fun r => (evs fs r).bind fun ds r1 => if ds.length = n then ofO (f ds) r1 else .bad
/-- f(bag, e, ..), the bag in slot j -/
def callB (n : Nat) (f : List D → List D → Option (OV × List D)) (j : Nat) (fs : List (En → Rs D)) : En → Rs OV := fun r => (fill r j).bind fun _ r => (evs fs r).bind fun ds r1 => if ds.length = n then
  (ofO (((lookV r1 j).bind OV.lst?).bind fun bs => f bs ds) r1).bind fun z r1 => .ok z.1 (r1.set j (some (.ow z.2))) else .bad
section
variable {X : Cx} {g : G} {k n : Nat} {x : Str} {p pos : Pos} {e : Expr} {es : List Expr}
theorem do_callP {f : List D → Option OV} {fs : List (En → Rs D)} (h : HasP X.prog X.w X.K X.mg X.base k x n f) (hgd : X.A.guards = some []) (hr : Room k X.A) (ha : DA X g (e :: es) fs) (hg : Gl X x := by rfl)
    (hdb : (x == ("__debug__" : Str)) = false := by decide) (he : starEach (e :: es) X.env = (false, eval e X.env) :: starEach es X.env := by rfl) (hpl : (backTo pos (starEach es X.env)).any (·.1) = false := by rfl) : DO X g (.Call (.Name x p) (e :: es) [] pos) (callP n f fs) := by
  obtain ⟨fa, fd, ps, F, h1, h2, h3⟩ := h.ex
  refine PE.imp (pe_callG1 F hgd hr hg h1 h2 h3 pass0 ha hdb he hpl) fun s H Q ⟨Fz, r, R, q⟩ => ⟨Fz, r, R, post_mono (post_bind q) fun ds r1 q F1 H1 vs sm R1 hvs => ?_⟩
  obtain ⟨hn, q⟩ := post_if q
  obtain ⟨o, ef, q⟩ := post_ofO q
  refine ⟨F1, ds, o, R1.sub, hvs, hn, ef, fun F' H' v s1 s2 fr s3 hv => ?_⟩
  have fn : ∀ {a : Addr} {u : HO}, F1 a = none → H1 a = some u → F' a = none := fun {a u} z1 z2 => by
    cases z : F' a with
    | none => rfl
    | some o' => rw [fr a o' z z1] at z2; cases z2
  have R' : Rel X.K g F' H' s r1 := by
    refine ⟨s2, R1.f0.trans s1, fun b u e e0 => ?_, fun b u e hb ht => s3 _ _ (R1.keep b u e hb ht), fun i u e => ?_, R1.own, R1.dist, R1.pin, R1.len, R1.tb.call s1 s3 fr, fun q hq => ?_⟩
    · cases z : F1 b with
      | some u' => exact R1.fnew b u' z e0
      | none => exact R1.live (fr b u e z)
    · obtain ⟨w, a1, a2⟩ := R1.slot i u e
      exact ⟨w, a1, RO.mono s1 (fun a vs ew e2 e3 => ⟨fn e2 e3, s3 _ _ e3⟩) a2⟩
    · obtain ⟨x1, x2, x3⟩ := R1.ext q hq
      exact ⟨s3 _ _ x1, fn x2 x1, x3⟩
  refine q F' H' v (sm.trans s1) R' ?_
  cases o with
  | sh d => exact hv
  | ow xs =>
    obtain ⟨a, us, e1, e2, e3, e4, e5⟩ := hv
    exact ⟨a, us, e1, e2, e3, e4, R1.live e5, fun j o e eo => not_own R1 e5 j o e eo, fun q hq z => by have := (R1.ext q hq).1; rw [z, e5] at this; cases this⟩
  | od xs => exact hv.elim
  | oi c xs => exact hv.elim
  | th xs => exact hv.elim
  | exc c => exact hv.elim
/-- f(bag, e, ..): the bag is the list that slot j owns -/
theorem do_callB {f : List D → List D → Option (OV × List D)} {j : Nat} {y : Str} {yp : Pos} {fs : List (En → Rs D)} (h : HasB X.prog X.w X.K X.mg X.base k x n f) (hgd : X.A.guards = some []) (hr : Room k X.A) (hj : PE X (.Name y yp) (tVar j)) (ha : DA X g es fs)
    (hg : Gl X x := by rfl) (hst : starEach (.Name y yp :: es) X.env = (false, eval (.Name y yp) X.env) :: starEach es X.env := by rfl)
    (hdb : (x == ("__debug__" : Str)) = false := by decide) (hpl : (backTo pos (starEach es X.env)).any (·.1) = false := by rfl) : DO X g (.Call (.Name x p) (.Name y yp :: es) [] pos) (callB n f j fs) := by
  obtain ⟨fa, fd, ps, F, h1, h2, h3⟩ := h.ex
  refine PE.imp (pe_callG1 F hgd hr hg h1 h2 h3 pass0 (pa_cons hj ha hst) hdb hst hpl) fun s H Q ⟨Fz, r, R, q⟩ => ?_
  obtain ⟨⟨o, eo⟩, q⟩ := post_fill (post_bind q)
  obtain ⟨v, hv, _⟩ := R.slot j o eo
  refine ⟨v, hv, Fz, r, R, post_mono (post_bind q) fun ds r1 q F1 H1 vs sm R1 hvs => ?_⟩
  obtain ⟨hn, q⟩ := post_if q
  obtain ⟨⟨o, bs'⟩, ef, q⟩ := post_ofO (post_bind q)
  obtain ⟨bs, eb, ef⟩ := Option.bind_eq_some_iff.mp ef
  obtain ⟨ob, e1, e2⟩ := Option.bind_eq_some_iff.mp eb
  cases ob with
  | sh d => cases e2
  | ow xs =>
    cases e2
    have ej := lookV_some e1
    obtain ⟨v', hv', hb⟩ := R1.slot j _ ej
    rw [hv] at hv'
    cases hv'
    obtain ⟨a, vb, rfl, fa1, ha1, hb1⟩ := hb
    refine ⟨F1, a, bs, vb, vs, ds, o, bs', rfl, R1.sub, fa1, ha1, hb1, hvs, hn, ef, fun F' H' v vb' s1 s2 fr kp fa2 ha2 hb2 hv2 => ?_⟩
    have hj1 : j < r1.length := (List.getElem?_eq_some_iff.mp ej).1
    have fn : ∀ {c : Addr} {u : HO}, F1 c = none → H1 c = some u → F' c = none := fun {c u} z1 z2 => by
      cases z : F' c with
      | none => rfl
      | some o' => rw [fr c o' z z1] at z2; cases z2
    have ao : g.H0 a = none ∨ (j, a) ∈ g.B := R1.own j _ a ej rfl hv
    -- the slots behind the call
    have cs : ∀ (i : Nat) (u : OV), (r1.set j (some (.ow bs')))[i]? = some (some u) → (i = j ∧ u = .ow bs') ∨ (i ≠ j ∧ r1[i]? = some (some u)) := fun i u z => by
      by_cases hi : j = i
      · subst hi
        rw [List.getElem?_set_self hj1] at z
        cases z
        exact .inl ⟨rfl, rfl⟩
      · rw [List.getElem?_set_ne hi] at z
        exact .inr ⟨fun z => hi z.symm, z⟩
    have ow1 : ∀ (i : Nat) (u : OV), (r1.set j (some (.ow bs')))[i]? = some (some u) → u.own = true → ∃ u', r1[i]? = some (some u') ∧ u'.own = true := fun i u z zo => by
      rcases cs i u z with ⟨rfl, rfl⟩ | ⟨_, z'⟩
      · exact ⟨_, ej, rfl⟩
      · exact ⟨u, z', zo⟩
    have R' : Rel X.K g F' H' s (r1.set j (some (.ow bs'))) := by
      refine ⟨s2, R1.f0.trans s1, fun b u e e0 => ?_, fun b u e hb ht => ?_, fun i u e => ?_, fun i u b e eo eb => ?_, fun i i' u u' b hii e eo e' eo' => ?_, fun q hq => ?_, by rw [List.length_set]; exact R1.len, R1.tb.callA s1 kp fr (R1.tb.tno ao), fun q hq => ?_⟩
      · cases z : F1 b with
        | some u' => exact R1.fnew b u' z e0
        | none => exact R1.live (fr b u e z)
      · refine kp _ _ (R1.keep b u e hb ht) fun z => ?_
        subst z
        rcases ao with z | z
        · rw [z] at e; cases e
        · exact hb _ z rfl
      · rcases cs i u e with ⟨rfl, rfl⟩ | ⟨hi, e⟩
        · exact ⟨_, hv, a, vb', rfl, fa2, ha2, hb2⟩
        · obtain ⟨w, a1, a2⟩ := R1.slot i u e
          refine ⟨w, a1, ?_⟩
          cases u with
          | sh d => exact RD.mono s1 d a2
          | ow ys =>
            obtain ⟨c, ws, rfl, c2, c3, c4⟩ := a2
            exact ⟨c, ws, rfl, fn c2 c3, kp _ _ c3 fun z => R1.dist i j _ _ a hi e rfl ej rfl (by rw [a1, z]) hv, RDs.mono s1 ys c4⟩
          | od ys =>
            obtain ⟨c, ws, rfl, c2, c3, c4⟩ := a2
            exact ⟨c, ws, rfl, fn c2 c3, kp _ _ c3 fun z => R1.dist i j _ _ a hi e rfl ej rfl (by rw [a1, z]) hv, RDm.mono s1 ys c4⟩
          | oi c ys =>
            obtain ⟨c, ws, rfl, c2, c3, c4⟩ := a2
            exact ⟨c, ws, rfl, fn c2 c3, kp _ _ c3 fun z => R1.dist i j _ _ a hi e rfl ej rfl (by rw [a1, z]) hv, RDi.mono s1 ys c4⟩
          | th ys =>
            obtain ⟨c, ws, rfl, c2, c3, c4⟩ := a2
            exact ⟨c, ws, rfl, fn c2 c3, kp _ _ c3 fun z => R1.dist i j _ _ a hi e rfl ej rfl (by rw [a1, z]) hv, RT.mono s1 ys c4⟩
          | exc c => exact RE.mono s1 a2
      · obtain ⟨u', e', eo'⟩ := ow1 i u e eo
        exact R1.own i u' b e' eo' eb
      · obtain ⟨w, f1, f2⟩ := ow1 i u e eo
        obtain ⟨w', f1', f2'⟩ := ow1 i' u' e' eo'
        exact R1.dist i i' w w' b hii f1 f2 f1' f2'
      · obtain ⟨p1, u, p2, p3⟩ := R1.pin q hq
        refine ⟨p1, ?_⟩
        by_cases hi : j = q.1
        · exact ⟨.ow bs', by rw [← hi]; exact List.getElem?_set_self hj1, rfl⟩
        · exact ⟨u, by rw [List.getElem?_set_ne hi]; exact p2, p3⟩
      · obtain ⟨x1, x2, x3⟩ := R1.ext q hq
        refine ⟨kp _ _ x1 fun z => x3 j _ ej rfl (by rw [hv, z]), fn x2 x1, fun i u e eo => ?_⟩
        obtain ⟨u', e', eo'⟩ := ow1 i u e eo
        exact x3 i u' e' eo'
    refine q F' H' v (sm.trans s1) R' ?_
    cases o with
    | sh d => exact hv2
    | ow xs =>
      obtain ⟨c, us, d1, d2, d3, d4, d5⟩ := hv2
      refine ⟨c, us, d1, d2, d3, d4, R1.live d5, fun i u e eo => ?_, fun q hq z => by have := (R1.ext q hq).1; rw [z, d5] at this; cases this⟩
      obtain ⟨u', e', eo'⟩ := ow1 i u e eo
      exact not_own R1 d5 i u' e' eo'
    | od xs => exact hv2.elim
    | oi c xs => exact hv2.elim
    | th xs => exact hv2.elim
    | exc c => exact hv2.elim
  | od xs => cases e2
  | oi c xs => cases e2
  | th xs => cases e2
  | exc c => cases e2
/-- a name handed out: what it owned goes along -/
def mvD (i : Nat) : En → Rs OV := fun r => match lookV r i with
  | some (.sh d) => .ok (.sh d) r
  | some (.ow xs) => .ok (.ow xs) (r.set i none)
  | _ => .bad
theorem do_var (i : Nat) (hb : ∀ p ∈ g.B, p.1 ≠ i) (h : PE X (.Name x p) (tVar i)) : DO X g (.Name x p) (mvD i) := by
  refine PE.imp h fun s H Q ⟨F, r, R, q⟩ => ?_
  unfold mvD at q
  revert q
  cases e : lookV r i with
  | none => exact fun q => q.elim
  | some o =>
    have e := lookV_some e
    obtain ⟨v, h1, h2⟩ := R.slot i o e
    cases o with
    | sh d => exact fun q => ⟨v, h1, q F H v (Same.refl _) R h2⟩
    | ow xs =>
      intro q
      obtain ⟨a, vs, rfl, e2, e3, e4⟩ := h2
      have ew : r.set i none = wipeE r [i] := rfl
      have h0 : g.H0 a = none := by
        rcases R.own i _ a e rfl h1 with z | z
        · exact z
        · exact absurd rfl (hb _ z)
      have R' : Rel X.K g F H s (wipeE r [i]) := R.forget (fun p hp z => hb p hp (List.mem_singleton.mp z)) rfl fun _ _ => rfl
      refine ⟨_, h1, q F H (.ref a) (Same.refl _) R' ⟨a, vs, rfl, e2, e3, e4, h0, fun j o ej eo z => ?_, fun p hp z => ?_⟩⟩
      · have ej : (wipeE r [i])[j]? = some (some o) := ej
        obtain ⟨e5, e6⟩ := wipeE_some ej
        exact R.dist i j _ _ a (fun z => e6 (List.mem_singleton.mpr z.symm)) e rfl e5 eo h1 z
      · exact (R.ext p hp).2.2 i _ e rfl (by rw [h1, z])
    | od xs => exact fun q => q.elim
    | oi c xs => exact fun q => q.elim
    | th xs => exact fun q => q.elim
    | exc c => exact fun q => q.elim
end

/-! ### the law's own call -/
/-- the base has the table of modules: what is made stands elsewhere -/
def SysAt (base : Heap) : Prop := ∃ o, base.get? sysModules = some o
theorem law_callG {P : Program} {w : World} {K : PySem.W.Frag} {mg mb : Str → Option Value} {k : Nat} {fa a : Addr} {fd : FuncData} {x : Str} {sp : Sp} {s : Shared} {us : List Value} {ns : List Int}
    (inK : K.In s.heap) (hns : s.heap.Ns mainGlobals mg) (hbn : s.heap.Ns builtinsNs mb) (hbb : ∀ x : Str, x ≠ "__name__" → mb x = bootBuiltins x) (lim : s.heap.NoLimit) (hsys : ∃ mm, s.heap.Ns sysModules mm) (gens : s.gens = #[])
    (at_a : s.heap.get? a = some { cls := .type "list", data := .seq us.toArray }) (hints : PyProof.Rows.IntsAre us ns) (short : ns.length ≤ sizeLine) (room : Room k callerA)
    (F : ∀ base : Heap, K.In base → base.Ns mainGlobals mg → SysAt base → FnG P w K mg base CX0 k fa fd [x] sp) (bind : ∀ (s : Shared) (u : Value), BindsTo s fd ⟨[u], []⟩ [(x, u)])
    (hsp : ∀ H : Hp, Only H → SqL K H a (ns.map V.int) → sp [.ref a] H (fun v _ => v = .bl true) fun _ _ _ => False) :
    codeAny (model P w) callerA (.call (.ref fa) ⟨[.ref a], []⟩) (fun r s' => r = .ok (.ret (.bool true)) ∧ OldK s.heap s'.heap ∧ s'.os = s.os ∧ PyProof.Rows.AllBare s'.gens) s := by
  have main : ∀ H : Hp, Only H → SqL K H a (ns.map V.int) → HOk P w H s.heap → (∀ b, H b ≠ none → b = a) → (H a ≠ none → K.lookup a = none) →
      codeAny (model P w) callerA (.call (.ref fa) ⟨[.ref a], []⟩) (fun r s' => r = .ok (.ret (.bool true)) ∧ OldK s.heap s'.heap ∧ s'.os = s.os ∧ PyProof.Rows.AllBare s'.gens) s := by
    intro H only sq ok sole notK
    have hid : ∀ {b : Addr} {o : Obj}, s.heap.get? b = some o → H b = none → (hidT s.heap H).get? b = some o := fun z1 z2 => hidT_get z1 z2
    have dicts : ∀ {b : Addr} {o : Obj} {es : Array DictEntry} {ep : Nat}, s.heap.get? b = some o → o.data = .dict es ep → H b = none := by
      intro b o es ep z1 z2
      cases hz : H b with
      | none => rfl
      | some u =>
        have zb := sole b (by rw [hz]; exact Option.some_ne_none _)
        subst zb
        rw [at_a] at z1
        cases z1
        have z3 : Data.seq us.toArray _ = Data.dict es ep := z2
        cases z3
    have nsH : ∀ {b : Addr} {m : Str → Option Value}, s.heap.Ns b m → (hidT s.heap H).Ns b m := by
      rintro b m ⟨o, es, ep, z1, z2, z3⟩
      exact ⟨o, es, ep, hid z1 (dicts z1 z2), z2, z3⟩
    have inB : K.In (hidT s.heap H) := by
      intro b o z1
      refine hid (inK b o z1) ?_
      cases hz : H b with
      | none => rfl
      | some u =>
        have zb := sole b (by rw [hz]; exact Option.some_ne_none _)
        subst zb
        rw [notK (by rw [hz]; exact Option.some_ne_none _)] at z1
        cases z1
    have modl : Mod K mg (hidT s.heap H) := by
      obtain ⟨mc, l1, l2⟩ := lim
      exact ⟨inB, nsH hns, ⟨mb, nsH hbn, hbb⟩, ⟨mc, nsH l1, l2⟩⟩
    have en : Env0 P w K mg (hidT s.heap H) callerA [] s H := ⟨rfl, modl, fun b o z => of_hidT z, Nat.le_of_eq (hidT_size _ _), trivial, fun b z => absurd (show b ∈ ([] : List Addr) from z) List.not_mem_nil, ok, .of_eq gens⟩
    have sysB : SysAt (hidT s.heap H) := by
      obtain ⟨mm, hm⟩ := hsys
      obtain ⟨o, es, ep, z1, _⟩ := nsH hm
      exact ⟨o, z1⟩
    refine codeAny_mono ((F _ inB (nsH hns) sysB).run callerA [] s H ⟨[.ref a], []⟩ [.ref a] [.ref a] _ _ rfl room en (bind s (.ref a)) (.cons rfl .nil) (hsp H only sq)) ?_
    intro res s2 h2
    cases res with
    | error er => cases h2
    | ok fl =>
      cases fl with
      | next => cases h2
      | brk => cases h2
      | cont => cases h2
      | ret u =>
        obtain ⟨v, H2, os2, bare2, un2, ok2, rv, hv⟩ := h2
        have hv : v = .bl true := hv
        subst hv
        obtain rfl : u = Value.bool true := rv
        refine ⟨rfl, OldK.of_keep ?_, os2, bare2⟩
        intro b o z1
        cases hz : H b with
        | none => exact un2.keep b o z1 hz (fun z => absurd (show b ∈ ([] : List Addr) from z) List.not_mem_nil) (by simp)
        | some u =>
          cases only b with
          | inl z => rw [hz] at z; cases z
          | inr z =>
            obtain ⟨ob, xs, z⟩ := z
            have kept := (ok2 b _ (un2.frzs b ob _ z)).1
            have was := (ok b _ z).1
            rw [z1] at was
            cases was
            exact kept
  have rel := vals_ints hints
  cases look : K.lookup a with
  | some o =>
    have z := inK a o look
    rw [at_a] at z
    cases z
    exact main (fun _ => none) (fun _ => .inl rfl) (.inr ⟨_, us.toArray, _, look, rfl, rfl, rfl, by rw [List.size_toArray, hints.length]; exact short, by simpa using rel⟩) (fun b u z => nomatch (show (none : Option HO) = some u from z)) (fun b z => absurd rfl z) fun z => absurd rfl z
  | none =>
    let u0 : HO := .frz { cls := .type "list", data := .seq us.toArray } (.lst (ns.map V.int))
    have h1 : (fun b => if b = a then some u0 else none : Hp) a = some u0 := if_pos rfl
    have h2 : ∀ b, b ≠ a → (fun b => if b = a then some u0 else none : Hp) b = none := fun b hb => if_neg hb
    refine main (fun b => if b = a then some u0 else none) (fun b => ?_) (.inl (.inr ⟨_, h1⟩)) (fun b u z => ?_) (fun b z => Classical.byContradiction fun hb => z (h2 b hb)) fun _ => look
    · by_cases hb : b = a
      · subst hb; exact .inr ⟨_, _, h1⟩
      · exact .inl (h2 b hb)
    · by_cases hb : b = a
      · subst hb
        have z := h1.symm.trans z
        cases z
        exact ⟨at_a, by rw [List.length_map]; exact short, us, _, rel, at_a⟩
      · have z := (h2 b hb).symm.trans z
        cases z
end DL

/-! Data layer, part 6: operators, built-ins and methods by data. -/
namespace DL
open PySem L2

/-! ### data as the library's data; equality -/
mutual
def D.py : D → PyData
  | .non => .none
  | .bl b => .bool b
  | .int i => .int i
  | .str x => .str x
  | .lst xs => .list (pys xs)
  | .tup xs => .tuple (pys xs)
  | .dic kvs => .dict (pyk kvs)
  | .scr ns => .list (ns.map PyData.int)
  | .obj _ _ => .none
def pys : List D → List PyData
  | [] => []
  | d :: ds => d.py :: pys ds
def pyk : List (Key × D) → List (PyData × PyData)
  | [] => []
  | (k, d) :: ds => ((match k with | .inl i => .int i | .inr x => .str x), d.py) :: pyk ds
end
/-! plain: no dict, no script, texts of code points -/
mutual
def D.pl : D → Bool
  | .non => true
  | .bl _ => true
  | .int _ => true
  | .str x => x.cps.all (· < 1114112)
  | .lst xs => plAll xs
  | .tup xs => plAll xs
  | .dic _ => false
  | .scr _ => false
  | .obj _ _ => false
def plAll : List D → Bool
  | [] => true
  | d :: ds => d.pl && plAll ds
end
mutual
def D.dp : D → Nat
  | .lst xs => dpAll xs + 1
  | .tup xs => dpAll xs + 1
  | _ => 0
def dpAll : List D → Nat
  | [] => 0
  | d :: ds => max d.dp (dpAll ds)
end
mutual
def D.eqv : D → D → Bool
  | .non, .non => true
  | .bl a, .bl b => a == b
  | .bl a, .int j => (if a then 1 else 0) == j
  | .int i, .bl b => i == (if b then 1 else 0)
  | .int i, .int j => i == j
  | .str x, .str y => x == y
  | .lst xs, .lst ys => eqvAll xs ys
  | .tup xs, .tup ys => eqvAll xs ys
  | _, _ => false
def eqvAll : List D → List D → Bool
  | [], [] => true
  | x :: xs, y :: ys => x.eqv y && eqvAll xs ys
  | _, _ => false
end
/-- may be compared at any depth -/
def D.fit (d : D) : Bool := d.pl && decide (d.dp ≤ 64)
mutual
theorem py_lay : ∀ d : D, d.pl = true → d.py.canLay0 = true
  | .non, _ => rfl
  | .bl _, _ => rfl
  | .int _, _ => rfl
  | .str x, h => by
    exact h
  | .lst xs, h => by
    have h : plAll xs = true := h
    show PyData.canLayAll0 (pys xs) = true
    exact pys_lay xs h
  | .tup xs, h => by
    have h : plAll xs = true := h
    show PyData.canLayAll0 (pys xs) = true
    exact pys_lay xs h
  | .dic _, h => by cases h
  | .scr _, h => by cases h
  | .obj _ _, h => by cases h
theorem pys_lay : ∀ ds : List D, plAll ds = true → PyData.canLayAll0 (pys ds) = true
  | [], _ => rfl
  | d :: ds, h => by
    have h : (d.pl && plAll ds) = true := h
    obtain ⟨h1, h2⟩ := Bool.and_eq_true_iff.mp h
    show (d.py.canLay0 && PyData.canLayAll0 (pys ds)) = true
    rw [py_lay d h1, pys_lay ds h2]; rfl
end
mutual
theorem py_depth : ∀ d : D, d.pl = true → d.py.depth = d.dp
  | .non, _ => rfl
  | .bl _, _ => rfl
  | .int _, _ => rfl
  | .str x, h => rfl
  | .lst xs, h => by
    have h : plAll xs = true := h
    show PyData.depthAll (pys xs) + 1 = dpAll xs + 1
    rw [pys_depth xs h]
  | .tup xs, h => by
    have h : plAll xs = true := h
    show PyData.depthAll (pys xs) + 1 = dpAll xs + 1
    rw [pys_depth xs h]
  | .dic _, h => by cases h
  | .scr _, h => by cases h
  | .obj _ _, h => by cases h
theorem pys_depth : ∀ ds : List D, plAll ds = true → PyData.depthAll (pys ds) = dpAll ds
  | [], _ => rfl
  | d :: ds, h => by
    have h : (d.pl && plAll ds) = true := h
    obtain ⟨h1, h2⟩ := Bool.and_eq_true_iff.mp h
    show max d.py.depth (PyData.depthAll (pys ds)) = max d.dp (dpAll ds)
    rw [py_depth d h1, pys_depth ds h2]
end
theorem fit_shaped {d : D} (h : d.fit = true) : SeqAt.shaped d.py = true := by
  obtain ⟨h1, h2⟩ := Bool.and_eq_true_iff.mp h
  have h2 := of_decide_eq_true h2
  unfold SeqAt.shaped
  rw [py_lay d h1, py_depth d h1, decide_eq_true h2]; rfl
mutual
theorem py_eqv : ∀ d e : D, d.pl = true → e.pl = true → PyData.eqv d.py e.py = d.eqv e
  | .non, e, _, he => by cases e <;> first | rfl | cases he
  | .bl a, e, _, he => by cases e <;> first | rfl | cases he
  | .int a, e, _, he => by cases e <;> first | rfl | cases he
  | .str a, e, _, he => by cases e <;> first | rfl | cases he
  | .lst xs, e, h, he => by
    cases e with
    | lst ys =>
      have h : plAll xs = true := h
      have he : plAll ys = true := he
      show PyData.eqvAll (pys xs) (pys ys) = eqvAll xs ys
      exact pys_eqv xs ys h he
    | non => rfl
    | bl _ => rfl
    | int _ => rfl
    | str _ => rfl
    | tup _ => rfl
    | dic _ => cases he
    | scr _ => cases he
    | obj _ _ => cases he
  | .tup xs, e, h, he => by
    cases e with
    | tup ys =>
      have h : plAll xs = true := h
      have he : plAll ys = true := he
      show PyData.eqvAll (pys xs) (pys ys) = eqvAll xs ys
      exact pys_eqv xs ys h he
    | non => rfl
    | bl _ => rfl
    | int _ => rfl
    | str _ => rfl
    | lst _ => rfl
    | dic _ => cases he
    | scr _ => cases he
    | obj _ _ => cases he
  | .dic _, _, h, _ => by cases h
  | .scr _, _, h, _ => by cases h
  | .obj _ _, _, h, _ => by cases h
theorem pys_eqv : ∀ ds es : List D, plAll ds = true → plAll es = true → PyData.eqvAll (pys ds) (pys es) = eqvAll ds es
  | [], [], _, _ => rfl
  | [], _ :: _, _, _ => rfl
  | _ :: _, [], _, _ => rfl
  | d :: ds, e :: es, h, h' => by
    have h : (d.pl && plAll ds) = true := h
    have h' : (e.pl && plAll es) = true := h'
    obtain ⟨h1, h2⟩ := Bool.and_eq_true_iff.mp h
    obtain ⟨h3, h4⟩ := Bool.and_eq_true_iff.mp h'
    show (PyData.eqv d.py e.py && PyData.eqvAll (pys ds) (pys es)) = (d.eqv e && eqvAll ds es)
    rw [py_eqv d e h1 h3, pys_eqv ds es h2 h4]
end
section
variable {X : Cx} {pins : List (Addr × Obj)} {s : Shared} {F H : Hp} {sg : St}
mutual
theorem RD.reads (I : Inv X pins sg H s) : ∀ (d : D) (v : V) (u : Value), d.pl = true → RD X.K H v d → RelV v u → ∃ as, Reads s.heap u d.py as
  | .non, _, _, _, h, r => by cases h; cases r; exact ⟨_, Reads.none⟩
  | .bl b, _, _, _, h, r => by cases h; cases r; exact ⟨_, Reads.bool b⟩
  | .int i, _, _, _, h, r => by cases h; obtain ⟨t, rfl⟩ := r; exact ⟨_, Reads.int i t⟩
  | .str x, _, _, _, h, r => by cases h; obtain ⟨t, rfl⟩ := r; exact ⟨_, Reads.str x t⟩
  | .lst ds, _, _, hp, h, r => by
    have hp : plAll ds = true := hp
    cases h with
    | lst hs ha =>
      cases r
      obtain ⟨its, rv, ⟨o, n, ho, hc, _, hd⟩, _⟩ := I.list (SqL.of hs)
      obtain ⟨as, hr⟩ := RDs.reads I ds _ its hp ha rv
      exact ⟨_, Reads.list ho hc hd hr⟩
  | .tup ds, _, _, hp, h, r => by
    have hp : plAll ds = true := hp
    cases h with
    | tup hs ha =>
      cases r
      obtain ⟨its, rv, ⟨o, ho, hc, n, hd⟩, _⟩ := I.tuple hs
      obtain ⟨as, hr⟩ := RDs.reads I ds _ its hp ha rv
      exact ⟨_, Reads.tuple ho hc hd hr⟩
  | .dic _, _, _, hp, _, _ => by cases hp
  | .scr _, _, _, hp, _, _ => by cases hp
  | .obj _ _, _, _, hp, _, _ => by cases hp
theorem RDs.reads (I : Inv X pins sg H s) : ∀ (ds : List D) (vs : List V) (us : List Value), plAll ds = true → RDs X.K H vs ds → Vals vs us → ∃ as, ReadsAll s.heap us (pys ds) as
  | [], _, _, _, h, r => by cases h; cases r; exact ⟨_, ReadsAll.nil⟩
  | d :: ds, _, _, hp, h, r => by
    have hp : (d.pl && plAll ds) = true := hp
    obtain ⟨h1, h2⟩ := Bool.and_eq_true_iff.mp hp
    cases h with
    | cons a1 a2 =>
      cases r with
      | cons r1 r2 =>
        obtain ⟨as, q1⟩ := RD.reads I d _ _ h1 a1 r1
        obtain ⟨bs, q2⟩ := RDs.reads I ds _ _ h2 a2 r2
        exact ⟨_, ReadsAll.cons q1 q2⟩
end
end

/-- scalars are compared whatever their size -/
def D.sc : D → D → Option Bool
  | .int i, .int j => some (decide (i = j))
  | .str i, .str j => some (decide (i = j))
  | .bl i, .bl j => some (decide (i = j))
  | _, _ => none
/-- by the lengths alone, whatever is in them -/
def lenB : D → D → Option Bool
  | .lst xs, .lst ys => if xs.length = ys.length then none else some false
  | .tup xs, .tup [] => some xs.isEmpty
  | .tup (.str x :: xs), .tup [.str y] => some (decide (x = y) && xs.isEmpty)
  | _, _ => none
def eqB (d e : D) : Option Bool := match D.sc d e with
  | some b => some b
  | none => if d.fit && e.fit then some (d.eqv e) else lenB d e
def semEq (d e : D) : Option D := (eqB d e).map D.bl
def semNe (d e : D) : Option D := (eqB d e).map fun b => D.bl (!b)
def D.seq : D → Option (List D)
  | .lst xs => some xs
  | .tup xs => some xs
  | _ => none
def inB (d e : D) : Option Bool := match d, e with
  | .str x, .str y => some (!(Builtin.Str.occurrences y x 0 y.length 1).isEmpty)
  | d, e => match e.seq with
    | some ds => if d.fit && e.fit then some (ds.any fun z => z.eqv d) else none
    | none => none
def semIn (d e : D) : Option D := (inB d e).map D.bl
def semNotIn (d e : D) : Option D := (inB d e).map fun b => D.bl (!b)

section
variable {X : Cx} {g : G}
theorem sc_some {d e : D} {b : Bool} (h : D.sc d e = some b) : (∃ i j, d = .int i ∧ e = .int j ∧ b = decide (i = j)) ∨ (∃ i j, d = .str i ∧ e = .str j ∧ b = decide (i = j)) ∨ ∃ i j, d = .bl i ∧ e = .bl j ∧ b = decide (i = j) := by
  unfold D.sc at h
  split at h
  · cases h; exact .inl ⟨_, _, rfl, rfl, rfl⟩
  · cases h; exact .inr (.inl ⟨_, _, rfl, rfl, rfl⟩)
  · cases h; exact .inr (.inr ⟨_, _, rfl, rfl, rfl⟩)
  · cases h
theorem RB.tup {K : PySem.W.Frag} {F H : Hp} {v : V} {ds : List D} (sub : Same F H) (h : RB K F H v (.tup ds)) : ∃ a vs, v = .ref a ∧ SqT K H a vs ∧ SqT K F a vs ∧ RDs K F vs ds := by
  cases h.flat (fun _ => nofun) with
  | tup h1 h2 => exact ⟨_, _, rfl, same_sqT sub h1, h1, h2⟩
theorem opd_eq (hu : X.A.units + 64 < cLine) : OpR X (compareOp .Eq) (rD2 X.K g semEq) := by
  intro pins s sg H x y v u Q I rx ry h
  obtain ⟨F, s0, r, dx, dy, d, R, hx, hy, e, q⟩ := h
  obtain ⟨b, eb, rfl⟩ := Option.map_eq_some_iff.mp e
  clear e
  have e := eb
  unfold eqB at e
  split at e
  · next b' es =>
    cases e
    rcases sc_some es with ⟨i, j, rfl, rfl, rfl⟩ | ⟨i, j, rfl, rfl, rfl⟩ | ⟨i, j, rfl, rfl, rfl⟩
    · cases hx.flat (fun _ => nofun); cases hy.flat (fun _ => nofun)
      refine op_eq pins s sg H _ _ v u Q I rx ry ⟨rfl, ?_⟩
      have := q F H (.bl (decide (i = j))) (Same.refl _) R (.bl _)
      simpa using this
    · cases hx.flat (fun _ => nofun); cases hy.flat (fun _ => nofun)
      refine op_eq pins s sg H _ _ v u Q I rx ry ⟨rfl, ?_⟩
      have := q F H (.bl (decide (i = j))) (Same.refl _) R (.bl _)
      simpa using this
    · cases hx.flat (fun _ => nofun); cases hy.flat (fun _ => nofun)
      refine op_eq pins s sg H _ _ v u Q I rx ry ⟨rfl, ?_⟩
      have := q F H (.bl (decide (i = j))) (Same.refl _) R (.bl _)
      simpa using this
  · split at e
    · next hf =>
      cases e
      obtain ⟨f1, f2⟩ := Bool.and_eq_true_iff.mp hf
      have p1 := (Bool.and_eq_true_iff.mp f1).1
      have p2 := (Bool.and_eq_true_iff.mp f2).1
      obtain ⟨as, r1⟩ := RD.reads I dx x v p1 (hx.rd R.sub) rx
      obtain ⟨bs, r2⟩ := RD.reads I dy y u p2 (hy.rd R.sub) ry
      refine SeqAt.compareEq_shaped r1 r2 (fit_shaped f1) (fit_shaped f2) hu ⟨.bl _, H, I, rfl, ?_⟩
      rw [py_eqv dx dy p1 p2]
      exact q F H _ (Same.refl _) R (.bl _)
    · unfold lenB at e
      split at e
      · next xs ys =>
        split at e
        · cases e
        · next hne =>
          cases e
          obtain ⟨a, vs, rfl, h1, h2⟩ := hx.lst R.sub
          obtain ⟨b, ws, rfl, h3, h4⟩ := hy.lst R.sub
          cases rx
          cases ry
          obtain ⟨its, rv, pl, _⟩ := I.list (SqL.of h1)
          obtain ⟨its2, rv2, pl2, _⟩ := I.list (SqL.of h3)
          refine SeqAt.RcAt.lists_lengths pl.isList pl2.isList ?_ (by omega) X.prog X.w X.xe _ ⟨.bl false, H, I, rfl, q F H _ (Same.refl _) R (.bl _)⟩
          have z1 := rv.length
          have z2 := rv2.length
          have z3 := h2.length
          have z4 := h4.length
          simp only [List.size_toArray, bne_iff_ne, ne_eq]
          omega
      · next xs _ _ =>
        cases e
        obtain ⟨a, vs, rfl, h1, _, h2⟩ := hx.tup R.sub
        obtain ⟨b, ws, rfl, h3, _, h4⟩ := hy.tup R.sub
        cases rx
        cases ry
        obtain ⟨its, rv, pl, _⟩ := I.tuple h1
        obtain ⟨its2, rv2, pl2, _⟩ := I.tuple h3
        have z1 := rv.length
        have z2 := rv2.length
        have z3 := h2.length
        have z4 := h4.length
        have hz : its2 = [] := List.eq_nil_of_length_eq_zero (by rw [← z2, z4]; rfl)
        subst hz
        have hb : ((List.range (min its.toArray.size (List.toArray ([] : List Value)).size)).all (fun _ => true) && its.toArray.size == (List.toArray ([] : List Value)).size) = xs.isEmpty := by
          simp only [List.size_toArray, List.length_nil, Nat.min_zero, List.range_zero, List.all_nil, Bool.true_and]
          have z5 : its.length = xs.length := by rw [← z1, z3]
          rw [z5]
          cases xs with
          | nil => rfl
          | cons x xs => rfl
        have := SeqAt.RcAt.tuples (A := X.A) (s := s) (e := fun _ => true) pl pl2 (by omega) (fun j _ h => absurd h (by simp))
        rw [hb] at this
        exact this X.prog X.w X.xe _ ⟨.bl _, H, I, rfl, q F H _ (Same.refl _) R (.bl _)⟩
      · next x xs y _ _ =>
        cases e
        obtain ⟨a, vs, rfl, h1, _, h2⟩ := hx.tup R.sub
        obtain ⟨b, ws, rfl, h3, _, h4⟩ := hy.tup R.sub
        cases rx
        cases ry
        obtain ⟨its, rv, pl, _⟩ := I.tuple h1
        obtain ⟨its2, rv2, pl2, _⟩ := I.tuple h3
        cases h2 with
        | cons a1 a2 =>
        cases h4 with
        | cons a3 a4 =>
        cases a1; cases a3; cases a4
        cases rv with
        | cons r1 r2 =>
        cases rv2 with
        | cons r3 r4 =>
        obtain ⟨t1, rfl⟩ := r1
        obtain ⟨t2, rfl⟩ := r3
        cases r4
        have z1 := r2.length
        have z3 := a2.length
        rename_i its _ _
        have hb : ∀ (v u : Value) (its : List Value), its.length = xs.length → ((List.range (min (v :: its).toArray.size [u].toArray.size)).all (fun _ => decide (x = y)) && (v :: its).toArray.size == [u].toArray.size) = (decide (x = y) && xs.isEmpty) := by
          intro v u its z5
          have hm : min (its.length + 1) 1 = 1 := by omega
          simp only [List.size_toArray, List.length_cons, List.length_nil, Nat.zero_add, hm, z5]
          cases xs with
          | nil => simp [List.range, List.range.loop]
          | cons x xs => simp [List.range, List.range.loop]
        have := SeqAt.RcAt.tuples (A := X.A) (s := s) (e := fun _ => decide (x = y)) pl pl2 (by omega) (fun j _ h => by
          have : j = 0 := by simp at h; omega
          subst this
          exact SeqAt.EqAt.str_str _ _ _ _)
        rw [hb _ _ _ (by omega)] at this
        exact this X.prog X.w X.xe _ ⟨.bl _, H, I, rfl, q F H _ (Same.refl _) R (.bl _)⟩
      · cases e
theorem opd_ne (hu : X.A.units + 64 < cLine) : OpR X (compareOp .NotEq) (rD2 X.K g semNe) := by
  intro pins s sg H x y v u Q I rx ry h
  obtain ⟨F, s0, r, dx, dy, d, R, hx, hy, e, q⟩ := h
  obtain ⟨b, eb, rfl⟩ := Option.map_eq_some_iff.mp e
  clear e
  have e := eb
  unfold eqB at e
  split at e
  · next b' es =>
    cases e
    rcases sc_some es with ⟨i, j, rfl, rfl, rfl⟩ | ⟨i, j, rfl, rfl, rfl⟩ | ⟨i, j, rfl, rfl, rfl⟩
    · cases hx.flat (fun _ => nofun); cases hy.flat (fun _ => nofun)
      refine op_ne pins s sg H _ _ v u Q I rx ry ⟨rfl, ?_⟩
      have := q F H (.bl (!decide (i = j))) (Same.refl _) R (.bl _)
      simpa using this
    · cases hx.flat (fun _ => nofun); cases hy.flat (fun _ => nofun)
      refine op_ne pins s sg H _ _ v u Q I rx ry ⟨rfl, ?_⟩
      have := q F H (.bl (!decide (i = j))) (Same.refl _) R (.bl _)
      simpa using this
    · cases hx.flat (fun _ => nofun); cases hy.flat (fun _ => nofun)
      refine op_ne pins s sg H _ _ v u Q I rx ry ⟨rfl, ?_⟩
      have := q F H (.bl (!decide (i = j))) (Same.refl _) R (.bl _)
      simpa using this
  · split at e
    · next hf =>
      cases e
      obtain ⟨f1, f2⟩ := Bool.and_eq_true_iff.mp hf
      have p1 := (Bool.and_eq_true_iff.mp f1).1
      have p2 := (Bool.and_eq_true_iff.mp f2).1
      obtain ⟨as, r1⟩ := RD.reads I dx x v p1 (hx.rd R.sub) rx
      obtain ⟨bs, r2⟩ := RD.reads I dy y u p2 (hy.rd R.sub) ry
      refine SeqAt.compareNe_shaped r1 r2 (fit_shaped f1) (fit_shaped f2) hu ⟨.bl _, H, I, rfl, ?_⟩
      rw [py_eqv dx dy p1 p2]
      exact q F H _ (Same.refl _) R (.bl _)
    · unfold lenB at e
      split at e
      · next xs ys =>
        split at e
        · cases e
        · next hne =>
          cases e
          obtain ⟨a, vs, rfl, h1, h2⟩ := hx.lst R.sub
          obtain ⟨b, ws, rfl, h3, h4⟩ := hy.lst R.sub
          cases rx
          cases ry
          obtain ⟨its, rv, pl, _⟩ := I.list (SqL.of h1)
          obtain ⟨its2, rv2, pl2, _⟩ := I.list (SqL.of h3)
          refine SeqAt.RcNeAt.lists_lengths pl.isList pl2.isList ?_ (by omega) X.prog X.w X.xe _ ⟨.bl true, H, I, rfl, q F H _ (Same.refl _) R (.bl _)⟩
          have z1 := rv.length
          have z2 := rv2.length
          have z3 := h2.length
          have z4 := h4.length
          simp only [List.size_toArray, bne_iff_ne, ne_eq]
          omega
      · next xs _ _ =>
        cases e
        obtain ⟨a, vs, rfl, h1, _, h2⟩ := hx.tup R.sub
        obtain ⟨b, ws, rfl, h3, _, h4⟩ := hy.tup R.sub
        cases rx
        cases ry
        obtain ⟨its, rv, pl, _⟩ := I.tuple h1
        obtain ⟨its2, rv2, pl2, _⟩ := I.tuple h3
        have z1 := rv.length
        have z2 := rv2.length
        have z3 := h2.length
        have z4 := h4.length
        have hz : its2 = [] := List.eq_nil_of_length_eq_zero (by rw [← z2, z4]; rfl)
        subst hz
        have hb : ((List.range (min its.toArray.size (List.toArray ([] : List Value)).size)).all (fun _ => true) && its.toArray.size == (List.toArray ([] : List Value)).size) = xs.isEmpty := by
          simp only [List.size_toArray, List.length_nil, Nat.min_zero, List.range_zero, List.all_nil, Bool.true_and]
          have z5 : its.length = xs.length := by rw [← z1, z3]
          rw [z5]
          cases xs with
          | nil => rfl
          | cons x xs => rfl
        have := SeqAt.RcNeAt.tuples (A := X.A) (s := s) (e := fun _ => true) pl pl2 (by omega) (fun j _ h => absurd h (by simp))
        rw [hb] at this
        exact this X.prog X.w X.xe _ ⟨.bl _, H, I, rfl, q F H _ (Same.refl _) R (.bl _)⟩
      · next x xs y _ _ =>
        cases e
        obtain ⟨a, vs, rfl, h1, _, h2⟩ := hx.tup R.sub
        obtain ⟨b, ws, rfl, h3, _, h4⟩ := hy.tup R.sub
        cases rx
        cases ry
        obtain ⟨its, rv, pl, _⟩ := I.tuple h1
        obtain ⟨its2, rv2, pl2, _⟩ := I.tuple h3
        cases h2 with
        | cons a1 a2 =>
        cases h4 with
        | cons a3 a4 =>
        cases a1; cases a3; cases a4
        cases rv with
        | cons r1 r2 =>
        cases rv2 with
        | cons r3 r4 =>
        obtain ⟨t1, rfl⟩ := r1
        obtain ⟨t2, rfl⟩ := r3
        cases r4
        have z1 := r2.length
        have z3 := a2.length
        rename_i its _ _
        have hb : ∀ (v u : Value) (its : List Value), its.length = xs.length → ((List.range (min (v :: its).toArray.size [u].toArray.size)).all (fun _ => decide (x = y)) && (v :: its).toArray.size == [u].toArray.size) = (decide (x = y) && xs.isEmpty) := by
          intro v u its z5
          have hm : min (its.length + 1) 1 = 1 := by omega
          simp only [List.size_toArray, List.length_cons, List.length_nil, Nat.zero_add, hm, z5]
          cases xs with
          | nil => simp [List.range, List.range.loop]
          | cons x xs => simp [List.range, List.range.loop]
        have := SeqAt.RcNeAt.tuples (A := X.A) (s := s) (e := fun _ => decide (x = y)) pl pl2 (by omega) (fun j _ h => by
          have : j = 0 := by simp at h; omega
          subst this
          exact SeqAt.EqAt.str_str _ _ _ _)
        rw [hb _ _ _ (by omega)] at this
        exact this X.prog X.w X.xe _ ⟨.bl _, H, I, rfl, q F H _ (Same.refl _) R (.bl _)⟩
      · cases e
theorem any_py (ds : List D) (d : D) (h : plAll ds = true) (hd : d.pl = true) : ((pys ds).any fun y => PyData.eqv y d.py) = ds.any fun z => z.eqv d := by
  induction ds with
  | nil => rfl
  | cons e es ih =>
    have h : (e.pl && plAll es) = true := h
    obtain ⟨h1, h2⟩ := Bool.and_eq_true_iff.mp h
    show (PyData.eqv e.py d.py || (pys es).any fun y => PyData.eqv y d.py) = (e.eqv d || es.any fun z => z.eqv d)
    rw [ih h2, py_eqv e d h1 hd]
theorem room_in {n m : Nat} {A : Around} (h : m ≤ 64) (hu : A.units + 65 < cLine) : A.units + 1 + min n m < cLine := by
  have : min n m ≤ m := Nat.min_le_right _ _
  omega
theorem inB_cases {dx dy : D} {b : Bool} (e : inB dx dy = some b) : (∃ x y, dx = .str x ∧ dy = .str y ∧ b = !(Builtin.Str.occurrences y x 0 y.length 1).isEmpty) ∨ ∃ ds, dy.seq = some ds ∧ dx.fit = true ∧ dy.fit = true ∧ b = ds.any fun z => z.eqv dx := by
  unfold inB at e
  split at e
  · cases e; exact .inl ⟨_, _, rfl, rfl, rfl⟩
  · split at e
    · next ds es =>
      split at e
      · next hf =>
        cases e
        obtain ⟨f1, f2⟩ := Bool.and_eq_true_iff.mp hf
        exact .inr ⟨ds, es, f1, f2, rfl⟩
      · cases e
    · cases e
theorem opd_in (hu : X.A.units + 65 < cLine) : OpR X (compareOp .In) (rD2 X.K g semIn) := by
  intro pins s sg H x y v u Q I rx ry h
  obtain ⟨F, s0, r, dx, dy, d, R, hx, hy, e, q⟩ := h
  obtain ⟨b, eb, rfl⟩ := Option.map_eq_some_iff.mp e
  clear e
  have e := eb
  rcases inB_cases e with ⟨x', y', rfl, rfl, rfl⟩ | ⟨ds, es, f1, f2, rfl⟩
  · cases hx.flat (fun _ => nofun); cases hy.flat (fun _ => nofun)
    exact op_in_str pins s sg H _ _ v u Q I rx ry ⟨_, _, rfl, rfl, q F H _ (Same.refl _) R (.bl _)⟩
  · have p1 := (Bool.and_eq_true_iff.mp f1).1
    have p2 := (Bool.and_eq_true_iff.mp f2).1
    have dp1 := of_decide_eq_true (Bool.and_eq_true_iff.mp f1).2
    obtain ⟨as, r1⟩ := RD.reads I dx x v p1 (hx.rd R.sub) rx
    obtain ⟨bs, r2⟩ := RD.reads I dy y u p2 (hy.rd R.sub) ry
    have fin : EP X pins sg Q (.bool ((pys ds).any fun y => PyData.eqv y dx.py)) s := by
      refine ⟨.bl _, H, I, rfl, ?_⟩
      have pd : plAll ds = true := by
        cases dy <;> first | (cases es; exact p2) | cases es
      rw [any_py ds dx pd p1]
      exact q F H _ (Same.refl _) R (.bl _)
    cases dy with
    | lst zs =>
      cases es
      exact SeqAt.in_list_reads (show Reads s.heap u (.list (pys ds)) bs from r2) r1 (pys_lay ds p2) (py_lay dx p1) (by rw [py_depth dx p1]; exact room_in dp1 hu) fin
    | tup zs =>
      cases es
      exact SeqAt.in_tuple_reads (show Reads s.heap u (.tuple (pys ds)) bs from r2) r1 (pys_lay ds p2) (py_lay dx p1) (by rw [py_depth dx p1]; exact room_in dp1 hu) fin
    | _ => cases es
theorem opd_notIn (hu : X.A.units + 65 < cLine) : OpR X (compareOp .NotIn) (rD2 X.K g semNotIn) := by
  intro pins s sg H x y v u Q I rx ry h
  obtain ⟨F, s0, r, dx, dy, d, R, hx, hy, e, q⟩ := h
  obtain ⟨b, eb, rfl⟩ := Option.map_eq_some_iff.mp e
  clear e
  have e := eb
  rcases inB_cases e with ⟨x', y', rfl, rfl, rfl⟩ | ⟨ds, es, f1, f2, rfl⟩
  · cases hx.flat (fun _ => nofun); cases hy.flat (fun _ => nofun)
    exact op_notin_str pins s sg H _ _ v u Q I rx ry ⟨_, _, rfl, rfl, q F H _ (Same.refl _) R (.bl _)⟩
  · have p1 := (Bool.and_eq_true_iff.mp f1).1
    have p2 := (Bool.and_eq_true_iff.mp f2).1
    have dp1 := of_decide_eq_true (Bool.and_eq_true_iff.mp f1).2
    obtain ⟨as, r1⟩ := RD.reads I dx x v p1 (hx.rd R.sub) rx
    obtain ⟨bs, r2⟩ := RD.reads I dy y u p2 (hy.rd R.sub) ry
    have fin : EP X pins sg Q (.bool (!(pys ds).any fun y => PyData.eqv y dx.py)) s := by
      refine ⟨.bl _, H, I, rfl, ?_⟩
      have pd : plAll ds = true := by
        cases dy <;> first | (cases es; exact p2) | cases es
      rw [any_py ds dx pd p1]
      exact q F H _ (Same.refl _) R (.bl _)
    cases dy with
    | lst zs =>
      cases es
      exact SeqAt.notIn_list_reads (show Reads s.heap u (.list (pys ds)) bs from r2) r1 (pys_lay ds p2) (py_lay dx p1) (by rw [py_depth dx p1]; exact room_in dp1 hu) fin
    | tup zs =>
      cases es
      exact SeqAt.notIn_tuple_reads (show Reads s.heap u (.tuple (pys ds)) bs from r2) r1 (pys_lay ds p2) (py_lay dx p1) (by rw [py_depth dx p1]; exact room_in dp1 hu) fin
    | _ => cases es
end
end DL

/-! Data layer, part 7: arithmetic, subscripts, slices, built-ins, methods. -/
namespace DL
open PySem L2

/-! ### arithmetic -/
def semAdd : D → D → Option D
  | .int i, .int j => some (.int (i + j))
  | .str x, .str y => if x.length + y.length ≤ 1000000 then some (.str (x ++ y)) else none
  | .lst xs, .lst ys => if xs.length + ys.length ≤ 1000000 then some (.lst (xs ++ ys)) else none
  | .tup xs, .tup ys => if xs.length + ys.length ≤ 1000000 then some (.tup (xs ++ ys)) else none
  | _, _ => none
def semSub : D → D → Option D
  | .int i, .int j => some (.int (i - j))
  | _, _ => none
def semMul : D → D → Option D
  | .int i, .int j => if (-18446744073709551616 < i ∧ i < 18446744073709551616) then some (.int (i * j)) else none
  | .lst xs, .int k => if 0 ≤ k ∧ k ≤ 10000 ∧ xs.length ≤ 1000 then some (.lst (List.replicate k.toNat xs).flatten) else none
  | .str x, .int k => if 0 ≤ k ∧ k ≤ 1000 ∧ x.length ≤ 1000 then some (.str (Txt.mul x k)) else none
  | .tup xs, .int k => if xs ≠ [] ∧ 2 ≤ k ∧ k ≤ 1000 ∧ xs.length ≤ 1000 then some (.tup (List.replicate k.toNat xs).flatten) else none
  | _, _ => none
theorem mulOk_small {x : Str} {k : Int} (h : 0 ≤ k ∧ k ≤ 1000 ∧ x.length ≤ 1000) : MulOk x k := by
  refine ⟨?_, fun h1 _ h2 => ?_, fun _ _ => ?_⟩
  · have h1 : decide (k < -(2 ^ 63 : Int)) = false := decide_eq_false (by omega)
    have h2 : decide (k ≥ 2 ^ 63) = false := decide_eq_false (by omega)
    rw [h1, h2]; rfl
  · have h3 : (x.length : Int) ≤ 1000 := by omega
    have h4 : (1000 : Int) ≤ (2 ^ 63 - 1) / k := by
      apply Int.le_ediv_of_mul_le (by omega)
      omega
    omega
  · have h5 : k.toNat ≤ 1000 := by omega
    have h6 : x.length * k.toNat ≤ 1000 * 1000 := Nat.mul_le_mul h.2.2 h5
    unfold Builtin.Str.tooLong
    rw [sizeLine_eq]
    simp
    omega
def semFdiv : D → D → Option D
  | .int i, .int j => if 0 < j ∧ j < 1073741824 then some (.int (i / j)) else none
  | _, _ => none
def semMod : D → D → Option D
  | .int i, .int j => if 0 < j then some (.int (i % j)) else none
  | _, _ => none
def semNeg : D → Option D
  | .int i => some (.int (-i))
  | _ => none
theorem mil_line : (1000000 : Nat) ≤ sizeLine := by decide
section
variable {X : Cx} {g : G}
/-- a new list, frozen -/
theorem PD.lst {K : PySem.W.Frag} {F H : Hp} {s : St} {r : En} {Q : VK} {ds : List D} {vs : List V} (R : Rel K g F H s r) (hvs : RDs K F vs ds) (q : PD K g F s Q (.lst ds) r) (p : Addr) (np : H p = none) : Q (.ref p) (L2.upd H p (.lst vs)) := by
  have sF := same_upd (o := .lst vs) (R.ff np)
  exact q _ _ _ sF (R.alloc np) (.lst upd_same (RDs.mono sF ds hvs))
theorem PD.tup {K : PySem.W.Frag} {F H : Hp} {s : St} {r : En} {Q : VK} {ds : List D} {vs : List V} (R : Rel K g F H s r) (hvs : RDs K F vs ds) (q : PD K g F s Q (.tup ds) r) (p : Addr) (np : H p = none) : Q (.ref p) (L2.upd H p (.tup vs)) := by
  have sF := same_upd (o := .tup vs) (R.ff np)
  exact q _ _ _ sF (R.alloc np) (.tup (.of upd_same) (RDs.mono sF ds hvs))
theorem opd_add : OpR X (binaryOp .Add) (rD2 X.K g semAdd) := by
  intro pins s sg H x y v u Q I rx ry h
  obtain ⟨F, s0, r, dx, dy, d, R, hx, hy, e, q⟩ := h
  unfold semAdd at e
  split at e
  · cases e
    cases hx.flat (fun _ => nofun); cases hy.flat (fun _ => nofun)
    exact op_add pins s sg H _ _ v u Q I rx ry ⟨_, _, rfl, rfl, q F H _ (Same.refl _) R (.int _)⟩
  · split at e
    · next hl =>
      cases e
      cases hx.flat (fun _ => nofun); cases hy.flat (fun _ => nofun)
      exact op_add_str pins s sg H _ _ v u Q I rx ry ⟨_, _, rfl, rfl, Nat.le_trans hl mil_line, q F H _ (Same.refl _) R (.str _)⟩
    · cases e
  · split at e
    · next hl =>
      cases e
      obtain ⟨a, vs, rfl, h1, h2⟩ := hx.lst R.sub
      obtain ⟨b, ws, rfl, h3, h4⟩ := hy.lst R.sub
      exact op_cat pins s sg H _ _ v u Q I rx ry ⟨a, b, vs, ws, rfl, rfl, h1, h3, by rw [h2.length, h4.length]; exact Nat.le_trans hl mil_line, PD.lst R (h2.app h4) q⟩
    · cases e
  · split at e
    · next hl =>
      cases e
      obtain ⟨a, vs, rfl, h1, h1', h2⟩ := hx.tup R.sub
      obtain ⟨b, ws, rfl, h3, h3', h4⟩ := hy.tup R.sub
      refine op_catA pins s sg H _ _ v u Q I rx ry ⟨a, b, vs, ws, rfl, rfl, h1, h3, by rw [h2.length, h4.length]; exact Nat.le_trans hl mil_line, fun z => ?_, fun _ z => ?_, fun _ _ => PD.tup R (h2.app h4) q⟩
      · subst z
        cases h2
        rw [List.nil_append] at q
        exact q F H _ (Same.refl _) R (.tup h3' h4)
      · subst z
        cases h4
        rw [List.append_nil] at q
        exact q F H _ (Same.refl _) R (.tup h1' h2)
    · cases e
  · cases e
theorem opd_sub : OpR X (binaryOp .Sub) (rD2 X.K g semSub) := by
  intro pins s sg H x y v u Q I rx ry h
  obtain ⟨F, s0, r, dx, dy, d, R, hx, hy, e, q⟩ := h
  unfold semSub at e
  split at e
  · cases e
    cases hx.flat (fun _ => nofun); cases hy.flat (fun _ => nofun)
    exact op_sub pins s sg H _ _ v u Q I rx ry ⟨_, _, rfl, rfl, q F H _ (Same.refl _) R (.int _)⟩
  · cases e
theorem opd_mul : OpR X (binaryOp .Mult) (rD2 X.K g semMul) := by
  intro pins s sg H x y v u Q I rx ry h
  obtain ⟨F, s0, r, dx, dy, d, R, hx, hy, e, q⟩ := h
  unfold semMul at e
  split at e
  · split at e
    · next hl =>
      cases e
      cases hx.flat (fun _ => nofun); cases hy.flat (fun _ => nofun)
      exact op_mul pins s sg H _ _ v u Q I rx ry ⟨_, _, rfl, rfl, .inl ⟨by omega, by omega⟩, q F H _ (Same.refl _) R (.int _)⟩
    · cases e
  · split at e
    · next xs k hl =>
      cases e
      obtain ⟨a, vs, rfl, h1, h2⟩ := hx.lst R.sub
      cases hy.flat (fun _ => nofun)
      have rep : ∀ n : Nat, RDs X.K F (List.replicate n vs).flatten (List.replicate n xs).flatten := fun n => by
        induction n with
        | zero => exact .nil
        | succ n ih =>
          rw [List.replicate_succ, List.replicate_succ, List.flatten_cons, List.flatten_cons]
          exact h2.app ih
      refine op_rep pins s sg H _ _ v u Q I rx ry ⟨a, k, vs, rfl, rfl, h1, by omega, by omega, ?_, PD.lst R (rep _) q⟩
      rw [h2.length]
      have h5 : k.toNat ≤ 10000 := by omega
      have h6 : xs.length * k.toNat ≤ 1000 * 10000 := Nat.mul_le_mul hl.2.2 h5
      exact Nat.le_trans h6 (by decide)
    · cases e
  · split at e
    · next x k hl =>
      cases e
      cases hx.flat (fun _ => nofun); cases hy.flat (fun _ => nofun)
      obtain ⟨t, rfl⟩ := rx
      obtain ⟨t', rfl⟩ := ry
      exact SB.mul (mulOk_small hl) fun t'' k' => ⟨.str _, H, I.tok _, ⟨_, rfl⟩, q F H _ (Same.refl _) R (.str _)⟩
    · cases e
  · split at e
    · next xs k hl =>
      cases e
      obtain ⟨a, vs, rfl, h1, _, h2⟩ := hx.tup R.sub
      cases hy.flat (fun _ => nofun)
      have rep : ∀ n : Nat, RDs X.K F (List.replicate n vs).flatten (List.replicate n xs).flatten := fun n => by
        induction n with
        | zero => exact .nil
        | succ n ih =>
          rw [List.replicate_succ, List.replicate_succ, List.flatten_cons, List.flatten_cons]
          exact h2.app ih
      refine op_repT pins s sg H _ _ v u Q I rx ry ⟨a, k, vs, rfl, rfl, h1, fun z => hl.1 ?_, hl.2.1, hl.2.2.1, by rw [h2.length]; exact hl.2.2.2, PD.tup R (rep _) q⟩
      have := h2.length
      rw [z] at this
      exact List.length_eq_zero_iff.mp this.symm
    · cases e
  · cases e
theorem opd_fdiv : OpR X (binaryOp .FloorDiv) (rD2 X.K g semFdiv) := by
  intro pins s sg H x y v u Q I rx ry h
  obtain ⟨F, s0, r, dx, dy, d, R, hx, hy, e, q⟩ := h
  unfold semFdiv at e
  split at e
  · split at e
    · next hl =>
      cases e
      cases hx.flat (fun _ => nofun); cases hy.flat (fun _ => nofun)
      exact op_fdiv pins s sg H _ _ v u Q I rx ry ⟨_, _, rfl, rfl, hl, q F H _ (Same.refl _) R (.int _)⟩
    · cases e
  · cases e
theorem opd_mod : OpR X (binaryOp .Mod) (rD2 X.K g semMod) := by
  intro pins s sg H x y v u Q I rx ry h
  obtain ⟨F, s0, r, dx, dy, d, R, hx, hy, e, q⟩ := h
  unfold semMod at e
  split at e
  · split at e
    · next hl =>
      cases e
      cases hx.flat (fun _ => nofun); cases hy.flat (fun _ => nofun)
      exact op_mod pins s sg H _ _ v u Q I rx ry ⟨_, _, rfl, rfl, hl, q F H _ (Same.refl _) R (.int _)⟩
    · cases e
  · cases e
/-! ### order -/
def semLt : D → D → Option D
  | .int i, .int j => some (.bl (decide (i < j)))
  | .str i, .str j => some (.bl (decide (i.cps.toList < j.cps.toList)))
  | _, _ => none
def semLe : D → D → Option D
  | .int i, .int j => some (.bl (decide (i ≤ j)))
  | _, _ => none
def semGt : D → D → Option D
  | .int i, .int j => some (.bl (decide (j < i)))
  | _, _ => none
def semGe : D → D → Option D
  | .int i, .int j => some (.bl (decide (j ≤ i)))
  | _, _ => none
theorem opd_le : OpR X (compareOp .LtE) (rD2 X.K g semLe) := by
  intro pins s sg H x y v u Q I rx ry h
  obtain ⟨F, s0, r, dx, dy, d, R, hx, hy, e, q⟩ := h
  unfold semLe at e
  split at e
  · cases e
    cases hx.flat (fun _ => nofun); cases hy.flat (fun _ => nofun)
    exact op_le pins s sg H _ _ v u Q I rx ry ⟨_, _, rfl, rfl, q F H _ (Same.refl _) R (.bl _)⟩
  · cases e
theorem opd_gt : OpR X (compareOp .Gt) (rD2 X.K g semGt) := by
  intro pins s sg H x y v u Q I rx ry h
  obtain ⟨F, s0, r, dx, dy, d, R, hx, hy, e, q⟩ := h
  unfold semGt at e
  split at e
  · cases e
    cases hx.flat (fun _ => nofun); cases hy.flat (fun _ => nofun)
    exact op_gt pins s sg H _ _ v u Q I rx ry ⟨_, _, rfl, rfl, q F H _ (Same.refl _) R (.bl _)⟩
  · cases e
theorem opd_ge : OpR X (compareOp .GtE) (rD2 X.K g semGe) := by
  intro pins s sg H x y v u Q I rx ry h
  obtain ⟨F, s0, r, dx, dy, d, R, hx, hy, e, q⟩ := h
  unfold semGe at e
  split at e
  · cases e
    cases hx.flat (fun _ => nofun); cases hy.flat (fun _ => nofun)
    exact op_ge pins s sg H _ _ v u Q I rx ry ⟨_, _, rfl, rfl, q F H _ (Same.refl _) R (.bl _)⟩
  · cases e
/-- is None, is not None -/
def D.isN : D → Bool
  | .non => true
  | _ => false
def semIs : D → D → Option D
  | d, .non => some (.bl d.isN)
  | _, _ => none
def semIsNot : D → D → Option D
  | d, .non => some (.bl (!d.isN))
  | _, _ => none
/-! ### subscripts -/
def semIx : D → D → Option D
  | .lst xs, .int i => atI xs i
  | .tup xs, .int i => atI xs i
  | .str x, .int i => if x.length ≤ 1000000 then (atI x.cps.toList i).map fun c => .str ⟨#[c]⟩ else none
  | _, _ => none
theorem RDs.at {K : PySem.W.Frag} {F : Hp} {vs : List V} {ds : List D} {i : Int} {d : D} (h : RDs K F vs ds) (e : atI ds i = some d) : ∃ v, atI vs i = some v ∧ RD K F v d := by
  unfold atI at e ⊢
  rw [h.length]
  obtain ⟨j, e1, e2⟩ := Option.bind_eq_some_iff.mp e
  obtain ⟨v, h1, h2⟩ := h.get e2
  exact ⟨v, by rw [e1]; exact h1, h2⟩
theorem ixd : IxR X (rD2 X.K g semIx) := by
  intro value slice pins s sg H x y v u Q I rx ry h hs
  obtain ⟨F, s0, r, dx, dy, d, R, hx, hy, e, q⟩ := h
  unfold semIx at e
  split at e
  · obtain ⟨a, vs, rfl, h1, h2⟩ := hx.lst R.sub
    cases hy.flat (fun _ => nofun)
    obtain ⟨w, e1, e2⟩ := h2.at e
    exact ix_list value slice pins s sg H _ _ v u Q I rx ry ⟨a, vs, _, w, rfl, rfl, .of h1, e1, q F H _ (Same.refl _) R e2⟩ hs
  · obtain ⟨a, vs, rfl, h1, _, h2⟩ := hx.tup R.sub
    cases hy.flat (fun _ => nofun)
    obtain ⟨w, e1, e2⟩ := h2.at e
    exact ix_tup value slice pins s sg H _ _ v u Q I rx ry ⟨a, vs, _, w, rfl, rfl, h1, e1, q F H _ (Same.refl _) R e2⟩ hs
  · split at e
    · next hl =>
      obtain ⟨c, e1, rfl⟩ := Option.map_eq_some_iff.mp e
      cases hx.flat (fun _ => nofun); cases hy.flat (fun _ => nofun)
      exact ix_str value slice pins s sg H _ _ v u Q I rx ry ⟨_, _, c, rfl, rfl, Nat.le_trans hl mil_line, e1, q F H _ (Same.refl _) R (.str _)⟩ hs
    · cases e
  · cases e

/-! ### slices -/
def cutL {α : Type} (xs : List α) (lo hi : Option Int) : List α := (xs.drop (HT.sIx xs.length 0 lo)).take (HT.sIx xs.length xs.length hi - HT.sIx xs.length 0 lo)
theorem RDs.cut {K : PySem.W.Frag} {F : Hp} {vs : List V} {ds : List D} (h : RDs K F vs ds) (lo hi : Option Int) : RDs K F (cutV vs lo hi) (cutL ds lo hi) := by
  unfold cutV cutL
  rw [h.length]
  exact (h.dp _).tk _
def semSl : D → Option Int → Option Int → Option D
  | .lst xs, lo, hi => some (.lst (cutL xs lo hi))
  | .scr ns, lo, hi => some (.lst ((cutL ns lo hi).map D.int))
  | .tup xs, lo, hi => some (.tup (cutL xs lo hi))
  | .str x, lo, hi => if x.length ≤ 1000000 then some (.str (cutS x lo hi)) else none
  | _, _, _ => none
def rDsl (K : PySem.W.Frag) (g : G) (sem : D → Option Int → Option Int → Option D) : V → Option Int → Option Int → Hp → VK → Prop := fun x lo hi H Q => ∃ F s r dx d, Rel K g F H s r ∧ RB K F H x dx ∧ sem dx lo hi = some d ∧ PD K g F s Q d r
theorem cut_ints (ns : List Int) (lo hi : Option Int) : cutV (ns.map V.int) lo hi = (cutL ns lo hi).map V.int := by
  unfold cutV cutL
  rw [List.length_map, List.map_take, List.map_drop]
theorem sld : SlR X (rDsl X.K g semSl) := by
  intro pins s sg H x v vl vu lo hi sl Q I rx hs pl pu h
  obtain ⟨F, s0, r, dx, d, R, hx, e, q⟩ := h
  unfold semSl at e
  split at e
  · cases e
    obtain ⟨a, vs, rfl, h1, h2⟩ := hx.lst R.sub
    exact sl_list pins s sg H _ v vl vu lo hi sl Q I rx hs pl pu ⟨a, vs, rfl, .of h1, PD.lst R (h2.cut lo hi) q⟩
  · next ns _ _ =>
    cases e
    cases hx.flat (fun _ => nofun) with
    | scr _ h1 =>
      refine sl_list pins s sg H _ v vl vu lo hi sl Q I rx hs pl pu ⟨_, _, rfl, R.sub.seq h1, ?_⟩
      rw [cut_ints]
      exact PD.lst R (RDs.ints _) q
  · cases e
    obtain ⟨a, vs, rfl, h1, h1', h2⟩ := hx.tup R.sub
    refine sl_tupA pins s sg H _ v vl vu lo hi sl Q I rx hs pl pu ⟨a, vs, rfl, h1, fun z => ?_, fun _ => PD.tup R (h2.cut lo hi) q⟩
    have ec : ∀ ys : List D, RDs X.K F vs ys → cutL ys lo hi = ys := fun ys h => by
      unfold cutL
      rw [h.length] at z
      rw [z.1, z.2]
      simp
    rw [ec _ h2] at q
    exact q F H _ (Same.refl _) R (.tup h1' h2)
  · split at e
    · next hl =>
      cases e
      cases hx.flat (fun _ => nofun)
      exact sl_str pins s sg H _ v vl vu lo hi sl Q I rx hs pl pu ⟨_, rfl, Nat.le_trans hl mil_line, q F H _ (Same.refl _) R (.str _)⟩
    · cases e
  · cases e
variable {a b c e : Expr} {pos p2 : Pos} {p : Opd}
/-- the parts of a slice: left out, or an int -/
def PtO (K : PySem.W.Frag) (g : G) (F : Hp) (s : St) (Q : Option Int → Hp → Prop) (o : Option Int) (r' : En) : Prop := ∀ F' H', Same F F' → Rel K g F' H' s r' → Q o H'
def tPO (K : PySem.W.Frag) (g : G) (f : En → Rs (Option Int)) : TO := fun s H Q => ∃ F r, Rel K g F H s r ∧ post K g (PtO K g F s Q) (f r)
def DPo (X : Cx) (g : G) (e : Option Expr) (f : En → Rs (Option Int)) : Prop := L2.PO X e (tPO X.K g f)
theorem PO.imp {X : Cx} {e : Option Expr} {t t' : TO} (h : L2.PO X e t) (i : ∀ s H Q, t' s H Q → t s H Q) : L2.PO X e t' :=
  ⟨fun pins s sg H Q I q => h.run pins s sg H Q I (i sg H Q q)⟩
def poN : En → Rs (Option Int) := fun r => .ok none r
def poS (f : En → Rs D) : En → Rs (Option Int) := fun r => (f r).bind fun d r1 => (ofO d.asI r1).map some
theorem dpo_none : DPo X g none poN := PO.imp po_none fun s H Q ⟨F, r, R, q⟩ => q F H (Same.refl _) R
theorem dpo_some {f : En → Rs D} (h : DE X g e f) : DPo X g (some e) (poS f) := PO.imp (po_some h) fun s H Q ⟨F, r, R, q⟩ => ⟨F, r, R, post_mono (post_bind q) fun d r1 q F1 H1 v sm R1 hv => by
  obtain ⟨i, ed, q⟩ := post_ofO (post_map q)
  have ed := asI_some ed
  subst ed
  cases hv
  exact ⟨i, rfl, q F1 H1 sm R1⟩⟩
def slD (p : Opd) (lo hi : En → Rs (Option Int)) (sem : D → Option Int → Option Int → Option D) : En → Rs D := fun r => (p.run r).bind fun x r1 => (lo r1).bind fun l r2 => (hi r2).bind fun h r3 => ofO ((look r3 x).bind fun d => sem d l h) r3
theorem de_slice {lo hi : Option Expr} {fl fh : En → Rs (Option Int)} (ha : DB X g a p) (hl : DPo X g lo fl) (hh : DPo X g hi fh) : DE X g (.Subscript a (.Slice lo hi none p2) pos) (slD p fl fh semSl) :=
  PE.imp (pe_slice sld ha hl hh) fun s H Q ⟨F, r, R, q⟩ => by
    refine ⟨F, r, R, post_mono (post_bind q) fun z r1 q1 F1 H1 v sm R1 hv => ⟨F1, r1, R1, post_mono (post_bind q1) fun l r2 q2 F2 H2 s2 R2 => ⟨F2, r2, R2, post_mono (post_bind q2) fun h r3 q3 F3 H3 s3 R3 => ?_⟩⟩⟩
    obtain ⟨d, e, q3⟩ := post_ofO q3
    obtain ⟨dx, e1, e2⟩ := Option.bind_eq_some_iff.mp e
    exact ⟨F3, s, r3, dx, d, R3, look_ok R3 ((hv.mono s2).mono s3) e1, e2, fun F4 H4 v4 s4 R4 h4 => q3 F4 H4 v4 (((sm.trans s2).trans s3).trans s4) R4 h4⟩

/-! ### built-ins by values: all arguments are looked at -/
def runs : List Opd → En → Rs (List (Sum D Nat))
  | [], r => .ok [] r
  | p :: ps, r => (p.run r).bind fun x r1 => (runs ps r1).bind fun xs r2 => .ok (x :: xs) r2
def looks (r : En) : List (Sum D Nat) → Option (List D)
  | [] => some []
  | x :: xs => (look r x).bind fun d => (looks r xs).map fun ds => d :: ds
def opN (ps : List Opd) (sem : List D → Option D) : En → Rs D := fun r => (runs ps r).bind fun xs r1 => ofO ((looks r1 xs).bind sem) r1
inductive RBs (K : PySem.W.Frag) (F H : Hp) : List V → List D → Prop
  | nil : RBs K F H [] []
  | cons {v : V} {vs : List V} {d : D} {ds : List D} : RB K F H v d → RBs K F H vs ds → RBs K F H (v :: vs) (d :: ds)
inductive OpdsOk (K : PySem.W.Frag) (F : Hp) (s : St) : List V → List (Sum D Nat) → Prop
  | nil : OpdsOk K F s [] []
  | cons {v : V} {vs : List V} {z : Sum D Nat} {zs : List (Sum D Nat)} : OpdOk K F s v z → OpdsOk K F s vs zs → OpdsOk K F s (v :: vs) (z :: zs)
def tBs (K : PySem.W.Frag) (g : G) (ps : List Opd) : TA := fun s H Q => ∃ F r, Rel K g F H s r ∧ post K g (fun zs r' => ∀ F' H' vs, Same F F' → Rel K g F' H' s r' → OpdsOk K F' s vs zs → Q vs H') (runs ps r)
def DBs (X : Cx) (g : G) (es : List Expr) (ps : List Opd) : Prop := PA X es (tBs X.K g ps)
theorem dbs_nil : DBs X g [] [] := PA.imp pa_nil fun s H Q ⟨F, r, R, q⟩ => q F H [] (Same.refl _) R .nil
theorem dbs_cons {es : List Expr} {ps : List Opd} (h : DB X g e p) (hs : DBs X g es ps) (hst : starEach (e :: es) X.env = (false, eval e X.env) :: starEach es X.env := by rfl) : DBs X g (e :: es) (p :: ps) :=
  PA.imp (pa_cons h hs hst) fun s H Q ⟨F, r, R, q⟩ => ⟨F, r, R, post_mono (post_bind q) fun z r1 q F1 H1 v sm R1 hv => ⟨F1, r1, R1, post_mono (post_bind q) fun zs r2 q F2 H2 vs s2 R2 hvs => q F2 H2 (v :: vs) (sm.trans s2) R2 (.cons (hv.mono s2) hvs)⟩⟩
theorem looks_ok {K : PySem.W.Frag} {F H : Hp} {s : St} {r : En} (R : Rel K g F H s r) : ∀ {zs : List (Sum D Nat)} {vs : List V} {ds : List D}, OpdsOk K F s vs zs → looks r zs = some ds → RBs K F H vs ds
  | [], _, _, .nil, e => by cases e; exact .nil
  | z :: zs, _, _, .cons h1 h2, e => by
    obtain ⟨d, e1, e2⟩ := Option.bind_eq_some_iff.mp e
    obtain ⟨ds, e3, rfl⟩ := Option.map_eq_some_iff.mp e2
    exact .cons (look_ok R h1 e1) (looks_ok R h2 e3)
def rDN (K : PySem.W.Frag) (g : G) (sem : List D → Option D) : List V → Hp → VK → Prop := fun xs H Q => ∃ F s r ds d, Rel K g F H s r ∧ RBs K F H xs ds ∧ sem ds = some d ∧ PD K g F s Q d r
theorem tD_opN {K : PySem.W.Frag} {ps : List Opd} {sem : List D → Option D} {s : St} {H : Hp} {Q : VK} (h : tD K g (opN ps sem) s H Q) : tBs K g ps s H fun xs H1 => rDN K g sem xs H1 Q := by
  obtain ⟨F, r, R, h⟩ := h
  refine ⟨F, r, R, post_mono (post_bind h) fun zs r1 q F1 H1 vs sm R1 hv => ?_⟩
  obtain ⟨d, e, q⟩ := post_ofO q
  obtain ⟨ds, e1, e2⟩ := Option.bind_eq_some_iff.mp e
  exact ⟨F1, s, r1, ds, d, R1, looks_ok R1 hv e1, e2, fun F2 H2 v2 s2 R2 h2 => q F2 H2 v2 (sm.trans s2) R2 h2⟩
theorem de_callB {x : Str} {pn : Pos} {id : String} {es : List Expr} {ps : List Opd} {sem : List D → Option D} (hc : CallR X (.builtin id) (rDN X.K g sem)) (hm : X.mg x = none) (ha : DBs X g (e :: es) ps) (hg : Gl X x := by rfl) (hv : bootBuiltins x = some (.builtin id) := by decide +kernel)
    (hn : x ≠ "__name__" := by decide) (hdb : (x == ("__debug__" : Str)) = false := by decide) (he : starEach (e :: es) X.env = (false, eval e X.env) :: starEach es X.env := by rfl) (hpl : (backTo pos (starEach es X.env)).any (·.1) = false := by rfl) : DE X g (.Call (.Name x pn) (e :: es) [] pos) (opN ps sem) :=
  PE.imp (pe_callB hc hg hm hv ha hn hdb he hpl) fun s H Q h => tD_opN h
theorem de_callT {x : Str} {pn : Pos} {T : String} {es : List Expr} {ps : List Opd} {sem : List D → Option D} (hc : CallR X (.type T) (rDN X.K g sem)) (hm : X.mg x = none) (ha : DBs X g (e :: es) ps) (hg : Gl X x := by rfl) (hv : bootBuiltins x = some (.type T) := by decide +kernel)
    (hn : x ≠ "__name__" := by decide) (hdb : (x == ("__debug__" : Str)) = false := by decide) (he : starEach (e :: es) X.env = (false, eval e X.env) :: starEach es X.env := by rfl) (hpl : (backTo pos (starEach es X.env)).any (·.1) = false := by rfl) : DE X g (.Call (.Name x pn) (e :: es) [] pos) (opN ps sem) :=
  PE.imp (pe_callTy hc hg hm hv ha hn hdb he hpl) fun s H Q h => tD_opN h

def semAbs : List D → Option D
  | [.int i] => some (.int (if i < 0 then -i else i))
  | _ => none
def semInt : List D → Option D
  | [.int i] => some (.int i)
  | [.bl b] => some (.int (if b then 1 else 0))
  | _ => none
def semLen : List D → Option D
  | [.lst xs] => some (.int xs.length)
  | [.tup xs] => some (.int xs.length)
  | [.str x] => if x.length ≤ 1000000 then some (.int x.length) else none
  | _ => none
def semTuple : List D → Option D
  | [.lst xs] => some (.tup xs)
  | [.tup xs] => some (.tup xs)
  | _ => none
def semList : List D → Option D
  | [.lst xs] => some (.lst xs)
  | [.tup xs] => some (.lst xs)
  | _ => none
def bools : List D → Option (List Bool)
  | [] => some []
  | .bl b :: ds => (bools ds).map fun bs => b :: bs
  | _ :: _ => none
def semAll : List D → Option D
  | [.lst xs] => (bools xs).map fun bs => .bl (bs.all id)
  | _ => none
theorem RBs.one {K : PySem.W.Frag} {F H : Hp} {vs : List V} {d : D} (h : RBs K F H vs [d]) : ∃ v, vs = [v] ∧ RB K F H v d := by
  cases h with
  | cons h1 h2 => cases h2; exact ⟨_, rfl, h1⟩
theorem RBs.two {K : PySem.W.Frag} {F H : Hp} {vs : List V} {d e : D} (h : RBs K F H vs [d, e]) : ∃ v w, vs = [v, w] ∧ RB K F H v d ∧ RB K F H w e := by
  cases h with
  | cons h1 h2 =>
    obtain ⟨w, e, h3⟩ := h2.one
    subst e
    exact ⟨_, _, rfl, h1, h3⟩
theorem bools_vs {K : PySem.W.Frag} {F : Hp} : ∀ {vs : List V} {ds : List D} {bs : List Bool}, RDs K F vs ds → bools ds = some bs → vs = bs.map V.bl
  | _, [], bs, h, e => by cases h; cases e; rfl
  | _, d :: ds, bs, h, e => by
    cases h with
    | cons h1 h2 =>
      cases d with
      | bl b =>
        obtain ⟨bs', e1, rfl⟩ := Option.map_eq_some_iff.mp e
        cases h1
        rw [bools_vs h2 e1]; rfl
      | _ => cases e
theorem cd_abs : CallR X (.builtin "abs") (rDN X.K g semAbs) := by
  intro pins s sg H xs us Q I rv h
  obtain ⟨F, s0, r, ds, d, R, hx, e, q⟩ := h
  unfold semAbs at e
  split at e
  · cases e
    obtain ⟨v, rfl, h1⟩ := hx.one
    cases h1.flat (fun _ => nofun)
    exact call_abs pins s sg H _ us Q I rv ⟨_, rfl, q F H _ (Same.refl _) R (.int _)⟩
  · cases e
theorem cd_int : CallR X (.type "int") (rDN X.K g semInt) := by
  intro pins s sg H xs us Q I rv h
  obtain ⟨F, s0, r, ds, d, R, hx, e, q⟩ := h
  unfold semInt at e
  split at e
  · cases e
    obtain ⟨v, rfl, h1⟩ := hx.one
    cases h1.flat (fun _ => nofun)
    exact call_int1 pins s sg H _ us Q I rv (.inl ⟨_, rfl, q F H _ (Same.refl _) R (.int _)⟩)
  · cases e
    obtain ⟨v, rfl, h1⟩ := hx.one
    cases h1.flat (fun _ => nofun)
    exact call_int1 pins s sg H _ us Q I rv (.inr ⟨_, rfl, q F H _ (Same.refl _) R (.int _)⟩)
  · cases e
theorem cd_len : CallR X (.builtin "len") (rDN X.K g semLen) := by
  intro pins s sg H xs us Q I rv h
  obtain ⟨F, s0, r, ds, d, R, hx, e, q⟩ := h
  unfold semLen at e
  split at e
  · cases e
    obtain ⟨v, rfl, h1⟩ := hx.one
    obtain ⟨a, vs, rfl, h2, h3⟩ := h1.lst R.sub
    refine call_len_seq pins s sg H _ us Q I rv ⟨a, vs, rfl, .inl (.of h2), ?_⟩
    rw [h3.length]
    exact q F H _ (Same.refl _) R (.int _)
  · cases e
    obtain ⟨v, rfl, h1⟩ := hx.one
    obtain ⟨a, vs, rfl, h2, _, h3⟩ := h1.tup R.sub
    refine call_len_seq pins s sg H _ us Q I rv ⟨a, vs, rfl, .inr h2, ?_⟩
    rw [h3.length]
    exact q F H _ (Same.refl _) R (.int _)
  · split at e
    · next hl =>
      cases e
      obtain ⟨v, rfl, h1⟩ := hx.one
      cases h1.flat (fun _ => nofun)
      exact call_len_str pins s sg H _ us Q I rv ⟨_, rfl, Nat.le_trans hl mil_line, q F H _ (Same.refl _) R (.int _)⟩
    · cases e
  · cases e
theorem cd_tuple : CallR X (.type "tuple") (rDN X.K g semTuple) := by
  intro pins s sg H xs us Q I rv h
  obtain ⟨F, s0, r, ds, d, R, hx, e, q⟩ := h
  unfold semTuple at e
  split at e
  · cases e
    obtain ⟨v, rfl, h1⟩ := hx.one
    obtain ⟨a, vs, rfl, h2, h3⟩ := h1.lst R.sub
    exact call_tuple_of pins s sg H _ us Q I rv ⟨a, vs, rfl, .inl ⟨.of h2, PD.tup R h3 q⟩⟩
  · cases e
    obtain ⟨v, rfl, h1⟩ := hx.one
    obtain ⟨a, vs, rfl, h2, h2', h3⟩ := h1.tup R.sub
    exact call_tuple_of pins s sg H _ us Q I rv ⟨a, vs, rfl, .inr ⟨h2, q F H _ (Same.refl _) R (.tup h2' h3)⟩⟩
  · cases e
theorem cd_list : CallR X (.type "list") (rDN X.K g semList) := by
  intro pins s sg H xs us Q I rv h
  obtain ⟨F, s0, r, ds, d, R, hx, e, q⟩ := h
  unfold semList at e
  split at e
  · cases e
    obtain ⟨v, rfl, h1⟩ := hx.one
    obtain ⟨a, vs, rfl, h2, h3⟩ := h1.lst R.sub
    exact call_list_of pins s sg H _ us Q I rv ⟨a, vs, rfl, .inl (.of h2), PD.lst R h3 q⟩
  · cases e
    obtain ⟨v, rfl, h1⟩ := hx.one
    obtain ⟨a, vs, rfl, h2, h2', h3⟩ := h1.tup R.sub
    exact call_list_of pins s sg H _ us Q I rv ⟨a, vs, rfl, .inr h2, PD.lst R h3 q⟩
  · cases e
theorem cd_all (hc : X.calm = true) : CallR X (.builtin "all") (rDN X.K g semAll) := by
  intro pins s sg H xs us Q I rv h
  obtain ⟨F, s0, r, ds, d, R, hx, e, q⟩ := h
  unfold semAll at e
  split at e
  · obtain ⟨bs, e1, rfl⟩ := Option.map_eq_some_iff.mp e
    obtain ⟨v, rfl, h1⟩ := hx.one
    obtain ⟨a, vs, rfl, h2, h3⟩ := h1.lst R.sub
    have ev := bools_vs h3 e1
    subst ev
    exact cr_all hc pins s sg H _ us Q I rv ⟨a, bs, rfl, .of h2, q F H _ (Same.refl _) R (.bl _)⟩
  · cases e
end
end DL

/-! Data layer, part 8: lists that a name owns, walks of any data, methods of texts, constants of the module. -/
namespace DL
open PySem L2

/-! ### an owned list is changed -/
section
variable {X : Cx} {g : G}
theorem Rel.chg {K : PySem.W.Frag} {F H : Hp} {s : St} {r : En} {i : Nat} {xs xs' : List D} {a : Addr} {vs vs' : List V} (R : Rel K g F H s r) (e : r[i]? = some (some (.ow xs))) (hs : s[i]? = some (some (.ref a))) (fa : F a = none) (ha : H a = some (.lst vs)) (hv : RDs K F vs' xs') :
    Rel K g F (L2.upd H a (.lst vs')) s (r.set i (some (.ow xs'))) := by
  have hi : i < r.length := (List.getElem?_eq_some_iff.mp e).1
  have cs : ∀ (j : Nat) (u : OV), (r.set i (some (.ow xs')))[j]? = some (some u) → (j = i ∧ u = .ow xs') ∨ (j ≠ i ∧ r[j]? = some (some u)) := fun j u z => by
    by_cases hj : i = j
    · subst hj
      rw [List.getElem?_set_self hi] at z
      cases z
      exact .inl ⟨rfl, rfl⟩
    · rw [List.getElem?_set_ne hj] at z
      exact .inr ⟨fun z => hj z.symm, z⟩
  have ow1 : ∀ (j : Nat) (u : OV), (r.set i (some (.ow xs')))[j]? = some (some u) → u.own = true → ∃ u', r[j]? = some (some u') ∧ u'.own = true := fun j u z zo => by
    rcases cs j u z with ⟨rfl, rfl⟩ | ⟨_, z'⟩
    · exact ⟨_, e, rfl⟩
    · exact ⟨u, z', zo⟩
  refine ⟨fun b u eb => ?_, R.f0, R.fnew, fun b u eb hb ht => ?_, fun j u ej => ?_, fun j u b ej eo es => ?_, fun j k u w b hjk ej eo ek ek' => ?_, fun p hp => ?_, by rw [List.length_set]; exact R.len, R.tb.at (R.tb.tno (R.own i _ a e rfl hs)), fun p hp => ?_⟩
  · rw [upd_ne fun z => by rw [z, fa] at eb; cases eb]; exact R.sub b u eb
  · rw [upd_ne fun z => ?_]
    · exact R.keep b u eb hb ht
    · subst z
      rcases R.own i _ b e rfl hs with q | q
      · rw [q] at eb; cases eb
      · exact hb _ q rfl
  · rcases cs j u ej with ⟨rfl, rfl⟩ | ⟨hj, ej⟩
    · exact ⟨_, hs, a, vs', rfl, fa, upd_same, hv⟩
    · obtain ⟨v, h1, h2⟩ := R.slot j u ej
      refine ⟨v, h1, ?_⟩
      cases u with
      | sh d => exact h2
      | ow ys =>
        obtain ⟨b, ws, rfl, b2, b3, b4⟩ := h2
        exact ⟨b, ws, rfl, b2, by rw [upd_ne fun z => R.dist j i _ _ a hj ej rfl e rfl (by rw [h1, z]) hs]; exact b3, b4⟩
      | od ys =>
        obtain ⟨b, ws, rfl, b2, b3, b4⟩ := h2
        exact ⟨b, ws, rfl, b2, by rw [upd_ne fun z => R.dist j i _ _ a hj ej rfl e rfl (by rw [h1, z]) hs]; exact b3, b4⟩
      | oi c ys =>
        obtain ⟨b, ws, rfl, b2, b3, b4⟩ := h2
        exact ⟨b, ws, rfl, b2, by rw [upd_ne fun z => R.dist j i _ _ a hj ej rfl e rfl (by rw [h1, z]) hs]; exact b3, b4⟩
      | th ys =>
        obtain ⟨b, ws, rfl, b2, b3, b4⟩ := h2
        exact ⟨b, ws, rfl, b2, by rw [upd_ne fun z => R.dist j i _ _ a hj ej rfl e rfl (by rw [h1, z]) hs]; exact b3, b4⟩
      | exc c => exact h2
  · obtain ⟨u', e1, e2⟩ := ow1 j u ej eo
    exact R.own j u' b e1 e2 es
  · obtain ⟨u', e1, e2⟩ := ow1 j u ej eo
    obtain ⟨w', e3, e4⟩ := ow1 k w ek ek'
    exact R.dist j k u' w' b hjk e1 e2 e3 e4
  · obtain ⟨p1, u, p2, p3⟩ := R.pin p hp
    refine ⟨p1, ?_⟩
    by_cases hj : i = p.1
    · exact ⟨.ow xs', by rw [← hj]; exact List.getElem?_set_self hi, rfl⟩
    · exact ⟨u, by rw [List.getElem?_set_ne hj]; exact p2, p3⟩
  · obtain ⟨x1, x2, x3⟩ := R.ext p hp
    refine ⟨by rw [upd_ne fun z => x3 i _ e rfl (by rw [hs, z])]; exact x1, x2, fun j u ej eo => ?_⟩
    obtain ⟨u', e1, e2⟩ := ow1 j u ej eo
    exact x3 j u' e1 e2
/-- does the slot own a list -/
def fillW (r : En) (i : Nat) : Rs Unit :=
  match lookV r i with
  | some (.ow _) => .ok () r
  | _ => .bad
theorem post_fillW {K : PySem.W.Frag} {g : G} {P : Unit → En → Prop} {r : En} {i : Nat} (h : post K g P (fillW r i)) : (∃ xs, r[i]? = some (some (.ow xs))) ∧ P () r := by
  unfold fillW at h
  split at h
  · next xs e => exact ⟨⟨xs, lookV_some e⟩, h⟩
  · exact h.elim
theorem then_fillW {K : PySem.W.Frag} {F : Hp} {E : Ends} {r : En} {i : Nat} {k : Unit → En → SRs} (h : SPost K g F E (thenS (fillW r i) k)) : (∃ xs, r[i]? = some (some (.ow xs))) ∧ SPost K g F E (k () r) := post_fillW (post_then h)
/-- change the list of a slot -/
def chgS (i : Nat) (f : List D → Option (List D)) (r : En) : SRs :=
  match (lookV r i).bind OV.lst? with
  | some xs => match f xs with
    | some ys => .nx (r.set i (some (.ow ys)))
    | none => .bad
  | none => .bad
theorem chgS_ok {K : PySem.W.Frag} {F0 F H : Hp} {E : Ends} {s : St} {r : En} {i : Nat} {f : List D → Option (List D)} (R : Rel K g F H s r) (sm : Same F0 F) (h : SPost K g F0 E (chgS i f r)) :
    ∃ a vs xs ys, s[i]? = some (some (.ref a)) ∧ H a = some (.lst vs) ∧ RDs K F vs xs ∧ r[i]? = some (some (.ow xs)) ∧ f xs = some ys ∧ ∀ vs', RDs K F vs' ys → E.nx s (L2.upd H a (.lst vs')) := by
  unfold chgS at h
  split at h
  · next xs e =>
    obtain ⟨o, e1, e2⟩ := Option.bind_eq_some_iff.mp e
    cases o with
    | sh d => cases e2
    | ow zs =>
      cases e2
      have e1 := lookV_some e1
      obtain ⟨v, h1, a, vs, rfl, fa, ha, hv⟩ := R.slot i _ e1
      split at h
      · next ys ef => exact ⟨a, vs, xs, ys, h1, ha, hv, e1, ef, fun vs' hv' => h F _ s sm (R.chg e1 h1 fa ha hv')⟩
      · exact h.elim
    | od zs => cases e2
    | oi c zs => cases e2
    | th zs => cases e2
    | exc c => cases e2
  · exact h.elim
variable {e ei : Expr} {pos apos cpos : Pos} {x : Str} {p : Pos}
def appF (d : D) : List D → Option (List D) := fun xs => if xs.length ≤ 1000000 then some (xs ++ [d]) else none
def appS (i : Nat) (f : En → Rs D) : En → SRs := fun r => thenS (fillW r i) fun _ r => thenS (f r) fun d r1 => chgS i (appF d) r1
theorem ds_append {i : Nat} {f : En → Rs D} (hv : PE X (.Name x p) (tVar i)) (h : DE X g e f) (hst : starEach [e] X.env = [(false, eval e X.env)] := by rfl) (hb : attributeBase (.Name x p) "append" X.env (eval (.Name x p) X.env) = eval (.Name x p) X.env := by rfl)
    (hline : (apos.endLine == cpos.line) = true := by rfl) (hsw : swapsWith (.Call (.Attribute (.Name x p) "append" apos) [e] [] cpos) none pos.line X.env = pure false := by rfl)
    (hfew : ((backTo cpos (starEach [e] X.env)).all (fun x => !x.1) && (backToKw cpos (keywordEach [] X.env)).all (fun x => x.1.isSome) && decide ([e].length + ([] : List Keyword).length + (if ([] : List Keyword).isEmpty then 0 else 1) < 30)) = true := by rfl)
    (hpl : (backTo cpos (starEach [] X.env)).any (·.1) = false := by rfl) : DS X g (.Expr (.Call (.Attribute (.Name x p) "append" apos) [e] [] cpos) pos) (appS i f) :=
  PS.imp (ps_expr (pe_bm PySem.F.plainAttrs_list PySem.F.slot_list_append PySem.F.type_list_append mt_append hv (pa_cons h pa_nil hst) hb hfew hline hst hpl) hsw) fun E s H ⟨F, r, R, q⟩ => by
    obtain ⟨⟨xs, e0⟩, q⟩ := then_fillW q
    obtain ⟨v, h1, a, vs, rfl, fa, ha, hvs⟩ := R.slot i _ e0
    refine ⟨_, h1, .inl ⟨rfl, vs, .of ha⟩, F, r, R, post_mono (post_then q) fun d r1 q F1 H1 w sm R1 hw => ?_⟩
    obtain ⟨b, ws, zs, ys, g1, g2, g3, g4, g5, g6⟩ := chgS_ok R1 sm q
    rw [h1] at g1
    cases g1
    unfold appF at g5
    split at g5
    · next hl =>
      cases g5
      exact ⟨a, ws, w, rfl, rfl, g2, by rw [g3.length]; exact Nat.lt_of_le_of_lt hl (by decide), g6 _ (g3.app (.cons hw .nil))⟩
    · cases g5
def extF (d : D) : List D → Option (List D) := fun xs => match d with
  | .lst ys => if xs.length + ys.length ≤ 1000000 then some (xs ++ ys) else none
  | _ => none
def extS (i : Nat) (f : En → Rs D) : En → SRs := fun r => thenS (fillW r i) fun _ r => thenS (f r) fun d r1 => chgS i (extF d) r1
/-- name[i] = e -/
def putF (k : D) (d : D) : List D → Option (List D) := fun xs => match k with
  | .int i => (ixN xs.length i).map fun j => xs.set j d
  | _ => none
def putS (i : Nat) (fi f : En → Rs D) : En → SRs := fun r => thenS (f r) fun d r1 => thenS (fillW r1 i) fun _ r1 => thenS (fi r1) fun k r2 => chgS i (putF k d) r2
theorem ds_put {i : Nat} {fi f : En → Rs D} {sp : Pos} (hv : PE X (.Name x p) (tVar i)) (hi : DE X g ei fi) (h : DE X g e f) (hs : swapsWithSole [.Subscript (.Name x p) ei sp] e pos.line X.env = pure false := by rfl) (hw : swappedStores [.Subscript (.Name x p) ei sp] e X.env = pure none := by rfl)
    (h1 : (assignEach [.Subscript (.Name x p) ei sp] X.env).map (·.2) = [assign (.Subscript (.Name x p) ei sp) X.env] := by rfl)
    (ha : ∀ v, assign (.Subscript (.Name x p) ei sp) X.env v = (do
      let ov ← holding [v] (eval (.Name x p) X.env)
      let iv ← holding [v, ov] (eval ei X.env)
      standAt sp
      holding [v, ov, iv] (setItem ov iv v)
      release [v, ov, iv] []) := by intro _; rfl) : DS X g (.Assign [.Subscript (.Name x p) ei sp] e pos) (putS i fi f) :=
  PS.imp (ps_asg h (pg_sub hv hi set_list ha) hs hw h1) fun E s H ⟨F, r, R, q⟩ => ⟨F, r, R, post_mono (post_then q) fun d r1 q F1 H1 w sm R1 hw => by
    obtain ⟨⟨xs, e0⟩, q⟩ := then_fillW q
    obtain ⟨v, h1, a, vs, rfl, fa, ha, hvs⟩ := R1.slot i _ e0
    refine ⟨_, h1, F1, r1, R1, post_mono (post_then q) fun k r2 q F2 H2 vk sm2 R2 hk => ?_⟩
    obtain ⟨b, ws, zs, ys, g1, g2, g3, g4, g5, g6⟩ := chgS_ok R2 (sm.trans sm2) q
    rw [h1] at g1
    cases g1
    unfold putF at g5
    split at g5
    · obtain ⟨j, g7, rfl⟩ := Option.map_eq_some_iff.mp g5
      cases hk
      exact ⟨a, ws, _, j, rfl, rfl, g2, by rw [g3.length]; exact g7, g6 _ (g3.upd (RD.mono sm2 d hw) j)⟩
    · cases g5⟩
/-- an item of a tracked list, by values -/
theorem get_list : PGet X (fun o i H Q => ∃ a vs k v, o = .ref a ∧ i = .int k ∧ H a = some (.lst vs) ∧ 0 ≤ k ∧ k < 1000000 ∧ vs[k.toNat]? = some v ∧ Q v H) := by
  intro pins s sg H o i ov iv Q I ro ri h
  obtain ⟨a, vs, k, v, rfl, rfl, ha, h0, h1, hv, q⟩ := h
  cases ro
  obtain ⟨t, rfl⟩ := ri
  obtain ⟨its, rv, pl, _⟩ := I.list (SqL.of ha)
  obtain ⟨u, hu, ru⟩ := rv.get hv
  exact PySem.wpAny_getItem_list pl.isList h0 (by omega) (by simpa using hu) ⟨v, H, I, ru, q⟩
/-- name[i] += e, ints -/
def augF (k d : D) : List D → Option (List D) := fun xs => match k, d with
  | .int i, .int y => if 0 ≤ i ∧ i < 1000000 then match xs[i.toNat]? with
    | some (.int z) => some (xs.set i.toNat (.int (z + y)))
    | _ => none else none
  | _, _ => none
def augS (i : Nat) (k y : Int) : En → SRs := fun r => chgS i (augF (.int k) (.int y)) r
theorem ixN_nat {n : Nat} {k : Int} (h0 : 0 ≤ k) (h : k.toNat < n) : ixN n k = some k.toNat := by
  unfold ixN
  rw [if_pos h0, if_pos (by omega)]
theorem ds_augI {i : Nat} {k y : Int} {j1 j2 : Nat} {sp p1 p2 : Pos} (hv : PE X (.Name x p) (tVar i))
    (ha : ∀ ov iv new, augStore (.Constant (.int k) j1 p1) ov iv new = (do holding [new, ov, iv] (setItem ov iv new); release [new, ov, iv] []; pure .next) := by intros; rfl) :
    DS X g (.AugAssign (.Subscript (.Name x p) (.Constant (.int k) j1 p1) sp) .Add (.Constant (.int y) j2 p2) pos) (augS i k y) :=
  PS.imp (ps_augS hv pe_int get_list pe_int ip_add set_list ha) fun E s H ⟨F, r, R, q⟩ => by
    obtain ⟨a, ws, zs, ys, g1, g2, g3, g4, g5, g6⟩ := chgS_ok R (Same.refl _) q
    have g5 : (if 0 ≤ k ∧ k < 1000000 then match zs[k.toNat]? with
      | some (.int z) => some (zs.set k.toNat (.int (z + y)))
      | _ => none else none) = some ys := g5
    split at g5
    · next hk =>
      split at g5
      · next z ez =>
        cases g5
        obtain ⟨w, k1, k2⟩ := g3.get ez
        cases k2
        refine ⟨_, g1, a, ws, k, _, rfl, rfl, g2, hk.1, hk.2, k1, z, y, rfl, rfl, a, ws, k, k.toNat, rfl, rfl, g2, ixN_nat hk.1 ?_, g6 _ (g3.upd (.int _) _)⟩
        exact (List.getElem?_eq_some_iff.mp k1).1
      · cases g5
    · cases g5
end

/-! ### walks of any data -/
def signs (x : Str) : List D := x.cps.toList.map fun c => .str ⟨#[c]⟩
def D.items : D → Option (List D)
  | .lst ds => some ds
  | .tup ds => some ds
  | .str x => if x.length ≤ 1000000 then some (signs x) else none
  | _ => none
def itA (f : En → Rs D) : En → Rs (List D) := fun r => (f r).bind fun d r1 => ofO d.items r1
section
variable {X : Cx} {g : G} {tg e a b : Expr} {pos p : Pos}
theorem PI.or {X : Cx} {tg e : Expr} {t t' : TI} (h : PI X tg e t) (h' : PI X tg e t') : PI X tg e (fun s H Q => t s H Q ∨ t' s H Q) :=
  ⟨fun pins s sg H Q I q => q.elim (h.run pins s sg H Q I) (h'.run pins s sg H Q I)⟩
theorem wk_str {K : PySem.W.Frag} {B : List (Nat × Addr)} {F : Hp} {x : Str} {J : It} (hg : ∀ i H, i < x.cps.size → J.go i H) (hy : ∀ (i : Nat) H v H', J.yld i H v H' → H' = H ∧ ∃ c, x.cps[i]? = some c ∧ v = .str ⟨#[c]⟩) (hs : ∀ i H, x.cps.size ≤ i → J.stop i H) : Wk K B F J (signs x) := fun g F1 H1 s r _ sm R => by
  refine ⟨fun i d ed => ?_, fun i hi => hs i H1 (by unfold signs at hi; simpa using hi)⟩
  unfold signs at ed
  rw [List.getElem?_map] at ed
  obtain ⟨c, e1, rfl⟩ := Option.map_eq_some_iff.mp ed
  have hi : i < x.cps.size := by
    have := (List.getElem?_eq_some_iff.mp e1).1
    simpa using this
  refine ⟨hg i H1 hi, fun v H2 hv => ?_⟩
  obtain ⟨rfl, c', e2, rfl⟩ := hy i H1 v H2 hv
  have e3 : x.cps[i]? = some c := by simpa using e1
  rw [e3] at e2
  cases e2
  exact ⟨F1, Same.refl _, R, .str _⟩
end
end DL

/-! Data layer, part 9: walks, methods of texts, constants of the module, the end. -/
namespace DL
open PySem L2
section
variable {X : Cx} {g : G} {tg e a b o : Expr} {pos p apos : Pos}
theorem di_any {f : En → Rs D} (h : DE X g e f) : DI X g tg e (itA f) := by
  refine PI.imp (PI.or (PI.or (pi_list h) (pi_tup h)) (pi_str h)) fun s H Q ⟨F, r, R, q⟩ => ?_
  cases ef : f r with
  | bad =>
    unfold itA at q
    rw [ef] at q
    exact q.elim
  | ex x r1 =>
    unfold itA at q
    rw [ef] at q
    exact .inl (.inl ⟨F, r, R, by rw [ef]; exact q⟩)
  | ok d r1 =>
    have q : post X.K g (PI' X.K g F s Q) (ofO d.items r1) := by
      unfold itA at q
      rw [ef] at q
      exact q
    obtain ⟨ds, ed, q⟩ := post_ofO q
    cases d with
    | lst zs =>
      cases ed
      refine .inl (.inl ⟨F, r, R, ?_⟩)
      rw [ef]
      intro F1 H1 v sm R1 hv
      cases hv with
      | lst h1 h2 => exact ⟨_, rfl, ⟨_, .of (R1.sub _ _ h1)⟩, q F1 H1 _ sm R1 (wk_list h1 h2)⟩
    | tup zs =>
      cases ed
      refine .inl (.inr ⟨F, r, R, ?_⟩)
      rw [ef]
      intro F1 H1 v sm R1 hv
      cases hv with
      | tup h1 h2 => exact ⟨_, rfl, ⟨_, same_sqT R1.sub h1⟩, q F1 H1 _ sm R1 (wk_tup h1 h2)⟩
    | str x =>
      have ed : (if x.length ≤ 1000000 then some (signs x) else none) = some ds := ed
      split at ed
      · cases ed
        refine .inr ⟨F, r, R, ?_⟩
        rw [ef]
        intro F1 H1 v sm R1 hv
        cases hv
        exact ⟨x, rfl, q F1 H1 _ sm R1 (wk_str (fun i H hi => hi) (fun i H v H' hy => hy) fun i H hi => hi)⟩
      · cases ed
    | _ => cases ed
/-- zip of two lists, of two tuples -/
def zipD : List D → List D → List D
  | x :: xs, y :: ys => .tup [x, y] :: zipD xs ys
  | _, _ => []
def zip2 : D → D → Option (List D)
  | .lst xs, .lst ys => some (zipD xs ys)
  | .tup xs, .tup ys => some (zipD xs ys)
  | _, _ => none
def zpD (f h : En → Rs D) : En → Rs (List D) := fun r => (f r).bind fun d r1 => (h r1).bind fun e r2 => ofO (zip2 d e) r2
/-- enumerate of a list -/
def enumD : Nat → List D → List D
  | _, [] => []
  | n, d :: ds => .tup [.int (n : Int), d] :: enumD (n + 1) ds
def enD (f : En → Rs D) : En → Rs (List D) := fun r => (f r).bind fun d r1 => ofO (d.asL.map (enumD 0)) r1
/-! ### methods of texts -/
def m1D (p q : Opd) (sem : D → D → Option D) : En → Rs D := fun r => (p.run r).bind fun x r1 => match look r1 x with
  | some (.str y) => (q.run r1).bind fun z r2 => ofO ((look r2 z).bind fun d => sem (.str y) d) r2
  | _ => .bad
theorem de_m1 {id : String} {name : Str} {pp q : Opd} {sem : D → D → Option D} (slot : Slot "str" name id) (ty : typeOf (.builtin id) = pure (.type "method_descriptor")) (rule : MtR X id (fun x xs H Q => ∃ y, xs = [y] ∧ rD2 X.K g sem x y H Q)) (ho : DB X g o pp) (he : DB X g e q)
    (hs : starEach [e] X.env = [(false, eval e X.env)] := by rfl) (hbase : attributeBase o name X.env (eval o X.env) = eval o X.env := by rfl) (hline : (apos.endLine == pos.line) = true := by rfl) : DE X g (.Call (.Attribute o name apos) [e] [] pos) (m1D pp q sem) :=
  PE.imp (pe_m1 slot ty rule ho he hs hbase hline) fun s H Q ⟨F, r, R, h⟩ => ⟨F, r, R, post_mono (post_bind h) fun z r1 q1 F1 H1 v sm R1 hv => by
    cases el : look r1 z with
    | none => rw [el] at q1; exact q1.elim
    | some d =>
      cases d with
      | str y =>
        rw [el] at q1
        have hb := look_ok R1 hv el
        cases hb.flat (fun _ => nofun)
        refine ⟨⟨y, rfl⟩, F1, r1, R1, post_mono (post_bind q1) fun z2 r2 q2 F2 H2 w s2 R2 hw => ⟨w, rfl, ?_⟩⟩
        obtain ⟨d, e, q2⟩ := post_ofO q2
        obtain ⟨dy, e2, e3⟩ := Option.bind_eq_some_iff.mp e
        exact ⟨F2, s, r2, .str y, dy, d, R2, .inl (.str y), look_ok R2 hw e2, e3, fun F3 H3 v3 s3 R3 h3 => q2 F3 H3 v3 ((sm.trans s2).trans s3) R3 h3⟩
      | _ => rw [el] at q1; exact q1.elim⟩
def semSIndex : D → D → Option D
  | .str x, .str y => match Builtin.Str.occurrences x y 0 x.length 1 with
    | i :: _ => some (.int (i : Nat))
    | [] => none
  | _, _ => none
theorem md_sindex : MtR X "str.index" (fun x xs H Q => ∃ y, xs = [y] ∧ rD2 X.K g semSIndex x y H Q) := by
  intro pins s sg H x xs v us Q I rx rv h
  obtain ⟨y, rfl, F, s0, r, dx, dy, d, R, hx, hy, e, q⟩ := h
  unfold semSIndex at e
  split at e
  · split at e
    · next i rest eo =>
      cases e
      cases hx.flat (fun _ => nofun); cases hy.flat (fun _ => nofun)
      exact mt_sindex pins s sg H _ _ v us Q I rx rv ⟨_, _, i, rest, rfl, rfl, eo, q F H _ (Same.refl _) R (.int _)⟩
    · cases e
  · cases e
def strsOf : List D → Option (List Str)
  | [] => some []
  | .str b :: ds => (strsOf ds).map fun bs => b :: bs
  | _ :: _ => none
theorem strs_vs {K : PySem.W.Frag} {F : Hp} : ∀ {vs : List V} {ds : List D} {bs : List Str}, RDs K F vs ds → strsOf ds = some bs → vs = bs.map V.str
  | _, [], bs, h, e => by cases h; cases e; rfl
  | _, d :: ds, bs, h, e => by
    cases h with
    | cons h1 h2 =>
      cases d with
      | str b =>
        obtain ⟨bs', e1, rfl⟩ := Option.map_eq_some_iff.mp e
        cases h1
        rw [strs_vs h2 e1]; rfl
      | _ => cases e
theorem RDs.strs {K : PySem.W.Frag} {F : Hp} : ∀ bs : List Str, RDs K F (bs.map V.str) (bs.map D.str)
  | [] => .nil
  | b :: bs => .cons (.str b) (RDs.strs bs)
def semJoin : D → D → Option D
  | .str x, .lst ds => (strsOf ds).bind fun ys => if (ys.map (·.length)).sum + ys.length * x.length ≤ 1000000 then some (.str (Txt.join x ys)) else none
  | .str x, .tup ds => (strsOf ds).bind fun ys => if (ys.map (·.length)).sum + ys.length * x.length ≤ 1000000 then some (.str (Txt.join x ys)) else none
  | _, _ => none
theorem md_join : MtR X "str.join" (fun x xs H Q => ∃ y, xs = [y] ∧ rD2 X.K g semJoin x y H Q) := by
  intro pins s sg H x xs v us Q I rx rv h
  obtain ⟨y, rfl, F, s0, r, dx, dy, d, R, hx, hy, e, q⟩ := h
  unfold semJoin at e
  split at e
  · obtain ⟨ys, e1, e2⟩ := Option.bind_eq_some_iff.mp e
    split at e2
    · next hl =>
      cases e2
      cases hx.flat (fun _ => nofun)
      obtain ⟨a, vs, rfl, h1, h2⟩ := hy.lst R.sub
      have ev := strs_vs h2 e1
      subst ev
      exact mt_join pins s sg H _ _ v us Q I rx rv ⟨_, a, ys, rfl, rfl, .inl (.of h1), Nat.le_trans hl (by decide), q F H _ (Same.refl _) R (.str _)⟩
    · cases e2
  · obtain ⟨ys, e1, e2⟩ := Option.bind_eq_some_iff.mp e
    split at e2
    · next hl =>
      cases e2
      cases hx.flat (fun _ => nofun)
      obtain ⟨a, vs, rfl, h1, _, h2⟩ := hy.tup R.sub
      have ev := strs_vs h2 e1
      subst ev
      exact mt_join pins s sg H _ _ v us Q I rx rv ⟨_, a, ys, rfl, rfl, .inr h1, Nat.le_trans hl (by decide), q F H _ (Same.refl _) R (.str _)⟩
    · cases e2
  · cases e
def semSplit : D → D → Option D
  | .str x, .str y => if y.length ≠ 0 ∧ x.length ≤ 1000000 then some (.lst ((Txt.split x y).map D.str)) else none
  | _, _ => none
theorem md_split : MtR X "str.split" (fun x xs H Q => ∃ y, xs = [y] ∧ rD2 X.K g semSplit x y H Q) := by
  intro pins s sg H x xs v us Q I rx rv h
  obtain ⟨y, rfl, F, s0, r, dx, dy, d, R, hx, hy, e, q⟩ := h
  unfold semSplit at e
  split at e
  · split at e
    · next hl =>
      cases e
      cases hx.flat (fun _ => nofun); cases hy.flat (fun _ => nofun)
      have hz : (1000000 : Nat) + 2 ≤ sizeLine := by decide
      exact mt_split pins s sg H _ _ v us Q I rx rv ⟨_, _, rfl, rfl, by simpa using hl.1, by omega, PD.lst R (RDs.strs _) q⟩
    · cases e
  · cases e

/-! ### constants of the module -/
theorem de_glob {x : Str} {d : D} {v : V} {u : Value} (hm : X.mg x = some u) (rv : RelV v u) (hd : ∀ F : Hp, RD X.K F v d) (hg : Gl X x := by rfl) (hdb : (x == ("__debug__" : Str)) = false := by decide) : DE X g (.Name x p) (cD d) :=
  PE.imp (pe_glob hg hm rv hdb) fun s H Q ⟨F, r, R, q⟩ => q F H _ (Same.refl _) R (hd F)
/-- T[e], T a dict of the module with text keys: by a table -/
def tabD (t : List (Str × D)) (p : Opd) : En → Rs D := op1 p fun d => match d with
  | .str x => t.lookup x
  | _ => none
/-- a dict of the written part, whose values are flat -/
structure Tab (K : PySem.W.Frag) (w : World) (d : Addr) (t : List (Str × D)) : Prop where
  val : ∀ x z, t.lookup x = some z → ∃ v, KDct K w d x v ∧ ∀ F : Hp, RD K F v z
end

/-! ### the end -/
theorem walkG {l : PySem.W.OpenLaw} {n k : Nat} {q : Program} {loose : List Str} {XP : (Str → Option Value) → Heap → Prop} {YP : World → Heap → Prop} {d : DefRec} {K : Params → PySem.W.Frag} {f : List D → Option OV} {x : Str}
    (hi : PyProof.Rows.importsNone q = true) (hn : l.most = some n) (hn2 : n ≤ sizeLine) (hdf : d.params.defaults = []) (room : Room k callerA) (hY : ∀ (w : World) (h : Heap), YP w h → (K w.params).In h)
    (F : ∀ (w : World) (mg : Str → Option Value) (fa : Addr) (h : Heap), (K w.params).In h → h.Ns mainGlobals mg → mg d.name = some (.ref fa) →
      ∃ fd : FuncData, (∀ (s : Shared) (u : Value), BindsTo s fd ⟨[u], []⟩ [(x, u)]) ∧ ∀ base : Heap, (K w.params).In base → base.Ns mainGlobals mg → SysAt base → FnG l.prog w (K w.params) mg base CX0 k fa fd [x] (spP (K w.params) 1 f))
    (hf : ∀ ns : List Int, ns.length ≤ n → f [.scr ns] = some (.sh (.bl true))) : PySem.W.WalkO q loose XP YP l.row.toRowW d [] (fun f vs => PySem.call f vs) := by
  refine Att.attach_call hn hdf fun w s0 s1 mg mb fa o pm cd doc a vs ns T Y ho hd hcd hmg hobj hnums hlen hg => ?_
  obtain ⟨fd, hb, FF⟩ := F w mg fa _ (hY w _ Y) T.T.g hmg
  refine law_callG (hY w _ Y) T.T.g T.T.b T.T.builtins T.T.nolimit (let ⟨mm, h, _⟩ := (T.T.seer hi).mods; ⟨mm, h⟩) hg hobj hnums (Nat.le_trans hlen hn2) room FF hb fun H only sq => ?_
  refine ⟨H, [.scr ns], .sh (.bl true), Same.refl _, .cons (.scr ns sq) .nil, rfl, hf ns hlen, fun F' H' v _ _ _ _ hv => ?_⟩
  have hv : RD (K w.params) F' v (.bl true) := hv
  cases hv
  rfl
end DL

/-! Data layer, part 10: a, b = x, y. -/
namespace DL
open PySem L2
section
variable {X : Cx} {g : G} {a b c : Expr} {pos pt pt2 px py pz : Pos} {x y z : Str} {kt k2 i j l : Nat}
def par2 (i j : Nat) (f : En → Rs D) (h : En → Rs OV) : En → SRs := fun r => thenS (f r) fun d r1 => thenS (h r1) fun o r2 => .nx ((r2.set i (some (.sh d))).set j (some o))
def par3 (i j l : Nat) (f f2 : En → Rs D) (h : En → Rs OV) : En → SRs := fun r => thenS (f r) fun d r1 => thenS (f2 r1) fun d2 r2 => thenS (h r2) fun o r3 => .nx (((r3.set i (some (.sh d))).set j (some (.sh d2))).set l (some o))
/-- an owned value is nobody's, whatever is stored elsewhere -/
theorem RV.set {K : PySem.W.Frag} {F H : Hp} {s : St} {r : En} {v w : V} {o : OV} {d : D} {i : Nat} (hv : RV K g F H s r v o) : RV K g F H (s.set i (some w)) (r.set i (some (.sh d))) v o := by
  cases o with
  | sh d' => exact hv
  | ow xs =>
    obtain ⟨a, vs, e1, e2, e3, e4, e5, e6, e7⟩ := hv
    refine ⟨a, vs, e1, e2, e3, e4, e5, fun k u ek eo => ?_, e7⟩
    by_cases hk : i = k
    · subst hk
      by_cases hi : i < r.length
      · rw [List.getElem?_set_self hi] at ek; cases ek; cases eo
      · rw [List.getElem?_eq_none (by simpa using hi)] at ek; cases ek
    · rw [List.getElem?_set_ne hk] at ek ⊢
      exact e6 k u ek eo
  | od xs => exact hv.elim
  | oi c xs => exact hv.elim
  | th xs => exact hv.elim
  | exc c => exact hv.elim
theorem RV.laid {K : PySem.W.Frag} {F H : Hp} {s : St} {r : En} {v : V} {o : OV} {p : Addr} {u : HO} (np : H p = none) (hv : RV K g F H s r v o) : RV K g F (L2.upd H p u) s r v o := by
  cases o with
  | sh d' => exact hv
  | ow xs =>
    obtain ⟨a, vs, e1, e2, e3, e4, e5, e6, e7⟩ := hv
    exact ⟨a, vs, e1, e2, same_upd np _ _ e3, e4, e5, e6, e7⟩
  | od xs => exact hv.elim
  | oi c xs => exact hv.elim
  | th xs => exact hv.elim
  | exc c => exact hv.elim
theorem ds_par2 {f : En → Rs D} {h : En → Rs OV} (hbi : ∀ p ∈ g.B, p.1 ≠ i) (hbj : ∀ p ∈ g.B, p.1 ≠ j) (hN : X.N.Nodup) (hc : X.calm = true) (hij : i ≠ j) (hf : DE X g a f) (hh : DO X g b h) (hi : X.N[i]? = some x := by rfl) (hj : X.N[j]? = some y := by rfl)
    (hx : X.env.scope.names.lookup x = some .local := by rfl) (hy : X.env.scope.names.lookup y = some .local := by rfl)
    (hw : swappedStores [.Tuple [.Name x px, .Name y py] kt pt] (.Tuple [a, b] k2 pt2) X.env = pure (some [x, y]) := by rfl)
    (hs : swapsWithSole [.Tuple [.Name x px, .Name y py] kt pt] (.Tuple [a, b] k2 pt2) pos.line X.env = pure false := by rfl)
    (h1 : starEach [a, b] X.env = (false, eval a X.env) :: starEach [b] X.env := by rfl) (h2 : starEach [b] X.env = (false, eval b X.env) :: starEach [] X.env := by rfl) :
    DS X g (.Assign [.Tuple [.Name x px, .Name y py] kt pt] (.Tuple [a, b] k2 pt2) pos) (par2 i j f h) :=
  PS.imp (ps_par hc hN hi hj hij hx hy (pa_cons hf (pa_cons hh pa_nil h2) h1) hw hs) fun E s H ⟨F, r, R, q⟩ => ⟨F, r, R, post_mono (post_then q) fun d r1 q F1 H1 v sm R1 hv => ⟨F1, r1, R1, post_mono (post_then q) fun o r2 q F2 H2 w sm2 R2 hw => by
    exact ⟨v, w, rfl, q F2 H2 _ (sm.trans sm2) ((R2.set hbi (o := .sh d) (RD.mono sm2 d hv)).set hbj hw.set)⟩⟩⟩
/-- the same where a tuple is made and taken apart (a name is a cell, or on another line) -/
theorem ds_tup2 {f : En → Rs D} {h : En → Rs OV} (hbi : ∀ p ∈ g.B, p.1 ≠ i) (hbj : ∀ p ∈ g.B, p.1 ≠ j) (hN : X.N.Nodup) (hc : X.calm = true) (hf : DE X g a f) (hh : DO X g b h) (hi : X.N[i]? = some x := by rfl) (hj : X.N[j]? = some y := by rfl)
    (hx : Loc X.env.scope x := by first | exact Or.inl rfl | exact Or.inr rfl) (hy : Loc X.env.scope y := by first | exact Or.inl rfl | exact Or.inr rfl)
    (hw : swappedStores [.Tuple [.Name x px, .Name y py] kt pt] (.Tuple [a, b] k2 pt2) X.env = pure none := by rfl)
    (hs : swapsWithSole [.Tuple [.Name x px, .Name y py] kt pt] (.Tuple [a, b] k2 pt2) pos.line X.env = pure false := by rfl)
    (h1 : starEach [a, b] X.env = (false, eval a X.env) :: starEach [b] X.env := by rfl) (h2 : starEach [b] X.env = (false, eval b X.env) :: starEach [] X.env := by rfl)
    (hfx : X.fn x = true ∨ X.env.scope.names.lookup x = some .local := by first | exact .inl rfl | exact .inr rfl) (hfy : X.fn y = true ∨ X.env.scope.names.lookup y = some .local := by first | exact .inl rfl | exact .inr rfl)
    (hst : (assignEach [.Name x px, .Name y py] X.env).findIdx? (·.1) = none := by rfl) (hln : (assignEach [.Name x px, .Name y py] X.env).length = 2 := by rfl)
    (ha1 : (assignEach [.Name x px, .Name y py] X.env).map (·.2) = assign (.Name x px) X.env :: (assignEach [.Name y py] X.env).map (·.2) := by rfl) (ha2 : (assignEach [.Name y py] X.env).map (·.2) = assign (.Name y py) X.env :: (assignEach [] X.env).map (·.2) := by rfl)
    (ha0 : (assignEach [.Tuple [.Name x px, .Name y py] kt pt] X.env).map (·.2) = [assign (.Tuple [.Name x px, .Name y py] kt pt) X.env] := by rfl) :
    DS X g (.Assign [.Tuple [.Name x px, .Name y py] kt pt] (.Tuple [a, b] k2 pt2) pos) (par2 i j f h) :=
  PS.imp (ps_asg (pe_tup (pa_cons hf (pa_cons hh pa_nil h2) h1)) (pg_tup hc (pgs_cons (pg_name (i := i) hN hi hx hfx) (pgs_cons (pg_name (i := j) hN hj hy hfy) pgs_nil ha2) ha1) hln hst) hs hw ha0) fun E s H ⟨F, r, R, q⟩ => ⟨F, r, R, post_mono (post_then q) fun d r1 q F1 H1 v sm R1 hv => ⟨F1, r1, R1, post_mono (post_then q) fun o r2 q F2 H2 w sm2 R2 hw => by
    refine ⟨by show 2 ≤ sizeLine; decide, fun p np => ⟨p, [v, w], rfl, .of upd_same, rfl, v, [w], rfl, w, [], rfl, rfl, ?_⟩⟩
    exact q F2 _ _ (sm.trans sm2) (((R2.laid np).set hbi (o := .sh d) (RD.mono sm2 d hv)).set hbj (hw.laid np).set)⟩⟩
end
end DL

/-! Data layer, part 11: what the printed texts use. -/
namespace DL
open PySem L2
theorem nb {g : G} {bs : List Nat} (h : g.B.map (·.1) = bs) (i : Nat) (hi : i ∉ bs) : ∀ p ∈ g.B, p.1 ≠ i := fun p hp z => hi (by rw [← h]; exact List.mem_map.mpr ⟨p, hp, z⟩)
theorem nb00 {g : G} (h : g.B = []) : g.B.map (·.1) = [] := by rw [h]; rfl
theorem nbs {g : G} {bs vs : List Nat} (h : g.B.map (·.1) = bs) (hv : ∀ i ∈ bs, i ∉ vs) : ∀ p ∈ g.B, p.1 ∉ vs := fun p hp => hv _ (by rw [← h]; exact List.mem_map.mpr ⟨p, hp, rfl⟩)
theorem nbt {g g' : G} {bs : List Nat} (e : Blk g g') (h : g.B.map (·.1) = bs) : g'.B.map (·.1) = bs := by rw [e.B]; exact h
theorem u65 {k : Nat} {A : Around} (r : Room k A) : A.units + 65 < cLine := by have := r.un; omega
def frzD (f : En → Rs OV) : En → Rs D := fun r => (f r).map OV.d
def shD (f : En → Rs D) : En → Rs OV := fun r => (f r).map OV.sh
def yesT : En → Rs Bool := fun r => .ok true r
section
variable {X : Cx} {g : G} {e c : Expr}
theorem DO.fz {f : En → Rs OV} (h : DO X g e f) : DE X g e (frzD f) := h.frz
theorem DE.shd {f : En → Rs D} (h : DE X g e f) : DO X g e (shD f) := h.sh
theorem PTs.imp {ifs : List Expr} {t t' : TT} (h : PTs X ifs t) (i : ∀ s H Q, t' s H Q → t s H Q) : PTs X ifs t' := ⟨fun pins s sg H Q I q => h.run pins s sg H Q I (i sg H Q q)⟩
theorem pts_nilD : PTs X [] (tTD X.K g yesT) := PTs.imp pts_nil fun s H Q ⟨F, r, R, q⟩ => q F H (Same.refl _) R
theorem pts_oneD {f : En → Rs Bool} (h : DT X g c f) : PTs X [c] (tTD X.K g f) := pts_one h
end
/-- a def of the text stands under its name -/
def FnAt (K : PySem.W.Frag) (mg : Str → Option Value) (x : Str) (st : Stmt) : Prop := ∃ f fd, Fun K x x st f fd ∧ mg x = some (.ref f)
/-- a dict of the module with texts as values -/
def TabOk (K : PySem.W.Frag) (d : Addr) : List (Str × Str) → Prop
  | [] => True
  | p :: r => (∃ t, PySem.W.nsIn K d p.1 = some (some (.str p.2 t))) ∧ TabOk K d r
end DL

/-! Data layer, part 12: plain lemmas about the functions of the layer. -/
namespace DL
open PySem L2
/-- a comprehension whose turns keep an invariant of the environment -/
theorem lcS_inv {vs : List Nat} {h : D → En → Option En} {t : En → Rs Bool} {elt : En → Rs D} (I : En → Prop) (P : D → Prop) : ∀ (ds : List D), (∀ d ∈ ds, ∀ r, I r → ∃ r1 r2 y r3, h d (wipeE r vs) = some r1 ∧ t r1 = .ok true r2 ∧ elt r2 = .ok y r3 ∧ P y ∧ I (wipeE r3 vs)) →
    ∀ r, I r → ∃ ys r', lcS vs h t elt ds r = .ok ys r' ∧ ys.length = ds.length ∧ (∀ y ∈ ys, P y) ∧ I r'
  | [], _, r, hr => ⟨[], r, rfl, rfl, fun _ z => absurd z List.not_mem_nil, hr⟩
  | d :: ds, st, r, hr => by
    obtain ⟨r1, r2, y, r3, e1, e2, e3, hy, h3⟩ := st d (List.mem_cons_self ..) r hr
    obtain ⟨ys, r', e4, e5, e6, e7⟩ := lcS_inv I P ds (fun d hd => st d (List.mem_cons_of_mem _ hd)) _ h3
    refine ⟨y :: ys, r', ?_, by rw [List.length_cons, List.length_cons, e5], fun z hz => ?_, e7⟩
    · unfold lcS
      rw [e1]
      simp only [e2, Rs.bind, if_true, e3, e4]
    · rcases List.mem_cons.mp hz with rfl | hz
      · exact hy
      · exact e6 z hz
/-- a comprehension that changes nothing -/
theorem lcS_map {vs : List Nat} {h : D → En → Option En} {t : En → Rs Bool} {elt : En → Rs D} (p : D → Bool) (q : D → D) (r : En) : ∀ (ds : List D), (∀ d ∈ ds, ∃ r1 r2, h d (wipeE r vs) = some r1 ∧ t r1 = .ok (p d) r2 ∧ wipeE r2 vs = r ∧ (p d = true → ∃ r3, elt r2 = .ok (q d) r3 ∧ wipeE r3 vs = r)) →
    lcS vs h t elt ds r = .ok ((ds.filter p).map q) r
  | [], _ => rfl
  | d :: ds, st => by
    obtain ⟨r1, r2, e1, e2, e0, e3⟩ := st d (List.mem_cons_self ..)
    have ih := lcS_map p q r ds fun d hd => st d (List.mem_cons_of_mem _ hd)
    unfold lcS
    rw [e1]
    simp only [e2, Rs.bind]
    cases hp : p d with
    | false =>
      rw [List.filter_cons_of_neg (by simp [hp])]
      simp only [Bool.false_eq_true, if_false]
      rw [e0]
      exact ih
    | true =>
      obtain ⟨r3, e4, e5⟩ := e3 hp
      rw [List.filter_cons_of_pos hp]
      simp only [if_true, e4, e5, ih, List.map_cons]
/-- a for whose turns keep an invariant by the number of the turn and go on -/
theorem forS_inv {h : D → En → Option En} {body : En → SRs} (ds : List D) (I : Nat → En → Prop) (st : ∀ (i : Nat) (d : D), ds[i]? = some d → ∀ r, I i r → ∃ r1 r2, h d r = some r1 ∧ body r1 = .nx r2 ∧ I (i + 1) r2) : ∀ r, I 0 r → ∃ r', forS h body ds r = .nx r' ∧ I ds.length r' := by
  have go : ∀ (es : List D) (k : Nat), (∀ (i : Nat) (d : D), es[i]? = some d → ds[k + i]? = some d) → ∀ r, I k r → ∃ r', forS h body es r = .nx r' ∧ I (k + es.length) r' := fun es => by
    induction es with
    | nil => exact fun k _ r hr => ⟨r, rfl, hr⟩
    | cons d es ih =>
      intro k hk r hr
      obtain ⟨r1, r2, e1, e2, h2⟩ := st k d (hk 0 d rfl) r hr
      obtain ⟨r', e3, h3⟩ := ih (k + 1) (fun i d' hd => by rw [show k + 1 + i = k + (i + 1) by omega]; exact hk (i + 1) d' hd) r2 h2
      refine ⟨r', ?_, by rw [List.length_cons, show k + (es.length + 1) = k + 1 + es.length by omega]; exact h3⟩
      unfold forS
      rw [e1]
      simp only [e2, e3]
  intro r hr
  obtain ⟨r', e, h'⟩ := go ds 0 (fun i d hd => by rw [Nat.zero_add]; exact hd) r hr
  rw [Nat.zero_add] at h'
  exact ⟨r', e, h'⟩
theorem rangeD_len (lo : Int) (n : Nat) : (rangeD lo n).length = n := by unfold rangeD; simp
theorem atI_lt {α : Type} {xs : List α} {i : Int} (h0 : 0 ≤ i) (h : i < xs.length) : atI xs i = some (xs[i.toNat]'(by omega)) := by
  unfold atI ixN
  rw [if_pos h0, if_pos h]
  simp only [Option.bind_some]
  exact List.getElem?_eq_getElem _
theorem atI_mem {α : Type} {xs : List α} {i : Int} (h0 : 0 ≤ i) (h : i < xs.length) : ∃ x, atI xs i = some x ∧ x ∈ xs := ⟨_, atI_lt h0 h, List.getElem_mem _⟩
/-- pigeons -/
theorem exists_not_mem {α : Type} [DecidableEq α] : ∀ (l m : List α), l.Nodup → m.length < l.length → ∃ x ∈ l, x ∉ m
  | [], m, _, h => by simp at h
  | x :: l, m, nd, h => by
    by_cases hx : x ∈ m
    · have nd' := (List.nodup_cons.mp nd)
      have hl : (m.erase x).length < l.length := by
        rw [List.length_erase_of_mem hx]
        have : 0 < m.length := List.length_pos_of_mem hx
        rw [List.length_cons] at h
        omega
      obtain ⟨y, hy, hn⟩ := exists_not_mem l (m.erase x) nd'.2 hl
      refine ⟨y, List.mem_cons_of_mem _ hy, fun z => hn ?_⟩
      have hne : y ≠ x := fun e => nd'.1 (e ▸ hy)
      exact (List.mem_erase_of_ne hne).mpr z
    · exact ⟨x, List.mem_cons_self .., hx⟩
/-! texts as lists of codes -/
theorem fit_str {x : Str} (h : ∀ c ∈ x.cps.toList, c < 1114112) : (D.str x).fit = true := by
  unfold D.fit D.pl D.dp
  simp only [Nat.zero_le, decide_true, Bool.and_true]
  rw [← Array.all_toList, List.all_eq_true]
  exact fun c hc => decide_eq_true (h c hc)
theorem pl_of_fit {d : D} (h : d.fit = true) : d.pl = true := (Bool.and_eq_true_iff.mp h).1
theorem plAll_of {ds : List D} (h : ∀ d ∈ ds, d.pl = true) : plAll ds = true := by
  induction ds with
  | nil => rfl
  | cons d ds ih =>
    show (d.pl && plAll ds) = true
    rw [h d (List.mem_cons_self ..), ih fun e he => h e (List.mem_cons_of_mem _ he)]; rfl
theorem dpAll_of {ds : List D} {n : Nat} (h : ∀ d ∈ ds, d.dp ≤ n) : dpAll ds ≤ n := by
  induction ds with
  | nil => exact Nat.zero_le _
  | cons d ds ih =>
    show max d.dp (dpAll ds) ≤ n
    exact Nat.max_le.mpr ⟨h d (List.mem_cons_self ..), ih fun e he => h e (List.mem_cons_of_mem _ he)⟩
theorem fit_lst {ds : List D} {n : Nat} (hn : n ≤ 63) (h : ∀ d ∈ ds, d.pl = true ∧ d.dp ≤ n) : (D.lst ds).fit = true := by
  unfold D.fit
  refine Bool.and_eq_true_iff.mpr ⟨plAll_of fun d hd => (h d hd).1, decide_eq_true ?_⟩
  have := dpAll_of fun d hd => (h d hd).2
  show dpAll ds + 1 ≤ 64
  omega
theorem fit_tup {ds : List D} {n : Nat} (hn : n ≤ 63) (h : ∀ d ∈ ds, d.pl = true ∧ d.dp ≤ n) : (D.tup ds).fit = true := by
  unfold D.fit
  refine Bool.and_eq_true_iff.mpr ⟨plAll_of fun d hd => (h d hd).1, decide_eq_true ?_⟩
  have := dpAll_of fun d hd => (h d hd).2
  show dpAll ds + 1 ≤ 64
  omega
end DL

/-! Data layer, part 13: repr. -/
namespace DL
open PySem L2

mutual
def D.wt : D → Nat
  | .non => 4
  | .bl _ => 5
  | .int i => if i.natAbs < 1000000000000000000 then 20 else 1921
  | .str x => 10 * x.length + 2
  | .lst xs => wtAll xs + 3
  | .tup xs => wtAll xs + 3
  | .dic _ => 0
  | .scr _ => 0
  | .obj _ _ => 0
def wtAll : List D → Nat
  | [] => 0
  | d :: ds => d.wt + 2 + wtAll ds
end
mutual
def D.six : D → Bool
  | .int i => decide (i.natAbs.log2 < 1920)
  | .lst xs => sixAll xs
  | .tup xs => sixAll xs
  | _ => true
def sixAll : List D → Bool
  | [] => true
  | d :: ds => d.six && sixAll ds
end
def D.shw (d : D) : Bool := d.fit && d.six && decide (d.wt ≤ 1000000)
/-! with dicts -/
def kpl : Key → Bool
  | .inl i => decide (i.natAbs.log2 < 1920)
  | .inr x => x.cps.all (· < 1114112)
def kwt : Key → Nat
  | .inl i => if i.natAbs < 1000000000000000000 then 20 else 1921
  | .inr x => 10 * x.length + 2
mutual
def D.rp : D → Bool
  | .non => true
  | .bl _ => true
  | .int i => decide (i.natAbs.log2 < 1920)
  | .str x => x.cps.all (· < 1114112)
  | .lst xs => rpAll xs
  | .tup xs => rpAll xs
  | .dic kvs => rpK kvs
  | .scr _ => false
  | .obj _ _ => false
def rpAll : List D → Bool
  | [] => true
  | d :: ds => d.rp && rpAll ds
def rpK : List (Key × D) → Bool
  | [] => true
  | (k, d) :: ds => kpl k && (d.rp && rpK ds)
end
mutual
def D.dq : D → Nat
  | .lst xs => dqAll xs + 1
  | .tup xs => dqAll xs + 1
  | .dic kvs => dqK kvs + 1
  | _ => 0
def dqAll : List D → Nat
  | [] => 0
  | d :: ds => max d.dq (dqAll ds)
def dqK : List (Key × D) → Nat
  | [] => 0
  | (_, d) :: ds => max d.dq (dqK ds)
end
mutual
def D.wq : D → Nat
  | .non => 4
  | .bl _ => 5
  | .int i => if i.natAbs < 1000000000000000000 then 20 else 1921
  | .str x => 10 * x.length + 2
  | .lst xs => wqAll xs + 3
  | .tup xs => wqAll xs + 3
  | .dic kvs => wqK kvs + 2
  | .scr _ => 0
  | .obj _ _ => 0
def wqAll : List D → Nat
  | [] => 0
  | d :: ds => d.wq + 2 + wqAll ds
def wqK : List (Key × D) → Nat
  | [] => 0
  | (k, d) :: ds => kwt k + 2 + d.wq + 2 + wqK ds
end
def D.shx (d : D) : Bool := d.rp && decide (d.dq ≤ 64) && decide (d.wq ≤ 1000000)
def semRepr : List D → Option D
  | [d] => if d.shw then some (.str d.py.shown) else if d.shx then some (.str d.py.shown) else none
  | _ => none
theorem int_text18 {i : Int} (h : i.natAbs < 1000000000000000000) : (Str.ofString (toString i)).length ≤ 20 := by
  have := int_text_length_le10 (a := i) (k := 18) (by decide) (by simpa using h)
  rw [PySem.ofString_length]
  omega
mutual
theorem shown_wt : ∀ d : D, d.pl = true → d.six = true → d.py.shown.length ≤ d.wt
  | .non, _, _ => by decide
  | .bl b, _, _ => by cases b <;> decide
  | .int i, _, h => by
    have h : decide (i.natAbs.log2 < 1920) = true := h
    show (Str.ofString (toString i)).length ≤ if i.natAbs < 1000000000000000000 then 20 else 1921
    split
    · next hl => exact int_text18 hl
    · exact PyProof.Rows.int_text_len_1921 (of_decide_eq_true h)
  | .str x, h, _ => by
    have h : x.cps.all (· < 1114112) = true := h
    refine StrLaws.reprText_len x fun c hc => ?_
    have := Array.all_eq_true_iff_forall_mem.mp h c (by simpa using hc)
    have := of_decide_eq_true this
    omega
  | .lst xs, h, k => by
    have h : plAll xs = true := h
    have k : sixAll xs = true := k
    have e := shownAll_wt xs h k
    have h2 := listText_len_le (PyData.shownAll (pys xs))
    show (listText (PyData.shownAll (pys xs))).length ≤ wtAll xs + 3
    omega
  | .tup xs, h, k => by
    have h : plAll xs = true := h
    have k : sixAll xs = true := k
    have e := shownAll_wt xs h k
    have h2 := tupleText_len_le (PyData.shownAll (pys xs))
    show (tupleText (PyData.shownAll (pys xs))).length ≤ wtAll xs + 3
    omega
  | .dic _, h, _ => by cases h
  | .scr _, h, _ => by cases h
  | .obj _ _, h, _ => by cases h
theorem shownAll_wt : ∀ ds : List D, plAll ds = true → sixAll ds = true → ((PyData.shownAll (pys ds)).map (·.length)).sum + 2 * (PyData.shownAll (pys ds)).length ≤ wtAll ds
  | [], _, _ => by decide
  | d :: ds, h, k => by
    have h : (d.pl && plAll ds) = true := h
    have k : (d.six && sixAll ds) = true := k
    obtain ⟨h1, h2⟩ := Bool.and_eq_true_iff.mp h
    obtain ⟨k1, k2⟩ := Bool.and_eq_true_iff.mp k
    have e1 := shown_wt d h1 k1
    have e2 := shownAll_wt ds h2 k2
    show ((d.py.shown :: PyData.shownAll (pys ds)).map (·.length)).sum + 2 * (d.py.shown :: PyData.shownAll (pys ds)).length ≤ d.wt + 2 + wtAll ds
    simp only [List.map_cons, List.sum_cons, List.length_cons]
    omega
end
mutual
theorem py_showable : ∀ d : D, d.pl = true → d.six = true → d.py.showable = true
  | .non, _, _ => rfl
  | .bl _, _, _ => rfl
  | .int i, _, h => h
  | .str x, h, _ => rfl
  | .lst xs, h, k => by
    have h : plAll xs = true := h
    have k : sixAll xs = true := k
    show PyData.showableAll (pys xs) = true
    exact pys_showable xs h k
  | .tup xs, h, k => by
    have h : plAll xs = true := h
    have k : sixAll xs = true := k
    show PyData.showableAll (pys xs) = true
    exact pys_showable xs h k
  | .dic _, h, _ => by cases h
  | .scr _, h, _ => by cases h
  | .obj _ _, h, _ => by cases h
theorem pys_showable : ∀ ds : List D, plAll ds = true → sixAll ds = true → PyData.showableAll (pys ds) = true
  | [], _, _ => rfl
  | d :: ds, h, k => by
    have h : (d.pl && plAll ds) = true := h
    have k : (d.six && sixAll ds) = true := k
    obtain ⟨h1, h2⟩ := Bool.and_eq_true_iff.mp h
    obtain ⟨k1, k2⟩ := Bool.and_eq_true_iff.mp k
    show (d.py.showable && PyData.showableAll (pys ds)) = true
    rw [py_showable d h1 k1, pys_showable ds h2 k2]; rfl
end
def kPy : Key → PyData
  | .inl i => .int i
  | .inr x => .str x
theorem pyk_cons (k : Key) (d : D) (ds : List (Key × D)) : pyk ((k, d) :: ds) = (kPy k, d.py) :: pyk ds := by cases k <;> rfl
theorem shownKv_cons (k v : PyData) (r : List (PyData × PyData)) : PyData.shownKv ((k, v) :: r) = (k.shown ++ ": " ++ v.shown) :: PyData.shownKv r := rfl
theorem key_wt (k : Key) (h : kpl k = true) : (kPy k).shown.length ≤ kwt k := by
  cases k with
  | inl i => exact shown_wt (.int i) rfl h
  | inr x => exact shown_wt (.str x) h rfl
theorem join_len : ∀ ps : List Str, (Str.join ", " ps).length ≤ (ps.map (·.length)).sum + 2 * ps.length
  | [] => by decide +kernel
  | [p] => by
    show p.length ≤ _
    simp
  | p :: q :: ps => by
    have ih := join_len (q :: ps)
    show (p ++ ", " ++ Str.join ", " (q :: ps)).length ≤ _
    rw [strLen_append, strLen_append]
    have h2 : ((", " : Str)).length = 2 := by decide +kernel
    simp only [List.map_cons, List.sum_cons, List.length_cons] at ih ⊢
    omega
theorem dictText_le (ps : List Str) : (dictText ps).length ≤ (ps.map (·.length)).sum + 2 * ps.length + 2 := by
  have h := join_len ps
  have h1 : (("{" : Str)).length = 1 := by decide +kernel
  have h2 : (("}" : Str)).length = 1 := by decide +kernel
  unfold dictText
  rw [strLen_append, strLen_append, h1, h2]
  omega
mutual
theorem shown_wq : ∀ d : D, d.rp = true → d.py.shown.length ≤ d.wq
  | .non, _ => by decide
  | .bl b, _ => by cases b <;> decide
  | .int i, h => shown_wt (.int i) rfl h
  | .str x, h => shown_wt (.str x) h rfl
  | .lst xs, h => by
    have e := shownAll_wq xs h
    have h2 := listText_len_le (PyData.shownAll (pys xs))
    show (listText (PyData.shownAll (pys xs))).length ≤ wqAll xs + 3
    omega
  | .tup xs, h => by
    have e := shownAll_wq xs h
    have h2 := tupleText_len_le (PyData.shownAll (pys xs))
    show (tupleText (PyData.shownAll (pys xs))).length ≤ wqAll xs + 3
    omega
  | .dic kvs, h => by
    have e := shownK_wq kvs h
    have h2 := dictText_le (PyData.shownKv (pyk kvs))
    show (dictText (PyData.shownKv (pyk kvs))).length ≤ wqK kvs + 2
    omega
  | .scr _, h => by cases h
  | .obj _ _, h => by cases h
theorem shownAll_wq : ∀ ds : List D, rpAll ds = true → ((PyData.shownAll (pys ds)).map (·.length)).sum + 2 * (PyData.shownAll (pys ds)).length ≤ wqAll ds
  | [], _ => by decide
  | d :: ds, h => by
    have h : (d.rp && rpAll ds) = true := h
    obtain ⟨h1, h2⟩ := Bool.and_eq_true_iff.mp h
    have e1 := shown_wq d h1
    have e2 := shownAll_wq ds h2
    show ((d.py.shown :: PyData.shownAll (pys ds)).map (·.length)).sum + 2 * (d.py.shown :: PyData.shownAll (pys ds)).length ≤ d.wq + 2 + wqAll ds
    simp only [List.map_cons, List.sum_cons, List.length_cons]
    omega
theorem shownK_wq : ∀ ds : List (Key × D), rpK ds = true → ((PyData.shownKv (pyk ds)).map (·.length)).sum + 2 * (PyData.shownKv (pyk ds)).length ≤ wqK ds
  | [], _ => by decide
  | (k, d) :: ds, h => by
    have h : (kpl k && (d.rp && rpK ds)) = true := h
    obtain ⟨h0, h⟩ := Bool.and_eq_true_iff.mp h
    obtain ⟨h1, h2⟩ := Bool.and_eq_true_iff.mp h
    have e0 := key_wt k h0
    have e1 := shown_wq d h1
    have e2 := shownK_wq ds h2
    have h3 : ((": " : Str)).length = 2 := by decide +kernel
    rw [pyk_cons, shownKv_cons, show wqK ((k, d) :: ds) = kwt k + 2 + d.wq + 2 + wqK ds from rfl]
    simp only [List.map_cons, List.sum_cons, List.length_cons, strLen_append, h3]
    omega
end
mutual
theorem rp_showable : ∀ d : D, d.rp = true → d.py.showable = true
  | .non, _ => rfl
  | .bl _, _ => rfl
  | .int i, h => h
  | .str x, h => rfl
  | .lst xs, h => rpAll_showable xs h
  | .tup xs, h => rpAll_showable xs h
  | .dic kvs, h => rpK_showable kvs h
  | .scr _, h => by cases h
  | .obj _ _, h => by cases h
theorem rpAll_showable : ∀ ds : List D, rpAll ds = true → PyData.showableAll (pys ds) = true
  | [], _ => rfl
  | d :: ds, h => by
    have h : (d.rp && rpAll ds) = true := h
    obtain ⟨h1, h2⟩ := Bool.and_eq_true_iff.mp h
    show (d.py.showable && PyData.showableAll (pys ds)) = true
    rw [rp_showable d h1, rpAll_showable ds h2]; rfl
theorem rpK_showable : ∀ ds : List (Key × D), rpK ds = true → PyData.showableKv (pyk ds) = true
  | [], _ => rfl
  | (k, d) :: ds, h => by
    have h : (kpl k && (d.rp && rpK ds)) = true := h
    obtain ⟨h0, h⟩ := Bool.and_eq_true_iff.mp h
    obtain ⟨h1, h2⟩ := Bool.and_eq_true_iff.mp h
    rw [pyk_cons]
    show ((kPy k).showable && d.py.showable && PyData.showableKv (pyk ds)) = true
    rw [rp_showable d h1, rpK_showable ds h2]
    cases k with
    | inl i => show (decide (i.natAbs.log2 < 1920) && true && true) = true; rw [show decide (i.natAbs.log2 < 1920) = true from h0]; rfl
    | inr x => rfl
end
mutual
theorem rp_depth : ∀ d : D, d.rp = true → d.py.depth = d.dq
  | .non, _ => rfl
  | .bl _, _ => rfl
  | .int i, h => rfl
  | .str x, h => rfl
  | .lst xs, h => by show PyData.depthAll (pys xs) + 1 = dqAll xs + 1; rw [rpAll_depth xs h]
  | .tup xs, h => by show PyData.depthAll (pys xs) + 1 = dqAll xs + 1; rw [rpAll_depth xs h]
  | .dic kvs, h => by show PyData.depthKv (pyk kvs) + 1 = dqK kvs + 1; rw [rpK_depth kvs h]
  | .scr _, h => by cases h
  | .obj _ _, h => by cases h
theorem rpAll_depth : ∀ ds : List D, rpAll ds = true → PyData.depthAll (pys ds) = dqAll ds
  | [], _ => rfl
  | d :: ds, h => by
    have h : (d.rp && rpAll ds) = true := h
    obtain ⟨h1, h2⟩ := Bool.and_eq_true_iff.mp h
    show max d.py.depth (PyData.depthAll (pys ds)) = max d.dq (dqAll ds)
    rw [rp_depth d h1, rpAll_depth ds h2]
theorem rpK_depth : ∀ ds : List (Key × D), rpK ds = true → PyData.depthKv (pyk ds) = dqK ds
  | [], _ => rfl
  | (k, d) :: ds, h => by
    have h : (kpl k && (d.rp && rpK ds)) = true := h
    obtain ⟨h0, h⟩ := Bool.and_eq_true_iff.mp h
    obtain ⟨h1, h2⟩ := Bool.and_eq_true_iff.mp h
    rw [pyk_cons]
    show max (max (kPy k).depth d.py.depth) (PyData.depthKv (pyk ds)) = max d.dq (dqK ds)
    rw [rp_depth d h1, rpK_depth ds h2]
    cases k <;> simp [PyData.depth, kPy]
end
section
variable {X : Cx} {pins : List (Addr × Obj)} {s : Shared} {H : Hp} {sg : St}
theorem Inv.ne_sys (I : Inv X pins sg H s) (sy : SysAt X.base) {a : Addr} {o : HO} (h : H a = some o) : a ≠ sysModules := fun e => by
  subst e
  obtain ⟨ob, ho⟩ := sy
  rw [(I.bs _ ob ho).2] at h
  cases h
theorem key_reads {h : Heap} {k : Key} {v : Value} (e : keyIs k v = true) : Reads h v (kPy k) [] := by
  rcases keyIs_shape e with ⟨i, t, rfl, rfl⟩ | ⟨x, t, rfl, rfl⟩
  · exact Reads.int i t
  · exact Reads.str x t
mutual
theorem RD.readsX (I : Inv X pins sg H s) (sy : SysAt X.base) : ∀ (d : D) (v : V) (u : Value), d.rp = true → RD X.K H v d → RelV v u → ∃ as, Reads s.heap u d.py as ∧ sysModules ∉ as
  | .non, _, _, _, h, r => by cases h; cases r; exact ⟨_, Reads.none, List.not_mem_nil⟩
  | .bl b, _, _, _, h, r => by cases h; cases r; exact ⟨_, Reads.bool b, List.not_mem_nil⟩
  | .int i, _, _, _, h, r => by cases h; obtain ⟨t, rfl⟩ := r; exact ⟨_, Reads.int i t, List.not_mem_nil⟩
  | .str x, _, _, _, h, r => by cases h; obtain ⟨t, rfl⟩ := r; exact ⟨_, Reads.str x t, List.not_mem_nil⟩
  | .lst ds, _, _, hp, h, r => by
    have hp : rpAll ds = true := hp
    cases h with
    | lst hs ha =>
      cases r
      obtain ⟨its, rv, ⟨o, n, ho, hc, _, hd⟩, _⟩ := I.list (SqL.of hs)
      obtain ⟨as, hr, hn⟩ := RDs.readsX I sy ds _ its hp ha rv
      refine ⟨_, Reads.list ho hc hd hr, fun z => ?_⟩
      rcases List.mem_cons.mp z with z | z
      · exact Inv.ne_sys I sy hs z.symm
      · exact hn z
  | .tup ds, _, _, hp, h, r => by
    have hp : rpAll ds = true := hp
    cases h with
    | tup hs ha =>
      cases r
      obtain ⟨its, rv, ⟨o, ho, hc, n, hd⟩, _⟩ := I.tuple hs
      obtain ⟨as, hr, hn⟩ := RDs.readsX I sy ds _ its hp ha rv
      exact ⟨_, Reads.tuple ho hc hd hr, hn⟩
  | .dic kds, _, _, hp, h, r => by
    have hp : rpK kds = true := hp
    cases h with
    | dic hs ha =>
      cases r
      obtain ⟨_, hne, vs, kv, o, es, ep, ho, hx, hd, _, hpr, _⟩ := dk_rd I.hok (.inr ⟨_, hs⟩)
      obtain ⟨as, hr1, hr2, hn⟩ := RDk.readsX I sy kds _ _ _ hp ha kv hpr
      have := Reads.dict ho hx.1 hd hr1 hr2
      refine ⟨_, this, fun z => ?_⟩
      rcases List.mem_append.mp z with z | z
      · rcases List.mem_cons.mp z with z | z
        · rw [← z] at hne; exact absurd hne (by decide)
        · cases z
      · exact hn z
  | .scr _, _, _, hp, _, _ => by cases hp
  | .obj _ _, _, _, hp, _, _ => by cases hp
theorem RDs.readsX (I : Inv X pins sg H s) (sy : SysAt X.base) : ∀ (ds : List D) (vs : List V) (us : List Value), rpAll ds = true → RDs X.K H vs ds → Vals vs us → ∃ as, ReadsAll s.heap us (pys ds) as ∧ sysModules ∉ as
  | [], _, _, _, h, r => by cases h; cases r; exact ⟨_, ReadsAll.nil, List.not_mem_nil⟩
  | d :: ds, _, _, hp, h, r => by
    have hp : (d.rp && rpAll ds) = true := hp
    obtain ⟨h1, h2⟩ := Bool.and_eq_true_iff.mp hp
    cases h with
    | cons a1 a2 =>
      cases r with
      | cons r1 r2 =>
        obtain ⟨as, q1, n1⟩ := RD.readsX I sy d _ _ h1 a1 r1
        obtain ⟨bs, q2, n2⟩ := RDs.readsX I sy ds _ _ h2 a2 r2
        exact ⟨_, ReadsAll.cons q1 q2, fun z => (List.mem_append.mp z).elim n1 n2⟩
theorem RDk.readsX (I : Inv X pins sg H s) (sy : SysAt X.base) : ∀ (kds : List (Key × D)) (kvs : List (Key × V)) (vs : List (Key × Value)) (es : List DictEntry), rpK kds = true → RDk X.K H kvs kds → KV kvs vs → PySem.Pairs (mixKind X.prog X.w) es vs → ∃ bs, ReadsAll s.heap (es.map (·.key)) ((pyk kds).map (·.1)) [] ∧ ReadsAll s.heap (es.map (·.val)) ((pyk kds).map (·.2)) bs ∧ sysModules ∉ bs
  | [], _, _, _, _, h, r, p => by cases h; cases r; cases p; exact ⟨_, ReadsAll.nil, ReadsAll.nil, List.not_mem_nil⟩
  | (k, d) :: kds, _, _, _, hp, h, r, p => by
    have hp : (kpl k && (d.rp && rpK kds)) = true := hp
    obtain ⟨_, hp⟩ := Bool.and_eq_true_iff.mp hp
    obtain ⟨h1, h2⟩ := Bool.and_eq_true_iff.mp hp
    cases h with
    | cons a1 a2 =>
      cases r with
      | cons r1 r2 =>
        cases p with
        | cons p1 p2 p3 =>
          obtain ⟨e1, e2⟩ := r1
          obtain ⟨as, q1, n1⟩ := RD.readsX I sy d _ _ h1 a1 e2
          obtain ⟨bs, q2, q3, n2⟩ := RDk.readsX I sy kds _ _ _ h2 a2 r2 p3
          refine ⟨as ++ bs, ?_, ?_, fun z => (List.mem_append.mp z).elim n1 n2⟩
          · have hk : Reads s.heap _ (kPy _) [] := key_reads (h := s.heap) p1
            rw [← e1] at hk
            rw [pyk_cons]
            exact ReadsAll.cons hk q2
          · rw [← p2] at q1
            rw [pyk_cons]
            exact ReadsAll.cons q1 q3
end
end
section
variable {X : Cx} {g : G}
theorem cd_repr {k : Nat} (hgd : X.A.guards = some []) (hr : Room k X.A) (sy : SysAt X.base) : CallR X (.builtin "repr") (rDN X.K g semRepr) := by
  intro pins s sg H xs us Q I rv h
  obtain ⟨F, s0, r, ds, d, R, hx, e, q⟩ := h
  unfold semRepr at e
  split at e
  · next d0 =>
    split at e
    · next hs =>
      cases e
      obtain ⟨hs1, hs2⟩ := Bool.and_eq_true_iff.mp hs
      obtain ⟨hf, h6⟩ := Bool.and_eq_true_iff.mp hs1
      obtain ⟨hp, hd⟩ := Bool.and_eq_true_iff.mp hf
      have hd := of_decide_eq_true hd
      have hw := of_decide_eq_true hs2
      have hsz := Nat.le_trans (shown_wt d0 hp h6) (Nat.le_trans hw mil_line)
      have hsh := py_showable d0 hp h6
      obtain ⟨v, rfl, h1⟩ := hx.one
      obtain ⟨u, rfl, ru⟩ := vals1 rv
      obtain ⟨as, rr⟩ := RD.reads I d0 v u hp (h1.rd R.sub) ru
      have fin := q F H (.str d0.py.shown) (Same.refl _) R (.str _)
      have un := hr.un
      have dep := py_depth d0 hp
      have dep' : X.A.units + (d0.py.depth + 1) < cLine := by omega
      cases d0 with
      | non => cases rr; exact P.repr_of_none ⟨.str _, H, I.tok _, ⟨_, rfl⟩, fin⟩
      | bl b => cases rr; exact P.repr_of_bool ⟨.str _, H, I.tok _, ⟨_, rfl⟩, fin⟩
      | int i => cases rr; exact P.repr_of_int (of_decide_eq_true h6) ⟨.str _, H, I.tok _, ⟨_, rfl⟩, fin⟩
      | str x => cases rr; exact P.repr_of_str (hsz := hsz) ⟨.str _, H, I.tok _, ⟨_, rfl⟩, fin⟩
      | lst xs =>
        have hn := PyData.noDict_hsm (as := as) (PyData.hasDict_of_canLay _ (py_lay _ hp))
        cases rr with
        | list z1 z2 z3 z4 => exact repr_of_reads' (.list z1 z2 z3 z4) hsh hn hgd dep' (fun _ _ e => e) (fun h' u tk hk => ⟨.str _, H, I.kept hk, ⟨_, rfl⟩, fin⟩) hsz
      | tup xs =>
        have hn := PyData.noDict_hsm (as := as) (PyData.hasDict_of_canLay _ (py_lay _ hp))
        cases rr with
        | tuple z1 z2 z3 z4 => exact repr_of_reads' (.tuple z1 z2 z3 z4) hsh hn hgd dep' (fun _ _ e => e) (fun h' u tk hk => ⟨.str _, H, I.kept hk, ⟨_, rfl⟩, fin⟩) hsz
      | dic _ => cases hp
      | scr _ => cases hp
      | obj _ _ => cases hp
    · split at e
      · next hs =>
        cases e
        obtain ⟨hs1, hs2⟩ := Bool.and_eq_true_iff.mp hs
        obtain ⟨hp, hd⟩ := Bool.and_eq_true_iff.mp hs1
        have hd := of_decide_eq_true hd
        have hw := of_decide_eq_true hs2
        have hsz := Nat.le_trans (shown_wq d0 hp) (Nat.le_trans hw mil_line)
        have hsh := rp_showable d0 hp
        obtain ⟨v, rfl, h1⟩ := hx.one
        obtain ⟨u, rfl, ru⟩ := vals1 rv
        obtain ⟨as, rr, hn⟩ := RD.readsX I sy d0 v u hp (h1.rd R.sub) ru
        have fin := q F H (.str d0.py.shown) (Same.refl _) R (.str _)
        have un := hr.un
        have dep := rp_depth d0 hp
        have dep' : X.A.units + (d0.py.depth + 1) < cLine := by omega
        cases d0 with
        | non => cases rr; exact P.repr_of_none ⟨.str _, H, I.tok _, ⟨_, rfl⟩, fin⟩
        | bl b => cases rr; exact P.repr_of_bool ⟨.str _, H, I.tok _, ⟨_, rfl⟩, fin⟩
        | int i => cases rr; exact P.repr_of_int (of_decide_eq_true hp) ⟨.str _, H, I.tok _, ⟨_, rfl⟩, fin⟩
        | str x => cases rr; exact P.repr_of_str (hsz := hsz) ⟨.str _, H, I.tok _, ⟨_, rfl⟩, fin⟩
        | lst xs =>
          cases rr with
          | list z1 z2 z3 z4 => exact repr_of_reads' (.list z1 z2 z3 z4) hsh (fun _ => hn) hgd dep' (fun _ _ e => e) (fun h' u tk hk => ⟨.str _, H, I.kept hk, ⟨_, rfl⟩, fin⟩) hsz
        | tup xs =>
          cases rr with
          | tuple z1 z2 z3 z4 => exact repr_of_reads' (.tuple z1 z2 z3 z4) hsh (fun _ => hn) hgd dep' (fun _ _ e => e) (fun h' u tk hk => ⟨.str _, H, I.kept hk, ⟨_, rfl⟩, fin⟩) hsz
        | dic kvs =>
          cases rr with
          | dict z1 z2 z3 z4 z5 => exact repr_of_reads' (.dict z1 z2 z3 z4 z5) hsh (fun _ => hn) hgd dep' (fun _ _ e => e) (fun h' u tk hk => ⟨.str _, H, I.kept hk, ⟨_, rfl⟩, fin⟩) hsz
        | scr _ => cases hp
        | obj _ _ => cases hp
      · cases e
  · cases e
end
end DL

/-! Data layer, part 14: truth of any data, isinstance, chains of comparisons. -/
namespace DL
open PySem L2

def D.tru : D → Option Bool
  | .non => some false
  | .bl b => some b
  | .int i => some (i != 0)
  | .str x => if x.length ≤ 1000000 then some (x.length != 0) else none
  | .lst xs => some (!xs.isEmpty)
  | .tup xs => some (!xs.isEmpty)
  | _ => none
section
variable {K : PySem.W.Frag} {F H : Hp} {v : V} {d : D}
theorem RDs.isE {vs : List V} {ds : List D} (h : RDs K F vs ds) : vs.isEmpty = ds.isEmpty := by
  cases h <;> rfl
theorem tru_of {k : Bool} (sub : Same F H) (h : RB K F H v d) (e : d.tru = some k) : TruV K v H k := by
  cases d with
  | non => cases h.flat (fun _ => nofun); cases e; rfl
  | bl b => cases h.flat (fun _ => nofun); cases e; rfl
  | int b => cases h.flat (fun _ => nofun); cases e; rfl
  | str x =>
    cases h.flat (fun _ => nofun)
    have e : (if x.length ≤ 1000000 then some (x.length != 0) else none) = some k := e
    by_cases hl : x.length ≤ 1000000
    · rw [if_pos hl] at e
      cases e
      refine ⟨Nat.le_trans hl mil_line, ?_⟩
      cases hx : x.length with
      | zero => rfl
      | succ n => 
        show (n + 1 != 0) = (((n + 1 : Nat) : Int) != 0)
        have h1 : (((n + 1 : Nat) : Int) != 0) = true := by
          rw [bne_iff_ne]; omega
        rw [h1]; rfl
    · rw [if_neg hl] at e; cases e
  | lst xs =>
    obtain ⟨a, vs, rfl, h1, h2⟩ := h.lst sub
    cases e
    exact .inl ⟨vs, .of h1, by rw [h2.isE]⟩
  | tup xs =>
    obtain ⟨a, vs, rfl, h1, _, h2⟩ := h.tup sub
    cases e
    exact .inr (.inl ⟨vs, h1, by rw [h2.isE]⟩)
  | dic _ => cases e
  | scr _ => cases e
  | obj _ _ => cases e
end
def toT (p : Opd) : En → Rs Bool := fun r => (p.run r).bind fun x r1 => ofO ((look r1 x).bind D.tru) r1
def orV (f h : En → Rs D) : En → Rs D := fun r => (f r).bind fun d r1 => (ofO d.tru r1).bind fun c r1 => if c = true then .ok d r1 else h r1
def andV (f h : En → Rs D) : En → Rs D := fun r => (f r).bind fun d r1 => (ofO d.tru r1).bind fun c r1 => if c = true then h r1 else .ok d r1
def notV (p : Opd) : En → Rs D := fun r => (toT p r).map fun c => .bl (!c)
section
variable {X : Cx} {g : G} {e a b c : Expr} {pos : Pos} {p : Opd}
theorem tB_tru {K : PySem.W.Frag} {s : St} {H : Hp} {Q : Bool → Hp → Prop} (h : tTD K g (toT p) s H Q) : tB K g p s H fun x H1 => ∃ k, TruV K x H1 k ∧ Q k H1 := by
  obtain ⟨F, r, R, h⟩ := h
  refine ⟨F, r, R, post_mono (post_bind h) fun z r1 q F1 H1 v sm R1 hv => ?_⟩
  obtain ⟨k, e, q⟩ := post_ofO q
  obtain ⟨d, e1, e2⟩ := Option.bind_eq_some_iff.mp e
  exact ⟨k, tru_of R1.sub (look_ok R1 hv e1) e2, q F1 H1 sm R1⟩
theorem de_notV (h : DB X g a p) : DE X g (.UnaryOp .Not a pos) (notV p) :=
  PE.imp (pe_notT h) fun s H Q ⟨F, r, R, h⟩ => tB_tru (Q := fun k H1 => Q (.bl (!k)) H1) ⟨F, r, R, post_mono (post_map h) fun k r1 q F1 H1 sm R1 => q F1 H1 _ sm R1 (.bl _)⟩
/-! ### a < b < c -/
def chD (p q u : Opd) (sem sem' : D → D → Option D) : En → Rs D := fun r => (p.run r).bind fun x r1 => (q.run r1).bind fun y r2 =>
  (ofO (((look r2 x).bind fun dx => (look r2 y).bind fun dy => sem dx dy).bind D.asB) r2).bind fun k r2 => if k = true then (u.run r2).bind fun z r3 => ofO ((look r3 y).bind fun dy => (look r3 z).bind fun dz => sem' dy dz) r3 else .ok (.bl false) r2
theorem chain_ok {K : PySem.W.Frag} {p q u : Opd} {sem sem' : D → D → Option D} {s : St} {H : Hp} {Q : VK} (h : tD K g (chD p q u sem sem') s H Q) : tChain (rD2 K g sem) (rD2 K g sem') (tB K g p) (tB K g q) (tB K g u) s H Q := by
  obtain ⟨F, r, R, h⟩ := h
  refine ⟨F, r, R, post_mono (post_bind h) fun x r1 q1 F1 H1 v sm R1 hv => ⟨F1, r1, R1, post_mono (post_bind q1) fun y r2 q2 F2 H2 w s2 R2 hw => ?_⟩⟩
  obtain ⟨k, e, q2⟩ := post_ofO (post_bind q2)
  obtain ⟨d, e0, ek⟩ := Option.bind_eq_some_iff.mp e
  obtain ⟨dx, e1, e⟩ := Option.bind_eq_some_iff.mp e0
  obtain ⟨dy, e2, e3⟩ := Option.bind_eq_some_iff.mp e
  have ek := asB_some ek
  subst ek
  refine ⟨F2, s, r2, dx, dy, _, R2, look_ok R2 (hv.mono s2) e1, look_ok R2 hw e2, e3, fun F3 H3 v3 s3 R3 h3 => ?_⟩
  cases h3
  refine ⟨k, rfl, ?_⟩
  cases k with
  | false => exact q2 F3 H3 _ ((sm.trans s2).trans s3) R3 (.bl false)
  | true =>
    refine ⟨F3, r2, R3, post_mono (post_bind q2) fun z r4 q4 F4 H4 w4 s4 R4 h4 => ?_⟩
    obtain ⟨d, e, q4⟩ := post_ofO q4
    obtain ⟨dx, f1, e⟩ := Option.bind_eq_some_iff.mp e
    obtain ⟨dy, f2, f3⟩ := Option.bind_eq_some_iff.mp e
    exact ⟨F4, s, r4, dx, dy, d, R4, look_ok R4 ((hw.mono s3).mono s4) f1, look_ok R4 h4 f2, f3, fun F5 H5 v5 s5 R5 h5 => q4 F5 H5 v5 ((((sm.trans s2).trans s3).trans s4).trans s5) R5 h5⟩
theorem de_chain {op op' : CmpOp} {p q u : Opd} {sem sem' : D → D → Option D} (ho : OpR X (compareOp op) (rD2 X.K g sem)) (ho' : OpR X (compareOp op') (rD2 X.K g sem')) (ha : DB X g a p) (hb : DB X g b q) (hc : DB X g c u)
    (hm : lastMarks [op, op'] [b, c] = false := by with_unfolding_all rfl) : DE X g (.Compare a [op, op'] [b, c] pos) (chD p q u sem sem') :=
  PE.imp (pe_chain ho ho' ha hb hc hm) fun s H Q h => chain_ok h
theorem dt_chain {op op' : CmpOp} {p q u : Opd} {sem sem' : D → D → Option D} (ho : OpR X (compareOp op) (rD2 X.K g sem)) (ho' : OpR X (compareOp op') (rD2 X.K g sem')) (ha : DB X g a p) (hb : DB X g b q) (hc : DB X g c u)
    (hm : lastMarks [op, op'] [b, c] = false := by with_unfolding_all rfl) : DT X g (.Compare a [op, op'] [b, c] pos) (toB (chD p q u sem sem')) :=
  PT.imp (pt_chain ho ho' ha hb hc hm) fun s H Q ⟨F, r, R, h⟩ => by
    refine chain_ok ⟨F, r, R, post_mono (post_bind h) fun d r1 q F1 H1 v sm R1 hv => ?_⟩
    obtain ⟨b, e, q⟩ := post_ofO q
    have e := asB_some e
    subst e
    cases hv
    exact ⟨b, rfl, q F1 H1 sm R1⟩
/-! ### isinstance(e, T), isinstance(e, (T, ..)) -/
def D.ty : D → String
  | .non => "NoneType"
  | .bl _ => "bool"
  | .int _ => "int"
  | .str _ => "str"
  | .lst _ => "list"
  | .tup _ => "tuple"
  | .dic _ => "dict"
  | .scr _ => "list"
  | .obj _ _ => "object"
def isTy (t : String) (T : String) : Bool := t == T || (t == "bool" && T == "int")
def D.isi (d : D) (Ts : List String) : Bool := Ts.any (isTy d.ty)
def isiD (p : Opd) (Ts : List String) : En → Rs D := fun r => (p.run r).bind fun x r1 => ofO ((look r1 x).bind fun d => match d with
  | .scr _ => none
  | .obj _ _ => none
  | d => some (.bl (d.isi Ts))) r1
theorem ty_of {K : PySem.W.Frag} {F H : Hp} {v : V} {d : D} (sub : Same F H) (h : RB K F H v d) (h2 : (∀ x, d ≠ .scr x) ∧ ∀ c x, d ≠ .obj c x) : TyX K H v (.type d.ty) := by
  cases d with
  | non => cases h.flat (fun _ => nofun); exact .base .non
  | bl b => cases h.flat (fun _ => nofun); exact .base (.bl _)
  | int b => cases h.flat (fun _ => nofun); exact .base (.int _)
  | str x => cases h.flat (fun _ => nofun); exact .base (.str _)
  | lst xs =>
    obtain ⟨a, vs, rfl, h1, h2⟩ := h.lst sub
    exact .base (.lst h1)
  | tup xs =>
    obtain ⟨a, vs, rfl, h1, _, h2⟩ := h.tup sub
    rcases h1 with (h1 | ⟨o, h1⟩) | ⟨o, its, n, h1, hc, _⟩
    · exact .base (.tup h1)
    · exact .fTuple h1
    · exact .kTuple h1 hc
  | dic x =>
    cases h.flat (fun _ => nofun) with
    | dic h1 h2 =>
      exact .fDict (sub _ _ h1)
  | scr x => exact absurd rfl (h2.1 x)
  | obj c x => exact absurd rfl (h2.2 c x)
def tyNames : List String := ["int", "str", "bool", "list", "tuple", "dict", "float", "set", "bytes"]
theorem kit_one (K : PySem.W.Frag) (d : D) {T : String} (h : T ∈ tyNames) : PySem.W.kitOne K (.type d.ty) (.type T) = some (isTy d.ty T) := by
  unfold tyNames at h
  simp only [List.mem_cons, List.not_mem_nil, or_false] at h
  rcases h with rfl | rfl | rfl | rfl | rfl | rfl | rfl | rfl | rfl <;> cases d <;> rfl
theorem kit_any (K : PySem.W.Frag) (d : D) : ∀ {Ts : List String}, (∀ T ∈ Ts, T ∈ tyNames) → PySem.W.kitAny K (.type d.ty) (Ts.map Value.type) = some (d.isi Ts)
  | [], _ => rfl
  | T :: Ts, h => by
    have h1 := kit_one K d (h T (List.mem_cons_self ..))
    have h2 := kit_any K d (Ts := Ts) fun T hT => h T (List.mem_cons_of_mem _ hT)
    show (match PySem.W.kitOne K (.type d.ty) (.type T) with | some true => some true | some false => PySem.W.kitAny K (.type d.ty) (Ts.map Value.type) | none => none) = _
    rw [h1, h2]
    show _ = some (isTy d.ty T || d.isi Ts)
    cases isTy d.ty T <;> rfl
theorem isi_some {d x : D} {Ts : List String} (e : (match d with
  | .scr _ => none
  | .obj _ _ => none
  | d => some (.bl (d.isi Ts)) : Option D) = some x) : x = .bl (d.isi Ts) ∧ (∀ x, d ≠ .scr x) ∧ ∀ c x, d ≠ .obj c x := by
  cases d <;> first | (cases e; exact ⟨rfl, fun _ => nofun, fun _ _ => nofun⟩) | cases e
theorem de_isi1 {T : String} {pn pT : Pos} (hT : T ∈ tyNames) (hm : X.mg "isinstance" = none) (hmT : X.mg (T : Str) = none) (hp : DB X g e p) (hg : Gl X "isinstance" := by rfl) (hgT : Gl X (T : Str) := by rfl)
    (hvT : bootBuiltins (T : Str) = some (.type T) := by decide +kernel) (hnT : (T : Str) ≠ "__name__" := by decide) (hdT : ((T : Str) == ("__debug__" : Str)) = false := by decide)
    (h1 : starEach [e, .Name T pT] X.env = (false, eval e X.env) :: starEach [.Name T pT] X.env := by rfl) (h2 : starEach [.Name T pT] X.env = (false, eval (.Name T pT) X.env) :: starEach [] X.env := by rfl)
    (hpl : (backTo pos (starEach [.Name T pT] X.env)).any (·.1) = false := by rfl) : DE X g (.Call (.Name "isinstance" pn) [e, .Name T pT] [] pos) (isiD p [T]) := by
  refine PE.imp (pe_callB call_isi hg hm (by decide +kernel) (pa_cons hp (pa_cons (pe_bltn (v := .ty T) hgT hmT hvT rfl hnT hdT) pa_nil h2) h1) (by decide) (by decide) h1 hpl) fun s H Q ⟨F, r, R, h⟩ => ?_
  refine ⟨F, r, R, post_mono (post_bind h) fun z r1 q F1 H1 v sm R1 hv => ?_⟩
  obtain ⟨x, e, q⟩ := post_ofO q
  obtain ⟨d, e1, e2⟩ := Option.bind_eq_some_iff.mp e
  obtain ⟨rfl, n2⟩ := isi_some e2
  have k := kit_one X.K d hT
  have k2 : d.isi [T] = isTy d.ty T := by show (isTy d.ty T || false) = _; rw [Bool.or_false]
  refine ⟨v, .ty T, .type d.ty, .type T, isTy d.ty T, rfl, .ty _, ty_of R1.sub (look_ok R1 hv e1) n2, k, ?_⟩
  rw [← k2]
  exact q F1 H1 _ sm R1 (.bl _)
/-- a list of names of types -/
def tTys (Ts : List String) : TA := fun _ H Q => Q (Ts.map V.ty) H
theorem pa_ty {T : String} {Ts : List String} {es : List Expr} {pT : Pos} (hmT : X.mg (T : Str) = none) (hs : PA X es (tTys Ts)) (hgT : Gl X (T : Str) := by rfl)
    (hvT : bootBuiltins (T : Str) = some (.type T) := by decide +kernel) (hnT : (T : Str) ≠ "__name__" := by decide) (hdT : ((T : Str) == ("__debug__" : Str)) = false := by decide)
    (h2 : starEach (.Name T pT :: es) X.env = (false, eval (.Name T pT) X.env) :: starEach es X.env := by rfl) : PA X (.Name T pT :: es) (tTys (T :: Ts)) :=
  PA.imp (pa_cons (pe_bltn (v := .ty T) hgT hmT hvT rfl hnT hdT) hs h2) fun s H Q h => h
theorem pa_ty0 : PA X [] (tTys []) := PA.imp pa_nil fun s H Q h => h
theorem paired_cls : ∀ Ts : List String, Paired ClsV (Ts.map V.ty) (Ts.map Value.type)
  | [] => .nil
  | T :: Ts => .cons (.ty T) (paired_cls Ts)
theorem de_isiT {Ts : List String} {es : List Expr} {k : Nat} {pn pT : Pos} (hT : ∀ T ∈ Ts, T ∈ tyNames) (hl : Ts.length ≤ 1000) (hm : X.mg "isinstance" = none) (hp : DB X g e p) (hts : PA X es (tTys Ts)) (hg : Gl X "isinstance" := by rfl)
    (h1 : starEach [e, .Tuple es k pT] X.env = (false, eval e X.env) :: starEach [.Tuple es k pT] X.env := by rfl) (h2 : starEach [.Tuple es k pT] X.env = (false, eval (.Tuple es k pT) X.env) :: starEach [] X.env := by rfl)
    (hpl : (backTo pos (starEach [.Tuple es k pT] X.env)).any (·.1) = false := by rfl) : DE X g (.Call (.Name "isinstance" pn) [e, .Tuple es k pT] [] pos) (isiD p Ts) := by
  refine PE.imp (pe_callB call_isiT hg hm (by decide +kernel) (pa_cons hp (pa_cons (pe_tup hts) pa_nil h2) h1) (by decide) (by decide) h1 hpl) fun s H Q ⟨F, r, R, h⟩ => ?_
  refine ⟨F, r, R, post_mono (post_bind h) fun z r1 q F1 H1 v sm R1 hv => ?_⟩
  obtain ⟨x, e, q⟩ := post_ofO q
  obtain ⟨d, e1, e2⟩ := Option.bind_eq_some_iff.mp e
  obtain ⟨rfl, n2⟩ := isi_some e2
  refine ⟨le_line (by rw [List.length_map]; exact hl), fun a na => ?_⟩
  have R2 := R1.laid (o := .tup (Ts.map V.ty)) na
  exact ⟨v, a, Ts.map V.ty, .type d.ty, Ts.map Value.type, d.isi Ts, rfl, upd_same, paired_cls Ts, ty_of R2.sub (look_ok R2 hv e1) n2, kit_any X.K d hT, q F1 _ _ sm R2 (.bl _)⟩
end
end DL

/-! Data layer, part 15: dicts whose keys are ints and texts. -/
namespace DL
open PySem L2

def D.key : D → Option Key
  | .int i => some (.inl i)
  | .str x => some (.inr x)
  | _ => none
def valD (ds : List (Key × D)) (k : Key) : Option D := (ds.find? fun kv => decide (kv.1 = k)).map (·.2)
def putD (ds : List (Key × D)) (k : Key) (d : D) : List (Key × D) :=
  if (ds.any fun kv => decide (kv.1 = k)) = true then ds.map (fun kv => if kv.1 = k then (kv.1, d) else kv) else ds ++ [(k, d)]
def mergeD (ds more : List (Key × D)) : List (Key × D) := more.foldl (fun acc kv => putD acc kv.1 kv.2) ds
section
variable {K : PySem.W.Frag} {F H : Hp}
theorem key_of {v : V} {d : D} {k : Key} (h : RD K F v d) (e : d.key = some k) : v = kV k := by
  cases d with
  | int i => cases h; cases e; rfl
  | str x => cases h; cases e; rfl
  | _ => cases e
theorem RDk.find {k : Key} : ∀ {vs : List (Key × V)} {ds : List (Key × D)}, RDk K F vs ds → (∀ d, valD ds k = some d → ∃ v, valV vs k = some v ∧ RD K F v d) ∧ (valD ds k = none → valV vs k = none)
  | _, [], h => by cases h; exact ⟨fun d e => (by cases e), fun _ => rfl⟩
  | _, (j, d) :: ds, h => by
    cases h with
    | cons h1 h2 =>
      rename_i v vs
      obtain ⟨i1, i2⟩ := RDk.find (k := k) h2
      by_cases hk : j = k
      · have e1 : valD ((j, d) :: ds) k = some d := by simp [valD, List.find?_cons, hk]
        have e2 : valV ((j, v) :: vs) k = some v := valV_pos (p := (j, v)) hk
        rw [e1, e2]
        exact ⟨fun d' e => (by cases e; exact ⟨v, rfl, h1⟩), fun e => (by cases e)⟩
      · have e1 : valD ((j, d) :: ds) k = valD ds k := by simp [valD, List.find?_cons, hk]
        have e2 : valV ((j, v) :: vs) k = valV vs k := valV_neg (p := (j, v)) hk
        rw [e1, e2]
        exact ⟨i1, i2⟩
theorem RDk.any {k : Key} : ∀ {vs : List (Key × V)} {ds : List (Key × D)}, RDk K F vs ds → (vs.any fun kv => decide (kv.1 = k)) = (ds.any fun kv => decide (kv.1 = k))
  | _, [], h => by cases h; rfl
  | _, (j, d) :: ds, h => by
    cases h with
    | cons h1 h2 => rw [List.any_cons, List.any_cons, RDk.any h2]
theorem RDk.snoc {k : Key} {v : V} {d : D} (r : RD K F v d) : ∀ {vs : List (Key × V)} {ds : List (Key × D)}, RDk K F vs ds → RDk K F (vs ++ [(k, v)]) (ds ++ [(k, d)])
  | _, [], h => by cases h; exact .cons r .nil
  | _, (j, d) :: ds, h => by
    cases h with
    | cons h1 h2 => exact .cons h1 (RDk.snoc r h2)
theorem RDk.mapk {k : Key} {v : V} {d : D} (r : RD K F v d) : ∀ {vs : List (Key × V)} {ds : List (Key × D)}, RDk K F vs ds → RDk K F (vs.map fun kv => if kv.1 = k then (kv.1, v) else kv) (ds.map fun kv => if kv.1 = k then (kv.1, d) else kv)
  | _, [], h => by cases h; exact .nil
  | _, (j, d) :: ds, h => by
    cases h with
    | cons h1 h2 =>
      rw [List.map_cons, List.map_cons]
      by_cases hk : j = k
      · rw [if_pos hk, if_pos hk]; exact .cons r (RDk.mapk r h2)
      · rw [if_neg hk, if_neg hk]; exact .cons h1 (RDk.mapk r h2)
theorem RDk.put {k : Key} {v : V} {d : D} (r : RD K F v d) {vs : List (Key × V)} {ds : List (Key × D)} (h : RDk K F vs ds) : RDk K F (putK vs k v) (putD ds k d) := by
  unfold putK putD
  rw [h.any]
  split
  · exact h.mapk r
  · exact h.snoc r
theorem RDk.merge : ∀ {more : List (Key × D)} {mv : List (Key × V)} {vs : List (Key × V)} {ds : List (Key × D)}, RDk K F vs ds → RDk K F mv more → RDk K F (mergeK vs mv) (mergeD ds more)
  | [], _, _, _, h, h' => by cases h'; exact h
  | (k, d) :: more, _, vs, ds, h, h' => by
    cases h' with
    | cons h1 h2 =>
      show RDk K F (mergeK (putK vs k _) _) (mergeD (putD ds k d) more)
      exact RDk.merge (h.put h1) h2
theorem RDk.length : ∀ {vs : List (Key × V)} {ds : List (Key × D)}, RDk K F vs ds → vs.length = ds.length
  | _, [], h => by cases h; rfl
  | _, (j, d) :: ds, h => by
    cases h with
    | cons h1 h2 => rw [List.length_cons, List.length_cons, RDk.length h2]
theorem RB.dic {v : V} {ds : List (Key × D)} (sub : Same F H) (h : RB K F H v (.dic ds)) : ∃ a vs, v = .ref a ∧ Rd H a (.dK vs) ∧ RDk K F vs ds := by
  cases h.flat (fun _ => nofun) with
  | dic h1 h2 => exact ⟨_, _, rfl, .inr ⟨_, sub _ _ h1⟩, h2⟩
end
/-! ### d[k], k in d -/
def semAt : D → D → Option D
  | .dic ds, y => y.key.bind fun k => valD ds k
  | x, y => semIx x y
def inB2 : D → D → Option Bool
  | x, .dic ds => x.key.map fun k => (valD ds k).isSome
  | x, y => inB x y
def semIn2 (d e : D) : Option D := (inB2 d e).map D.bl
def semNotIn2 (d e : D) : Option D := (inB2 d e).map fun b => D.bl (!b)
section
variable {X : Cx} {g : G}
theorem ixAt (hu : X.A.units + 65 < cLine) : IxR X (rD2 X.K g semAt) := by
  intro value slice pins s sg H x y v u Q I rx ry h hs
  obtain ⟨F, s0, r, dx, dy, d, R, hx, hy, e, q⟩ := h
  unfold semAt at e
  split at e
  · next ds =>
    obtain ⟨k, ek, e⟩ := Option.bind_eq_some_iff.mp e
    obtain ⟨a, vs, rfl, h1, h2⟩ := hx.dic R.sub
    obtain rfl : v = Value.ref a := rx
    have ey : y = kV k := by
      refine key_of (hy.flat fun xs z => ?_) ek
      rw [z] at ek; cases ek
    subst ey
    obtain ⟨w, ew, hw⟩ := h2.find.1 _ e
    have gt : DGet H a (kV k) (some w) := .inl ⟨vs, k, h1, rfl, ew.symm⟩
    exact PyProof.Rows.tail_any (dict_typeIs I gt) PySem.F.slot_dict_getitem.lookup (d_getItem (by omega) I gt ry fun w' s' I' rw' => ⟨w, H, I', rw', q F H w (Same.refl _) R hw⟩) hs
  · exact ixd value slice pins s sg H x y v u Q I rx ry ⟨F, s0, r, dx, dy, d, R, hx, hy, e, q⟩ hs
theorem dget_of {F H : Hp} {s0 : St} {r : En} {y : V} {dy : D} {a : Addr} {vs : List (Key × V)} {ds : List (Key × D)} {k : Key} (R : Rel X.K g F H s0 r) (hy : RB X.K F H y dy) (ek : dy.key = some k) (h1 : Rd H a (.dK vs)) (h2 : RDk X.K F vs ds) : y = kV k ∧ DGet H a y (valV vs k) ∧ (valV vs k).isSome = (valD ds k).isSome := by
  have ey : y = kV k := by
    refine key_of (hy.flat fun xs z => ?_) ek
    rw [z] at ek; cases ek
  subst ey
  refine ⟨rfl, .inl ⟨vs, k, h1, rfl, rfl⟩, ?_⟩
  cases e : valD ds k with
  | none => rw [h2.find.2 e]; rfl
  | some d =>
    obtain ⟨w, ew, _⟩ := h2.find.1 d e
    rw [ew]; rfl
theorem opd_in2 (hu : X.A.units + 65 < cLine) : OpR X (compareOp .In) (rD2 X.K g semIn2) := by
  intro pins s sg H x y v u Q I rx ry h
  obtain ⟨F, s0, r, dx, dy, d, R, hx, hy, e, q⟩ := h
  obtain ⟨b, eb, rfl⟩ := Option.map_eq_some_iff.mp e
  unfold inB2 at eb
  split at eb
  · next x0 ds =>
    obtain ⟨k, ek, rfl⟩ := Option.map_eq_some_iff.mp eb
    obtain ⟨a, vs, rfl, h1, h2⟩ := hy.dic R.sub
    obtain rfl : u = Value.ref a := ry
    obtain ⟨_, gt, eq⟩ := dget_of R hx ek h1 h2
    refine d_in (by omega) I gt rx fun s' I' => ⟨.bl _, H, I', rfl, ?_⟩
    rw [eq]
    exact q F H _ (Same.refl _) R (.bl _)
  · exact opd_in hu pins s sg H x y v u Q I rx ry ⟨F, s0, r, dx, dy, _, R, hx, hy, by unfold semIn; rw [eb]; rfl, q⟩
theorem opd_notIn2 (hu : X.A.units + 65 < cLine) : OpR X (compareOp .NotIn) (rD2 X.K g semNotIn2) := by
  intro pins s sg H x y v u Q I rx ry h
  obtain ⟨F, s0, r, dx, dy, d, R, hx, hy, e, q⟩ := h
  obtain ⟨b, eb, rfl⟩ := Option.map_eq_some_iff.mp e
  unfold inB2 at eb
  split at eb
  · next x0 ds =>
    obtain ⟨k, ek, rfl⟩ := Option.map_eq_some_iff.mp eb
    obtain ⟨a, vs, rfl, h1, h2⟩ := hy.dic R.sub
    obtain rfl : u = Value.ref a := ry
    obtain ⟨_, gt, eq⟩ := dget_of R hx ek h1 h2
    refine d_notIn (by omega) I gt rx fun s' I' => ⟨.bl _, H, I', rfl, ?_⟩
    rw [eq]
    exact q F H _ (Same.refl _) R (.bl _)
  · exact opd_notIn hu pins s sg H x y v u Q I rx ry ⟨F, s0, r, dx, dy, _, R, hx, hy, by unfold semNotIn; rw [eb]; rfl, q⟩
end
/-! ### {k: v, ..} -/
def evPs : List ((En → Rs D) × (En → Rs D)) → En → Rs (List (Key × D))
  | [], r => .ok [] r
  | (f, h) :: fs, r => (f r).bind fun k r1 => (h r1).bind fun d r2 => (ofO k.key r2).bind fun k r2 => (evPs fs r2).bind fun kds r3 => .ok ((k, d) :: kds) r3
def dicD (fs : List ((En → Rs D) × (En → Rs D))) : En → Rs D := fun r => (evPs fs r).noE.bind fun kds r1 => if kds.length ≤ 15 then .ok (.dic (mergeD [] kds)) r1 else .bad
/-- a reading whatever is held still -/
def tDa (K : PySem.W.Frag) (g0 : G) (f : En → Rs D) : TE := fun s H Q => ∃ g : G, Blk g0 g ∧ tD K g f s H Q
def trsD (K : PySem.W.Frag) (g0 : G) (fs : List ((En → Rs D) × (En → Rs D))) : List (TE × TE) := fs.map fun f => (tDa K g0 f.1, tDa K g0 f.2)
def DPs (X : Cx) (g0 : G) (pos : Pos) (ks : List (Option Expr)) (vs : List Expr) (fs : List ((En → Rs D) × (En → Rs D))) : Prop := PPs X pos ks vs (trsD X.K g0 fs)
section
variable {X : Cx} {g : G} {pos : Pos}
theorem dps_nil {g0 : G} : DPs X g0 pos [] [] [] := pps_nil
theorem dps_cons {g0 : G} {k v : Expr} {ks : List (Option Expr)} {vs : List Expr} {f h : En → Rs D} {fs : List ((En → Rs D) × (En → Rs D))} (hk : ∀ g : G, Blk g0 g → DE X g k f) (hv : ∀ g : G, Blk g0 g → DE X g v h) (hr : DPs X g0 pos ks vs fs) :
    DPs X g0 pos (some k :: ks) (v :: vs) ((f, h) :: fs) :=
  pps_cons ⟨fun pins s σ H Q I ⟨g', eg, q⟩ => (hk g' eg).run pins s σ H Q I q⟩ ⟨fun pins s σ H Q I ⟨g', eg, q⟩ => (hv g' eg).run pins s σ H Q I q⟩ hr
theorem pairs_ok {K : PySem.W.Frag} {s : St} {g0 : G} (bk : Blk g0 g) : ∀ (fs : List ((En → Rs D) × (En → Rs D))) {F H : Hp} {r : En} {Q : List (V × V) → Hp → Prop}, Rel K g F H s r →
    post K g (fun kds r' => ∀ F' H' (kvs : List (Key × V)), Same F F' → Rel K g F' H' s r' → RDk K F' kvs kds → Q (kvs.map fun kv => (kV kv.1, kv.2)) H') (evPs fs r) → tPairs (trsD K g0 fs) s H Q
  | [], F, H, r, Q, R, q => q F H [] (Same.refl _) R .nil
  | (f, h) :: fs, F, H, r, Q, R, q => by
    refine ⟨g, bk, F, r, R, post_mono (post_bind q) fun k r1 q F1 H1 v1 sm1 R1 hv1 => ⟨g, bk, F1, r1, R1, post_mono (post_bind q) fun d r2 q F2 H2 v2 sm2 R2 hv2 => ?_⟩⟩
    obtain ⟨k', ek, q⟩ := post_ofO (post_bind q)
    refine pairs_ok bk fs R2 (post_mono (post_bind q) fun kds r3 q F3 H3 kvs sm3 R3 hk3 => ?_)
    have e1 : v1 = kV k' := key_of hv1 ek
    subst e1
    exact q F3 H3 ((k', v2) :: kvs) ((sm1.trans sm2).trans sm3) R3 (.cons (RD.mono sm3 d hv2) hk3)
/-- what is held still is filled and frozen -/
theorem Rel.fill {K : PySem.W.Frag} {F H : Hp} {s : St} {r : En} {A : Addr} {o o' : HO} (R : Rel K (g.more A o) F H s r) (h0 : g.H0 A = none) (hX : ∀ p ∈ g.X, p.1 ≠ A) : Same F (L2.upd F A o') ∧ Rel K g (L2.upd F A o') (L2.upd H A o') s r := by
  obtain ⟨R, h1, h2, h3⟩ := R.less
  have sF : Same F (L2.upd F A o') := same_upd h2
  refine ⟨sF, fun b u e => ?_, R.f0.trans sF, fun b u e e0 => ?_, fun b u e hb ht => ?_, fun i u e => ?_, R.own, R.dist, R.pin, R.len, R.tb.atFH (R.tb.tn h0) h2, fun p hp => ?_⟩
  · by_cases hb : b = A
    · subst hb; rw [upd_same] at e ⊢; exact e
    · rw [upd_ne hb] at e ⊢; exact R.sub b u e
  · by_cases hb : b = A
    · subst hb; exact h0
    · rw [upd_ne hb] at e; exact R.fnew b u e e0
  · rw [upd_ne fun z => by rw [z, h0] at e; cases e]; exact R.keep b u e hb ht
  · obtain ⟨v, a1, a2⟩ := R.slot i u e
    refine ⟨v, a1, ?_⟩
    cases u with
    | sh d => exact RD.mono sF d a2
    | ow xs =>
      obtain ⟨b, ws, e1, e2, e3, e4⟩ := a2
      have hb : b ≠ A := fun z => h3 i _ e rfl (by rw [a1, e1, z])
      exact ⟨b, ws, e1, by rw [upd_ne hb]; exact e2, by rw [upd_ne hb]; exact e3, RDs.mono sF xs e4⟩
    | od xs =>
      obtain ⟨b, ws, e1, e2, e3, e4⟩ := a2
      have hb : b ≠ A := fun z => h3 i _ e rfl (by rw [a1, e1, z])
      exact ⟨b, ws, e1, by rw [upd_ne hb]; exact e2, by rw [upd_ne hb]; exact e3, RDm.mono sF xs e4⟩
    | oi c xs =>
      obtain ⟨b, ws, e1, e2, e3, e4⟩ := a2
      have hb : b ≠ A := fun z => h3 i _ e rfl (by rw [a1, e1, z])
      exact ⟨b, ws, e1, by rw [upd_ne hb]; exact e2, by rw [upd_ne hb]; exact e3, RDi.mono sF xs e4⟩
    | th xs =>
      obtain ⟨b, ws, e1, e2, e3, e4⟩ := a2
      have hb : b ≠ A := fun z => h3 i _ e rfl (by rw [a1, e1, z])
      exact ⟨b, ws, e1, by rw [upd_ne hb]; exact e2, by rw [upd_ne hb]; exact e3, RT.mono sF xs e4⟩
    | exc c => exact RE.mono sF a2
  · obtain ⟨x1, x2, x3⟩ := R.ext p hp
    exact ⟨by rw [upd_ne (hX p hp)]; exact x1, by rw [upd_ne (hX p hp)]; exact x2, x3⟩
/-- what was just made is locked -/
def tLk (t : TE) : TE := fun σ H Q => t σ H fun v H' => ∃ d u, H' d = some u ∧ Mut (some u) ∧ ∀ od, Q v (L2.upd H' d (.frz od u))
theorem pe_lk {e : Expr} {t : TE} (h : PE X e t) : PE X e (tLk t) := by
  refine ⟨fun pins s σ H Q I hw => ?_⟩
  refine thn (h.run pins s σ H _ I hw) fun v s1 ⟨x, H1, I2, r, d, u, hd, mu, q⟩ => ?_
  obtain ⟨od, I3⟩ := I2.lock hd mu
  exact ⟨x, _, I3, r, q od⟩
theorem de_disp {ks : List (Option Expr)} {vs : List Expr} {fs : List ((En → Rs D) × (En → Rs D))} (h : DPs X g pos ks vs fs) (hall : ks.all (·.isSome) = true := by rfl) (hl : ks.length = vs.length := by rfl) (h0 : ks ≠ [] := by exact List.cons_ne_nil _ _) (h15 : ks.length ≤ 15 := by decide) :
    DE X g (.Dict ks vs pos) (dicD fs) :=
  PE.imp (pe_lk (pe_disp h hall hl h0 h15)) fun s H Q ⟨F, r, R, q⟩ => fun p np => by
    have R1 : Rel X.K (g.more p (.dK [])) F (L2.upd H p (.dK [])) s r := (R.laid np).more upd_same (R.ff np) fun j o e eo => not_own R np j o e eo
    have hX : ∀ q ∈ g.X, q.1 ≠ p := fun q hq z => by have := (R.ext q hq).1; rw [z, np] at this; cases this
    refine pairs_ok (g := (g.more p (.dK [])).nw) (g0 := g) ⟨rfl, rfl, rfl, rfl⟩ fs R1.nw (post_mono (post_noE (post_bind q)) fun kds r1 q F2 H2 kvs sm R2 hk => ?_)
    have R2 := R2.unw
    obtain ⟨hl, q⟩ := post_if q
    refine ⟨R2.less.2.1, kvs, rfl, by rw [hk.length]; exact hl, ?_⟩
    have m : RDk X.K F2 (mergeK [] kvs) (mergeD [] kds) := RDk.merge .nil hk
    refine ⟨p, _, upd_same, trivial, fun od => ?_⟩
    rw [upd_upd]
    obtain ⟨sF, R3⟩ := R2.fill (o' := .frz od (.dK (mergeK [] kvs))) (R.live np) hX
    exact q _ _ _ (sm.trans sF) R3 (.dic upd_same (RDk.mono sF _ m))
/-! ### dict(pairs) -/
def pairD : List D → Option (List (Key × D))
  | [] => some []
  | .tup [k, d] :: ds => k.key.bind fun k => (pairD ds).map fun kds => (k, d) :: kds
  | _ => none
def semDict : List D → Option D
  | [.lst ds] => (pairD ds).map fun kds => .dic (mergeD [] kds)
  | _ => none
end
end DL

/-! Data layer, part 16: a name that gets a list and never changes it: frozen at once. -/
namespace DL
open PySem L2
section
variable {X : Cx} {g : G}
theorem Rel.fz {K : PySem.W.Frag} {F H : Hp} {s : St} {r : En} {i : Nat} {xs : List D} (R : Rel K g F H s r) (hb : ∀ p ∈ g.B, p.1 ≠ i) (e : r[i]? = some (some (.ow xs))) : ∃ F', Same F F' ∧ Rel K g F' H s (r.set i (some (.sh (.lst xs)))) := by
  obtain ⟨v, h1, h2⟩ := R.slot i _ e
  obtain ⟨a, vs, rfl, e2, e3, e4⟩ := h2
  have sF : Same F (L2.upd F a (.lst vs)) := same_upd e2
  have hi : i < r.length := (List.getElem?_eq_some_iff.mp e).1
  have ne : ∀ j u, (r.set i (some (.sh (.lst xs))))[j]? = some (some u) → u.own = true → j ≠ i ∧ r[j]? = some (some u) := fun j u z zo => by
    by_cases hj : i = j
    · subst hj
      rw [List.getElem?_set_self hi] at z
      cases z
      cases zo
    · rw [List.getElem?_set_ne hj] at z
      exact ⟨fun z => hj z.symm, z⟩
  have h0 : g.H0 a = none := by
    rcases R.own i _ a e rfl h1 with z | z
    · exact z
    · exact absurd rfl (hb _ z)
  refine ⟨L2.upd F a (.lst vs), sF, ⟨fun b u e => ?_, R.f0.trans sF, fun b u e e0 => ?_, R.keep, fun j u z => ?_, fun j u b z zo => ?_, fun j k u w b hjk z zo y yo => ?_, fun p hp => ?_, ?_, R.tb.atF (R.tb.tn h0) e2, fun p hp => ?_⟩⟩
  · by_cases hb : b = a
    · subst hb; rw [upd_same] at e; cases e; exact e3
    · rw [upd_ne hb] at e; exact R.sub b u e
  · by_cases hb : b = a
    · subst hb; exact h0
    · rw [upd_ne hb] at e; exact R.fnew b u e e0
  · by_cases hj : i = j
    · subst hj
      rw [List.getElem?_set_self hi] at z
      cases z
      exact ⟨_, h1, .lst upd_same (RDs.mono sF xs e4)⟩
    · rw [List.getElem?_set_ne hj] at z
      obtain ⟨w, g1, g2⟩ := R.slot j u z
      refine ⟨w, g1, ?_⟩
      cases u with
      | sh d => exact RD.mono sF d g2
      | ow ys =>
        obtain ⟨b, ws, rfl, f2, f3, f4⟩ := g2
        have hb : b ≠ a := fun zz => R.dist i j _ _ a hj e rfl z rfl h1 (by rw [g1, zz])
        exact ⟨b, ws, rfl, by rw [upd_ne hb]; exact f2, f3, RDs.mono sF ys f4⟩
      | od ys =>
        obtain ⟨b, ws, rfl, f2, f3, f4⟩ := g2
        have hb : b ≠ a := fun zz => R.dist i j _ _ a hj e rfl z rfl h1 (by rw [g1, zz])
        exact ⟨b, ws, rfl, by rw [upd_ne hb]; exact f2, f3, RDm.mono sF ys f4⟩
      | oi c ys =>
        obtain ⟨b, ws, rfl, f2, f3, f4⟩ := g2
        have hb : b ≠ a := fun zz => R.dist i j _ _ a hj e rfl z rfl h1 (by rw [g1, zz])
        exact ⟨b, ws, rfl, by rw [upd_ne hb]; exact f2, f3, RDi.mono sF ys f4⟩
      | th ys =>
        obtain ⟨b, ws, rfl, f2, f3, f4⟩ := g2
        have hb : b ≠ a := fun zz => R.dist i j _ _ a hj e rfl z rfl h1 (by rw [g1, zz])
        exact ⟨b, ws, rfl, by rw [upd_ne hb]; exact f2, f3, RT.mono sF ys f4⟩
      | exc c => exact RE.mono sF g2
  · obtain ⟨_, z'⟩ := ne j u z zo
    exact R.own j u b z' zo
  · obtain ⟨_, z'⟩ := ne j u z zo
    obtain ⟨_, y'⟩ := ne k w y yo
    exact R.dist j k u w b hjk z' zo y' yo
  · obtain ⟨p1, o, p2, p3⟩ := R.pin p hp
    refine ⟨p1, o, ?_, p3⟩
    rw [List.getElem?_set_ne fun z => hb p hp z.symm]
    exact p2
  · rw [List.length_set]; exact R.len
  · obtain ⟨x1, x2, x3⟩ := R.ext p hp
    refine ⟨x1, ?_, fun j u z zo => x3 j u (ne j u z zo).2 zo⟩
    have hn : p.1 ≠ a := fun zz => x3 i _ e rfl (by rw [h1, zz])
    rw [upd_ne hn]; exact x2
/-- never a dict of the third kind -/
def NoOd (f : En → Rs OV) : Prop := ∀ r o r1, f r = .ok o r1 → (∃ d, o = .sh d) ∨ ∃ xs, o = .ow xs
theorem lc_nod {it : En → Rs (List D)} {vs : List Nat} {h : D → En → Option En} {t : En → Rs Bool} {e : En → Rs D} : NoOd (lcD it vs h t e) := fun r o r1 z => by
  unfold lcD at z
  cases e1 : it r with
  | bad => rw [e1] at z; cases z
  | ex x r2 => rw [e1] at z; cases z
  | ok ds r2 =>
    rw [e1] at z
    simp only [Rs.bind] at z
    split at z
    · cases e2 : lcS vs h t e ds r2 with
      | bad => rw [e2] at z; cases z
      | ex x r3 => rw [e2] at z; cases z
      | ok ys r3 => rw [e2] at z; cases z; exact .inr ⟨ys, rfl⟩
    · cases z
theorem ds_fz {st : Stmt} {i : Nat} {f : En → Rs OV} (hb : ∀ p ∈ g.B, p.1 ≠ i) (hn : NoOd f) (h : DS X g st (setS i f)) : DS X g st (setS i (shD (frzD f))) :=
  PS.imp h fun E s H ⟨F, r, R, q⟩ => by
    refine ⟨F, r, R, ?_⟩
    unfold setS shD frzD at q
    unfold setS
    cases hf : f r with
    | bad => rw [hf] at q; exact q
    | ex x r1 => rw [hf] at q; exact q
    | ok o r1 =>
      rw [hf] at q
      cases o with
      | sh d => exact q
      | ow xs =>
        intro F1 H1 s1 sm R1
        by_cases hi : i < r1.length
        · obtain ⟨F2, s2, R2⟩ := R1.fz hb (List.getElem?_set_self hi)
          rw [List.set_set] at R2
          exact q F2 H1 s1 (sm.trans s2) R2
        · have e1 : r1.set i (some (OV.ow xs)) = r1 := List.set_eq_of_length_le (by omega)
          have e2 : r1.set i (some (OV.sh (.lst xs))) = r1 := List.set_eq_of_length_le (by omega)
          rw [e1] at R1
          exact q F1 H1 s1 sm (by show Rel X.K g F1 H1 s1 (r1.set i (some (OV.sh (.lst xs)))); rw [e2]; exact R1)
      | od xs => rcases hn r _ r1 hf with ⟨_, z⟩ | ⟨_, z⟩ <;> cases z
      | oi c xs => rcases hn r _ r1 hf with ⟨_, z⟩ | ⟨_, z⟩ <;> cases z
      | th xs => rcases hn r _ r1 hf with ⟨_, z⟩ | ⟨_, z⟩ <;> cases z
      | exc x => rcases hn r _ r1 hf with ⟨_, z⟩ | ⟨_, z⟩ <;> cases z
end
end DL

/-! Data layer, part 17: tools for the plain laws. -/
namespace DL
open PySem L2
noncomputable instance decD : DecidableEq D := fun _ _ => Classical.propDecidable _
/-! ### equality of data -/
mutual
/-- no dict, no script; and no truth (k), or no int (not k) -/
def D.cl (k : Bool) : D → Bool
  | .non => true
  | .bl _ => !k
  | .int _ => k
  | .str _ => true
  | .lst xs => clAll k xs
  | .tup xs => clAll k xs
  | .dic _ => false
  | .scr _ => false
  | .obj _ _ => false
def clAll (k : Bool) : List D → Bool
  | [] => true
  | d :: ds => d.cl k && clAll k ds
end
theorem clAll_iff {k : Bool} {ds : List D} : clAll k ds = true ↔ ∀ d ∈ ds, d.cl k = true := by
  induction ds with
  | nil => simp [clAll]
  | cons d ds ih => simp [clAll, ih]
theorem plAll_iff {ds : List D} : plAll ds = true ↔ ∀ d ∈ ds, d.pl = true := by
  induction ds with
  | nil => simp [plAll]
  | cons d ds ih => simp [plAll, ih]
theorem sixAll_iff {ds : List D} : sixAll ds = true ↔ ∀ d ∈ ds, d.six = true := by
  induction ds with
  | nil => simp [sixAll]
  | cons d ds ih => simp [sixAll, ih]
mutual
theorem eqv_iff (k : Bool) : ∀ d e : D, d.cl k = true → e.cl k = true → (d.eqv e = true ↔ d = e)
  | .non, e, _, he => by cases e <;> simp [D.eqv]
  | .bl a, e, hd, he => by cases e <;> simp_all [D.eqv, D.cl]
  | .int a, e, hd, he => by cases e <;> simp_all [D.eqv, D.cl]
  | .str a, e, _, he => by cases e <;> simp [D.eqv]
  | .lst xs, e, hd, he => by
    cases e with
    | lst ys =>
      have := eqvAll_iff k xs ys hd he
      simp only [D.eqv, this, D.lst.injEq]
    | _ => simp [D.eqv]
  | .tup xs, e, hd, he => by
    cases e with
    | tup ys =>
      have := eqvAll_iff k xs ys hd he
      simp only [D.eqv, this, D.tup.injEq]
    | _ => simp [D.eqv]
  | .dic _, _, h, _ => by cases h
  | .scr _, _, h, _ => by cases h
  | .obj _ _, _, h, _ => by cases h
theorem eqvAll_iff (k : Bool) : ∀ ds es : List D, clAll k ds = true → clAll k es = true → (eqvAll ds es = true ↔ ds = es)
  | [], [], _, _ => by simp [eqvAll]
  | [], _ :: _, _, _ => by simp [eqvAll]
  | _ :: _, [], _, _ => by simp [eqvAll]
  | d :: ds, e :: es, h, h' => by
    simp only [clAll, Bool.and_eq_true] at h h'
    have h1 := eqv_iff k d e h.1 h'.1
    have h2 := eqvAll_iff k ds es h.2 h'.2
    simp only [eqvAll, Bool.and_eq_true, h1, h2, List.cons.injEq]
end
mutual
theorem eqv_self : ∀ d : D, d.pl = true → d.eqv d = true
  | .non, _ => rfl
  | .bl a, _ => by simp [D.eqv]
  | .int a, _ => by simp [D.eqv]
  | .str a, _ => by simp [D.eqv]
  | .lst xs, h => eqvAll_self xs h
  | .tup xs, h => eqvAll_self xs h
  | .dic _, h => by cases h
  | .scr _, h => by cases h
  | .obj _ _, h => by cases h
theorem eqvAll_self : ∀ ds : List D, plAll ds = true → eqvAll ds ds = true
  | [], _ => rfl
  | d :: ds, h => by
    simp only [plAll, Bool.and_eq_true] at h
    simp only [eqvAll, eqv_self d h.1, eqvAll_self ds h.2, Bool.and_self]
end
/-! ### small data: plain, of a depth, of a weight -/
structure Sm (n w : Nat) (d : D) : Prop where
  pl : d.pl = true
  six : d.six = true
  dp : d.dp ≤ n
  wt : d.wt ≤ w
theorem Sm.mono {n w n' w' : Nat} {d : D} (h : Sm n w d) (h1 : n ≤ n') (h2 : w ≤ w') : Sm n' w' d := ⟨h.pl, h.six, Nat.le_trans h.dp h1, Nat.le_trans h.wt h2⟩
theorem Sm.fit {n w : Nat} {d : D} (h : Sm n w d) (hn : n ≤ 64 := by decide) : d.fit = true := by
  unfold D.fit
  rw [h.pl, decide_eq_true (Nat.le_trans h.dp hn)]; rfl
theorem Sm.shw {n w : Nat} {d : D} (h : Sm n w d) (hn : n ≤ 64 := by decide) (hw : w ≤ 1000000 := by decide) : d.shw = true := by
  unfold D.shw
  rw [h.fit hn, h.six, decide_eq_true (Nat.le_trans h.wt hw)]; rfl
theorem dpAll_le {ds : List D} {n : Nat} (h : ∀ d ∈ ds, d.dp ≤ n) : dpAll ds ≤ n := dpAll_of h
theorem wtAll_le {ds : List D} {w m : Nat} (h : ∀ d ∈ ds, d.wt ≤ w) (hm : ds.length ≤ m) : wtAll ds ≤ m * (w + 2) := by
  induction ds generalizing m with
  | nil => exact Nat.zero_le _
  | cons d ds ih =>
    rw [List.length_cons] at hm
    have h1 := h d (List.mem_cons_self ..)
    have h2 := ih (m := m - 1) (fun e he => h e (List.mem_cons_of_mem _ he)) (by omega)
    have e : m * (w + 2) = (m - 1) * (w + 2) + (w + 2) := by
      obtain ⟨k, rfl⟩ : ∃ k, m = k + 1 := ⟨m - 1, by omega⟩
      rw [Nat.add_sub_cancel, Nat.succ_mul]
    unfold wtAll
    omega
theorem Sm.lst {n w m : Nat} {ds : List D} (h : ∀ d ∈ ds, Sm n w d) (hm : ds.length ≤ m) : Sm (n + 1) (m * (w + 2) + 3) (.lst ds) :=
  ⟨plAll_iff.mpr fun d hd => (h d hd).pl, sixAll_iff.mpr fun d hd => (h d hd).six, Nat.succ_le_succ (dpAll_le fun d hd => (h d hd).dp), Nat.add_le_add_right (wtAll_le (fun d hd => (h d hd).wt) hm) 3⟩
theorem Sm.tup {n w m : Nat} {ds : List D} (h : ∀ d ∈ ds, Sm n w d) (hm : ds.length ≤ m) : Sm (n + 1) (m * (w + 2) + 3) (.tup ds) :=
  ⟨plAll_iff.mpr fun d hd => (h d hd).pl, sixAll_iff.mpr fun d hd => (h d hd).six, Nat.succ_le_succ (dpAll_le fun d hd => (h d hd).dp), Nat.add_le_add_right (wtAll_le (fun d hd => (h d hd).wt) hm) 3⟩
theorem Sm.non : Sm 0 4 .non := ⟨rfl, rfl, Nat.zero_le _, Nat.le_refl _⟩
theorem Sm.bl (b : Bool) : Sm 0 5 (.bl b) := ⟨rfl, rfl, Nat.zero_le _, Nat.le_refl _⟩
theorem Sm.int {i : Int} (h : i.natAbs < 1000000000000000000) : Sm 0 20 (.int i) := by
  refine ⟨rfl, decide_eq_true ?_, Nat.zero_le _, ?_⟩
  · have : i.natAbs.log2 < 1920 := by
      by_cases h0 : i.natAbs = 0
      · rw [h0]; decide
      · rw [Nat.log2_lt h0]
        exact Nat.lt_of_lt_of_le h (by decide)
    exact this
  · unfold D.wt; rw [if_pos h]; exact Nat.le_refl _
/-! ### ==, in -/
theorem eqB_of (k : Bool) {d e : D} (hd : d.fit = true) (he : e.fit = true) (cd : d.cl k = true) (ce : e.cl k = true) : eqB d e = some (decide (d = e)) := by
  have hv : d.eqv e = decide (d = e) := by
    by_cases h : d = e
    · rw [decide_eq_true h]; exact (eqv_iff k d e cd ce).mpr h
    · rw [decide_eq_false h]
      cases hq : d.eqv e with
      | true => exact absurd ((eqv_iff k d e cd ce).mp hq) h
      | false => rfl
  unfold eqB
  cases hs : D.sc d e with
  | some b =>
    rcases sc_some hs with ⟨i, j, rfl, rfl, rfl⟩ | ⟨i, j, rfl, rfl, rfl⟩ | ⟨i, j, rfl, rfl, rfl⟩ <;> simp
  | none => simp only [hd, he, Bool.and_self, if_true, hv]
theorem eqB_self {d : D} (hd : d.fit = true) : eqB d d = some true := by
  unfold eqB
  cases hs : D.sc d d with
  | some b =>
    rcases sc_some hs with ⟨i, j, rfl, h, rfl⟩ | ⟨i, j, rfl, h, rfl⟩ | ⟨i, j, rfl, h, rfl⟩ <;> cases h <;> simp
  | none => simp only [hd, Bool.and_self, if_true, eqv_self d (pl_of_fit hd)]
theorem semEq_of (k : Bool) {d e : D} (hd : d.fit = true) (he : e.fit = true) (cd : d.cl k = true) (ce : e.cl k = true) : semEq d e = some (.bl (decide (d = e))) := by
  unfold semEq; rw [eqB_of k hd he cd ce]; rfl
theorem semEq_self {d : D} (hd : d.fit = true) : semEq d d = some (.bl true) := by unfold semEq; rw [eqB_self hd]; rfl
theorem semEq_str (x y : Str) : semEq (.str x) (.str y) = some (.bl (decide (x = y))) := rfl
theorem semNe_str (x y : Str) : semNe (.str x) (.str y) = some (.bl (!decide (x = y))) := rfl
theorem semEq_int (x y : Int) : semEq (.int x) (.int y) = some (.bl (decide (x = y))) := rfl
theorem semNe_int (x y : Int) : semNe (.int x) (.int y) = some (.bl (!decide (x = y))) := rfl
theorem semEq_bl (x y : Bool) : semEq (.bl x) (.bl y) = some (.bl (decide (x = y))) := rfl
theorem semNe_bl (x y : Bool) : semNe (.bl x) (.bl y) = some (.bl (!decide (x = y))) := rfl
theorem any_eqv (k : Bool) {d : D} {ds : List D} (cd : d.cl k = true) (ce : ∀ e ∈ ds, e.cl k = true) : (ds.any fun z => z.eqv d) = decide (d ∈ ds) := by
  induction ds with
  | nil => simp
  | cons e es ih =>
    rw [List.any_cons, ih fun x hx => ce x (List.mem_cons_of_mem _ hx)]
    have := eqv_iff k e d (ce e (List.mem_cons_self ..)) cd
    by_cases h : e = d
    · rw [this.mpr h]; simp [h]
    · have hf : e.eqv d = false := by
        cases hq : e.eqv d with
        | true => exact absurd (this.mp hq) h
        | false => rfl
      rw [hf]
      have hne : ¬ d = e := fun z => h z.symm
      simp [hne]
theorem inB_lst (k : Bool) {d : D} {ds : List D} (hd : d.fit = true) (he : (D.lst ds).fit = true) (cd : d.cl k = true) (ce : ∀ e ∈ ds, e.cl k = true) : inB d (.lst ds) = some (decide (d ∈ ds)) := by
  unfold inB D.seq
  simp only [hd, he, Bool.and_self, if_true, any_eqv k cd ce]
theorem inB_tup (k : Bool) {d : D} {ds : List D} (hd : d.fit = true) (he : (D.tup ds).fit = true) (cd : d.cl k = true) (ce : ∀ e ∈ ds, e.cl k = true) : inB d (.tup ds) = some (decide (d ∈ ds)) := by
  unfold inB D.seq
  simp only [hd, he, Bool.and_self, if_true, any_eqv k cd ce]
theorem inB2_lst (d : D) (ds : List D) : inB2 d (.lst ds) = inB d (.lst ds) := rfl
theorem inB2_tup (d : D) (ds : List D) : inB2 d (.tup ds) = inB d (.tup ds) := rfl
theorem semNotIn_lst (k : Bool) {d : D} {ds : List D} (hd : d.fit = true) (he : (D.lst ds).fit = true) (cd : d.cl k = true) (ce : ∀ e ∈ ds, e.cl k = true) : semNotIn2 d (.lst ds) = some (.bl (!decide (d ∈ ds))) := by
  unfold semNotIn2; rw [inB2_lst, inB_lst k hd he cd ce]; rfl
theorem semIn_tup (k : Bool) {d : D} {ds : List D} (hd : d.fit = true) (he : (D.tup ds).fit = true) (cd : d.cl k = true) (ce : ∀ e ∈ ds, e.cl k = true) : semIn2 d (.tup ds) = some (.bl (decide (d ∈ ds))) := by
  unfold semIn2; rw [inB2_tup, inB_tup k hd he cd ce]; rfl
theorem Sm.all {n w : Nat} {ds : List D} (h : ∀ d ∈ ds, Sm n w d) (hn : n ≤ 63 := by decide) : (D.lst ds).fit = true ∧ (D.tup ds).fit = true :=
  ⟨fit_lst hn fun d hd => ⟨(h d hd).pl, (h d hd).dp⟩, fit_tup hn fun d hd => ⟨(h d hd).pl, (h d hd).dp⟩⟩
/-! ### stepping -/
theorem op2_ee (f h : En → Rs D) (sem : D → D → Option D) (r : En) : op2 (.ex f) (.ex h) sem r = (f r).bind fun x r1 => (h r1).bind fun y r2 => ofO (sem x y) r2 := by
  cases e1 : f r with
  | bad => simp only [op2, Opd.run, e1, Rs.map, Rs.bind]
  | ex x r1 => simp only [op2, Opd.run, e1, Rs.map, Rs.bind]
  | ok x r1 =>
    cases e2 : h r1 with
    | bad => simp only [op2, Opd.run, e1, e2, Rs.map, Rs.bind]
    | ex y r2 => simp only [op2, Opd.run, e1, e2, Rs.map, Rs.bind]
    | ok y r2 => simp only [op2, Opd.run, e1, e2, Rs.map, Rs.bind, look, Option.bind_some]
theorem seqS_nx {f h : En → SRs} {r r1 : En} (e : f r = .nx r1) : seqS f h r = h r1 := by unfold seqS; rw [e]
theorem forD_of {f : En → Rs (List D)} {h : D → En → Option En} {b : En → SRs} {r r1 : En} {ds : List D} {x : SRs} (e1 : f r = .ok ds r1) (e2 : forS h b ds r1 = x) : forD f h b r = x := by unfold forD; rw [e1]; exact e2
/-- a comprehension that changes nothing but its own names -/
theorem lcD_map {α : Type} {it : En → Rs (List D)} {vs : List Nat} {h : D → En → Option En} {t : En → Rs Bool} {elt : En → Rs D} {r r1 : En} (r2 : En) (xs : List α) (enc : α → D) (p : α → Bool) (q : α → D)
    (hi : it r = .ok (xs.map enc) r1) (hl : xs.length ≤ 1000000) (hw : wipeE r1 vs = r2) (hw2 : wipeE r2 vs = r2)
    (he : ∀ x ∈ xs, ∃ ra rb, h (enc x) r2 = some ra ∧ t ra = .ok (p x) rb ∧ wipeE rb vs = r2 ∧ (p x = true → ∃ rc, elt rb = .ok (q x) rc ∧ wipeE rc vs = r2)) :
    lcD it vs h t elt r = .ok (.ow ((xs.filter p).map q)) r2 := by
  have go : ∀ ys : List α, (∀ x ∈ ys, x ∈ xs) → ∀ r0, wipeE r0 vs = r2 → ∃ r9, lcS vs h t elt (ys.map enc) r0 = .ok ((ys.filter p).map q) r9 ∧ wipeE r9 vs = r2 := by
    intro ys
    induction ys with
    | nil => exact fun _ r0 e0 => ⟨r0, rfl, e0⟩
    | cons y ys ih =>
      intro hm r0 e0
      obtain ⟨ra, rb, e1, e2, e3, e4⟩ := he y (hm y (List.mem_cons_self ..))
      have ih' := ih fun x hx => hm x (List.mem_cons_of_mem _ hx)
      rw [List.map_cons]
      unfold lcS
      rw [e0, e1]
      simp only [e2, Rs.bind]
      cases hp : p y with
      | false =>
        rw [List.filter_cons_of_neg (by simp [hp])]
        simp only [Bool.false_eq_true, if_false, e3]
        exact ih' r2 hw2
      | true =>
        obtain ⟨rc, e5, e6⟩ := e4 hp
        rw [List.filter_cons_of_pos hp]
        simp only [if_true, e5, e6, List.map_cons]
        obtain ⟨r9, e7, e8⟩ := ih' r2 hw2
        exact ⟨r9, by rw [e7], e8⟩
  obtain ⟨r9, e7, e8⟩ := go xs (fun _ h => h) r1 hw
  unfold lcD
  rw [hi]
  simp only [Rs.bind, Rs.noE, List.length_map, hl, if_true, e7, e8]
/-- the same without a test -/
theorem lcD_map1 {α : Type} {it : En → Rs (List D)} {vs : List Nat} {h : D → En → Option En} {elt : En → Rs D} {r r1 : En} (r2 : En) (xs : List α) (enc : α → D) (q : α → D)
    (hi : it r = .ok (xs.map enc) r1) (hl : xs.length ≤ 1000000) (hw : wipeE r1 vs = r2) (hw2 : wipeE r2 vs = r2)
    (he : ∀ x ∈ xs, ∃ ra, h (enc x) r2 = some ra ∧ wipeE ra vs = r2 ∧ ∃ rc, elt ra = .ok (q x) rc ∧ wipeE rc vs = r2) :
    lcD it vs h yesT elt r = .ok (.ow (xs.map q)) r2 := by
  have := lcD_map (t := yesT) (h := h) (elt := elt) r2 xs enc (fun _ => true) q hi hl hw hw2 fun x hx => by
    obtain ⟨ra, e1, e2, rc, e3, e4⟩ := he x hx
    exact ⟨ra, ra, e1, rfl, e2, fun _ => ⟨rc, e3, e4⟩⟩
  rw [List.filter_eq_self.mpr (fun _ _ => rfl)] at this
  exact this
/-- a comprehension whose turns keep an invariant: what it gives, one by one -/
theorem lcD_inv {it : En → Rs (List D)} {vs : List Nat} {h : D → En → Option En} {elt : En → Rs D} {r r1 : En} {ds : List D} (I : En → Prop) (P : D → Prop)
    (hi : it r = .ok ds r1) (hl : ds.length ≤ 1000000) (h0 : I (wipeE r1 vs)) (hI : ∀ r, I r → wipeE r vs = r)
    (he : ∀ d ∈ ds, ∀ r, I r → ∃ ra y rc, h d r = some ra ∧ elt ra = .ok y rc ∧ P y ∧ I (wipeE rc vs)) :
    ∃ ys r', lcD it vs h yesT elt r = .ok (.ow ys) r' ∧ ys.length = ds.length ∧ (∀ y ∈ ys, P y) ∧ I r' := by
  obtain ⟨ys, r', e1, e2, e3, e4⟩ := lcS_inv (vs := vs) (h := h) (t := yesT) (elt := elt) (fun r => I (wipeE r vs)) P ds (fun d hd r hr => by
    obtain ⟨ra, y, rc, a1, a2, a3, a4⟩ := he d hd _ hr
    exact ⟨ra, ra, y, rc, a1, rfl, a2, a3, by rw [hI _ a4]; exact a4⟩) r1 h0
  refine ⟨ys, wipeE r' vs, ?_, e2, e3, e4⟩
  unfold lcD
  rw [hi]
  simp only [Rs.bind, Rs.noE, hl, if_true, e1]
theorem items_lst (ds : List D) : (D.lst ds).items = some ds := rfl
theorem items_tup (ds : List D) : (D.tup ds).items = some ds := rfl
theorem strsOf_map : ∀ xs : List Str, strsOf (xs.map D.str) = some xs
  | [] => rfl
  | x :: xs => by
    show (strsOf (xs.map D.str)).map _ = _
    rw [strsOf_map xs]; rfl
theorem cutL_map {α β : Type} (f : α → β) (xs : List α) (lo hi : Option Int) : cutL (xs.map f) lo hi = (cutL xs lo hi).map f := by
  unfold cutL
  rw [List.length_map, List.map_take, List.map_drop]
theorem cutL_len {α : Type} (xs : List α) (lo hi : Option Int) : (cutL xs lo hi).length ≤ xs.length := by
  unfold cutL
  rw [List.length_take, List.length_drop]
  omega
theorem cutL_mem {α : Type} {xs : List α} {lo hi : Option Int} {x : α} (h : x ∈ cutL xs lo hi) : x ∈ xs := List.mem_of_mem_drop (List.mem_of_mem_take h)
theorem bools_map {α : Type} (xs : List α) (p : α → Bool) : bools (xs.map fun x => D.bl (p x)) = some (xs.map p) := by
  induction xs with
  | nil => rfl
  | cons x xs ih =>
    rw [List.map_cons]
    show (bools _).map _ = _
    rw [ih]; rfl
theorem atI0 {α : Type} (x : α) (xs : List α) : atI (x :: xs) 0 = some x := atI_nat (j := 0) rfl
theorem atI1 {α : Type} (x y : α) (xs : List α) : atI (x :: y :: xs) 1 = some y := atI_nat (j := 1) rfl
theorem atI2 {α : Type} (x y z : α) (xs : List α) : atI (x :: y :: z :: xs) 2 = some z := atI_nat (j := 2) rfl
theorem atI3 {α : Type} (x y z u : α) (xs : List α) : atI (x :: y :: z :: u :: xs) 3 = some u := atI_nat (j := 3) rfl
theorem atI4 {α : Type} (x y z u w : α) (xs : List α) : atI (x :: y :: z :: u :: w :: xs) 4 = some w := atI_nat (j := 4) rfl
/-! ### results by what holds of them -/
def OkS (P : En → Prop) : SRs → Prop
  | .nx r => P r
  | _ => False
theorem OkS_nx {P : En → Prop} {r : En} : OkS P (.nx r) = P r := rfl
theorem OkS.ex {P : En → Prop} {x : SRs} (h : OkS P x) : ∃ r, x = .nx r ∧ P r := by
  cases x with
  | nx r => exact ⟨r, rfl, h⟩
  | _ => exact h.elim
theorem OkS.imp {P Q : En → Prop} {x : SRs} (h : OkS P x) (i : ∀ r, P r → Q r) : OkS Q x := by
  cases x with
  | nx r => exact i r h
  | _ => exact h.elim
/-- a result, no error -/
def pok {α : Type} (P : α → En → Prop) : Rs α → Prop
  | .ok a r => P a r
  | _ => False
theorem post_ex {α : Type} {P : α → En → Prop} {x : Rs α} (h : pok P x) : ∃ a r, x = .ok a r ∧ P a r := by
  cases x with
  | ok a r => exact ⟨a, r, rfl, h⟩
  | bad => exact h.elim
  | ex _ _ => exact h.elim
theorem post_ok {α : Type} {P : α → En → Prop} {a : α} {r : En} : pok P (.ok a r) = P a r := rfl
theorem lcD_ok {it : En → Rs (List D)} {vs : List Nat} {h : D → En → Option En} {elt : En → Rs D} {r r1 : En} {ds : List D} (I : En → Prop) (P : D → Prop)
    (hi : it r = .ok ds r1) (hl : ds.length ≤ 1000000) (h0 : I (wipeE r1 vs)) (hI : ∀ r, I r → wipeE r vs = r)
    (he : ∀ d ∈ ds, ∀ r, I r → ∃ ra, h d r = some ra ∧ pok (fun y rc => P y ∧ I (wipeE rc vs)) (elt ra)) :
    ∃ ys r', lcD it vs h yesT elt r = .ok (.ow ys) r' ∧ ys.length = ds.length ∧ (∀ y ∈ ys, P y) ∧ I r' :=
  lcD_inv I P hi hl h0 hI fun d hd r hr => by
    obtain ⟨ra, e1, e2⟩ := he d hd r hr
    obtain ⟨y, rc, e3, e4, e5⟩ := post_ex e2
    exact ⟨ra, y, rc, e1, e3, e4, e5⟩
theorem lcD_mp1 {α : Type} {it : En → Rs (List D)} {vs : List Nat} {h : D → En → Option En} {elt : En → Rs D} {r r1 : En} (r2 : En) (xs : List α) (enc : α → D) (q : α → D)
    (hi : it r = .ok (xs.map enc) r1) (hl : xs.length ≤ 1000000) (hw : wipeE r1 vs = r2) (hw2 : wipeE r2 vs = r2)
    (he : ∀ x ∈ xs, ∃ ra, h (enc x) r2 = some ra ∧ wipeE ra vs = r2 ∧ pok (fun y rc => y = q x ∧ wipeE rc vs = r2) (elt ra)) :
    lcD it vs h yesT elt r = .ok (.ow (xs.map q)) r2 :=
  lcD_map1 r2 xs enc q hi hl hw hw2 fun x hx => by
    obtain ⟨ra, e1, e2, e3⟩ := he x hx
    obtain ⟨y, rc, e6, rfl, e7⟩ := post_ex e3
    exact ⟨ra, e1, e2, rc, e6, e7⟩
end DL

/-! Data layer, part 18: methods of lists by data. -/
namespace DL
open PySem L2
section
variable {X : Cx} {g : G} {o e : Expr} {es : List Expr} {name : Str} {apos cpos : Pos} {id : String} {p : Opd} {ps : List Opd}
/-- o.m(e, ..), o a list -/
def mLD (p : Opd) (qs : List Opd) (sem : D → List D → Option D) : En → Rs D := fun r => (p.run r).bind fun x r1 => match look r1 x with
  | some (.lst _) => (runs qs r1).bind fun zs r2 => ofO ((look r2 x).bind fun d => (looks r2 zs).bind fun ds => sem d ds) r2
  | _ => .bad
end
end DL

/-! Data layer, part 19: sorting of tuples that are alike as far as their comparing looks. -/
namespace DL
open PySem PySem.W PySem.SeqAt PyProof.Rows
/-- alike up to the first place at which they differ, and there -/
def lzAll : List PyData → List PyData → Bool
  | x :: xs, y :: ys => alike x y && (!PyData.eqv x y || lzAll xs ys)
  | [], _ => true
  | _ :: _, [] => true
/-- two tuples that are not empty, their first members alike -/
def lzP : PyData → PyData → Bool
  | .tuple (x :: xs), .tuple (y :: ys) => lzAll (x :: xs) (y :: ys)
  | _, _ => false
theorem lz_cons {x y : PyData} {xs ys : List PyData} (h : lzAll (x :: xs) (y :: ys) = true) : alike x y = true ∧ (PyData.eqv x y = true → lzAll xs ys = true) := by
  have z : (alike x y && (!PyData.eqv x y || lzAll xs ys)) = true := h
  obtain ⟨z1, z2⟩ := Bool.and_eq_true_iff.mp z
  exact ⟨z1, fun e => by rw [e] at z2; exact z2⟩
theorem lzP_of {d d' : PyData} (h : lzP d d' = true) : ∃ x xs y ys, d = .tuple (x :: xs) ∧ d' = .tuple (y :: ys) ∧ lzAll (x :: xs) (y :: ys) = true := by
  unfold lzP at h
  split at h
  · exact ⟨_, _, _, _, rfl, rfl, h⟩
  · cases h
theorem lzAll_unique {h : Heap} : ∀ (xs ys : List PyData) (vs : List Value) (as as' : List Addr), lzAll xs ys = true → ReadsAll h vs xs as → ReadsAll h vs ys as' → xs = ys
  | [], _, _, _, _, _, r, r' => by cases r; cases r'; rfl
  | x :: xs, [], _, _, _, _, r, r' => by cases r'; cases r
  | x :: xs, y :: ys, _, _, _, ha, r, r' => by
    obtain ⟨z1, z2⟩ := lz_cons ha
    cases r with
    | cons r1 r2 =>
      cases r' with
      | cons q1 q2 =>
        have e := alike_unique x y _ _ _ z1 r1 q1
        subst e
        rw [lzAll_unique xs ys _ _ _ (z2 (eqv_refl_alike x z1)) r2 q2]
theorem lzP_unique {h : Heap} {d d' : PyData} {v : Value} {as as' : List Addr} (z : lzP d d' = true) (r : Reads h v d as) (r' : Reads h v d' as') : d = d' := by
  obtain ⟨x, xs, y, ys, rfl, rfl, z⟩ := lzP_of z
  cases r with
  | tuple a1 a2 a3 a4 =>
    cases r' with
    | tuple b1 b2 b3 b4 =>
      rw [a1] at b1; cases b1
      rw [a3] at b3; cases b3
      rw [lzAll_unique _ _ _ _ _ z a4 b4]
theorem pairs_pw {ds : List PyData} (hal : ∀ d, d ∈ ds → ∀ d', d' ∈ ds → lzP d d' = true) {h : Heap} {v : Value} {d : PyData} {as : List Addr} (hd : d ∈ ds) (r : Reads h v d as) : (dataKind h ds).keyOf v = some (keyToks d) := by
  have q : ∃ d, d ∈ ds ∧ ∃ as, Reads h v d as := ⟨d, hd, as, r⟩
  have e : (dataKind h ds).keyOf v = some (keyToks q.choose) := by
    show (open Classical in if q : ∃ d, d ∈ ds ∧ ∃ as, Reads h v d as then some (keyToks q.choose) else none) = _
    rw [dif_pos q]
  obtain ⟨m1, as', m2⟩ := q.choose_spec
  rw [e, lzP_unique (hal _ m1 _ hd) m2 r]
section
variable {prog : Program} {w : World} {A : Around} {s : Shared}
end
/-- can be sorted: alike, or lazily so -/
def SrtOk (ds : List PyData) : Prop := (AllAlike ds ∧ Sortable ds) ∨ ∀ d, d ∈ ds → ∀ d', d' ∈ ds → lzP d d' = true
section
variable {prog : Program} {w : World} {A : Around} {E : Value → Shared → Prop} {s : Shared} {β : Type} {vs : List Value} {bs : List β} {enc : β → PyData} {R : Value → β → Prop}
theorem SrtOk.key {ds : List PyData} (k : SrtOk ds) {h : Heap} {v : Value} {d : PyData} {as : List Addr} (hd : d ∈ ds) (r : Reads h v d as) : (dataKind h ds).keyOf v = some (keyToks d) := by
  rcases k with ⟨k1, _⟩ | k
  · exact dataKind_some k1 hd r
  · exact pairs_pw k hd r
theorem SrtOk.keys {h : Heap} {ds : List PyData} (k : SrtOk ds) {vs : List Value} (e : EachIs (fun v d => ∃ as, Reads h v d as) vs ds) : EachIs (fun v d => (dataKind h ds).keyOf v = some (keyToks d)) vs ds :=
  (each_mem e).mono fun v d ⟨⟨as, r⟩, hd⟩ => k.key hd r
theorem SrtOk.vals {h' : Heap} (rev : Bool) (e : EachIs R vs bs) (er : EachIs (fun v b => ∃ as, Reads h' v (enc b) as) vs bs) (k : SrtOk (bs.map enc)) :
    EachIs R (sortVals (dataKind h' (bs.map enc)) rev vs vs) (bs.mergeSort (dataLe rev enc)) :=
  sortVals_each (κ := dataKind h' (bs.map enc)) (fun b => keyToks (enc b)) e (each_of_map enc (k.keys (each_map (R := fun v d => ∃ as, Reads h' v d as) enc er)))
end
end DL

/-! Data layer, part 20: new lists that the taker owns: xs + ys, xs * k, xs[i:j], list(x), list(range(..)). -/
namespace DL
open PySem L2
section
variable {X : Cx} {g : G} {a b c e : Expr} {es : List Expr} {pos p2 : Pos} {p q : Opd} {ps : List Opd}
theorem PO.new {K : PySem.W.Frag} {F H : Hp} {s : St} {r : En} {Q : VK} {ds : List D} {vs : List V} (R : Rel K g F H s r) (hvs : RDs K F vs ds) (q : PO K g F s Q (.ow ds) r) (p : Addr) (np : H p = none) : Q (.ref p) (L2.upd H p (.lst vs)) :=
  q F _ _ (Same.refl _) (R.laid np) (RV.new R np hvs)
def op2O (p q : Opd) (sem : D → D → Option (List D)) : En → Rs OV := fun r => (p.run r).bind fun x r1 => (q.run r1).bind fun y r2 => ofO ((look r2 x).bind fun dx => (look r2 y).bind fun dy => (sem dx dy).map OV.ow) r2
def semAddL : D → D → Option (List D)
  | .lst xs, .lst ys => if xs.length + ys.length ≤ 1000000 then some (xs ++ ys) else none
  | _, _ => none
def semMulL : D → D → Option (List D)
  | .lst xs, .int k => if 0 ≤ k ∧ k ≤ 1000 ∧ xs.length ≤ 1000 then some (List.replicate k.toNat xs).flatten else none
  | _, _ => none
/-- xs[i:j], a new list -/
def slO (p : Opd) (lo hi : En → Rs (Option Int)) : En → Rs OV := fun r => (p.run r).bind fun x r1 => (lo r1).bind fun l r2 => (hi r2).bind fun h r3 => ofO ((look r3 x).bind fun d => match d with
  | .lst xs => some (.ow (cutL xs l h))
  | _ => none) r3
/-- built-ins that give a new list -/
def opNO (ps : List Opd) (sem : List D → Option (List D)) : En → Rs OV := fun r => (runs ps r).bind fun xs r1 => ofO ((looks r1 xs).bind fun ds => (sem ds).map OV.ow) r1
def rON (K : PySem.W.Frag) (g : G) (sem : List D → Option (List D)) : List V → Hp → VK → Prop := fun xs H Q => ∃ F s r ds ys, Rel K g F H s r ∧ RBs K F H xs ds ∧ sem ds = some ys ∧ PO K g F s Q (.ow ys) r
theorem tO_opN {K : PySem.W.Frag} {ps : List Opd} {sem : List D → Option (List D)} {s : St} {H : Hp} {Q : VK} (h : tO K g (opNO ps sem) s H Q) : tBs K g ps s H fun xs H1 => rON K g sem xs H1 Q := by
  obtain ⟨F, r, R, h⟩ := h
  refine ⟨F, r, R, post_mono (post_bind h) fun zs r1 q F1 H1 vs sm R1 hv => ?_⟩
  obtain ⟨d, e, q⟩ := post_ofO q
  obtain ⟨ds, e1, e2⟩ := Option.bind_eq_some_iff.mp e
  obtain ⟨ys, e3, rfl⟩ := Option.map_eq_some_iff.mp e2
  exact ⟨F1, s, r1, ds, ys, R1, looks_ok R1 hv e1, e3, fun F2 H2 v2 s2 R2 h2 => q F2 H2 v2 (sm.trans s2) R2 h2⟩
theorem do_callT {x : Str} {pn : Pos} {T : String} {ps : List Opd} {sem : List D → Option (List D)} (hc : CallR X (.type T) (rON X.K g sem)) (hm : X.mg x = none) (ha : DBs X g (e :: es) ps) (hg : Gl X x := by rfl) (hv : bootBuiltins x = some (.type T) := by decide +kernel)
    (hn : x ≠ "__name__" := by decide) (hdb : (x == ("__debug__" : Str)) = false := by decide) (he : starEach (e :: es) X.env = (false, eval e X.env) :: starEach es X.env := by rfl) (hpl : (backTo pos (starEach es X.env)).any (·.1) = false := by rfl) : DO X g (.Call (.Name x pn) (e :: es) [] pos) (opNO ps sem) :=
  PE.imp (pe_callTy hc hg hm hv ha hn hdb he hpl) fun s H Q h => tO_opN h
def semListL : List D → Option (List D)
  | [.lst xs] => some xs
  | [.tup xs] => some xs
  | _ => none
theorem co_list : CallR X (.type "list") (rON X.K g semListL) := by
  intro pins s sg H xs us Q I rv h
  obtain ⟨F, s0, r, ds, d, R, hx, e, q⟩ := h
  unfold semListL at e
  split at e
  · cases e
    obtain ⟨v, rfl, h1⟩ := hx.one
    obtain ⟨a, vs, rfl, h2, h3⟩ := h1.lst R.sub
    exact call_list_of pins s sg H _ us Q I rv ⟨a, vs, rfl, .inl (.of h2), PO.new R h3 q⟩
  · cases e
    obtain ⟨v, rfl, h1⟩ := hx.one
    obtain ⟨a, vs, rfl, h2, h2', h3⟩ := h1.tup R.sub
    exact call_list_of pins s sg H _ us Q I rv ⟨a, vs, rfl, .inr h2, PO.new R h3 q⟩
  · cases e
/-- list(range(..)) -/
def lrgO (f : En → Rs (List D)) : En → Rs OV := fun r => (f r).map OV.ow
end
end DL

/-! Data layer, part 21: f(e, ..) whose arguments are only lent: what comes back holds nothing of them. -/
namespace DL
open PySem L2
def D.flt : D → Bool
  | .non => true
  | .bl _ => true
  | .int _ => true
  | .str _ => true
  | _ => false
def OV.flt : OV → Bool
  | .sh d => d.flt
  | .ow xs => xs.all D.flt
  | .od _ => false
  | .oi _ _ => false
  | .th _ => false
  | .exc _ => false
theorem RD.flt {K : PySem.W.Frag} {F F' : Hp} {v : V} {d : D} (h : RD K F v d) (hd : d.flt = true) : RD K F' v d := by
  cases d with
  | non => cases h; exact .non
  | bl b => cases h; exact .bl b
  | int i => cases h; exact .int i
  | str x => cases h; exact .str x
  | _ => cases hd
theorem RDs.flt {K : PySem.W.Frag} {F F' : Hp} : ∀ {vs : List V} {ds : List D}, RDs K F vs ds → ds.all D.flt = true → RDs K F' vs ds
  | _, [], h, _ => by cases h; exact .nil
  | _, d :: ds, h, hd => by
    rw [List.all_cons, Bool.and_eq_true] at hd
    cases h with
    | cons h1 h2 => exact .cons (h1.flt hd.1) (RDs.flt h2 hd.2)
def callL (n : Nat) (f : List D → Option OV) (ps : List Opd) : En → Rs OV := fun r => (runs ps r).bind fun xs r1 => ofO ((looks r1 xs).bind fun ds => if ds.length = n then (f ds).bind fun o => if o.flt = true then some o else none else none) r1
section
variable {X : Cx} {g : G} {k n : Nat} {x : Str} {p pos : Pos} {e : Expr} {es : List Expr}
end
end DL

/-! Data layer, part 22: pop, insert, clear as statements; {}; xs[::-1]; defs that call themselves. -/
namespace DL
open PySem L2
section
variable {P : Program} {w : World} {K : PySem.W.Frag} {mg : Str → Option Value} {base : Heap}
end
section
variable {X : Cx} {g : G} {x : Str} {p pos apos cpos : Pos} {e e2 : Expr}
/-- xs.pop(i), the value dropped -/
def popF (k : D) : List D → Option (List D) := fun xs => match k with
  | .int i => if 0 ≤ i ∧ i < 1000000 then (ixN xs.length i).map fun j => xs.eraseIdx j else none
  | _ => none
def popS (i : Nat) (f : En → Rs D) : En → SRs := fun r => thenS (fillW r i) fun _ r => thenS (f r) fun d r1 => chgS i (popF d) r1
theorem RDs.erase {K : PySem.W.Frag} {F : Hp} : ∀ {vs : List V} {ds : List D} (n : Nat), RDs K F vs ds → RDs K F (vs.eraseIdx n) (ds.eraseIdx n)
  | _, [], n, h => by cases h; simp; exact .nil
  | _, d :: ds, 0, h => by
    cases h with
    | cons h1 h2 => exact h2
  | _, d :: ds, n + 1, h => by
    cases h with
    | cons h1 h2 => exact .cons h1 (RDs.erase n h2)
theorem ds_popAt {i : Nat} {f : En → Rs D} (hv : PE X (.Name x p) (tVar i)) (h : DE X g e f) (hst : starEach [e] X.env = [(false, eval e X.env)] := by rfl) (hb : attributeBase (.Name x p) "pop" X.env (eval (.Name x p) X.env) = eval (.Name x p) X.env := by rfl)
    (hline : (apos.endLine == cpos.line) = true := by rfl) (hsw : swapsWith (.Call (.Attribute (.Name x p) "pop" apos) [e] [] cpos) none pos.line X.env = pure false := by rfl)
    (hfew : ((backTo cpos (starEach [e] X.env)).all (fun x => !x.1) && (backToKw cpos (keywordEach [] X.env)).all (fun x => x.1.isSome) && decide ([e].length + ([] : List Keyword).length + (if ([] : List Keyword).isEmpty then 0 else 1) < 30)) = true := by rfl)
    (hpl : (backTo cpos (starEach [] X.env)).any (·.1) = false := by rfl) : DS X g (.Expr (.Call (.Attribute (.Name x p) "pop" apos) [e] [] cpos) pos) (popS i f) :=
  PS.imp (ps_expr (pe_bm PySem.F.plainAttrs_list PySem.F.slot_list_pop PySem.F.type_list_pop mt_popAt hv (pa_cons h pa_nil hst) hb hfew hline hst hpl) hsw) fun E s H ⟨F, r, R, q⟩ => by
    obtain ⟨⟨xs, e0⟩, q⟩ := then_fillW q
    obtain ⟨v, h1, a, vs, rfl, fa, ha, hvs⟩ := R.slot i _ e0
    refine ⟨_, h1, .inl ⟨rfl, vs, .of ha⟩, F, r, R, post_mono (post_then q) fun d r1 q F1 H1 w sm R1 hw => ?_⟩
    obtain ⟨b, ws, zs, ys, g1, g2, g3, g4, g5, g6⟩ := chgS_ok R1 sm q
    rw [h1] at g1
    cases g1
    unfold popF at g5
    split at g5
    · split at g5
      · next hk =>
        obtain ⟨j, ej, rfl⟩ := Option.map_eq_some_iff.mp g5
        cases hw
        obtain ⟨z1, z2, z3, z4⟩ := ixN_seq ej
        rw [← g3.length] at z1 z2
        exact ⟨a, ws, _, j, ws[j], rfl, rfl, g2, by omega, by omega, z1, List.getElem?_eq_getElem z2, g6 _ (g3.erase j)⟩
      · cases g5
    · cases g5
/-- xs.insert(i, e) -/
def insF (k d : D) : List D → Option (List D) := fun xs => match k with
  | .int i => if 0 ≤ i ∧ i < 1000000 ∧ xs.length ≤ 1000000 then some (xs.take i.toNat ++ [d] ++ xs.drop i.toNat) else none
  | _ => none
def insS (i : Nat) (f h : En → Rs D) : En → SRs := fun r => thenS (fillW r i) fun _ r => thenS (f r) fun k r1 => thenS (h r1) fun d r2 => chgS i (insF k d) r2
theorem ds_insert {i : Nat} {f h : En → Rs D} (hv : PE X (.Name x p) (tVar i)) (hf : DE X g e f) (hh : DE X g e2 h) (hst : starEach [e, e2] X.env = (false, eval e X.env) :: starEach [e2] X.env := by rfl) (hst2 : starEach [e2] X.env = [(false, eval e2 X.env)] := by rfl) (hb : attributeBase (.Name x p) "insert" X.env (eval (.Name x p) X.env) = eval (.Name x p) X.env := by rfl)
    (hline : (apos.endLine == cpos.line) = true := by rfl) (hsw : swapsWith (.Call (.Attribute (.Name x p) "insert" apos) [e, e2] [] cpos) none pos.line X.env = pure false := by rfl)
    (hfew : ((backTo cpos (starEach [e, e2] X.env)).all (fun x => !x.1) && (backToKw cpos (keywordEach [] X.env)).all (fun x => x.1.isSome) && decide ([e, e2].length + ([] : List Keyword).length + (if ([] : List Keyword).isEmpty then 0 else 1) < 30)) = true := by rfl)
    (hpl : (backTo cpos (starEach [e2] X.env)).any (·.1) = false := by rfl) : DS X g (.Expr (.Call (.Attribute (.Name x p) "insert" apos) [e, e2] [] cpos) pos) (insS i f h) :=
  PS.imp (ps_expr (pe_bm PySem.F.plainAttrs_list PySem.F.slot_list_insert PySem.F.type_list_insert mt_insert hv (pa_cons hf (pa_cons hh pa_nil hst2) hst) hb hfew hline hst hpl) hsw) fun E s H ⟨F, r, R, q⟩ => by
    obtain ⟨⟨xs, e0⟩, q⟩ := then_fillW q
    obtain ⟨v, h1, a, vs, rfl, fa, ha, hvs⟩ := R.slot i _ e0
    refine ⟨_, h1, .inl ⟨rfl, vs, .of ha⟩, F, r, R, post_mono (post_then q) fun k r1 q F1 H1 w1 sm R1 hw1 => ⟨F1, r1, R1, post_mono (post_then q) fun d r2 q F2 H2 w2 s2 R2 hw2 => ?_⟩⟩
    obtain ⟨b, ws, zs, ys, g1, g2, g3, g4, g5, g6⟩ := chgS_ok R2 (sm.trans s2) q
    rw [h1] at g1
    cases g1
    unfold insF at g5
    split at g5
    · split at g5
      · next hk =>
        cases g5
        cases hw1
        exact ⟨a, ws, _, w2, rfl, rfl, g2, by rw [g3.length]; exact Nat.lt_of_le_of_lt hk.2.2 (by decide), hk.1, by omega, g6 _ (((g3.tk _).app (.cons hw2 .nil)).app (g3.dp _))⟩
      · cases g5
    · cases g5
/-- xs.clear() -/
def clrS (i : Nat) : En → SRs := fun r => thenS (fillW r i) fun _ r => chgS i (fun _ => some []) r
end
end DL

/-! Data layer, part 23: t[::-1] of a tuple. -/
namespace DL
open PySem L2 HT PyProof.Rows
section
variable {prog : Program} {w : World} {A : Around} {E : Value → Shared → Prop} {s : Shared}
theorem sliceApplied_rev {sl : Addr} {vl vu vs : Value} {n : Nat} {Q : Int × Int × Nat → Shared → Prop} (hs : s.heap.IsSliceOf sl vl vu vs) (pl : IsPart vl none) (pu : IsPart vu none) (ps : IsPart vs (some (-1)))
    (h : Q ((n : Int) - 1, -1, n) s) : wpAny (model prog w) A (Builtin.Slice.sliceApplied (.ref sl) (pure (n : Int))) Q E s := by
  obtain ⟨os, hos, hcs, hds⟩ := id hs
  unfold Builtin.Slice.sliceApplied Builtin.Slice.sliceFields
  refine wpAny_bind (wpAny_bind (wpAny_field hos hds (x := vl) rfl (wpAny_bind (wpAny_field hos hds (x := vu) rfl (wpAny_bind (wpAny_field hos hds (x := vs) rfl (wpAny_pure ?_)))))))
  refine wpAny_bind (slicePart_ ps ?_)
  show wpAny _ _ (if ((-1 : Int) == 0) = true then _ else _) _ _ s
  rw [if_neg (by decide)]
  refine wpAny_bind (slicePart_ pl (wpAny_bind (slicePart_ pu (wpAny_bind (wpAny_pure ?_)))))
  show wpAny _ _ (pure ((n : Int) - 1, (-1 : Int), Builtin.Slice.slicePlaces ((n : Int) - 1) (-1) (-1))) _ _ s
  have e : Builtin.Slice.slicePlaces ((n : Int) - 1) (-1) (-1) = n := by
    unfold Builtin.Slice.slicePlaces
    rw [if_neg (by decide)]
    split
    · rw [show (-(-1 : Int)) = 1 by decide, Int.ediv_one]; omega
    · omega
  rw [e]
  exact wpAny_pure h
theorem fm_congr {α β : Type} {f h : α → Option β} : ∀ {l : List α}, (∀ a ∈ l, f a = h a) → l.filterMap f = l.filterMap h
  | [], _ => rfl
  | a :: l, e => by
    rw [List.filterMap_cons, List.filterMap_cons, e a (List.mem_cons_self ..), fm_congr (l := l) fun b hb => e b (List.mem_cons_of_mem _ hb)]
theorem pick_rev (xs : Array Value) : ((List.range xs.size).filterMap fun (m : Nat) => xs[(((xs.size : Int) - 1) + (m : Int) * (-1)).toNat]?).toArray = xs.toList.reverse.toArray := by
  congr 1
  have e : ∀ m ∈ List.range xs.size, xs[(((xs.size : Int) - 1) + (m : Int) * (-1)).toNat]? = xs.toList.reverse[m]? := fun m hm => by
    have hm := List.mem_range.mp hm
    rw [List.getElem?_reverse (by simpa using hm)]
    have : (((xs.size : Int) - 1) + (m : Int) * (-1)).toNat = xs.toList.length - 1 - m := by simp; omega
    rw [this]
    simp
  rw [fm_congr e]
  have key : ∀ l : List Value, (List.range l.length).filterMap (fun m => l[m]?) = l := fun l => by
    induction l with
    | nil => rfl
    | cons a l ih =>
      rw [List.length_cons, List.range_succ_eq_map, List.filterMap_cons]
      simp only [List.getElem?_cons_zero, List.filterMap_map]
      congr 1
  have := key xs.toList.reverse
  rw [List.length_reverse, Array.length_toList] at this
  exact this
theorem getItem_tuple_rev {t sl : Addr} {items : Array Value} {vl vu vs : Value} {Q : Value → Shared → Prop} (ht : IsTup s.heap t items) (hs : s.heap.IsSliceOf sl vl vu vs) (pl : IsPart vl none) (pu : IsPart vu none) (ps : IsPart vs (some (-1)))
    (h : Q (.ref s.heap.objs.size) { s with heap := s.heap.push { cls := .type "tuple", data := .seq items.toList.reverse.toArray } })
    (hsz : items.size ≤ sizeLine) : wpAny (model prog w) A (getItem (.ref t) (.ref sl)) Q E s := by
  have htake : sizeOk (.seq items.toList.reverse.toArray) := by
    show items.toList.reverse.toArray.size ≤ sizeLine
    rw [List.size_toArray, List.length_reverse, Array.length_toList]
    exact hsz
  obtain ⟨os, hos, hcs, hds⟩ := id hs
  have hTs : s.TypeIs (.ref sl) "slice" := ⟨os, hos, hcs⟩
  unfold getItem
  try with_reducible refine wpAny_holding ?_
  first | refine wpAny_bind (wpAny_pure ?_) | skip
  refine wpAny_bind (wpAny_sequenceKey ht.typeIs (by decide) ?_)
  refine wpAny_bind (wpAny_callSpecial?_slot (name := Str.ofString "__getitem__") ht.typeIs PyProof.Rows.slot_tuple_getitem
    (wpAny_call_entry PyProof.Rows.slot_tuple_getitem ht.typeIs entry_tuple_getitem ?_ (args_tuple_getitem _ _)))
  show wpAny _ _ (Builtin.Tuple.tupleItemsOf (.ref t) >>= _) _ _ s
  refine wpAny_bind (tupleItemsOf_ ht ?_)
  refine wpAny_bind (wpAny_typeOf hTs ?_)
  rw [if_pos (by decide)]
  refine wpAny_bind (sliceApplied_rev hs pl pu ps ?_)
  have hno : ¬ ((((items.size : Int) - 1) == 0 && (-1 : Int) == 1 && items.size == items.size) = true) := by
    rw [show ((-1 : Int) == 1) = false by decide, Bool.and_false]
    simp
  show wpAny _ _ (if (((items.size : Int) - 1) == 0 && (-1 : Int) == 1 && items.size == items.size) = true then _ else _) _ _ s
  rw [if_neg hno, pick_rev]
  first
    | exact wpAny_bind (m := Builtin.Tuple.tupleExact _) (wpAny_newObj_type (wpAny_pure ⟨_, rfl, wpAny_pure h⟩) htake)
    | exact wpAny_bind (m := Builtin.Tuple.tupleExact _) (wpAny_newObj_type (wpAny_bind (wpAny_pure (wpAny_pure ⟨_, rfl, wpAny_pure h⟩))) htake)
    | exact wpAny_bind (wpAny_bind (m := Builtin.Tuple.tupleExact _) (wpAny_newObj_type (wpAny_pure (wpAny_pure ⟨_, rfl, wpAny_pure h⟩)) htake))
    | exact wpAny_bind (wpAny_bind (m := Builtin.Tuple.tupleExact _) (wpAny_newObj_type (wpAny_pure ⟨_, rfl, wpAny_pure h⟩) htake))
end
section
variable {X : Cx} {g : G} {e : Expr} {pos : Pos}
def tRevA (K : PySem.W.Frag) (te : TE) : TE := fun σ H Q => te σ H fun x H1 => (∃ a xs, x = .ref a ∧ SqL K H1 a xs ∧ ∀ p, H1 p = none → Q (.ref p) (L2.upd H1 p (.lst xs.reverse))) ∨ ∃ a xs, x = .ref a ∧ SqT K H1 a xs ∧ ∀ p, H1 p = none → Q (.ref p) (L2.upd H1 p (.tup xs.reverse))
theorem pe_revA {te : TE} {k : Nat} {p1 p2 p3 : Pos} (he : PE X e te) : PE X (.Subscript e (.Slice none none (some (.UnaryOp .USub (.Constant (.int 1) k p1) p2)) p3) pos) (tRevA X.K te) := by
  refine ⟨fun pins s σ H Q I h => ?_⟩
  refine Subscript_ (thn (he.run pins s σ H _ I h) fun v s1 ⟨x, H1, I1, r1, q1⟩ => ?_)
  have ⟨a, ea⟩ : ∃ a, x = .ref a := by
    rcases q1 with ⟨a, _, h, _⟩ | ⟨a, _, h, _⟩ <;> exact ⟨a, h⟩
  subst ea
  cases r1
  have hst : L2.PO X (some (.UnaryOp .USub (.Constant (.int 1) k p1) p2)) (tPart (tUn (rU fun i => .int (-i)) (tC (.int 1)))) := po_some (pe_un un_neg pe_int)
  refine wpAny_Slice (thn (po_none.run pins s1 σ H1 (fun o H2 => o = none ∧ H2 = H1) I1 ⟨rfl, rfl⟩) fun vl s2 ⟨l, H2, I2, pl, el, e2⟩ => ?_)
  subst el e2
  refine thn (po_none.run pins s2 σ H2 (fun o H3 => o = none ∧ H3 = H2) I2 ⟨rfl, rfl⟩) fun vu s3 ⟨u, H3, I3, pu, eu, e3⟩ => ?_
  subst eu e3
  refine thn (hst.run pins s3 σ H3 (fun o H4 => o = some (-1) ∧ H4 = H3) I3 ⟨1, rfl, -1, rfl, rfl, rfl⟩) fun vs s4 ⟨o, H4, I4, ps, eo, e4⟩ => ?_
  subst eo e4
  have I5 : Inv X pins σ H4 { s4 with heap := s4.heap.push { cls := .type "slice", data := .fields #[vl, vu, vs] } } := I4.kept (t' := s4.toks) fun b ob q => Heap.get?_push_of_some _ q
  show wpAny (model X.prog X.w) X.A (subscriptTail e (.Slice none none (some (.UnaryOp .USub (.Constant (.int 1) k p1) p2)) p3) (.ref a) (.ref s4.heap.objs.size)) (EP X pins σ Q) X.xe { s4 with heap := s4.heap.push { cls := .type "slice", data := .fields #[vl, vu, vs] } }
  rcases q1 with ⟨a', xs, ex, hx, q⟩ | ⟨a', xs, ex, hx, q⟩
  · cases ex
    obtain ⟨its, r, ht, hz⟩ := I5.list hx
    have hlen := r.length
    refine tail_any (ops := [.ref a, .ref s4.heap.objs.size]) ht.isList.typeIs (PySem.slot_list_getitem.lookup) ?_ (by with_unfolding_all rfl)
    refine wpAny_getItem_list_slice ht.isList (Heap.IsSliceOf.new _ vl vu vs) pl pu ps (by decide) ?_ (by rw [List.size_toArray]; omega)
    rw [PySem.W.krv_pick]
    refine ⟨.ref _, _, I5.laid (t' := s4.toks) (o := .lst xs.reverse) (fun b ob q => Heap.get?_push_of_some _ q) (Nat.le_refl _) ?_, rfl, q _ (I5.hok.fresh (Nat.le_refl _))⟩
    exact ⟨by rw [List.length_reverse]; exact hz, _, 0, r.reverse, Heap.get?_push_size _ rfl⟩
  · cases ex
    obtain ⟨its, r, ht, hz⟩ := I5.tuple hx
    have hlen := r.length
    refine tail_any (ops := [.ref a, .ref s4.heap.objs.size]) ht.typeIs (PyProof.Rows.slot_tuple_getitem.lookup) ?_ (by with_unfolding_all rfl)
    refine getItem_tuple_rev ht (Heap.IsSliceOf.new _ vl vu vs) pl pu ps ?_ (by rw [List.size_toArray]; omega)
    refine ⟨.ref _, _, I5.laid (t' := s4.toks) (o := .tup xs.reverse) (fun b ob q => Heap.get?_push_of_some _ q) (Nat.le_refl _) ?_, rfl, q _ (I5.hok.fresh (Nat.le_refl _))⟩
    exact ⟨by rw [List.length_reverse]; exact hz, _, r.reverse, IsTup.new _ _⟩
/-- xs[::-1] -/
def revO (pd : Opd) : En → Rs OV := fun r => (pd.run r).bind fun x r1 => ofO ((look r1 x).bind fun d => match d with
  | .lst xs => some (.ow xs.reverse)
  | .tup xs => some (.sh (.tup xs.reverse))
  | _ => none) r1
theorem RDs.rev {K : PySem.W.Frag} {F : Hp} : ∀ {vs : List V} {ds : List D}, RDs K F vs ds → RDs K F vs.reverse ds.reverse
  | _, [], h => by cases h; exact .nil
  | _, d :: ds, h => by
    cases h with
    | cons h1 h2 =>
      rw [List.reverse_cons, List.reverse_cons]
      exact h2.rev.app (.cons h1 .nil)
theorem do_revL {pd : Opd} {k : Nat} {p1 p2 p3 : Pos} (he : DB X g e pd) : DO X g (.Subscript e (.Slice none none (some (.UnaryOp .USub (.Constant (.int 1) k p1) p2)) p3) pos) (revO pd) :=
  PE.imp (pe_revA he) fun s H Q ⟨F, r, R, h⟩ => ⟨F, r, R, post_mono (post_bind h) fun z r1 q F1 H1 v sm R1 hv => by
    obtain ⟨o, e, q⟩ := post_ofO q
    obtain ⟨d, e1, e2⟩ := Option.bind_eq_some_iff.mp e
    cases d with
    | lst xs =>
      cases e2
      obtain ⟨a, vs, rfl, h1, h2⟩ := (look_ok R1 hv e1).lst R1.sub
      exact .inl ⟨a, vs, rfl, .of h1, fun p np => PO.new R1 h2.rev (fun F2 H2 v2 s2 R2 h3 => q F2 H2 v2 (sm.trans s2) R2 h3) p np⟩
    | tup xs =>
      cases e2
      obtain ⟨a, vs, rfl, h1, _, h2⟩ := (look_ok R1 hv e1).tup R1.sub
      exact .inr ⟨a, vs, rfl, h1, fun p np => PD.tup R1 h2.rev (fun F2 H2 v2 s2 R2 h3 => q F2 H2 v2 (sm.trans s2) R2 h3) p np⟩
    | _ => cases e2⟩
end
end DL

/-! Data layer, part 24: list comprehensions with two fors. -/
namespace DL
open PySem L2
section
variable {X : Cx} {g : G} {e a b c tg tg1 : Expr} {pos : Pos}
end
end DL

/-! Data layer, part 25: xs[::e]; range with a step; min, max of two. -/
namespace DL
open PySem L2 PyProof.Rows
section
variable {X : Cx} {g : G} {e a b c tg : Expr} {pos : Pos}
/-! ### range(a, b, c), c positive -/
/-! ### min, max of two ints -/
end
end DL

/-! Data layer, part 26: sets of texts; sorted of them. -/
namespace DL
open PySem L2 PyProof.Rows PySem.Froz
/-- one text more -/
def insT (l : List Str) (k : Str) : List Str := if k ∈ l then l else k :: l
def addT (l : List Str) (ts : List Str) : List Str := ts.foldl insT l
/-- the set of texts at a -/
def SetX (P : Program) (w : World) (h : Heap) (a : Addr) (l : List Str) : Prop := ∃ Z : SD, h.get? a = some (sObj "set" Z) ∧ TxOk P w Z l ∧ l.Nodup ∧ Ris Z.2.2.place.toList ∧ (w.params.followText "set-order" = true ∨ Z.2.2.led = true)
section
variable {P : Program} {w : World} {A : Around} {E : Value → Shared → Prop} {s : Shared} {a : Addr} {l : List Str}
theorem SetX.at {h h' : Heap} (R : SetX P w h a l) (k : ∀ o, h.get? a = some o → h'.get? a = some o) : SetX P w h' a l := by
  obtain ⟨Z, ho, r⟩ := R
  exact ⟨Z, k _ ho, r⟩
theorem SetX.ob {h : Heap} (R : SetX P w h a l) : ∃ o, h.get? a = some o := by
  obtain ⟨Z, ho, r⟩ := R
  exact ⟨_, ho⟩
end
section
variable {P : Program} {w : World} {A : Around} {E : Value → Shared → Prop} {s : Shared}
end
end DL

/-! Data layer, part 27: sorted of a set of texts; sorted of lists. -/
namespace DL
open PySem L2 PyProof.Rows PySem.Froz
/-- texts in order -/
def leT (a b : Str) : Bool := decide (a.cps.toList ≤ b.cps.toList)
/-- sorted(set(ts)) -/
def srtT (ts : List Str) : List Str := (addT [] ts).mergeSort leT
section
variable {P : Program} {w : World} {A : Around} {E : Value → Shared → Prop} {s : Shared}
end
end DL

/-! Data layer, part 28: sorted(set(e)) of texts, sorted(e) of alike data. -/
namespace DL
open PySem L2 PyProof.Rows PySem.Froz
section
variable {X : Cx} {g : G} {e : Expr} {pos : Pos}
/-! sorted(e) -/
end
end DL

/-! Data layer, part 29: sum(lists, []). -/
namespace DL
open PySem L2 PyProof.Rows
section
variable {P : Program} {w : World} {A : Around} {R : Result → Shared → Prop} {I : Addr} {fp wr : List Addr} {G : Array GenState → Array GenState → Prop} {n : Nat} {Pv : Nat → Value → Prop} {St : Nat → Shared → Prop}
end
namespace Sm
end Sm
section
variable {P : Program} {w : World} {A : Around} {E : Value → Shared → Prop} {s : Shared}
end
def lstsOf : List D → Option (List (List D))
  | [] => some []
  | .lst xs :: ds => (lstsOf ds).map fun xss => xs :: xss
  | _ :: _ => none
def semSumL : D → Option (List D)
  | .lst ds => (lstsOf ds).bind fun xss => if xss.flatten.length ≤ 100000 then some xss.flatten else none
  | _ => none
section
variable {X : Cx} {g : G} {pins : List (Addr × Obj)} {s : Shared} {F H : Hp} {sg : L2.St}
def sumO (p : Opd) : En → Rs OV := fun r => (p.run r).bind fun x r1 => ofO ((look r1 x).bind fun d => (semSumL d).map OV.ow) r1
end
end DL

/-! Data layer, part 30: list(text). -/
namespace DL
open PySem L2
section
variable {X : Cx} {g : G}
end
end DL

/-! Data layer, part 31: dicts that a name owns, with tuples as keys. -/
namespace DL
open PySem L2
section
variable {X : Cx} {g : G} {pos : Pos}
variable {pt pt2 px py pd pl : Pos} {x y : Str} {kt k2 i j : Nat}
/-! keys -/
mutual
theorem RD.nested {pins : List (Addr × Obj)} {s : Shared} {H : Hp} {sg : L2.St} (I : L2.Inv X pins sg H s) : ∀ (d : D) (v : V) (u : Value) (k : NestedKey), d.nk = some k → RD X.K H v d → RelV v u → NestedIs s.heap k u
  | .non, _, _, _, e, h, r => by cases h; cases e; cases r; exact .none
  | .bl b, _, _, _, e, h, r => by cases h; cases e; cases r; exact .bool rfl
  | .int i, _, _, _, e, h, r => by cases h; cases e; obtain ⟨t, rfl⟩ := r; exact .int i t
  | .str x, _, _, _, e, h, r => by cases h; cases e; obtain ⟨t, rfl⟩ := r; exact .text x t
  | .tup ds, _, _, _, e, h, r => by
    have e : (nks ds).map NestedKey.tup = some _ := e
    obtain ⟨ks, e1, rfl⟩ := Option.map_eq_some_iff.mp e
    cases h with
    | tup h1 h2 =>
      cases r
      obtain ⟨its, rv, ⟨o, ho, hc, n, hd⟩, _⟩ := I.tuple h1
      refine .tup ho hc hd ?_
      have := RDs.nested I ds _ its ks e1 h2 rv
      simpa using this
  | .lst ds, _, _, _, e, _, _ => by cases e
  | .dic ds, _, _, _, e, _, _ => by cases e
  | .scr ns, _, _, _, e, _, _ => by cases e
  | .obj _ _, _, _, _, e, _, _ => by cases e
theorem RDs.nested {pins : List (Addr × Obj)} {s : Shared} {H : Hp} {sg : L2.St} (I : L2.Inv X pins sg H s) : ∀ (ds : List D) (vs : List V) (us : List Value) (ks : List NestedKey), nks ds = some ks → RDs X.K H vs ds → Vals vs us → NestedAll s.heap ks us
  | [], _, _, _, e, h, r => by cases h; cases e; cases r; exact .nil
  | d :: ds, _, _, _, e, h, r => by
    have e : (d.nk.bind fun k => (nks ds).map fun ks => k :: ks) = some _ := e
    obtain ⟨k, e1, e2⟩ := Option.bind_eq_some_iff.mp e
    obtain ⟨ks, e3, rfl⟩ := Option.map_eq_some_iff.mp e2
    cases h with
    | cons h1 h2 =>
      cases r with
      | cons r1 r2 => exact .cons (RD.nested I d _ _ k e1 h1 r1) (RDs.nested I ds _ _ ks e3 h2 r2)
end
def KeyAt (K : PySem.W.Frag) (H : Hp) (k : NestedKey) (b : Addr) : Prop := ∃ kd : D, RD K H (.ref b) kd ∧ kd.nk = some k ∧ k.depth ≤ 8
theorem KeyAt.is {pins : List (Addr × Obj)} {s : Shared} {H : Hp} {sg : L2.St} (I : L2.Inv X pins sg H s) {k : NestedKey} {b : Addr} (h : KeyAt X.K H k b) : (nestedKind X.prog X.w).is s.heap k b := by
  obtain ⟨kd, h1, h2, h3⟩ := h
  exact ⟨RD.nested I kd _ _ k h2 h1 rfl, h3⟩
/-! by data -/
def D.key8 : D → Option NestedKey
  | .tup ds => (nks ds).bind fun ks => if (NestedKey.tup ks).depth ≤ 8 then some (.tup ks) else none
  | _ => none
theorem RDm.keys {K : PySem.W.Frag} {F H : Hp} (sub : Same F H) : ∀ {kvs : List (D × D)} {xs : List (NestedKey × Addr × V)}, RDm K F xs kvs → ∀ q ∈ xs, KeyAt K H q.1 q.2.1
  | [], _, h, q, hq => by cases h; cases hq
  | (kd, d) :: kvs, _, h, q, hq => by
    cases h with
    | cons h1 h2 h3 h4 =>
      rcases List.mem_cons.mp hq with rfl | hq
      · exact ⟨kd, RD.mono sub _ h1, h2.1, h2.2⟩
      · exact RDm.keys sub h4 q hq
def odHas (kvs : List (D × D)) (k : NestedKey) : Bool := kvs.any fun p => decide (p.1.nk = some k)
theorem RDm.has {K : PySem.W.Frag} {F : Hp} (k : NestedKey) : ∀ {kvs : List (D × D)} {xs : List (NestedKey × Addr × V)}, RDm K F xs kvs → (xs.any fun x => decide (x.1 = k)) = odHas kvs k
  | [], _, h => by cases h; rfl
  | (kd, d) :: kvs, _, h => by
    cases h with
    | cons h1 h2 h3 h4 =>
      unfold odHas
      rw [List.any_cons, List.any_cons, RDm.has k h4]
      unfold odHas
      congr 1
      rw [h2.1]
      exact decide_eq_decide.mpr ⟨fun e => congrArg some e, fun e => Option.some.inj e⟩
theorem RDm.len {K : PySem.W.Frag} {F : Hp} : ∀ {kvs : List (D × D)} {xs : List (NestedKey × Addr × V)}, RDm K F xs kvs → xs.length = kvs.length
  | [], _, h => by cases h; rfl
  | (kd, d) :: kvs, _, h => by
    cases h with
    | cons h1 h2 h3 h4 => rw [List.length_cons, List.length_cons, RDm.len h4]
theorem RDm.snoc {K : PySem.W.Frag} {F : Hp} {k : NestedKey} {b : Addr} {v : V} {kd d : D} (a1 : RD K F (.ref b) kd) (a2 : kd.nk = some k ∧ k.depth ≤ 8) (a3 : RD K F v d) : ∀ {kvs : List (D × D)} {xs : List (NestedKey × Addr × V)}, RDm K F xs kvs → RDm K F (xs ++ [(k, b, v)]) (kvs ++ [(kd, d)])
  | [], _, h => by cases h; exact .cons a1 a2 a3 .nil
  | (_, _) :: kvs, _, h => by
    cases h with
    | cons h1 h2 h3 h4 => exact .cons h1 h2 h3 (RDm.snoc a1 a2 a3 h4)
/-- e not in d, e in d -/
def inOd (n : Bool → Bool) (i : Nat) (f : En → Rs D) : En → Rs Bool := fun r => (f r).bind fun d r1 =>
  match r1[i]? with
  | some (some (.od kvs)) => ofO (d.key8.map fun k => n (odHas kvs k)) r1
  | _ => .bad
variable {a : Expr} {px : Pos} {x : Str} {i : Nat}
/-- d[e] = f, a new key -/
def putOd (i : Nat) (fi f : En → Rs D) : En → SRs := fun r => thenS (f r) fun d r1 => thenS (fill r1 i) fun _ r1 => thenS (fi r1) fun kd r2 =>
  match r2[i]? with
  | some (some (.od kvs)) => match kd.key8 with
    | some k => if odHas kvs k = false ∧ kvs.length ≤ 1000000 then .nx (r2.set i (some (.od (kvs ++ [(kd, d)])))) else .bad
    | none => .bad
  | _ => .bad
variable {ei e : Expr} {p : Pos}
end
end DL

/-! Data layer, part 32: comprehensions with any number of fors, lists and sets. -/
namespace DL
open PySem L2 PySem.Spec
abbrev FF : Value → Shared → Prop := fun _ _ => False
section
variable {prog : Program} {w : World} {A : Around} {R : Result → Shared → Prop} {s : Shared} {b : Bool} {elt : Expr} {gs : List Comprehension} {scope : Scope} {pos : Pos} {depth : Nat} {it acc : Value} {env : Env} {g : Comprehension}
end
end DL

/-! Data layer, part 33: the clauses of a comprehension, one behind the other. -/
namespace DL
open PySem L2 PySem.Spec
abbrev GRd := TI × TG × TT × List Nat
/-- the clauses from one on have these readings -/
def Al (Y : Cx) (gs : List Comprehension) : Nat → List GRd → List Nat → Prop
  | k, [], _ => gs[k]? = none
  | k, (wi, g, tt, vs) :: rest, vp => ∃ cl, gs[k]? = some cl ∧ PI Y cl.target cl.iter wi ∧ PG Y cl.target g ∧ PTs Y cl.ifs tt ∧ (∀ x, foldedSetIterable cl.iter Y.env x = pure x) ∧ (∀ i ∈ vs, i ∈ vp) ∧ Al Y gs (k + 1) rest vs
end DL

/-! Data layer, part 34: the comprehension as a value. -/
namespace DL
open PySem L2 PySem.Spec PyProof.Rows
section
variable {X : Cx}
end
end DL

/-! Data layer, part 35: lists, sets of texts. -/
namespace DL
open PySem L2 PySem.Spec PyProof.Rows PySem.Froz
section
variable {P : Program} {w : World} {A : Around} {E : Value → Shared → Prop} {s : Shared} {a : Addr} {l : List Str}
end
section
variable {Y : Cx} {elt : Expr} {te : TE} {D : Addr}
end
section
variable {X : Cx} {elt tg iter : Expr} {ifs : List Expr} {gs : List Comprehension} {scope : Scope} {own : List (PySem.Str × Nat)} {pos : Pos} {wi : TI} {g : TG} {tt : TT} {te : TE} {rest : List GRd}
end
end DL

/-! Data layer, part 36: comprehensions with any number of fors, by data. -/
namespace DL
open PySem L2
/-- a clause: its source, its store, its test, the slots of its and later targets, its target's slots -/
structure GDt where
  f : En → Rs (List D)
  h : D → En → Option En
  t : En → Rs Bool
  vs : List Nat
  ks : List Nat
/-- the reading of a clause -/
def rdC (K : PySem.W.Frag) (g : G) (c : GDt) : GRd := (fun s H Q => ∃ g' : G, Blk g g' ∧ tID K g' c.f s H Q, fun v s H Q => ∃ g' : G, Blk g g' ∧ tGD K g' c.ks c.h v s H Q, fun s H Q => ∃ g' : G, Blk g g' ∧ tTD K g' c.t s H Q, c.vs)
section
variable {g : G} {K : PySem.W.Frag} {A : Addr} {AR : Hp → List D → HO → Prop} {Em : Hp → V → HO → HO → Prop} {ok : List D → D → Bool} {fe : En → Rs D}
end
end DL

/-! Data layer, part 37: [.. for .. for ..], sorted({.. for .. for ..}). -/
namespace DL
open PySem L2 PySem.Froz
section
variable {X : Cx} {g : G}
/-- the later clauses have these functions -/
def AlD (X : Cx) (g : G) (scope : Scope) : List Comprehension → List GDt → List Nat → Prop
  | [], [], _ => True
  | cl :: cls, c :: cs, vp => (∀ (s : Shared) (H : Hp) (C : Addr) (cx : List (Str × Addr)) (fp : List Addr) (g' : G), Blk g g' → DI (X.blk s H scope (compEnvC scope cx C X.env) fp) g' cl.target cl.iter c.f) ∧
      (∀ (s : Shared) (H : Hp) (C : Addr) (cx : List (Str × Addr)) (fp : List Addr) (g' : G), Blk g g' → DG (X.blk s H scope (compEnvC scope cx C X.env) fp) g' cl.target c.ks c.h) ∧
      (∀ (s : Shared) (H : Hp) (C : Addr) (cx : List (Str × Addr)) (fp : List Addr) (g' : G), Blk g g' → PTs (X.blk s H scope (compEnvC scope cx C X.env) fp) cl.ifs (tTD X.K g' c.t)) ∧
      (∀ env x, foldedSetIterable cl.iter env x = pure x) ∧ (∀ i ∈ c.vs, i ∈ vp) ∧ (∀ p ∈ g.B, p.1 ∉ c.vs) ∧ (∀ i ∈ c.ks, i ∈ c.vs) ∧ cl.is_async = 0 ∧ AlD X g scope cls cs c.vs
  | _, _, _ => False
theorem AlD.al {scope : Scope} : ∀ (gs : List Comprehension) (cs : List GDt) (vp : List Nat), AlD X g scope gs cs vp → ∀ (pre : List Comprehension) (s : Shared) (H : Hp) (C : Addr) (cx : List (Str × Addr)) (fp : List Addr),
    Al (X.blk s H scope (compEnvC scope cx C X.env) fp) (pre ++ gs) pre.length (cs.map (rdC X.K g)) vp
  | [], [], vp, _, pre, s, H, C, cx, fp => by
    show (pre ++ [])[pre.length]? = none
    simp
  | cl :: cls, c :: cs, vp, h, pre, s, H, C, cx, fp => by
    obtain ⟨h1, h2, h3, h4, h5, h6, h7, h8, h9⟩ := h
    have rec1 := AlD.al cls cs c.vs h9 (pre ++ [cl]) s H C cx fp
    rw [List.append_assoc, List.length_append] at rec1
    refine ⟨cl, by simp, ⟨fun pins s2 σ H2 Q I ⟨g', eg, q⟩ => (h1 s H C cx fp g' eg).run pins s2 σ H2 Q I q⟩, ⟨fun pins s2 σ H2 v u Q I rv ⟨g', eg, q⟩ => (h2 s H C cx fp g' eg).run pins s2 σ H2 v u Q I rv q⟩, ⟨fun pins s2 σ H2 Q I ⟨g', eg, q⟩ => (h3 s H C cx fp g' eg).run pins s2 σ H2 Q I q⟩, h4 _, h5, rec1⟩
  | [], _ :: _, _, h, _, _, _, _, _, _ => h.elim
  | _ :: _, [], _, h, _, _, _, _, _, _ => h.elim
theorem AlD.z {scope : Scope} : ∀ (gs : List Comprehension) (cs : List GDt) (vp : List Nat), AlD X g scope gs cs vp → ∀ c ∈ gs, c.is_async = 0
  | [], _, _, _, c, hc => by cases hc
  | cl :: cls, c :: cs, vp, h, d, hd => by
    obtain ⟨_, _, _, _, _, _, _, h8, h9⟩ := h
    rcases List.mem_cons.mp hd with rfl | hd
    · exact h8
    · exact AlD.z cls cs c.vs h9 d hd
  | _ :: _, [], _, h, _, _ => h.elim
theorem AlD.bk {scope : Scope} : ∀ (gs : List Comprehension) (cs : List GDt) (vp : List Nat), AlD X g scope gs cs vp → ∀ c ∈ cs, (∀ p ∈ g.B, p.1 ∉ c.vs) ∧ ∀ i ∈ c.ks, i ∈ c.vs
  | _, [], _, _, c, hc => by cases hc
  | cl :: cls, c :: cs, vp, h, d, hd => by
    obtain ⟨_, _, _, _, _, h6, h7, _, h9⟩ := h
    rcases List.mem_cons.mp hd with rfl | hd
    · exact ⟨h6, h7⟩
    · exact AlD.bk cls cs c.vs h9 d hd
  | [], _ :: _, _, h, _, _ => h.elim
end
section
variable {g : G} {K : PySem.W.Frag} {AR : Addr → Hp → List D → HO → Prop} {Em : Addr → Hp → V → HO → HO → Prop} {ok : List D → D → Bool} {fe : En → Rs D} {acc0 : Addr → HO}
end
end DL

/-! Data layer, part 38: the rules. -/
namespace DL
open PySem L2 PySem.Froz
section
variable {Y : Cx} {elt : Expr} {te : TE} {D : Addr}
end
section
variable {X : Cx} {g : G} {elt tg iter : Expr} {ifs : List Expr} {gs : List Comprehension} {scope : Scope} {own : List (PySem.Str × Nat)} {pos : Pos} {c : GDt} {cs : List GDt} {fe : En → Rs D}
end
end DL

/-! Data layer, part 39: [*xs, e, ..]. -/
namespace DL
open PySem L2
def stL (f : En → Rs D) (fs : List (En → Rs D)) : En → Rs OV := fun r => (f r).bind fun d r1 =>
  match d with
  | .lst xs => (evs fs r1).bind fun ds r2 => if (xs ++ ds).length ≤ 1000 then .ok (.ow (xs ++ ds)) r2 else .bad
  | _ => .bad
section
variable {X : Cx} {g : G} {e : Expr} {es : List Expr} {f : En → Rs D} {fs : List (En → Rs D)} {p pos : Pos}
end
end DL

/-! Data layer, part 40: a, b = x, y where both names own what they get. -/
namespace DL
open PySem L2
section
variable {X : Cx} {g : G} {a b : Expr} {pos pt pt2 px py : Pos} {x y : Str} {kt k2 i j : Nat}
def par2o (i j : Nat) (f h : En → Rs OV) : En → SRs := fun r => thenS (f r) fun o r1 => thenS (h r1).noE fun o2 r2 => .nx ((r2.set i (some o)).set j (some o2))
/-- an owned value w that is not a, where slot i gets the list at a -/
theorem RV.setOw {K : PySem.W.Frag} {F H : Hp} {s : St} {r : En} {w : V} {o : OV} {p : Addr} {q : HO} {xs : List D} {i : Nat} (hw : RV K (g.more p q) F H s r w o) : RV K g F H (s.set i (some (.ref p))) (r.set i (some (.ow xs))) w o := by
  cases o with
  | sh d' => exact hw
  | ow ys =>
    obtain ⟨a, vs, e1, e2, e3, e4, e5, e6, e7⟩ := hw
    have hpa : p ≠ a := e7 (p, q) (List.mem_cons_self ..)
    refine ⟨a, vs, e1, e2, e3, e4, e5, fun k u ek eo => ?_, fun z hz => e7 z (List.mem_cons_of_mem _ hz)⟩
    by_cases hk : i = k
    · subst hk
      by_cases hi : i < s.length
      · rw [List.getElem?_set_self hi]
        intro z
        cases z
        exact hpa rfl
      · rw [List.getElem?_eq_none (by simpa using hi)]
        intro z
        cases z
    · rw [List.getElem?_set_ne hk] at ek ⊢
      exact e6 k u ek eo
  | od ys => exact hw.elim
  | oi c ys => exact hw.elim
  | th ys => exact hw.elim
  | exc c => exact hw.elim
end
end DL

/-! Data layer, part 41: defs that may raise, their calls. -/
namespace DL
open PySem L2
/-- what a def that may raise gives -/
inductive FR where
  | ok (o : OV)
  | ex (x : Exn)
  | bad
/-- what is wished of errors is taken -/
def TkG (X : Cx) (g : G) : Prop := ∀ W, g.W = some W → Takes X W
theorem TkG.none {X : Cx} {g : G} (h : g.W = none) : TkG X g := fun W e => by rw [h] at e; cases e
/-- the wish at the slots σ -/
def WG (g : G) (σ : St) : XK := fun cls d H => match g.W with
  | none => False
  | some W => W cls d σ H
theorem passG {X : Cx} {g : G} (tk : TkG X g) (σ : St) : PassesAt (L2.CX X.prog X.w) X σ (WG g σ) := by
  cases e : g.W with
  | none =>
    intro pins H s er s' I h
    obtain ⟨_, _, _, _, _, _, _, _, _, _, _, _, z⟩ := h
    unfold WG at z
    rw [e] at z
    exact z.elim
  | some W =>
    have h := passAt (tk W e) σ
    intro pins H s er s' I hc
    refine h pins H s er s' I ?_
    obtain ⟨a, B, H', cls, d, h1, h2, h3, h4, h5, h6, h7, h8⟩ := hc
    refine ⟨a, B, H', cls, d, h1, h2, h3, h4, h5, h6, h7, ?_⟩
    unfold WG at h8
    rw [e] at h8
    exact h8
/-- what is wanted of a def's result -/
def QX (K : PySem.W.Frag) (F H : Hp) (Q : VK) (E : XK) : FR → Prop
  | .ok o => ∀ F' H' v, Same F F' → Same F' H' → Fresh F F' H → Same H H' → RVf K F' H' H v o → Q v H'
  | .ex x => ∀ F' H' cls d, Same F F' → Same F' H' → Fresh F F' H → Same H H' → RX K F' cls d x → E cls d H'
  | .bad => False
def spX (K : PySem.W.Frag) (n : Nat) (f : List D → FR) : Sp := fun vs H Q E => ∃ F ds, Same F H ∧ RDs K F vs ds ∧ ds.length = n ∧ QX K F H Q E (f ds)
section
variable {P : Program} {w : World} {K : PySem.W.Frag} {mg : Str → Option Value} {base : Heap}
end
structure HasX (P : Program) (w : World) (K : PySem.W.Frag) (mg : Str → Option Value) (base : Heap) (k : Nat) (x : Str) (n : Nat) (f : List D → FR) : Prop where
  ex : ∃ fa fd ps, FnG P w K mg base (L2.CX P w) k fa fd ps (spX K n f) ∧ mg x = some (.ref fa) ∧ PySem.W.keepIn K (.ref fa) = true ∧ Binds K fd ps []
/-- a result handed on -/
def frR (z : FR) (r : En) : Rs OV := match z with
  | .ok o => .ok o r
  | .ex x => .ex x r
  | .bad => .bad
def callX (n : Nat) (f : List D → FR) (fs : List (En → Rs D)) : En → Rs OV := fun r => (evs fs r).bind fun ds r1 => if ds.length = n then frR (f ds) r1 else .bad
/-- behind a call that changed nothing that was there -/
theorem Rel.after {K : PySem.W.Frag} {g : G} {F1 H1 F' H' : Hp} {s : St} {r1 : En} (R1 : Rel K g F1 H1 s r1) (s1 : Same F1 F') (s2 : Same F' H') (fr : Fresh F1 F' H1) (s3 : Same H1 H') : Rel K g F' H' s r1 := by
  have fn : ∀ {a : Addr} {u : HO}, F1 a = none → H1 a = some u → F' a = none := fun {a u} z1 z2 => by
    cases z : F' a with
    | none => rfl
    | some o' => rw [fr a o' z z1] at z2; cases z2
  refine ⟨s2, R1.f0.trans s1, fun b u e e0 => ?_, fun b u e hb ht => s3 _ _ (R1.keep b u e hb ht), fun i u e => ?_, R1.own, R1.dist, R1.pin, R1.len, R1.tb.call s1 s3 fr, fun q hq => ?_⟩
  · cases z : F1 b with
    | some u' => exact R1.fnew b u' z e0
    | none => exact R1.live (fr b u e z)
  · obtain ⟨w, a1, a2⟩ := R1.slot i u e
    exact ⟨w, a1, RO.mono s1 (fun a vs ew e2 e3 => ⟨fn e2 e3, s3 _ _ e3⟩) a2⟩
  · obtain ⟨x1, x2, x3⟩ := R1.ext q hq
    exact ⟨s3 _ _ x1, fn x2 x1, x3⟩
theorem RVf.rv {K : PySem.W.Frag} {g : G} {F1 H1 F' H' : Hp} {s : St} {r1 : En} {v : V} {o : OV} (R1 : Rel K g F1 H1 s r1) (hv : RVf K F' H' H1 v o) : RV K g F' H' s r1 v o := by
  cases o with
  | sh d => exact hv
  | ow xs =>
    obtain ⟨a, us, e1, e2, e3, e4, e5⟩ := hv
    exact ⟨a, us, e1, e2, e3, e4, R1.live e5, fun j o e eo => not_own R1 e5 j o e eo, fun q hq z => by have := (R1.ext q hq).1; rw [z, e5] at this; cases this⟩
  | od xs => exact hv.elim
  | oi c xs => exact hv.elim
  | th xs => exact hv.elim
  | exc c => exact hv.elim
/-- the promise of a callee, by what is wanted of the call -/
theorem QX.of {K : PySem.W.Frag} {g : G} {F F1 H1 : Hp} {s : St} {r1 : En} {Q : VK} {z : FR} (R1 : Rel K g F1 H1 s r1) (sm : Same F F1) (q : post K g (PO K g F s Q) (frR z r1)) : QX K F1 H1 Q (WG g s) z := by
  cases z with
  | ok o => exact fun F' H' v s1 s2 fr s3 hv => q F' H' v (sm.trans s1) (R1.after s1 s2 fr s3) (hv.rv R1)
  | ex x =>
    intro F' H' cls d s1 s2 fr s3 hx
    have q : exW K g x r1 := q
    unfold exW at q
    unfold WG
    revert q
    cases g.W with
    | none => exact fun q => q
    | some W => exact fun q => q F' H' s cls d (R1.after s1 s2 fr s3) hx
  | bad => exact q
section
variable {X : Cx} {CX : CXT} {k : Nat} {f : Addr} {fd : FuncData} {ps : List Str} {sp : Sp} {E : St → XK} {x : Str} {p pos : Pos} {e : Expr} {es : List Expr} {t : TA}
theorem runGS {pins : List (Addr × Obj)} {σ : St} {H : Hp} {s : Shared} {Q : VK} {us : List Value} {vs : List V} (F : FnG X.prog X.w X.K X.mg X.base CX k f fd ps sp) (hgd : X.A.guards = some []) (hr : Room k X.A) (hb : Binds X.K fd ps []) (hx : PassesAt CX X σ (E σ))
    (I : Inv X pins σ H s) (r : Vals vs us) (h : sp vs H Q (E σ)) : wpAny (model X.prog X.w) X.A (call (.ref f) us) (EP X pins σ Q) X.xe s := by
  have bl := hb s us I.kIn (by rw [List.append_nil, ← r.length]; exact F.len _ _ _ _ h)
  rw [List.append_nil] at bl
  refine wpAny_call (codeAny_mono (F.run X.A X.stack s H ⟨us, []⟩ us vs Q (E σ) hgd hr I.env0 bl r h) ?_)
  intro res s2 hq
  cases res with
  | error er => exact hx pins H s er s2 I hq
  | ok fl =>
    cases fl with
    | ret u => exact I.after hq
    | next => cases hq
    | brk => cases hq
    | cont => cases hq
end
section
variable {X : Cx} {g : G} {k n : Nat} {x : Str} {p pos : Pos} {e : Expr} {es : List Expr}
end
end DL

/-! Data layer, part 42: raise C(e), C an error class whose __init__ stores its one argument. -/
namespace DL
open PySem L2
/-- __init__(self, p): self.f = p -/
def spEI (K : PySem.W.Frag) (f : Str) : Sp := fun vs H Q _ => ∃ (a C : Addr) (y : V), vs = [.ref a, y] ∧ OexC K C ∧ PySem.W.findIn K (.ref C) f = some none ∧ H a = some (exo a C none) ∧ ∀ dx, H dx = none → dx ≠ a → Q .non (L2.upd (L2.upd H dx (exd dx [(f, y)])) a (exo a C (some dx)))
section
variable {P : Program} {w : World} {K : PySem.W.Frag} {mg : Str → Option Value} {base : Heap}
theorem errInit_ok {x qual par fld : Str} {st : Stmt} {f : Addr} {fd : FuncData} {p1 p2 p3 pos : Pos} (F : Fun K x qual st f fd) (S : FnScope ["self", par] ["self", par] (defScope st)) (hb : defBody st = [.Assign [.Attribute (.Name "self" p1) fld p2] (.Name par p3) pos])
    (hv0 : ∀ (cdv : Value) (A : Around) (outer : List Env) (s : Shared) (H : Hp) (E : XK), PE (cxOf CX0 P w K mg base ["self", par] qual (defScope st) f cdv A outer s H E).nox (.Name "self" p1) (tVar 0)) (hv1 : ∀ (cdv : Value) (A : Around) (outer : List Env) (s : Shared) (H : Hp) (E : XK), PE (cxOf CX0 P w K mg base ["self", par] qual (defScope st) f cdv A outer s H E).nox (.Name par p3) (tVar 1))
    (hs : ∀ (cdv : Value) (A : Around) (outer : List Env) (s : Shared) (H : Hp) (E : XK), swapsWith (.Name par p3) (some (.Attribute (.Name "self" p1) fld p2)) pos.line (cxOf CX0 P w K mg base ["self", par] qual (defScope st) f cdv A outer s H E).nox.env = pure false) : FnOk P w K mg base CX0 1 f fd ["self", par] (spEI K fld) := by
  refine F.ok S (fun vs H Q E ⟨a, C, y, e, _⟩ => by rw [e]; rfl) fun cdv A outer s H vs Q E hr h => ?_
  obtain ⟨a, C, y, rfl, T, hno, ha, q⟩ := h
  rw [hb]
  exact ⟨_, pss_one (ps_ost (hv0 cdv A outer s H E) (hv1 cdv A outer s H E) (hs cdv A outer s H E)), _, rfl, _, rfl, a, C, rfl, T, hno, .inl ⟨ha, q⟩⟩
end
/-- the error class c with its one attribute f -/
structure HasE (P : Program) (w : World) (K : PySem.W.Frag) (mg : Str → Option Value) (base : Heap) (c f : Str) : Prop where
  ex : ∃ C fI fd ps, mg c = some (.ref C) ∧ ClsAt K c C ∧ OexC K C ∧ PySem.W.findIn K (.ref C) f = some none ∧ PySem.W.findIn K (.ref C) "__init__" = some (some (.ref fI)) ∧ PySem.W.typeIn K (.ref fI) = some (.type "function") ∧ FnOk P w K mg base CX0 1 fI fd ps (spEI K f) ∧ Binds K fd ps []
def raiseS (c f : Str) (fe : En → Rs D) : En → SRs := fun r => thenS (fe r) fun d r1 => .ex ⟨c, [(f, d)]⟩ r1
section
variable {X : Cx} {g : G} {e : Expr} {p pos pos2 : Pos} {c f : Str}
theorem ds_raise {k : Nat} {fe : En → Rs D} (h : HasE X.prog X.w X.K X.mg X.base c f) (hc : X.calm = true) (hr : Room k X.A) (hk : 2 ≤ k) (tk : TkG X g) (he : DE X g e fe) (hg : Gl X c := by rfl) (hdb : (c == ("__debug__" : Str)) = false := by decide)
    (hst : starEach [e] X.env = (false, eval e X.env) :: starEach [] X.env := by rfl) (hpl : (backTo pos (starEach [] X.env)).any (·.1) = false := by rfl) : DS X g (.Raise (some (.Call (.Name c p) [e] [] pos)) none pos2) (raiseS c f fe) := by
  obtain ⟨C, fI, fd, ps, hm, hcl, T, hno, iC, tI, F1, hb⟩ := h.ex
  have hr2 : Room (1 + 1) X.A := hr.mono hk
  have main : ∀ W : WX, Takes X W → (∀ r x, exW X.K g x r → ∀ F' H' s' cls d, Rel X.K g F' H' s' r → RX X.K F' cls d x → W cls d s' H') → DS X g (.Raise (some (.Call (.Name c p) [e] [] pos)) none pos2) (raiseS c f fe) := by
    intro W tW hW
    refine PS.imp (ps_raise hc tW (pmk_oex (dvs := []) (ds := []) T iC tI F1 hr2 hb .nil pass0 hg hm (pa_cons he pa_nil hst) hdb hst hpl)) fun E s H ⟨Fz, r, R, q⟩ => ⟨Fz, r, R, post_mono (post_then q) fun d r1 q F1 H1 v sm R1 hv => ?_⟩
    refine ⟨by show 1 ≤ 1000; decide, fun a na => ⟨a, C, v, rfl, T, hno, upd_same, fun dx ndx hne => ?_⟩⟩
    rw [upd_ne hne] at ndx
    refine ⟨rfl, dx, [(f, v)], upd_same, by rw [upd_ne hne, upd_same], ndx, ?_⟩
    have eH : L2.upd (del (L2.upd (L2.upd (L2.upd H1 a (exo a C none)) dx (exd dx [(f, v)])) a (exo a C (some dx))) a) dx (.xd [(f, v)]) = L2.upd H1 dx (.xd [(f, v)]) := by
      funext b
      by_cases hb : b = dx
      · rw [hb, upd_same, upd_same]
      · rw [upd_ne hb, upd_ne hb]
        by_cases ha : b = a
        · rw [ha, del_same, na]
        · rw [del_ne ha, upd_ne ha, upd_ne hb, upd_ne ha]
    rw [eH]
    have sF : Same F1 (L2.upd F1 dx (.xd [(f, v)])) := same_upd (R1.ff ndx)
    exact hW r1 _ q _ _ s (.ref C) (some dx) (R1.alloc ndx) ⟨C, rfl, hcl, .inr ⟨dx, [(f, v)], rfl, upd_same, .cons (RD.mono sF d hv) .nil⟩⟩
  cases eW : g.W with
  | none => exact main (fun _ _ _ _ => False) takes0 fun r x z => by unfold exW at z; rw [eW] at z; exact z.elim
  | some W => exact main W (tk W eW) fun r x z F' H' s' cls d R' hx => by unfold exW at z; rw [eW] at z; exact z F' H' s' cls d R' hx
end
end DL

/-! Data layer, part 43: try .. except C as n; isinstance(n, C), n.f in its suite. -/
namespace DL
open PySem L2
/-- no slot holds an error -/
def noX (r : En) : Bool := r.all fun o => match o with
  | some (.exc _) => false
  | _ => true
def tryS (ct : Str → Option Bool) (i : Nat) (fb fs : En → SRs) : En → SRs := fun r => match fb r with
  | .ex x r1 => match ct x.c with
    | some true => match fs (r1.set i (some (.exc x))) with
      | .nx r2 => if noX (r2.set i none) = true then .nx (r2.set i none) else .bad
      | .rt o r2 => if noX (r2.set i none) = true then .rt o (r2.set i none) else .bad
      | .bk r2 => if noX (r2.set i none) = true then .bk (r2.set i none) else .bad
      | .ct r2 => if noX (r2.set i none) = true then .ct (r2.set i none) else .bad
      | .ex _ _ => .bad
      | .bad => .bad
    | some false => .ex x r1
    | none => .bad
  | y => y
structure Tri (g g' : G) : Prop where
  B : g'.B = g.B
  w : g'.w = g.w
  xc : g'.xc = g.xc
structure Sui (g g' : G) (a : Addr) (cls : Value) (d : Option Addr) : Prop where
  B : g'.B = g.B
  w : g'.w = g.w
  W : g'.W = none
  xc : g'.xc = some (a, cls, d)
/-- with the error that is handled -/
def G.hnd (g : G) (a : Addr) (cls : Value) (d : Option Addr) : G := { g with W := none, xc := some (a, cls, d) }
section
variable {K : PySem.W.Frag} {g : G} {F H : Hp} {s : St} {r : En} {i : Nat} {a : Addr} {cls : Value} {d : Option Addr} {x : Exn}
end
section
variable {X : Cx} {g : G} {xn n : Str} {cv : Value} {i : Nat} {body suite : List Stmt} {b₀ : Stmt} {np pos pos' : Pos} {fb fs : En → SRs} {ct : Str → Option Bool}
/-! ### in the suite -/
def isxD (i : Nat) (t : Str → Option Bool) : En → Rs D := fun r => match r[i]? with
  | some (some (.exc x)) => ofO ((t x.c).map D.bl) r
  | _ => .bad
theorem RDf.look {K : PySem.W.Frag} {F : Hp} {f : Str} {d : D} : ∀ {vs : List (Str × V)} {ds : List (Str × D)}, RDf K F vs ds → ds.lookup f = some d → ∃ v, vs.lookup f = some v ∧ RD K F v d
  | _, [], h, e => by cases e
  | _, (k, d') :: ds, h, e => by
    cases h with
    | cons h1 h2 =>
      rw [List.lookup_cons] at e
      rw [List.lookup_cons]
      cases hk : f == k with
      | true =>
        simp only [hk] at e
        cases e
        exact ⟨_, rfl, h1⟩
      | false =>
        simp only [hk] at e
        exact RDf.look h2 e
variable {a : Addr} {oe : Obj} {cls : Value} {d : Option Addr} {pn : List (Addr × Obj)} {g' : G} {p : Pos}
def xfD' (i : Nat) (f : Str) (cs : List Str) : En → Rs D := fun r => match r[i]? with
  | some (some (.exc x)) => if x.c ∈ cs then ofO (x.fs.lookup f) r else .bad
  | _ => .bad
end
end DL

/-! Data layer, part 44: instances: __init__, C(e, ..), self.f = e, o.f. -/
namespace DL
open PySem L2
theorem ClsAt.inj {K : PySem.W.Frag} {c : Str} {C C' : Addr} (h : ClsAt K c C) (h' : ClsAt K c C') : C = C' := by
  unfold ClsAt at h h'
  rw [h] at h'
  cases h'
  rfl
/-- the attribute f of instances of c is read and stored plainly -/
def FldOk (K : PySem.W.Frag) (c f : Str) : Prop := ∀ C, ClsAt K c C → Cls K C ∧ NoAttr K C f
theorem FldOk.of {K : PySem.W.Frag} {c f : Str} {C : Addr} (h : ClsAt K c C) (h1 : Cls K C) (h2 : NoAttr K C f) : FldOk K c f := fun C' h' => by
  cases h.inj h'
  exact ⟨h1, h2⟩
/-! ### __init__ -/
inductive FI where
  | ok (fs : List (Str × D))
  | ex (x : Exn)
  | bad
def oiAt (c : Str) (r : En) : FI := match r[0]? with
  | some (some (OV.oi c' fs)) => if c' = c then .ok fs else .bad
  | _ => .bad
def fnI (n : Nat) (c : Str) (m : En → SRs) : List D → FI := fun ds => match m (startE n (.oi c [] :: ds.map OV.sh)) with
  | .nx r => oiAt c r
  | .ex x _ => .ex x
  | _ => .bad
def QI (K : PySem.W.Frag) (c : Str) (F H : Hp) (a : Addr) (Q : VK) (E : XK) : FI → Prop
  | .ok fs => ∀ F' H' C dx vs, Same F F' → Same F' H' → Fresh F F' H → (∀ b o, H b = some o → b ≠ a → H' b = some o) → F' a = none → H' a = some (.ins C dx vs) → ClsAt K c C → RDf K F' vs fs → Q .non H'
  | .ex x => ∀ F' H' cls d, Same F F' → Same F' H' → Fresh F F' H → (∀ b o, H b = some o → b ≠ a → H' b = some o) → RX K F' cls d x → E cls d H'
  | .bad => False
def spI (K : PySem.W.Frag) (c : Str) (n : Nat) (f : List D → FI) : Sp := fun vs H Q E => ∃ F a C dx ws ds, vs = .ref a :: ws ∧ Same F H ∧ F a = none ∧ H a = some (.ins C dx []) ∧ ClsAt K c C ∧ RDs K F ws ds ∧ ds.length = n ∧ QI K c F H a Q E (f ds)
section
variable {K : PySem.W.Frag} {F H : Hp} {w : World} {W : Option WX}
theorem relI {N : List Str} {c : Str} {a C dx : Addr} {ws : List V} {ds : List D} (sub : Same F H) (fa : F a = none) (ha : H a = some (.ins C dx [])) (hc : ClsAt K c C) (h : RDs K F ws ds) :
    Rel K ⟨F, H, [(0, a)], [], w, W, none, []⟩ F H (start N (.ref a :: ws)) (startE N.length (.oi c [] :: ds.map OV.sh)) := by
  have nown : ∀ (i : Nat) (o : OV), (startE N.length (.oi c [] :: ds.map OV.sh))[i]? = some (some o) → (i = 0 ∧ o = .oi c []) ∨ ∃ j d, i = j + 1 ∧ ds[j]? = some d ∧ o = .sh d := fun i o e => by
    have q := startE_get e
    cases i with
    | zero => cases q; exact .inl ⟨rfl, rfl⟩
    | succ j =>
      have q : (ds.map OV.sh)[j]? = some o := q
      rw [List.getElem?_map] at q
      obtain ⟨d, q1, q2⟩ := Option.map_eq_some_iff.mp q
      exact .inr ⟨j, d, rfl, q1, q2.symm⟩
  have s0 : (start N (.ref a :: ws))[0]? = some (some (.ref a)) := start_get rfl
  refine ⟨sub, Same.refl _, fun b o e z => ?_, fun b o e _ _ => e, fun i o e => ?_, fun i o b e eo es => ?_, fun i j o u b hij e eo e' eo' => ?_, fun p hp => ?_, start_len N (.ref a :: ws) (.oi c [] :: ds.map OV.sh) (by simp [h.length]), fun p hp => (nomatch hp), fun p hp => by cases hp⟩
  · have z : F b = none := z
    rw [z] at e; cases e
  · rcases nown i o e with ⟨rfl, rfl⟩ | ⟨j, d, rfl, h1, rfl⟩
    · exact ⟨_, s0, a, (C, dx, []), rfl, fa, ha, hc, .nil⟩
    · obtain ⟨v, h2, h3⟩ := h.get h1
      exact ⟨v, start_get (i := j + 1) h2, h3⟩
  · rcases nown i o e with ⟨rfl, rfl⟩ | ⟨j, d, rfl, h1, rfl⟩
    · rw [s0] at es
      cases es
      exact .inr (List.mem_singleton.mpr rfl)
    · cases eo
  · rcases nown i o e with ⟨rfl, rfl⟩ | ⟨j, d, rfl, h1, rfl⟩
    · rcases nown j u e' with ⟨rfl, rfl⟩ | ⟨k, d, rfl, h1, rfl⟩
      · exact absurd rfl hij
      · cases eo'
    · cases eo
  · have hp := List.mem_singleton.mp hp
    subst hp
    exact ⟨s0, .oi c [], by unfold startE; rfl, rfl⟩
/-- a slot's instance is changed -/
theorem Rel.chgOi {g : G} {s : St} {r : En} {i : Nat} {c : Str} {fs fs' : List (Str × D)} {a : Addr} {xs xs' : Addr × Addr × List (Str × V)} (R : Rel K g F H s r) (e : r[i]? = some (some (.oi c fs))) (hs : s[i]? = some (some (.ref a))) (fa : F a = none) (ha : H a = some (OiO xs)) (hv : RDi K c F xs' fs') :
    Rel K g F (L2.upd H a (OiO xs')) s (r.set i (some (.oi c fs'))) := by
  have hi : i < r.length := (List.getElem?_eq_some_iff.mp e).1
  have cs : ∀ (j : Nat) (u : OV), (r.set i (some (.oi c fs')))[j]? = some (some u) → (j = i ∧ u = .oi c fs') ∨ (j ≠ i ∧ r[j]? = some (some u)) := fun j u z => by
    by_cases hj : i = j
    · subst hj
      rw [List.getElem?_set_self hi] at z
      cases z
      exact .inl ⟨rfl, rfl⟩
    · rw [List.getElem?_set_ne hj] at z
      exact .inr ⟨fun z => hj z.symm, z⟩
  have ow1 : ∀ (j : Nat) (u : OV), (r.set i (some (.oi c fs')))[j]? = some (some u) → u.own = true → ∃ u', r[j]? = some (some u') ∧ u'.own = true := fun j u z zo => by
    rcases cs j u z with ⟨rfl, rfl⟩ | ⟨_, z'⟩
    · exact ⟨_, e, rfl⟩
    · exact ⟨u, z', zo⟩
  have ao : g.H0 a = none ∨ (i, a) ∈ g.B := R.own i _ a e rfl hs
  refine ⟨fun b u z => ?_, R.f0, R.fnew, fun b u z hb ht => ?_, fun j u z => ?_, fun j u b z zo zb => ?_, fun j k u w b hjk z zo y yo => ?_, fun p hp => ?_, by rw [List.length_set]; exact R.len, R.tb.at (R.tb.tno ao), fun p hp => ?_⟩
  · rw [upd_ne fun q => by rw [q, fa] at z; cases z]
    exact R.sub b u z
  · rw [upd_ne fun q => ?_]
    · exact R.keep b u z hb ht
    · subst q
      rcases ao with q | q
      · rw [q] at z; cases z
      · exact hb _ q rfl
  · rcases cs j u z with ⟨rfl, rfl⟩ | ⟨hj, z'⟩
    · exact ⟨_, hs, a, xs', rfl, fa, upd_same, hv⟩
    · obtain ⟨v, h1, h2⟩ := R.slot j u z'
      refine ⟨v, h1, ?_⟩
      cases u with
      | sh d => exact h2
      | exc x => exact h2
      | ow ys =>
        obtain ⟨b, ws, rfl, f2, f3, f4⟩ := h2
        have hb : b ≠ a := fun q => R.dist j i _ _ a hj z' rfl e rfl (by rw [h1, q]) hs
        exact ⟨b, ws, rfl, f2, by rw [upd_ne hb]; exact f3, f4⟩
      | od ys =>
        obtain ⟨b, ws, rfl, f2, f3, f4⟩ := h2
        have hb : b ≠ a := fun q => R.dist j i _ _ a hj z' rfl e rfl (by rw [h1, q]) hs
        exact ⟨b, ws, rfl, f2, by rw [upd_ne hb]; exact f3, f4⟩
      | oi c2 ys =>
        obtain ⟨b, ws, rfl, f2, f3, f4⟩ := h2
        have hb : b ≠ a := fun q => R.dist j i _ _ a hj z' rfl e rfl (by rw [h1, q]) hs
        exact ⟨b, ws, rfl, f2, by rw [upd_ne hb]; exact f3, f4⟩
      | th ys =>
        obtain ⟨b, ws, rfl, f2, f3, f4⟩ := h2
        have hb : b ≠ a := fun q => R.dist j i _ _ a hj z' rfl e rfl (by rw [h1, q]) hs
        exact ⟨b, ws, rfl, f2, by rw [upd_ne hb]; exact f3, f4⟩
  · obtain ⟨u', h1, h2⟩ := ow1 j u z zo
    exact R.own j u' b h1 h2 zb
  · obtain ⟨u', h1, h2⟩ := ow1 j u z zo
    obtain ⟨w', h3, h4⟩ := ow1 k w y yo
    exact R.dist j k u' w' b hjk h1 h2 h3 h4
  · obtain ⟨p1, u, p2, p3⟩ := R.pin p hp
    refine ⟨p1, ?_⟩
    by_cases hj : i = p.1
    · exact ⟨.oi c fs', by rw [← hj]; exact List.getElem?_set_self hi, rfl⟩
    · exact ⟨u, by rw [List.getElem?_set_ne hj]; exact p2, p3⟩
  · obtain ⟨x1, x2, x3⟩ := R.ext p hp
    refine ⟨by rw [upd_ne fun q => x3 i _ e rfl (by rw [hs, q])]; exact x1, x2, fun j u z zo => ?_⟩
    obtain ⟨u', h1, h2⟩ := ow1 j u z zo
    exact x3 j u' h1 h2
end
section
variable {P : Program} {w : World} {K : PySem.W.Frag} {mg : Str → Option Value} {base : Heap}
theorem fnI_ok {x qual c : Str} {st : Stmt} {f : Addr} {fd : FuncData} {N : List Str} {p0 : Str} {ps : List Str} {k n np : Nat} {m : En → SRs} (F : Fun K x qual st f fd) (S : FnScope N (p0 :: ps) (defScope st)) (en : N.length = n) (ep : ps.length = np)
    (hbody : ∀ (cdv : Value) (A : Around) (outer : List Env) (s : Shared) (H : Hp) (E : XK) (g : G), A.guards = some [] → Room k (A.deeper (PyProof.Rows.envOfC qual (defScope st) s.heap.objs.size f cdv)) → g.B.map (·.1) = [0] → g.w = w → g.xc = none →
      TkG (cxOf (L2.CX P w) P w K mg base N qual (defScope st) f cdv A outer s H E) g → PassesOwn (model P w) (cxOf (L2.CX P w) P w K mg base N qual (defScope st) f cdv A outer s H E).A (cxOf (L2.CX P w) P w K mg base N qual (defScope st) f cdv A outer s H E).env (cxOf (L2.CX P w) P w K mg base N qual (defScope st) f cdv A outer s H E).xe →
      DSs (cxOf (L2.CX P w) P w K mg base N qual (defScope st) f cdv A outer s H E) g (defBody st) m) : FnG P w K mg base (L2.CX P w) (k + 1) f fd (p0 :: ps) (spI K c np (fnI n c m)) := by
  subst en ep
  refine fnG_of F S (fun vs H Q E ⟨F, a, C, dx, ws, ds, e, _, _, _, _, h, hl, _⟩ => by rw [e, List.length_cons, List.length_cons, h.length, hl]) fun cdv A outer s H vs Q E hg hr hsp => ?_
  obtain ⟨Fz, a, C, dx, ws, ds, rfl, sub, fa, ha, hcl, h, hl, q⟩ := hsp
  have tk : Takes (cxOf (L2.CX P w) P w K mg base N qual (defScope st) f cdv A outer s H E) (fun cls d _ H => E cls d H) := takes_of rfl rfl rfl rfl
  refine ⟨_, hbody cdv A outer s H E ⟨Fz, H, [(0, a)], [], w, some (fun cls d _ H => E cls d H), none, []⟩ hg hr rfl rfl rfl (fun W e => by cases e; exact tk) (passes_of rfl), Fz, startE N.length (.oi c [] :: ds.map OV.sh), relI sub fa ha hcl h, ?_⟩
  have kp : ∀ {F' H' : Hp} {s' : St} {r' : En}, Rel K ⟨Fz, H, [(0, a)], [], w, some (fun cls d _ H => E cls d H), none, []⟩ F' H' s' r' → ∀ b o, H b = some o → b ≠ a → H' b = some o := fun {F' H' s' r'} R' b o e hb => R'.keep b o e (fun p hp => by
    have hp := List.mem_singleton.mp hp
    subst hp
    exact fun z => hb z.symm) fun p hp => by cases hp
  unfold fnI at q
  revert q
  cases m (startE N.length (.oi c [] :: ds.map OV.sh)) with
  | nx r' =>
    intro q F' H' s' sm R'
    obtain ⟨p1, u, p2, p3⟩ := R'.pin (0, a) (List.mem_singleton.mpr rfl)
    have p2 : r'[0]? = some (some u) := p2
    have q : QI K c Fz H a Q E (oiAt c r') := q
    unfold oiAt at q
    rw [p2] at q
    cases u with
    | oi c2 fs =>
      obtain ⟨v, h1, b, xs, rfl, h2, h3, h4⟩ := R'.slot 0 _ p2
      have p1 : s'[0]? = some (some (.ref a)) := p1
      rw [p1] at h1
      cases h1
      obtain ⟨C2, dx2, vs2⟩ := xs
      simp only at q
      by_cases hc2 : c2 = c
      · rw [if_pos hc2] at q
        subst hc2
        exact q F' H' C2 dx2 vs2 sm R'.sub (fun b o e e0 => R'.fnew b o e e0) (kp R') h2 h3 h4.1 h4.2
      · rw [if_neg hc2] at q
        exact q.elim
    | _ => exact q.elim
  | rt o r' => exact fun q => q.elim
  | bk r' => exact fun q => q.elim
  | ct r' => exact fun q => q.elim
  | bad => exact fun q => q.elim
  | ex x r' =>
    intro q
    suffices hh : exW K ⟨Fz, H, [(0, a)], [], w, some (fun cls d _ H => E cls d H), none, []⟩ x r' from hh
    intro F' H' s' cls d R' hx
    exact q F' H' cls d R'.f0 R'.sub (fun b o e e0 => R'.fnew b o e e0) (kp R') hx
end
/-! ### self.f = e, o.f -/
def putFd (f : Str) (d : D) : List (Str × D) → List (Str × D)
  | [] => [(f, d)]
  | (g, x) :: r => if g = f then (g, d) :: r else (g, x) :: putFd f d r
theorem RDf.put {K : PySem.W.Frag} {F : Hp} {f : Str} {v : V} {d : D} (hv : RD K F v d) : ∀ {vs : List (Str × V)} {ds : List (Str × D)}, RDf K F vs ds → RDf K F (L2.putF f v vs) (putFd f d ds)
  | _, [], h => by cases h; exact .cons hv .nil
  | _, (k, d') :: ds, h => by
    cases h with
    | cons h1 h2 =>
      unfold L2.putF putFd
      split
      · exact .cons hv h2
      · exact .cons h1 (RDf.put hv h2)
theorem RDf.length {K : PySem.W.Frag} {F : Hp} : ∀ {vs : List (Str × V)} {ds : List (Str × D)}, RDf K F vs ds → vs.length = ds.length
  | _, [], h => by cases h; rfl
  | _, (k, d') :: ds, h => by
    cases h with
    | cons h1 h2 => rw [List.length_cons, List.length_cons, RDf.length h2]
def fldS (i : Nat) (c f : Str) (fe : En → Rs D) : En → SRs := fun r => thenS (fe r) fun d r1 => match r1[i]? with
  | some (some (OV.oi c' fs)) => if c' = c ∧ fs.length < 900 then .nx (r1.set i (some (.oi c (putFd f d fs)))) else .bad
  | _ => .bad
def semFld (c f : Str) : D → Option D
  | .obj c' fs => if c' = c then fs.lookup f else none
  | _ => none
section
variable {X : Cx} {g : G} {e : Expr} {p pos pos' : Pos} {c f n : Str} {i : Nat}
theorem ds_fld {fe : En → Rs D} (hf : FldOk X.K c f) (hv : PE X (.Name n p) (tVar i)) (he : DE X g e fe) (hs : swapsWith e (some (.Attribute (.Name n p) f pos')) pos.line X.env = pure false := by rfl) : DS X g (.Assign [.Attribute (.Name n p) f pos'] e pos) (fldS i c f fe) :=
  PS.imp (ps_fld hv he hs) fun E s H ⟨F, r, R, q⟩ => ⟨F, r, R, post_mono (post_then q) fun d r1 q F1 H1 v sm R1 hvd => by
    revert q
    split
    · next c' fs e1 =>
      by_cases hc : c' = c ∧ fs.length < 900
      · rw [if_pos hc]
        intro q
        obtain ⟨hc, hl⟩ := hc
        subst hc
        obtain ⟨w, h1, a, ⟨C, dx, vs⟩, rfl, h2, h3, h4, h5⟩ := R1.slot i _ e1
        obtain ⟨k1, k2⟩ := hf C h4
        exact ⟨_, h1, a, C, dx, vs, rfl, h3, k1, k2, by rw [h5.length]; omega, q F1 _ s sm (R1.chgOi (xs' := (C, dx, L2.putF f v vs)) e1 h1 h2 h3 ⟨h4, RDf.put hvd h5⟩)⟩
      · rw [if_neg hc]
        exact fun q => q.elim
    · exact fun q => q.elim⟩
theorem de_fld {op : Opd} (hf : FldOk X.K c f) (he : DB X g e op) (hb : attributeBase e f X.env (eval e X.env) = eval e X.env := by rfl) : DE X g (.Attribute e f pos) (op1 op (semFld c f)) :=
  PE.imp (pe_fld he hb) fun s H Q h => by
    obtain ⟨F, r, R, h⟩ := h
    refine ⟨F, r, R, post_mono (post_bind h) fun z r1 q F1 H1 v sm R1 hv => ?_⟩
    obtain ⟨d, e1, q9⟩ := post_ofO q
    obtain ⟨dx, e2, e3⟩ := Option.bind_eq_some_iff.mp e1
    have hb := look_ok R1 hv e2
    cases dx with
    | obj c' fs =>
      have e4 : (if c' = c then fs.lookup f else none) = some d := e3
      by_cases hc : c' = c
      · rw [if_pos hc] at e4
        subst hc
        cases hb.flat (fun _ => nofun) with
        | obj k1 k2 k3 =>
          obtain ⟨w, l1, l2⟩ := RDf.look k3 e4
          obtain ⟨m1, m2⟩ := hf _ k1
          exact ⟨_, _, _, _, w, rfl, R1.sub _ _ k2, m1, m2, l1, q9 F1 H1 w sm R1 l2⟩
        | it k => cases e4
      · rw [if_neg hc] at e4
        cases e4
    | _ => cases e3
/-- the attribute of an instance that a slot owns -/
def fldO (i : Nat) (c f : Str) : En → Rs D := fun r => match r[i]? with
  | some (some (OV.oi c' fs)) => if c' = c then ofO (fs.lookup f) r else .bad
  | _ => .bad
end
end DL

/-! Data layer, part 45: C(e, ..), o.m(e, ..), properties. -/
namespace DL
open PySem L2
section
variable {K : PySem.W.Frag} {g : G} {F1 H1 F' H' : Hp} {s : St} {r1 : En} {a : Addr}
/-- behind a call that changed nothing that was there but what stands at a, which is nobody's -/
theorem Rel.afterB (R1 : Rel K g F1 H1 s r1) (h0 : g.H0 a = none) (ho : ∀ (j : Nat) (o : OV), r1[j]? = some (some o) → o.own = true → s[j]? ≠ some (some (.ref a))) (hX : ∀ p ∈ g.X, p.1 ≠ a)
    (s1 : Same F1 F') (s2 : Same F' H') (fr : Fresh F1 F' H1) (s3 : ∀ b o, H1 b = some o → b ≠ a → H' b = some o) : Rel K g F' H' s r1 := by
  have fn : ∀ {c : Addr} {u : HO}, F1 c = none → H1 c = some u → F' c = none := fun {c u} z1 z2 => by
    cases z : F' c with
    | none => rfl
    | some o' => rw [fr c o' z z1] at z2; cases z2
  refine ⟨s2, R1.f0.trans s1, fun b u e e0 => ?_, fun b u e hb ht => ?_, fun i u e => ?_, R1.own, R1.dist, R1.pin, R1.len, R1.tb.callA s1 s3 fr (R1.tb.tn h0), fun q hq => ?_⟩
  · cases z : F1 b with
    | some u' => exact R1.fnew b u' z e0
    | none => exact R1.live (fr b u e z)
  · exact s3 _ _ (R1.keep b u e hb ht) fun z => by rw [z, h0] at e; cases e
  · obtain ⟨w, a1, a2⟩ := R1.slot i u e
    refine ⟨w, a1, ?_⟩
    by_cases hu : u.own = true
    · refine RO.mono s1 (fun c vs ew e2 e3 => ⟨fn e2 e3, s3 _ _ e3 fun z => ho i u e hu (by rw [a1, ew, z])⟩) a2
    · cases u with
      | sh d => exact RD.mono s1 d a2
      | exc x => exact RE.mono s1 a2
      | ow xs => exact absurd rfl hu
      | od xs => exact absurd rfl hu
      | oi c xs => exact absurd rfl hu
      | th xs => exact absurd rfl hu
  · obtain ⟨x1, x2, x3⟩ := R1.ext q hq
    exact ⟨s3 _ _ x1 (hX q hq), fn x2 x1, x3⟩
/-- what stands at a, nobody's, is frozen -/
theorem Rel.frzA {o : HO} (R : Rel K g F' H' s r1) (h0 : g.H0 a = none) (ho : ∀ (j : Nat) (u : OV), r1[j]? = some (some u) → u.own = true → s[j]? ≠ some (some (.ref a))) (hX : ∀ p ∈ g.X, p.1 ≠ a) (fa : F' a = none) (ha : H' a = some o) : Same F' (L2.upd F' a o) ∧ Rel K g (L2.upd F' a o) H' s r1 := by
  have sF : Same F' (L2.upd F' a o) := same_upd fa
  refine ⟨sF, fun b u e => ?_, R.f0.trans sF, fun b u e e0 => ?_, R.keep, fun i u e => ?_, R.own, R.dist, R.pin, R.len, R.tb.atF (R.tb.tn h0) fa, fun q hq => ⟨(R.ext q hq).1, by rw [upd_ne (hX q hq)]; exact (R.ext q hq).2.1, (R.ext q hq).2.2⟩⟩
  · by_cases hb : b = a
    · subst hb; rw [L2.upd_same] at e; cases e; exact ha
    · rw [upd_ne hb] at e; exact R.sub b u e
  · by_cases hb : b = a
    · subst hb; exact h0
    · rw [upd_ne hb] at e; exact R.fnew b u e e0
  · obtain ⟨v, h1, h2⟩ := R.slot i u e
    refine ⟨v, h1, ?_⟩
    by_cases hu : u.own = true
    · exact RO.mono sF (fun c vs ew e2 e3 => ⟨by rw [upd_ne fun z => ho i u e hu (by rw [h1, ew, z])]; exact e2, e3⟩) h2
    · cases u with
      | sh d => exact RD.mono sF d h2
      | exc x => exact RE.mono sF h2
      | ow xs => exact absurd rfl hu
      | od xs => exact absurd rfl hu
      | oi c xs => exact absurd rfl hu
      | th xs => exact absurd rfl hu
end
/-! ### C(e, ..) -/
structure HasI (P : Program) (w : World) (K : PySem.W.Frag) (mg : Str → Option Value) (base : Heap) (k : Nat) (c : Str) (n : Nat) (f : List D → FI) : Prop where
  ex : ∃ C fa fd ps, FnG P w K mg base (L2.CX P w) k fa fd ps (spI K c n f) ∧ mg c = some (.ref C) ∧ ClsAt K c C ∧ Mk K C fa ∧ Binds K fd ps []
def fiR (c : Str) (z : FI) (r : En) : Rs OV := match z with
  | .ok fs => .ok (.sh (.obj c fs)) r
  | .ex x => .ex x r
  | .bad => .bad
def makeD (c : Str) (n : Nat) (f : List D → FI) (fs : List (En → Rs D)) : En → Rs OV := fun r => (evs fs r).bind fun ds r1 => if ds.length = n then fiR c (f ds) r1 else .bad
section
variable {X : Cx} {CX : CXT} {k : Nat} {f C : Addr} {fd : FuncData} {ps : List Str} {sp : Sp} {E : St → XK} {x m : Str} {p pos apos : Pos} {e o : Expr} {es : List Expr} {t : TA} {ta : TE}
theorem run_makeGS {pins : List (Addr × Obj)} {σ : St} {H : Hp} {s : Shared} {Q : VK} {us : List Value} {vs : List V} (M : Mk X.K C f) (F : FnG X.prog X.w X.K X.mg X.base CX k f fd ps sp) (hgd : X.A.guards = some []) (hr : Room (k + 1) X.A) (hb : Binds X.K fd ps [])
    (hx : PassesAt CX X σ (E σ)) (I : Inv X pins σ H s) (r : Vals vs us)
    (h : ∀ x dx, H x = none → H dx = none → dx ≠ x → sp (.ref x :: vs) (L2.upd (L2.upd H dx (.own x)) x (.ins C dx [])) (fun v H2 => v = .non ∧ Q (.ref x) H2) (E σ)) :
    wpAny (model X.prog X.w) X.A (call (.ref C) us) (EP X pins σ Q) X.xe s := by
  have hq := h (s.heap.objs.size + 1) s.heap.objs.size (I.hok.fresh (Nat.le_succ _)) (I.hok.fresh (Nat.le_refl _)) (Nat.ne_of_lt (Nat.lt_succ_self _))
  have I2 := Inv.made (C := C) I
  have r2 : Vals (V.ref (s.heap.objs.size + 1) :: vs) (Value.ref (s.heap.objs.size + 1) :: us) := .cons rfl r
  have hl : (Value.ref (s.heap.objs.size + 1) :: us).length = ps.length := by
    have e := r2.length
    rw [F.len _ _ _ _ hq] at e
    exact e.symm
  refine wpAny_call (make_map (f := f) I.kIn M.makes M.init (beq_iff_eq.mp M.fn) (codeAny_mono (F.run _ X.stack _ _ ⟨Value.ref (s.heap.objs.size + 1) :: us, []⟩ (Value.ref (s.heap.objs.size + 1) :: us) _ _ (E σ) (by first | exact hgd | rfl) (hr.make C us [])
    (I2.env0.make C us []) (by have z := hb _ (Value.ref (s.heap.objs.size + 1) :: us) I2.kIn (by rw [List.append_nil]; exact hl); rw [List.append_nil] at z; exact z) r2 hq) fun r s' hq' => ?_))
  cases r with
  | error e => exact hx pins _ _ e s' I2 hq'
  | ok fl =>
    cases fl with
    | ret u =>
      obtain ⟨v, H', I3, rv, ev, q3⟩ := I2.after hq'
      subst ev
      exact ⟨rv, ⟨V.ref (s.heap.objs.size + 1), H', I3, rfl, q3⟩⟩
    | next => exact False.elim hq'
    | brk => exact False.elim hq'
    | cont => exact False.elim hq'
theorem pe_makeGS (M : Mk X.K C f) (F : FnG X.prog X.w X.K X.mg X.base CX k f fd ps sp) (hgd : X.A.guards = some []) (hr : Room (k + 1) X.A) (hg : Gl X x) (hm : X.mg x = some (.ref C)) (hb : Binds X.K fd ps []) (hx : ∀ σ, PassesAt CX X σ (E σ))
    (ha : PA X (e :: es) t) (hdb : (x == ("__debug__" : Str)) = false := by decide) (he : starEach (e :: es) X.env = (false, eval e X.env) :: starEach es X.env := by rfl) (hpl : (backTo pos (starEach es X.env)).any (·.1) = false := by rfl) :
    PE X (.Call (.Name x p) (e :: es) [] pos) (fun σ H Q => t σ H fun vs H1 => ∀ x dx, H1 x = none → H1 dx = none → dx ≠ x → sp (.ref x :: vs) (L2.upd (L2.upd H1 dx (.own x)) x (.ins C dx [])) (fun v H2 => v = .non ∧ Q (.ref x) H2) (E σ)) := by
  refine ⟨fun pins s σ H Q I h => ?_⟩
  refine wpAny_Call_Name_kw (ld_glob I hg hm ?_ hdb)
  refine PySem.W.callWith_K (h₀ := X.base) I.ok.mod.kin M.kp (thn (ha.run pos pins s σ H _ I h) fun us s1 ⟨vs, H1, I1, r, q⟩ => ⟨I1.kIn, ?_⟩) he hpl
  exact run_makeGS M F hgd hr hb (hx σ) I1 r q
end
section
variable {X : Cx} {g : G} {k n : Nat} {c m : Str} {p pos apos : Pos} {e o : Expr} {es : List Expr}
theorem do_make {f : List D → FI} {fs : List (En → Rs D)} (h : HasI X.prog X.w X.K X.mg X.base k c n f) (hgd : X.A.guards = some []) (hr : Room (k + 1) X.A) (tk : TkG X g) (ha : DA X g (e :: es) fs) (hg : Gl X c := by rfl)
    (hdb : (c == ("__debug__" : Str)) = false := by decide) (he : starEach (e :: es) X.env = (false, eval e X.env) :: starEach es X.env := by rfl) (hpl : (backTo pos (starEach es X.env)).any (·.1) = false := by rfl) : DO X g (.Call (.Name c p) (e :: es) [] pos) (makeD c n f fs) := by
  obtain ⟨C, fa, fd, ps, F, h1, hcl, M, h3⟩ := h.ex
  refine PE.imp (pe_makeGS (E := WG g) M F hgd hr hg h1 h3 (passG tk) ha hdb he hpl) fun s H Q ⟨Fz, r, R, q⟩ => ⟨Fz, r, R, post_mono (post_bind q) fun ds r1 q F1 H1 vs sm R1 hvs => ?_⟩
  obtain ⟨hn, q⟩ := post_if q
  intro a dx na ndx hne
  have nd2 : H1 dx = none := ndx
  have na2 : (L2.upd H1 dx (.own a)) a = none := by rw [upd_ne hne.symm]; exact na
  have R2 : Rel X.K g F1 (L2.upd (L2.upd H1 dx (.own a)) a (.ins C dx [])) s r1 := (R1.laid ndx).laid na2
  have h0 : g.H0 a = none := R1.live na
  have ho : ∀ (j : Nat) (o : OV), r1[j]? = some (some o) → o.own = true → s[j]? ≠ some (some (.ref a)) := fun j o e eo => not_own R1 na j o e eo
  have hX : ∀ p ∈ g.X, p.1 ≠ a := fun p hp z => by have := (R1.ext p hp).1; rw [z, na] at this; cases this
  refine ⟨F1, a, C, dx, vs, ds, rfl, R2.sub, R1.ff na, upd_same, hcl, hvs, hn, ?_⟩
  revert q
  cases f ds with
  | ok fl =>
    intro q F' H' C' dx' vs' s1 s2 fr s3 fa2 ha2 hc2 hf2
    have R3 : Rel X.K g F' H' s r1 := R2.afterB h0 ho hX s1 s2 fr s3
    obtain ⟨sF, R4⟩ := R3.frzA h0 ho hX fa2 ha2
    exact ⟨rfl, q _ _ _ ((sm.trans s1).trans sF) R4 (.obj hc2 upd_same (RDf.mono sF _ hf2))⟩
  | ex x =>
    intro q F' H' cls d s1 s2 fr s3 hx
    have R3 : Rel X.K g F' H' s r1 := R2.afterB h0 ho hX s1 s2 fr s3
    have q : exW X.K g x r1 := q
    unfold exW at q
    unfold WG
    revert q
    cases g.W with
    | none => exact fun q => q
    | some W => exact fun q => q F' H' s cls d R3 hx
  | bad => exact fun q => q
/-! ### o.m(e, ..) -/
/-- a method that raises nothing; one that may raise: the object is its first argument -/
structure HasMP (P : Program) (w : World) (K : PySem.W.Frag) (mg : Str → Option Value) (base : Heap) (k : Nat) (c m : Str) (n : Nat) (f : List D → Option OV) : Prop where
  ex : ∃ C fa fd ps, FnG P w K mg base CX0 k fa fd ps (spP K n f) ∧ ClsAt K c C ∧ Cls K C ∧ Meth K C m fa ∧ Binds K fd ps []
structure HasMX (P : Program) (w : World) (K : PySem.W.Frag) (mg : Str → Option Value) (base : Heap) (k : Nat) (c m : Str) (n : Nat) (f : List D → FR) : Prop where
  ex : ∃ C fa fd ps, FnG P w K mg base (L2.CX P w) k fa fd ps (spX K n f) ∧ ClsAt K c C ∧ Cls K C ∧ Meth K C m fa ∧ Binds K fd ps []
def toFR (o : Option OV) : FR := match o with
  | some o => .ok o
  | none => .bad
/-- an instance of c without an attribute m of its own -/
def objOk (c m : Str) : D → Bool
  | .obj c' fl => decide (c' = c) && decide (fl.lookup m = none)
  | _ => false
def methX (c m : Str) (n : Nat) (f : List D → FR) (fo : En → Rs D) (fs : List (En → Rs D)) : En → Rs OV := fun r => (fo r).bind fun x r1 => if objOk c m x = true then (evs fs r1).bind fun ds r2 => if ds.length + 1 = n then frR (f (x :: ds)) r2 else .bad else .bad
/-- a promise that raises nothing is one of those that may -/
theorem spP_X {K : PySem.W.Frag} {f : List D → Option OV} {vs : List V} {H : Hp} {Q : VK} {E E' : XK} (h : spX K n (fun ds => toFR (f ds)) vs H Q E) : spP K n f vs H Q E' := by
  obtain ⟨F, ds, h1, h2, h3, q⟩ := h
  cases e : f ds with
  | none =>
    simp only [toFR, e] at q
    exact q.elim
  | some o =>
    simp only [toFR, e] at q
    exact ⟨F, ds, o, h1, h2, h3, e, q⟩
/-! ### o.f, a property whose getter returns an attribute -/
/-- c's property f returns the attribute a -/
structure HasG (P : Program) (w : World) (K : PySem.W.Frag) (mg : Str → Option Value) (base : Heap) (c f a : Str) : Prop where
  ex : ∃ C p ga fd, ClsAt K c C ∧ Cls K C ∧ PropOf K C f p ga ∧ FnOk P w K mg base CX0 1 ga fd ["self"] (getSp C a) ∧ Binds K fd ["self"] []
end
end DL

/-! Data layer, part 46: what the written part says of classes, put together. -/
namespace DL
open PySem L2
/-- c's __init__ is the def st -/
structure InitAt (K : PySem.W.Frag) (mg : Str → Option Value) (c qual : Str) (st : Stmt) : Prop where
  ex : ∃ C f fd, mg c = some (.ref C) ∧ ClsAt K c C ∧ Mk K C f ∧ Fun K "__init__" qual st f fd
/-- c's method m is the def st -/
structure MethAt (K : PySem.W.Frag) (c m qual : Str) (st : Stmt) : Prop where
  ex : ∃ C f fd, ClsAt K c C ∧ Cls K C ∧ Meth K C m f ∧ Fun K m qual st f fd
theorem kit_ref {K : PySem.W.Frag} {C T : Addr} {b : Bool} (h1 : PySem.W.hasDictIn K T = true) (h2 : PySem.W.typeIn K (.ref T) = some (.type "type")) (h3 : PySem.W.subIn K (.ref T) (.ref T) = some true) (h4 : PySem.W.subIn K (.ref C) (.ref T) = some b) : PySem.W.kitOne K (.ref C) (.ref T) = some b := by
  unfold PySem.W.kitOne
  split
  · next e =>
    have e := beq_iff_eq.mp e
    cases e
    rw [h3] at h4
    exact h4
  · obtain ⟨cd, hc, _⟩ := PySem.W.any_some h1
    have e2 : ((PySem.W.clsIn K T).isSome && PySem.W.typeIn K (.ref T) == some (.type "type")) = true := by rw [hc, h2]; rfl
    show (if ((PySem.W.clsIn K T).isSome && PySem.W.typeIn K (.ref T) == some (.type "type")) = true then PySem.W.subIn K (.ref C) (.ref T) else none) = some b
    rw [if_pos e2]
    exact h4
end DL

/-! Data layer, part 47: d.values() walked. -/
namespace DL
open PySem L2
theorem RDk.get {K : PySem.W.Frag} {F : Hp} : ∀ {ds : List (Key × D)} {vs : List (Key × V)} {i : Nat} {k : Key} {d : D}, RDk K F vs ds → ds[i]? = some (k, d) → ∃ v, vs[i]? = some (k, v) ∧ RD K F v d
  | [], _, _, _, _, h, e => by simp at e
  | (j, d') :: ds, _, 0, k, d, h, e => by
    cases h with
    | cons h1 h2 =>
      simp only [List.getElem?_cons_zero, Option.some.injEq, Prod.mk.injEq] at e
      obtain ⟨rfl, rfl⟩ := e
      exact ⟨_, rfl, h1⟩
  | (j, d') :: ds, _, i + 1, k, d, h, e => by
    cases h with
    | cons h1 h2 =>
      rw [List.getElem?_cons_succ] at e
      obtain ⟨v, e1, e2⟩ := RDk.get h2 e
      exact ⟨v, by rw [List.getElem?_cons_succ]; exact e1, e2⟩
def D.vals : D → Option (List D)
  | .dic kds => some (kds.map (·.2))
  | _ => none
def vaD (f : En → Rs D) : En → Rs (List D) := fun r => (f r).bind fun d r1 => ofO d.vals r1
section
variable {X : Cx} {g : G} {e tg : Expr} {apos cpos : Pos}
end
end DL

/-! Data layer, part 48: displays with stars anywhere: [*a, x, *b], (*a, x). -/
namespace DL
open PySem L2
def nlZ : En → Rs (List D) := fun r => .ok [] r
def cnZ (f : En → Rs D) (h : En → Rs (List D)) : En → Rs (List D) := fun r => (f r).bind fun d r1 => (h r1).bind fun ds r2 => .ok (d :: ds) r2
def D.sq : D → Option (List D)
  | .lst xs => some xs
  | .tup xs => some xs
  | _ => none
def stZ (f : En → Rs D) (h : En → Rs (List D)) : En → Rs (List D) := fun r => (f r).bind fun d r1 => (ofO d.sq r1).bind fun xs r1 => (h r1).bind fun ds r2 => .ok (xs ++ ds) r2
def lstZ (f : En → Rs (List D)) : En → Rs OV := fun r => (f r).bind fun ds r1 => if ds.length ≤ 1000 then .ok (.ow ds) r1 else .bad
def tupZ (f : En → Rs (List D)) : En → Rs D := fun r => (f r).bind fun ds r1 => if ds.length ≤ 1000 then .ok (.tup ds) r1 else .bad
section
variable {X : Cx} {g : G} {e : Expr} {es : List Expr} {f : En → Rs D} {h : En → Rs (List D)} {p pos : Pos}
end
end DL

/-! Data layer, part 49: list(d.items()), d frozen. -/
namespace DL
open PySem PySem.Spec PyProof.Rows L2
section
variable {X : Cx} {g : G} {e : Expr} {te : TE} {p apos cpos pos : Pos}
def keyD : Key → D
  | .inl i => .int i
  | .inr x => .str x
def D.itms : D → Option (List D)
  | .dic kds => some (kds.map fun z => .tup [keyD z.1, z.2])
  | _ => none
theorem Rel.up {K : PySem.W.Frag} {F H H' : Hp} {s : L2.St} {r : En} (R : Rel K g F H s r) (e : Same H H') : Rel K g F H' s r :=
  ⟨R.sub.trans e, R.f0, R.fnew, fun b u x hb ht => e _ _ (R.keep b u x hb ht), fun i u x => let ⟨v, h1, h2⟩ := R.slot i u x; ⟨v, h1, RO.mono (Same.refl _) (fun a vs _ e1 e2 => ⟨e1, e _ _ e2⟩) h2⟩, R.own, R.dist, R.pin, R.len, R.tb.up e, fun q hq => ⟨e _ _ (R.ext q hq).1, (R.ext q hq).2⟩⟩
def itsO (f : En → Rs D) : En → Rs OV := fun r => (f r).bind fun d r1 => (ofO d.itms r1).bind fun ds r1 => .ok (.ow ds) r1
end
end DL

/-! Data layer, part 50: {**d, k: e}. -/
namespace DL
open PySem PySem.Spec PyProof
section
variable {prog : Program} {w : World} {K : Type} [DecidableEq K] {knd : KeyKind prog w K} {A : Around} {E : Value → Shared → Prop} {s : Shared}
end
end DL

/-! Data layer, part 51: {**d, k: e}, the rule. -/
namespace DL
open PySem PySem.Spec PyProof
section
variable {prog : Program} {w : World} {K : Type} [DecidableEq K] {knd : KeyKind prog w K} {A : Around} {E : Value → Shared → Prop} {s : Shared}
end
end DL

/-! Data layer, part 52: {**d, k: e}, as a judgement. -/
namespace DL
open PySem PySem.Spec PyProof L2
section
variable {X : Cx} {e k x : Expr} {te : TE} {trs : List (TE × TE)} {pos : Pos}
end
end DL

/-! Data layer, part 53: {**d, k: e}, by data. -/
namespace DL
open PySem L2
def dstD (f : En → Rs D) (fs : List ((En → Rs D) × (En → Rs D))) : En → Rs D := fun r => (f r).noE.bind fun d r1 =>
  match d with
  | .dic kds => if kds.length ≤ 1000 then (evPs fs r1).noE.bind fun rs r2 => if rs.length ≤ 15 then .ok (.dic (mergeD (mergeD [] kds) (mergeD [] rs))) r2 else .bad else .bad
  | _ => .bad
section
variable {X : Cx} {g : G} {pos : Pos} {e k x : Expr} {f : En → Rs D} {fs : List ((En → Rs D) × (En → Rs D))}
end
end DL

/-! Data layer, part 54: len(o) by o's own __len__. -/
namespace DL
open PySem L2 PySem.Calls Builtin
section
variable {prog : Program} {w : World} {A : Around} {E : Value → Shared → Prop} {s : Shared} {K : PySem.W.Frag} {x C f : Addr} {ox : Obj} {od : Option Obj} {Q : Value → Shared → Prop}
end
section
variable {X : Cx} {k : Nat} {f C : Addr} {fd : FuncData} {ps : List Str} {sp : Sp}
end
/-- len of an instance of c, f its __len__ -/
def lenF (c : Str) (f : List D → Option OV) : D → Option D
  | .obj c' fl => if c' = c then (match f [.obj c' fl] with
    | some (.sh (.int n)) => if 0 ≤ n ∧ n < 1000000000 then some (.int n) else none
    | _ => none) else none
  | _ => none
def lenM (c : Str) (f : List D → Option OV) (fo : En → Rs D) : En → Rs D := fun r => (fo r).bind fun x r1 => ofO (lenF c f x) r1
section
variable {X : Cx} {g : G} {k : Nat} {c : Str} {p pos : Pos} {e : Expr}
end
end DL

/-! Data layer, part 55: == of alike data, dicts among them. -/
namespace PySem.SeqAt
open AutoSeq1 (wpAny_loadPart')
open MeetsSeq MeetsSeq2 MeetsSeq3 SeqRoads2
section
variable {prog : Program} {w : World}
theorem dl_tupEq (p q : Addr) (vs us : Array Value) (i j : Nat) (o o' : Option Addr) (z z' : Array (Option Value)) (hn : vs.size = us.size) :
    MeetsIn prog w (Builtin.«tuple.__eq__» ⟨[.ref p, .ref q], []⟩)
      (fun A R s => s.heap.get? p = some { cls := .type "tuple", dict := o, data := .seq vs i, slots := z } ∧ s.heap.get? q = some { cls := .type "tuple", dict := o', data := .seq us j, slots := z' } ∧
        (∀ k (g : k < vs.size) (g' : k < us.size), EqP prog w A.in1 s vs[k] us[k] true) ∧ R (.ok (.ret (.bool true))) s) := by
  intro A R s h
  obtain ⟨hp, g, d, tk, os⟩ := s
  obtain ⟨h1, h2, h3, h4⟩ := h
  have f2 := AutoSeq1.sub_tuple_tuple
  have zl : (vs.toList.zip us.toList).length = vs.size := by simp [hn]
  wp_walk using wpAny_loadPart' h1, wpAny_loadPart' h2, wpAny_forIn_list _ (fun l b s' => b.1 = none ∧ s' = ⟨hp, g, d, tk, os⟩ ∧ ∃ k, l = (vs.toList.zip us.toList).drop k ∧ R (.ok (.ret (.bool true))) ⟨hp, g, d, tk, os⟩) _
  case turn =>
    rintro ⟨y, x⟩ l b s' ⟨hb, rfl, k, hk, hR⟩
    have lt : k < (vs.toList.zip us.toList).length := Nat.lt_of_not_le fun c => by
      rw [List.drop_of_length_le c] at hk
      cases hk
    have l1 : k < vs.size := zl ▸ lt
    have l2 : k < us.size := hn ▸ l1
    rw [List.drop_eq_getElem_cons lt] at hk
    injection hk with e1 e2
    have ey : y = vs[k] := by simpa using congrArg Prod.fst e1
    have ex : x = us[k] := by simpa using congrArg Prod.snd e1
    subst ey ex
    refine wpAny_bind (h3 k l1 l2 _ _ ?_)
    wp_walk
    exact ⟨rfl, rfl, k + 1, e2, hR⟩
  case fin =>
    rintro ⟨b1, b2⟩ s' ⟨hb, rfl, k, hk, hR⟩
    simp only at hb
    subst hb
    wp_walk
    simpa [Builtin.Tuple.tupleCompareSizes, hn] using hR
  case h => exact ⟨rfl, rfl, 0, rfl, h4⟩
theorem dl_rcTup {A : Around} {s : Shared} {p q : Addr} {vs us : Array Value} (h1 : s.heap.IsTuple p vs) (h2 : s.heap.IsTuple q us) (hn : vs.size = us.size) (hu : A.units < cLine)
    (he : ∀ k (g : k < vs.size) (g' : k < us.size), EqP prog w A.in1 s vs[k] us[k] true) (E Q : Value → Shared → Prop) (h : Q (.bool true) s) : wpAny (model prog w) A (richCompare .Eq (.ref p) (.ref q)) Q E s := by
  obtain ⟨⟨c, o, d, z⟩, a1, a2, i, a3⟩ := id h1
  obtain ⟨⟨c', o', d', z'⟩, b1, b2, j, b3⟩ := id h2
  simp only at a2 a3 b2 b3
  subst a2 a3 b2 b3
  have ta : s.TypeIs (.ref p) "tuple" := ⟨_, a1, rfl⟩
  have tb : s.TypeIs (.ref q) "tuple" := ⟨_, b1, rfl⟩
  exact wpAny_richCompare_same_room (op := .Eq) ta tb F.slot_tuple_eq (call_meetsIn F.slot_tuple_eq ta F.entry_tuple_eq (F.args_tuple_eq_2 _ _) (dl_tupEq p q vs us i j o o' z z' hn)
    ⟨a1, b1, he, show Value.bool true ≠ Value.notImplemented ∧ Q (.bool true) s from ⟨(fun x => nomatch x), h⟩⟩) hu
end
end PySem.SeqAt
namespace DL
open PySem L2
mutual
def D.same : D → D → Bool
  | .non, .non => true
  | .bl a, .bl b => a == b
  | .int a, .int b => decide (a = b)
  | .str a, .str b => decide (a = b)
  | .lst xs, .lst ys => sames xs ys
  | .tup xs, .tup ys => sames xs ys
  | .dic xs, .dic ys => decide (xs.map (·.1)).Nodup && samek xs ys
  | _, _ => false
def sames : List D → List D → Bool
  | [], [] => true
  | x :: xs, y :: ys => x.same y && sames xs ys
  | _, _ => false
def samek : List (Key × D) → List (Key × D) → Bool
  | [], [] => true
  | (k, x) :: xs, (j, y) :: ys => decide (k = j) && (x.same y && samek xs ys)
  | _, _ => false
end
section
variable {X : Cx} {pins : List (Addr × Obj)} {s : Shared} {H : Hp} {sg : L2.St}
/-- read alike, they are equal -/
def EqU (X : Cx) (s : Shared) (n : Nat) (v u : Value) : Prop := ∀ A : Around, A.units + n < cLine → SeqAt.EqP X.prog X.w A s v u true
theorem EqU.refs {n : Nat} {a b : Addr} (h : ∀ A : Around, A.units + n + 1 < cLine → ∀ (E Q : Value → Shared → Prop), Q (.bool true) s → wpAny (model X.prog X.w) A (richCompare .Eq (.ref a) (.ref b)) Q E s) : EqU X s (n + 1) (.ref a) (.ref b) := fun A hu => by
  by_cases e : a = b
  · subst e
    exact (SeqAt.EqAt.same _).eqP
  · exact SeqAt.eqP_refs e (h A (by omega))
theorem rdk_val {K : PySem.W.Frag} {F : Hp} : ∀ {ds es : List (Key × D)} {ks ls : List (Key × V)}, samek ds es = true → RDk K F ks ds → RDk K F ls es → (ds.map (·.1)).Nodup → ∀ p ∈ ks, ∃ u, valV ls p.1 = some u ∧ ∃ d e, (p.1, d) ∈ ds ∧ d.same e = true ∧ RD K F p.2 d ∧ RD K F u e
  | [], _, _, _, _, h1, _, _ => by
    cases h1
    exact fun p hp => by cases hp
  | (k, d) :: ds, [], _, _, hs, _, _, _ => by cases hs
  | (k, d) :: ds, (j, e) :: es, _, _, hs, h1, h2, hn => by
    have hs : (decide (k = j) && (d.same e && samek ds es)) = true := hs
    simp only [Bool.and_eq_true, decide_eq_true_eq] at hs
    obtain ⟨hk, s1, s2⟩ := hs
    subst hk
    cases h1 with
    | @cons _ v vs _ _ a1 a2 =>
      cases h2 with
      | @cons _ u us _ _ b1 b2 =>
        intro p hp
        rcases List.mem_cons.mp hp with rfl | hp
        · exact ⟨u, by simp [valV], d, e, List.mem_cons_self, s1, a1, b1⟩
        · rw [List.map_cons, List.nodup_cons] at hn
          obtain ⟨u', c1, d', e', c2, c3, c4, c5⟩ := rdk_val s2 a2 b2 hn.2 p hp
          have : ¬ k = p.1 := fun z => hn.1 (by rw [z]; exact List.mem_map.mpr ⟨_, c2, rfl⟩)
          refine ⟨u', ?_, d', e', List.mem_cons_of_mem _ c2, c3, c4, c5⟩
          have c1' : valV us p.1 = some u' := c1
          unfold valV at c1' ⊢
          rw [List.find?_cons]
          simp only [this, decide_false]
          exact c1'
theorem samek_len : ∀ {ds es : List (Key × D)}, samek ds es = true → ds.length = es.length
  | [], [], _ => rfl
  | [], _ :: _, h => by cases h
  | _ :: _, [], h => by cases h
  | (k, d) :: ds, (j, e) :: es, h => by
    have h : (decide (k = j) && (d.same e && samek ds es)) = true := h
    simp only [Bool.and_eq_true] at h
    rw [List.length_cons, List.length_cons, samek_len h.2.2]
theorem sames_len : ∀ {ds es : List D}, sames ds es = true → ds.length = es.length
  | [], [], _ => rfl
  | [], _ :: _, h => by cases h
  | _ :: _, [], h => by cases h
  | d :: ds, e :: es, h => by
    have h : (d.same e && sames ds es) = true := h
    simp only [Bool.and_eq_true] at h
    rw [List.length_cons, List.length_cons, sames_len h.2]
theorem RDk.len {K : PySem.W.Frag} {F : Hp} : ∀ {ks : List (Key × V)} {ds : List (Key × D)}, RDk K F ks ds → ks.length = ds.length
  | _, [], h => by cases h; rfl
  | _, (k, d) :: ds, h => by
    cases h with
    | cons h1 h2 => rw [List.length_cons, List.length_cons, RDk.len h2]
theorem units_in1 (A : Around) (n : Nat) : A.in1.units + n = A.units + n + 1 := by
  show A.units + 1 + n = _
  omega
theorem dq_mem : ∀ {ds : List D} {d : D}, d ∈ ds → d.dq ≤ dqAll ds
  | d' :: ds, d, h => by
    show d.dq ≤ max d'.dq (dqAll ds)
    rcases List.mem_cons.mp h with rfl | h
    · omega
    · have := dq_mem h
      omega
theorem dq_memK : ∀ {ds : List (Key × D)} {k : Key} {d : D}, (k, d) ∈ ds → d.dq ≤ dqK ds
  | (j, d') :: ds, k, d, h => by
    show d.dq ≤ max d'.dq (dqK ds)
    rcases List.mem_cons.mp h with h | h
    · cases h
      omega
    · have := dq_memK h
      omega
theorem sames_at : ∀ {ds es : List D}, sames ds es = true → ∀ k (g : k < ds.length) (g' : k < es.length), ds[k].same es[k] = true
  | d :: ds, e :: es, h, k, g, g' => by
    have h : (d.same e && sames ds es) = true := h
    obtain ⟨s1, s2⟩ := Bool.and_eq_true_iff.mp h
    cases k with
    | zero => exact s1
    | succ k => exact sames_at s2 k (by simpa using g) (by simpa using g')
/-- what is asked of data of that depth -/
def SameU (X : Cx) (s : Shared) (H : Hp) (n : Nat) : Prop := ∀ (d e : D) (x y : V) (v u : Value), d.same e = true → d.dq ≤ n → RD X.K H x d → RD X.K H y e → RelV x v → RelV y u → EqU X s (n + 1) v u
theorem items_same (I : L2.Inv X pins sg H s) {n : Nat} (ih : SameU X s H n) {ds es : List D} {xs ys : List V} {vs us : List Value} (hs : sames ds es = true) (hd : dqAll ds ≤ n) (h1 : RDs X.K H xs ds) (h2 : RDs X.K H ys es) (r1 : Vals xs vs) (r2 : Vals ys us) (k : Nat) (g : k < vs.length) (g' : k < us.length) : EqU X s (n + 1) vs[k] us[k] := by
  have l1 := r1.length
  have l2 := r2.length
  have l3 := h1.length
  have l4 := h2.length
  obtain ⟨x, e1, a1⟩ := h1.get (List.getElem?_eq_getElem (l := ds) (i := k) (by omega))
  obtain ⟨y, e2, a2⟩ := h2.get (List.getElem?_eq_getElem (l := es) (i := k) (by omega))
  obtain ⟨v, e3, a3⟩ := r1.get e1
  obtain ⟨u, e4, a4⟩ := r2.get e2
  rw [List.getElem?_eq_getElem g] at e3
  rw [List.getElem?_eq_getElem g'] at e4
  cases e3
  cases e4
  exact ih _ _ _ _ _ _ (sames_at hs k (by omega) (by omega)) (Nat.le_trans (dq_mem (List.getElem_mem _)) hd) a1 a2 a3 a4
theorem same_flat {n : Nat} {d e : D} {x y : V} {v u : Value} (hs : d.same e = true) (h1 : RD X.K H x d) (h2 : RD X.K H y e) (r1 : RelV x v) (r2 : RelV y u) (hd : match d with | .lst _ => False | .tup _ => False | .dic _ => False | _ => True) : EqU X s n v u := fun A _ => by
  cases d with
  | non => cases e <;> first | cases hs; done | skip
           cases h1; cases h2
           exact (eqAt_same r1 r2 rfl).eqP
  | bl a =>
    cases e <;> first | cases hs; done | skip
    have : _ = _ := beq_iff_eq.mp hs
    subst this
    cases h1; cases h2
    exact (eqAt_same r1 r2 rfl).eqP
  | int a =>
    cases e <;> first | cases hs; done | skip
    have : _ = _ := of_decide_eq_true hs
    subst this
    cases h1; cases h2
    exact (eqAt_same r1 r2 rfl).eqP
  | str a =>
    cases e <;> first | cases hs; done | skip
    have : _ = _ := of_decide_eq_true hs
    subst this
    cases h1; cases h2
    exact (eqAt_same r1 r2 rfl).eqP
  | lst _ => exact hd.elim
  | tup _ => exact hd.elim
  | dic _ => exact hd.elim
  | scr _ => cases e <;> cases hs
  | obj _ _ => cases e <;> cases hs
theorem same_all (I : L2.Inv X pins sg H s) : ∀ n, SameU X s H n := by
  intro n
  induction n with
  | zero =>
    intro d e x y v u hs hd h1 h2 r1 r2
    refine same_flat hs h1 h2 r1 r2 ?_
    cases d with
    | lst _ => exact absurd (show dqAll _ + 1 ≤ 0 from hd) (by omega)
    | tup _ => exact absurd (show dqAll _ + 1 ≤ 0 from hd) (by omega)
    | dic _ => exact absurd (show dqK _ + 1 ≤ 0 from hd) (by omega)
    | _ => trivial
  | succ n ih =>
    intro d e x y v u hs hd h1 h2 r1 r2
    cases d with
    | lst ds =>
      have hd : dqAll ds + 1 ≤ n + 1 := hd
      cases e with
      | lst es =>
        have hs : sames ds es = true := hs
        cases h1 with
        | lst a1 a2 =>
          cases h2 with
          | lst b1 b2 =>
            have r1 := (show v = _ from r1)
            have r2 := (show u = _ from r2)
            subst r1
            subst r2
            obtain ⟨its, rv, pl, _⟩ := I.list (SqL.of a1)
            obtain ⟨its2, rv2, pl2, _⟩ := I.list (SqL.of b1)
            have l1 := rv.length
            have l2 := rv2.length
            have l3 := a2.length
            have l4 := b2.length
            have l5 := sames_len hs
            refine EqU.refs fun A hu E Q q => ?_
            refine SeqAt.rcP_lists (e := fun _ => true) pl.isList pl2.isList (by simp only [List.size_toArray]; omega) (by omega) (fun k g g' => ?_) E Q ?_
            · have := items_same I ih hs (by omega) a2 b2 rv rv2 k (by simpa using g) (by simpa using g') A.in1 (by rw [units_in1]; omega)
              simpa using this
            · rw [show ((List.range its.toArray.size).all fun _ => true) = true from List.all_eq_true.mpr fun _ _ => rfl]
              exact q
      | _ => cases hs
    | tup ds =>
      have hd : dqAll ds + 1 ≤ n + 1 := hd
      cases e with
      | tup es =>
        have hs : sames ds es = true := hs
        cases h1 with
        | tup a1 a2 =>
          cases h2 with
          | tup b1 b2 =>
            have r1 := (show v = _ from r1)
            have r2 := (show u = _ from r2)
            subst r1
            subst r2
            obtain ⟨its, rv, pl, _⟩ := I.tuple a1
            obtain ⟨its2, rv2, pl2, _⟩ := I.tuple b1
            have l1 := rv.length
            have l2 := rv2.length
            have l3 := a2.length
            have l4 := b2.length
            have l5 := sames_len hs
            refine EqU.refs fun A hu E Q q => ?_
            refine SeqAt.dl_rcTup pl pl2 (by simp only [List.size_toArray]; omega) (by omega) (fun k g g' => ?_) E Q q
            have := items_same I ih hs (by omega) a2 b2 rv rv2 k (by simpa using g) (by simpa using g') A.in1 (by rw [units_in1]; omega)
            simpa using this
      | _ => cases hs
    | dic ds =>
      have hd : dqK ds + 1 ≤ n + 1 := hd
      cases e with
      | dic es =>
        have hs : (decide (ds.map (·.1)).Nodup && samek ds es) = true := hs
        simp only [Bool.and_eq_true, decide_eq_true_eq] at hs
        obtain ⟨hn, hs⟩ := hs
        cases h1 with
        | @dic a _ ks _ a1 a2 =>
          cases h2 with
          | @dic b _ ls _ b1 b2 =>
            have r1 := (show v = _ from r1)
            have r2 := (show u = _ from r2)
            subst r1
            subst r2
            obtain ⟨_, _, ya, va, ra, da⟩ := (show ObjOk X.prog X.w H s.heap a (.frz _ (.dK ks)) from I.hok a _ a1)
            obtain ⟨_, _, yb, vb, rb, db⟩ := (show ObjOk X.prog X.w H s.heap b (.frz _ (.dK ls)) from I.hok b _ b1)
            refine EqU.refs fun A hu E Q q => ?_
            have hv := rdk_val hs a2 b2 hn
            have el : va.length = vb.length := by
              have h1 := ra.length
              have h2 := rb.length
              have h3 := a2.len
              have h4 := b2.len
              have h5 := samek_len hs
              omega
            refine PySem.W.rcP_dicts (knd := mixKind X.prog X.w) (r := true) ya yb da db (by omega) (fun _ => ?_) E Q ?_
            · refine hits_run (F := fun x y => ∀ v u, RelV x v → RelV y u → SeqAt.EqP X.prog X.w A.in1 s v u true) (fun x y v u f rx ry => f v u rx ry) rb ra fun p hp => ?_
              obtain ⟨u, c1, d, e, c2, c3, c4, c5⟩ := hv p hp
              exact ⟨u, c1, fun v' u' rx ry => ih d e _ _ v' u' c3 (Nat.le_trans (dq_memK c2) (by omega)) c4 c5 rx ry A.in1 (by rw [units_in1]; omega)⟩
            · rw [show (va.length == vb.length && true) = true from by rw [el]; simp]
              exact q
      | _ => cases hs
    | non => exact same_flat hs h1 h2 r1 r2 trivial
    | bl _ => exact same_flat hs h1 h2 r1 r2 trivial
    | int _ => exact same_flat hs h1 h2 r1 r2 trivial
    | str _ => exact same_flat hs h1 h2 r1 r2 trivial
    | scr _ => exact same_flat hs h1 h2 r1 r2 trivial
    | obj _ _ => exact same_flat hs h1 h2 r1 r2 trivial
end
/-- what is read alike is equal, dicts too -/
def semEqX (d e : D) : Option D := match semEq d e with
  | some z => some z
  | none => match d, e with
    | .tup ds, .tup es => if sames ds es && decide (dqAll ds ≤ 50) then some (.bl true) else none
    | .lst ds, .lst es => if sames ds es && decide (dqAll ds ≤ 50) then some (.bl true) else none
    | _, _ => none
theorem semEqX_of {d e : D} {z : D} (h : semEq d e = some z) : semEqX d e = some z := by unfold semEqX; rw [h]
section
variable {X : Cx} {g : G}
theorem opd_eqX (hu : X.A.units + 64 < cLine) : OpR X (compareOp .Eq) (rD2 X.K g semEqX) := by
  intro pins s sg H x y v u Q I rx ry h
  obtain ⟨F, s0, r, dx, dy, d, R, hx, hy, e, q⟩ := h
  unfold semEqX at e
  split at e
  · next z es =>
    cases e
    exact opd_eq hu pins s sg H x y v u Q I rx ry ⟨F, s0, r, dx, dy, d, R, hx, hy, es, q⟩
  · split at e
    · next ds es _ =>
      split at e
      · next hc =>
        cases e
        obtain ⟨hs, hd⟩ := Bool.and_eq_true_iff.mp hc
        have hd : dqAll ds ≤ 50 := of_decide_eq_true hd
        cases hx.rd R.sub with
        | tup a1 a2 =>
          cases hy.rd R.sub with
          | tup b1 b2 =>
            have r1 := (show v = _ from rx)
            have r2 := (show u = _ from ry)
            subst r1
            subst r2
            obtain ⟨its, rv, pl, _⟩ := I.tuple a1
            obtain ⟨its2, rv2, pl2, _⟩ := I.tuple b1
            have l1 := rv.length
            have l2 := rv2.length
            have l3 := a2.length
            have l4 := b2.length
            have l5 := sames_len hs
            refine SeqAt.dl_rcTup pl pl2 (by simp only [List.size_toArray]; omega) (by omega) (fun k g g' => ?_) _ _ ⟨.bl true, H, I, rfl, q F H _ (Same.refl _) R (.bl _)⟩
            have := items_same I (same_all I 50) hs hd a2 b2 rv rv2 k (by simpa using g) (by simpa using g') X.A.in1 (by rw [units_in1]; omega)
            simpa using this
      · cases e
    · next ds es _ =>
      split at e
      · next hc =>
        cases e
        obtain ⟨hs, hd⟩ := Bool.and_eq_true_iff.mp hc
        have hd : dqAll ds ≤ 50 := of_decide_eq_true hd
        cases hx.rd R.sub with
        | lst a1 a2 =>
          cases hy.rd R.sub with
          | lst b1 b2 =>
            have r1 := (show v = _ from rx)
            have r2 := (show u = _ from ry)
            subst r1
            subst r2
            obtain ⟨its, rv, pl, _⟩ := I.list (SqL.of a1)
            obtain ⟨its2, rv2, pl2, _⟩ := I.list (SqL.of b1)
            have l1 := rv.length
            have l2 := rv2.length
            have l3 := a2.length
            have l4 := b2.length
            have l5 := sames_len hs
            refine SeqAt.rcP_lists (e := fun _ => true) pl.isList pl2.isList (by simp only [List.size_toArray]; omega) (by omega) (fun k g g' => ?_) _ _ ?_
            · have := items_same I (same_all I 50) hs hd a2 b2 rv rv2 k (by simpa using g) (by simpa using g') X.A.in1 (by rw [units_in1]; omega)
              simpa using this
            · rw [show ((List.range its.toArray.size).all fun _ => true) = true from List.all_eq_true.mpr fun _ _ => rfl]
              exact ⟨.bl true, H, I, rfl, q F H _ (Same.refl _) R (.bl _)⟩
      · cases e
    · cases e
end
end DL

/-! Data layer, part 56: set(e) of a list or a tuple of tuples;  -/
namespace DL
open PySem L2 PyProof.Rows PySem.Froz
section
variable {P : Program} {w : World} {A : Around} {E : Value → Shared → Prop} {s : Shared}
theorem SetN.up {h h' : Heap} {a : Addr} {L : List KA} {es : Array (Int × Value)} {ep : Nat} {t : SetTable} (R : SetN w h a L es ep t) (ka : ∀ o, h.get? a = some o → h'.get? a = some o) (kt : ∀ p ∈ L, IsN h' p.2 p.1) : SetN w h' a L es ep t := by
  obtain ⟨o, oa, r⟩ := R.ob
  exact ⟨⟨o, ka o oa, r⟩, R.rows, R.tab, R.nd, kt, R.led, R.room, R.few⟩
end
end DL

/-! Data layer, part 57: set(e), sorted(set(e)) and len(set(e)) of texts or tuples, by data. -/
namespace DL
open PySem L2 PyProof.Rows PySem.Froz
/-! keys tell data without truths apart -/
/-! of alike data neither of which is less the two are equal -/
/-! each once -/
/-! ### set(e) -/
theorem RDn.keys {K : PySem.W.Frag} {F H : Hp} (sub : Same F H) : ∀ {ds : List D} {ks : List KA}, RDn K F ks ds → ∀ p ∈ ks, KeyAt K H p.2 p.1
  | [], _, h, p, hp => by cases h; cases hp
  | d :: ds, _, h, p, hp => by
    cases h with
    | cons h1 h2 h3 =>
      rcases List.mem_cons.mp hp with rfl | hp
      · exact ⟨d, RD.mono sub d h1, h2.1, h2.2⟩
      · exact RDn.keys sub h3 p hp
theorem RDn.length {K : PySem.W.Frag} {F : Hp} : ∀ {ds : List D} {ks : List KA}, RDn K F ks ds → ks.length = ds.length
  | [], _, h => by cases h; rfl
  | d :: ds, _, h => by
    cases h with
    | cons h1 h2 h3 => rw [List.length_cons, List.length_cons, RDn.length h3]
theorem KeyAt.isN {X : Cx} {pins : List (Addr × Obj)} {s : Shared} {H : Hp} {sg : L2.St} (I : L2.Inv X pins sg H s) {k : NestedKey} {b : Addr} (h : KeyAt X.K H k b) : IsN s.heap k b := by
  obtain ⟨kd, h1, h2, h3⟩ := h
  exact ⟨RD.nested I kd _ _ k h2 h1 rfl, h3⟩
section
variable {X : Cx} {g : G} {e : Expr} {pos : Pos}
/-! ### sorted(set(e)) -/
theorem RDn.zip {K : PySem.W.Frag} {F : Hp} : ∀ {es : List D} {L : List KA}, RDn K F L es → ∃ Z : List (KA × D), Z.map (·.1) = L ∧ Z.map (·.2) = es ∧ ∀ z ∈ Z, RD K F (.ref z.1.1) z.2
  | [], _, h => by cases h; exact ⟨[], rfl, rfl, fun z hz => by cases hz⟩
  | e :: es, _, h => by
    cases h with
    | @cons a k _ L _ h1 h2 h3 =>
      obtain ⟨Z, z1, z2, z3⟩ := RDn.zip h3
      refine ⟨((a, k), e) :: Z, by rw [List.map_cons, z1], by rw [List.map_cons, z2], fun z hz => ?_⟩
      rcases List.mem_cons.mp hz with rfl | hz
      · exact h1
      · exact z3 z hz
end
end DL

/-! Data layer, part 58: x = {.. for ..} of tuples, sorted(x). -/
namespace DL
open PySem L2 PyProof.Rows PySem.Froz
/-! a set's comprehension -/
section
variable {Y : Cx} {elt : Expr} {te : TE} {D : Addr}
end
theorem RDn.snoc {K : PySem.W.Frag} {F : Hp} {a : Addr} {k : NestedKey} {d : D} (h1 : RD K F (.ref a) d) (h2 : d.nk = some k ∧ k.depth ≤ 8) : ∀ {ds : List D} {L : List KA}, RDn K F L ds → RDn K F (L ++ [(a, k)]) (ds ++ [d])
  | [], _, h => by cases h; exact .cons h1 h2 .nil
  | e :: es, _, h => by
    cases h with
    | cons g1 g2 g3 => exact .cons g1 g2 (RDn.snoc h1 h2 g3)
section
variable {X : Cx} {g : G} {elt tg iter : Expr} {ifs : List Expr} {gs : List Comprehension} {scope : Scope} {own : List (PySem.Str × Nat)} {pos : Pos} {c : GDt} {cs : List GDt} {fe : En → Rs D} {x : Str} {px pos2 : Pos}
end
end DL

/-! Data layer, part 59: a name's list lent to an expression whose value holds nothing of it. -/
namespace DL
open PySem L2
def hideO (o : Option OV) : Option OV := match o with
  | some u => if u.own = true then none else some u
  | none => none
/-- e, with the list that slot i owns lent to it -/
def bwR (x : Rs D) (r : En) : Rs D := match x with
  | .ok d _ => if d.flt = true then .ok d r else .bad
  | _ => .bad
def bwD (i : Nat) (f : En → Rs D) : En → Rs D := fun r => match r[i]? with
  | some (some (.ow xs)) => bwR (f ((r.map hideO).set i (some (.sh (.lst xs))))) r
  | _ => .bad
/-- what a part is told of the whole: nobody changes anything -/
def G.part (g : G) (F H : Hp) : G := ⟨F, H, [], [], g.w, none, g.xc, []⟩
section
variable {X : Cx} {g : G} {e : Expr}
end
end DL

/-! Data layer, part 60: dict(zip(xs, ys)); d.get(k, x). -/
namespace DL
open PySem L2
section
variable {X : Cx} {g : G} {e e2 : Expr} {p p2 q pos : Pos} {ps : List Opd}
/-! ### d.get(k, x) -/
def D.isDic : D → Bool
  | .dic _ => true
  | _ => false
/-- no list -/
def D.nol : D → Bool
  | .lst _ => false
  | _ => true
def semGet : D → D → D → Option D
  | .dic ds, k, x => if x.nol = true then k.key.map fun k => (valD ds k).getD x else none
  | _, _, _ => none
def getD2 (p k x : Opd) : En → Rs D := fun r => (p.run r).bind fun z r1 => (ofO ((look r1 z).bind fun d => if d.isDic = true then some d else none) r1).bind fun _ r1 => (k.run r1).bind fun y r2 => (x.run r2).bind fun u r3 =>
  ofO ((look r3 z).bind fun d => (look r3 y).bind fun e => (look r3 u).bind fun c => semGet d e c) r3
end
end DL

/-! Data layer, part 61: {k: v for x in xs if ..}. -/
namespace DL
open PySem L2
section
variable {X : Cx} {g : G} {tg iter kx elt : Expr} {ifs : List Expr} {scope : Scope} {pos : Pos}
end
end DL

/-! Data layer, part 62: len(set(xs)), xs of tuples. -/
namespace DL
open PySem PySem.Spec PyProof L2
section
variable {X : Cx} {g : G} {e : Expr} {pos : Pos}
end
end DL

/-! Data layer, part 63: dicts with texts or numbers as keys that a name owns: x = {}, x = {k: v for ..}, x[e] = f, x[e], len(x), the dict handed out. -/
namespace DL
open PySem L2
section
variable {X : Cx} {g : G} {x : Str} {p pos px : Pos} {i : Nat} {e ei : Expr}
/-- x = {} -/
def newDk (i : Nat) : En → SRs := fun r => .nx (r.set i (some (.th (.dk []))))
/-- the dict of a slot -/
def OV.dk? : OV → Option (List (Key × D))
  | .th (.dk kvs) => some kvs
  | _ => none
def slDk (r : En) (i : Nat) : Option (List (Key × D)) := (r[i]?).bind fun o => o.bind OV.dk?
/-- x[e] = f -/
def putDk (i : Nat) (fi f : En → Rs D) : En → SRs := fun r => thenS (f r) fun d r1 => thenS (fill r1 i) fun _ r1 => thenS (fi r1) fun kd r2 =>
  thenS (ofO ((slDk r2 i).bind fun kvs => if kvs.length ≤ 1000000 then kd.key.map fun k => putD kvs k d else none) r2) fun kvs r2 => .nx (r2.set i (some (.th (.dk kvs))))
/-! ### read, counted, handed out -/
/-- x[e] -/
def getDk (i : Nat) (f : En → Rs D) : En → Rs D := fun r => (fill r i).bind fun _ r => (f r).bind fun kd r1 => ofO ((slDk r1 i).bind fun kvs => kd.key.bind fun k => valD kvs k) r1
/-- len(x) -/
def lenDk (i : Nat) : En → Rs D := fun r => ofO ((slDk r i).map fun kvs => .int (kvs.length : Nat)) r
end
section
variable {X : Cx} {g : G} {tg iter kx elt : Expr} {ifs : List Expr} {scope : Scope} {pos : Pos}
end
end DL

/-! Data layer, part 64: C(k = v, ..), all of __init__'s keyword-only parameters given, in their order. -/
namespace DL
open PySem L2
structure HasK (P : Program) (w : World) (K : PySem.W.Frag) (mg : Str → Option Value) (base : Heap) (k : Nat) (c : Str) (ks : List Str) (f : List D → FI) : Prop where
  ex : ∃ C fa fd ps, FnG P w K mg base (L2.CX P w) k fa fd ps (spI K c ks.length f) ∧ mg c = some (.ref C) ∧ ClsAt K c C ∧ Mk K C fa ∧ KBn K fd ps 1 ks (fun us ws => us ++ ws) (fun vs zs => vs ++ zs)
theorem PK.imp {X : Cx} {e : List Keyword} {t t' : TA} (h : PK X e t) (i : ∀ s H Q, t' s H Q → t s H Q) : PK X e t' := ⟨fun pos pins s σ H Q I q => h.run pos pins s σ H Q I (i σ H Q q)⟩
section
variable {X : Cx} {g : G} {CX : CXT} {k n : Nat} {f C : Addr} {fd : FuncData} {ps ks : List Str} {sp : Sp} {E : St → XK} {x c : Str} {p pos kpos : Pos} {e : Expr} {kws : List Keyword} {tk : TA} {nm : Option Str}
end
end DL

/-! Data layer, part 65: self.a, self.b = e, f. -/
namespace DL
open PySem L2
section
variable {X : Cx} {g : G} {a b o : Expr} {p p2 pos pos1 pos2 pt pt2 : Pos} {c f f1 f2 n : Str} {i kt k2 : Nat}
def putFs (i : Nat) (c f : Str) (d : D) (r : En) : Option En := match r[i]? with
  | some (some (OV.oi c' fs)) => if c' = c ∧ fs.length < 900 then some (r.set i (some (.oi c (putFd f d fs)))) else none
  | _ => none
def fld2S (i : Nat) (c f1 f2 : Str) (h1 h2 : En → Rs D) : En → SRs := fun r => thenS (h1 r) fun d1 r1 => thenS (h2 r1) fun d2 r2 => thenS (ofO ((putFs i c f1 d1 r2).bind fun r3 => putFs i c f2 d2 r3) r2) fun r4 _ => .nx r4
end
end DL

/-! Data layer, part 66: isinstance(e, C), C a class of the program whose instances have no classes below it. -/
namespace DL
open PySem L2
def dTys : List String := ["NoneType", "bool", "int", "str", "list", "tuple", "dict"]
structure IsoOk (K : PySem.W.Frag) (mg : Str → Option Value) (c : Str) : Prop where
  ex : ∃ C, mg c = some (.ref C) ∧ ClsAt K c C ∧ C8.InsC K C ∧ ∀ T ∈ dTys, PySem.W.kitOne K (.type T) (.ref C) = some false
theorem kit_ty {K : PySem.W.Frag} {C : Addr} {T : String} {b : Bool} (h1 : PySem.W.hasDictIn K C = true) (h2 : PySem.W.typeIn K (.ref C) = some (.type "type")) (h4 : PySem.W.subIn K (.type T) (.ref C) = some b) : PySem.W.kitOne K (.type T) (.ref C) = some b := by
  unfold PySem.W.kitOne
  rw [if_neg (show ¬ ((Value.type T == Value.ref C) = true) from fun h => by cases beq_iff_eq.mp h)]
  obtain ⟨cd, hc, _⟩ := PySem.W.any_some h1
  have e2 : ((PySem.W.clsIn K C).isSome && PySem.W.typeIn K (.ref C) == some (.type "type")) = true := by rw [hc, h2]; rfl
  show (if ((PySem.W.clsIn K C).isSome && PySem.W.typeIn K (.ref C) == some (.type "type")) = true then PySem.W.subIn K (.type T) (.ref C) else none) = some b
  rw [if_pos e2]
  exact h4
def isoB (c : Str) : D → Option Bool
  | .scr _ => none
  | .obj c' _ => if c' = c then some true else none
  | _ => some false
theorem isoB_some {c : Str} {d : D} {b : Bool} (e : isoB c d = some b) : (∃ fs, d = .obj c fs ∧ b = true) ∨ (b = false ∧ (∀ x, d ≠ .scr x) ∧ (∀ c x, d ≠ .obj c x) ∧ d.ty ∈ dTys) := by
  cases d with
  | scr ns => cases e
  | obj c' fs =>
    have e2 : (if c' = c then some true else none) = some b := e
    clear e
    by_cases hc : c' = c
    · rw [if_pos hc] at e2
      subst hc
      exact .inl ⟨fs, rfl, (Option.some.inj e2).symm⟩
    · rw [if_neg hc] at e2
      cases e2
  | non => cases e; exact .inr ⟨rfl, fun _ => nofun, fun _ _ => nofun, by show ("NoneType" : String) ∈ dTys; decide⟩
  | bl x => cases e; exact .inr ⟨rfl, fun _ => nofun, fun _ _ => nofun, by show ("bool" : String) ∈ dTys; decide⟩
  | int x => cases e; exact .inr ⟨rfl, fun _ => nofun, fun _ _ => nofun, by show ("int" : String) ∈ dTys; decide⟩
  | str x => cases e; exact .inr ⟨rfl, fun _ => nofun, fun _ _ => nofun, by show ("str" : String) ∈ dTys; decide⟩
  | lst x => cases e; exact .inr ⟨rfl, fun _ => nofun, fun _ _ => nofun, by show ("list" : String) ∈ dTys; decide⟩
  | tup x => cases e; exact .inr ⟨rfl, fun _ => nofun, fun _ _ => nofun, by show ("tuple" : String) ∈ dTys; decide⟩
  | dic x => cases e; exact .inr ⟨rfl, fun _ => nofun, fun _ _ => nofun, by show ("dict" : String) ∈ dTys; decide⟩
def isoD (p : Opd) (c : Str) : En → Rs D := fun r => (p.run r).bind fun x r1 => ofO (((look r1 x).bind (isoB c)).map D.bl) r1
section
variable {X : Cx} {g : G} {e : Expr} {p : Opd} {pos : Pos}
theorem de_iso {c : Str} {pn pT : Pos} (hI : IsoOk X.K X.mg c) (hm : X.mg "isinstance" = none) (hp : DB X g e p) (hg : Gl X "isinstance" := by rfl) (hgT : Gl X c := by rfl) (hdT : (c == ("__debug__" : Str)) = false := by decide)
    (h1 : starEach [e, .Name c pT] X.env = (false, eval e X.env) :: starEach [.Name c pT] X.env := by rfl) (h2 : starEach [.Name c pT] X.env = (false, eval (.Name c pT) X.env) :: starEach [] X.env := by rfl)
    (hpl : (backTo pos (starEach [.Name c pT] X.env)).any (·.1) = false := by rfl) : DE X g (.Call (.Name "isinstance" pn) [e, .Name c pT] [] pos) (isoD p c) := by
  obtain ⟨C, hmC, hC, IC, hF⟩ := hI.ex
  refine PE.imp (pe_callB call_isi hg hm (by decide +kernel) (pa_cons hp (pa_cons (pe_glob (v := .ref C) hgT hmC rfl hdT) pa_nil h2) h1) (by decide) (by decide) h1 hpl) fun s H Q ⟨F, r, R, h⟩ => ?_
  refine ⟨F, r, R, post_mono (post_bind h) fun z r1 q F1 H1 v sm R1 hv => ?_⟩
  obtain ⟨x, e0, q⟩ := post_ofO q
  obtain ⟨b, e9, rfl⟩ := Option.map_eq_some_iff.mp e0
  obtain ⟨d, e1, e2⟩ := Option.bind_eq_some_iff.mp e9
  have hl := look_ok R1 hv e1
  rcases isoB_some e2 with ⟨fs, rfl, rfl⟩ | ⟨rfl, n1, n2, ht⟩
  · cases hl.flat (fun _ => nofun) with
    | obj k1 k2 k3 =>
      cases hC.inj k1
      exact ⟨_, .ref C, .ref C, .ref C, true, rfl, .own C, .base (TyOf.ins (R1.sub _ _ k2) IC.cl IC.ha IC.hn IC.htk IC.hm), IC.me, q F1 H1 _ sm R1 (.bl _)⟩
    | it k => exact absurd hC (k _)
  · exact ⟨v, .ref C, .type d.ty, .ref C, false, rfl, .own C, ty_of R1.sub hl ⟨n1, n2⟩, hF _ ht, q F1 H1 _ sm R1 (.bl _)⟩
end
end DL

/-! Data layer, part 67: min(xs) of a list of whole numbers; e is not True. -/
namespace DL
open PySem L2
section
variable {X : Cx} {g : G}
end
end DL

/-! Data layer, part 68: == of instances by their own __eq__, & by their own __and__. -/
namespace DL
open PySem L2
section
variable {X : Cx} {CX : CXT} {k : Nat} {f C : Addr} {fd : FuncData} {ps : List Str} {sp : Sp} {E : St → XK} {pos : Pos} {a b : Expr} {ta tb : TE}
/-- the type of what stands to the right does not come first -/
def TyN (X : Cx) (C : Addr) (y : V) (H : Hp) : Prop := ∃ t, TyX X.K H y t ∧ PySem.W.notFirst X.K C t = true
theorem pe_eqGS (hm : Meth X.K C "__eq__" f) (F : FnG X.prog X.w X.K X.mg X.base CX k f fd ps sp) (hgd : X.A.guards = some []) (hr : Room k X.A) (hb : Binds X.K fd ps []) (hx : ∀ σ, PassesAt CX X σ (E σ)) (ha : PE X a ta) (hb2 : PE X b tb) (hmk : behindInMarks .Eq b = false) :
    PE X (.Compare a [.Eq] [b] pos) (fun σ H Q => ta σ H fun x H1 => tb σ H1 fun y H2 => ∃ p dx fs, x = .ref p ∧ H2 p = some (.ins C dx fs) ∧ TyN X C y H2 ∧ sp [x, y] H2 Q (E σ)) := by
  refine ⟨fun pins s σ H Q I h => ?_⟩
  refine wpAny_Compare1 (binT (R := fun x y H2 => ∃ p dx fs, x = .ref p ∧ H2 p = some (.ins C dx fs) ∧ TyN X C y H2 ∧ sp [x, y] H2 Q (E σ)) ha hb2 I h fun v u s2 x y H2 I2 rx ry q => ?_) hmk
  obtain ⟨p, dx, fs, ex, ea, ⟨t, ty, hn⟩, q⟩ := q
  subst ex
  obtain rfl : v = Value.ref p := rx
  obtain ⟨mA, O, _⟩ := ins_get I2.hok ea
  obtain ⟨od, IA, _⟩ := O.look
  obtain ⟨m, hF⟩ := I2.fr
  obtain ⟨P, kx, hp, _⟩ := kit_of I2 ry ty
  show wpAny (model X.prog X.w) X.A (richCompare .Eq (.ref p) u) (EP X pins σ Q) X.xe s2
  refine PySem.W.cmp_K (op := .Eq) hr.units0 hF I2.ok.mod.kin IA (kx.ty _ _ I2.kIn hp) hn hm.at_ hm.fn ?_
  refine wpAny_mono (runGS (us := [.ref p, u]) (vs := [.ref p, y]) F hgd hr hb (hx σ) I2 (.cons rfl (.cons ry .nil)) q) (fun v' s' hq => ?_) (fun _ _ z => z)
  obtain ⟨z, H', I', rz, qz⟩ := hq
  cases v' with
  | notImplemented => cases z <;> first | exact nomatch rz | (obtain ⟨_, e⟩ := rz; exact nomatch e)
  | _ => exact ⟨z, H', I', rz, qz⟩
end
/-- an instance of c -/
def isC (c : Str) : D → Bool
  | .obj c' _ => decide (c' = c)
  | _ => false
/-- what may stand to the right of an own == -/
def eqArg (c : Str) : D → Bool
  | .obj c' _ => decide (c' = c)
  | .scr _ => false
  | _ => true
def opM (c : Str) (ok : D → Bool) (f : List D → FR) (fo fe : En → Rs D) : En → Rs OV := fun r => (fo r).bind fun x r1 => (fe r1).bind fun y r2 => if (isC c x && ok y) = true then frR (f [x, y]) r2 else .bad
theorem opM_imp {K : PySem.W.Frag} {g : G} {c : Str} {ok : D → Bool} {f : List D → FR} {fo fe : En → Rs D} {sp : Sp} {C : Addr} {P : V → Hp → Prop} {s : St} {H : Hp} {Q : VK} (hcl : ClsAt K c C) (hsp : ∀ vs H Q, spX K 2 f vs H Q (WG g s) → sp vs H Q (WG g s))
    (hP : ∀ F H y dy, Same F H → RD K F y dy → ok dy = true → P y H) (h : tO K g (opM c ok f fo fe) s H Q) :
    tD K g fo s H fun x H1 => tD K g fe s H1 fun y H2 => ∃ p dx fl, x = .ref p ∧ H2 p = some (.ins C dx fl) ∧ P y H2 ∧ sp [x, y] H2 Q (WG g s) := by
  obtain ⟨Fz, r, R, q⟩ := h
  refine ⟨Fz, r, R, post_mono (post_bind q) fun x r1 q F1 H1 v sm R1 hv => ?_⟩
  refine ⟨F1, r1, R1, post_mono (post_bind q) fun y r2 q F2 H2 u sm2 R2 hu => ?_⟩
  obtain ⟨hok, q9⟩ := post_if q
  obtain ⟨h1, h2⟩ := Bool.and_eq_true_iff.mp hok
  cases x with
  | obj c' fl =>
    have h1 := of_decide_eq_true h1
    subst h1
    cases hv with
    | obj k1 k2 k3 =>
      cases hcl.inj k1
      exact ⟨_, _, _, rfl, R2.sub _ _ (sm2 _ _ k2), hP F2 H2 u y R2.sub hu h2, hsp _ _ _ ⟨F2, [.obj c' fl, y], R2.sub, .cons (.obj k1 (sm2 _ _ k2) (RDf.mono sm2 _ k3)) (.cons hu .nil), rfl, QX.of R2 (sm.trans sm2) q9⟩⟩
    | it k => exact absurd hcl (k _)
  | _ => cases h1
structure EqOk (K : PySem.W.Frag) (c : Str) : Prop where
  ex : ∃ C, ClsAt K c C ∧ C8.InsC K C ∧ ∀ T ∈ dTys, PySem.W.subIn K (.type T) (.ref C) = some false
theorem EqOk.ty {X : Cx} {c : Str} {C : Addr} (h : EqOk X.K c) (hcl : ClsAt X.K c C) {F H : Hp} {y : V} {dy : D} (sub : Same F H) (hy : RD X.K F y dy) (ho : eqArg c dy = true) : TyN X C y H := by
  obtain ⟨C', h1, IC, hT⟩ := h.ex
  cases hcl.inj h1
  have tyB : ∀ T, T ∈ dTys → PySem.W.notFirst X.K C (.type T) = true := fun T hT2 => by
    unfold PySem.W.notFirst
    rw [hT T hT2]
    simp
  cases dy with
  | scr _ => cases ho
  | obj c' fl =>
    have ho := of_decide_eq_true ho
    subst ho
    cases hy with
    | obj k1 k2 k3 =>
      cases hcl.inj k1
      exact ⟨.ref C, .base (TyOf.ins (sub _ _ k2) IC.cl IC.ha IC.hn IC.htk IC.hm), by unfold PySem.W.notFirst; simp⟩
    | it k => exact absurd hcl (k _)
  | non => exact ⟨_, ty_of sub (.inl hy) ⟨fun _ => nofun, fun _ _ => nofun⟩, tyB _ (by show ("NoneType" : String) ∈ dTys; decide)⟩
  | bl b => exact ⟨_, ty_of sub (.inl hy) ⟨fun _ => nofun, fun _ _ => nofun⟩, tyB _ (by show ("bool" : String) ∈ dTys; decide)⟩
  | int b => exact ⟨_, ty_of sub (.inl hy) ⟨fun _ => nofun, fun _ _ => nofun⟩, tyB _ (by show ("int" : String) ∈ dTys; decide)⟩
  | str b => exact ⟨_, ty_of sub (.inl hy) ⟨fun _ => nofun, fun _ _ => nofun⟩, tyB _ (by show ("str" : String) ∈ dTys; decide)⟩
  | lst b => exact ⟨_, ty_of sub (.inl hy) ⟨fun _ => nofun, fun _ _ => nofun⟩, tyB _ (by show ("list" : String) ∈ dTys; decide)⟩
  | tup b => exact ⟨_, ty_of sub (.inl hy) ⟨fun _ => nofun, fun _ _ => nofun⟩, tyB _ (by show ("tuple" : String) ∈ dTys; decide)⟩
  | dic b => exact ⟨_, ty_of sub (.inl hy) ⟨fun _ => nofun, fun _ _ => nofun⟩, tyB _ (by show ("dict" : String) ∈ dTys; decide)⟩
section
variable {X : Cx} {g : G} {k : Nat} {c : Str} {pos : Pos} {a b : Expr} {fo fe : En → Rs D}
theorem do_eqM {f : List D → Option OV} (h : HasMP X.prog X.w X.K X.mg X.base k c "__eq__" 2 f) (hE : EqOk X.K c) (hgd : X.A.guards = some []) (hr : Room k X.A) (ho : DE X g a fo) (hb : DE X g b fe) (hmk : behindInMarks .Eq b = false) :
    DO X g (.Compare a [.Eq] [b] pos) (opM c (eqArg c) (fun ds => toFR (f ds)) fo fe) := by
  obtain ⟨C, fa, fd, ps, F, hcl, hc, hm, h3⟩ := h.ex
  exact PE.imp (pe_eqGS (E := WG g) hm F hgd hr h3 (fun σ pins H s er s' I z => z.elim) ho hb hmk) fun s H Q h => opM_imp (P := fun y H => TyN X C y H) hcl (fun _ _ _ z => spP_X z) (fun F H y dy sub hy hok => hE.ty hcl sub hy hok) h
end
end DL

/-! Data layer, part 69: != of instances by their own __eq__. -/
namespace DL
open PySem L2
section
variable {prog : Program} {w : World} {A : Around} {E : Value → Shared → Prop} {s : Shared} {K : PySem.W.Frag} {x C f L : Addr} {ox : Obj} {od : Option Obj} {h₀ : Heap} {m : Str → Option Value} {b tb : Value}
theorem ifBound_objNe {M : Model} {args : List Value} {Q : Option Value → Shared → Prop} (X : K.In s.heap) (I : PySem.W.InstAt s.heap x ox C od) (hs : PySem.W.findIn K (.ref C) "__ne__" = some (some (.builtin "object.__ne__")))
    (h : wpAny M A (call (.builtin "object.__ne__") (.ref x :: args)) (fun v => Q (some v)) E s) : wpAny M A (callSpecialIfBound? (.ref x) "__ne__" args) Q E s := by
  simp only [callSpecialIfBound?, bindSpecialIfBound?]
  refine wpAny_holding (wpAny_bind (wpAny_bind (wpAny_bind (I.type.here ((PySem.W.looks_findIn X hs).here ?_)))))
  refine wpAny_bind (wpAny_askSetting (wpAny_ite ?_))
  have fin : wpAny M A (call (.builtin "object.__ne__") ([.ref x] ++ args) >>= fun v => pure (some v)) Q E s := wpAny_bind (wpAny_mono h (fun v s' h' => wpAny_pure h') fun _ _ h' => h')
  split
  · exact wpAny_bind (wpAny_of_eq (F.cmp_object.ne.bind _) (wpAny_pure (by exact fin)))
  · exact wpAny_tryCatch (wpAny_bind (wpAny_of_eq (F.cmp_object.ne.bind _) (wpAny_pure (by exact fin))))
theorem entry_ne {Q : Fin → Shared → Prop} (hu : A.units < cLine) (X : K.In s.heap) (I : PySem.W.InstAt s.heap x ox C od) (hs : PySem.W.findIn K (.ref C) "__eq__" = some (some (.ref f))) (hf : PySem.W.isFn K (.ref f) = true)
    (hcall : wpAny (model prog w) A (call (.ref f) [.ref x, b]) (fun v s' => ∃ r, v = .bool r ∧ Q (.done (.ret (.bool (!r)))) s') E s) :
    wpAny (model prog w) A (Builtin.«object.__ne__» ⟨[.ref x, b], []⟩) Q E s := by
  unfold Builtin.«object.__ne__»
  repeat (first
    | with_reducible refine wpAny_cRoomFor hu ?_
    | (refine wpAny_bind (m := callSpecialIfBound? (.ref x) (Str.ofString "__eq__") [b])
        (PySem.W.ifBound_K X I hs hf (wpAny_mono hcall (fun v s' hr => by
          obtain ⟨b, rfl, hq⟩ := hr
          repeat (first | exact hq | exact wpAny_pure hq | exact wpAny_truthy_bool hq | (refine wpAny_bind (m := truthy (.bool _)) (wpAny_truthy_bool ?_)) | wp_step)) fun _ _ e => e)))
    | wp_step)
theorem ne_K {Q : Value → Shared → Prop} (hu : A.units + 1 < cLine) (hF : PyProof.Rows.Fr h₀ L s.heap m) (X₀ : K.In h₀) (I : PySem.W.InstAt s.heap x ox C od) (hb : PySem.W.Looks (model prog w) s.heap (typeOf b) tb) (hn : PySem.W.notFirst K C tb = true)
    (hN : PySem.W.findIn K (.ref C) "__ne__" = some (some (.builtin "object.__ne__"))) (hm : PySem.W.mroIn K C (.type "object") = some true) (hs : PySem.W.findIn K (.ref C) "__eq__" = some (some (.ref f))) (hf : PySem.W.isFn K (.ref f) = true)
    (h : wpAny (model prog w) A.in1 (call (.ref f) [.ref x, b]) (fun v s' => ∃ r, v = .bool r ∧ Q (.bool (!r)) s') E s) : wpAny (model prog w) A (richCompare .NotEq (.ref x) b) Q E s := by
  have X := X₀.keeps hF.keep
  have hu1 : A.in1.units < cLine := hu
  have one : wpAny (model prog w) A (tryCompare (.ref x) "__ne__" b) (fun r s' => ∃ v, r = some v ∧ Q v s') E s := by
    unfold tryCompare
    refine wpAny_bind (ifBound_objNe X I hN (wpAny_call (codeAny_call_builtin F.cmp_object.ne.plain F.cmpEntry_ne (PySem.W.check_slot F.cmpKind_ne F.cmpSplit_ne (I.type.andThen (PySem.W.looks_mroIn X hm)) (F.cmpArgs_ne _ _) (entry_ne hu1 X I hs hf (wpAny_mono h (fun v s' hv => ?_) fun _ _ e => e))))))
    obtain ⟨r, rfl, hq⟩ := hv
    exact ⟨r, rfl, wpAny_pure ⟨_, rfl, hq⟩⟩
  unfold richCompare
  simp only [oneThing_ref]
  refine wpAny_holding (wpAny_bind (wpAny_cRoomFor (Nat.lt_of_succ_lt hu) ?_))
  refine wpAny_bind (I.type.here (wpAny_bind (hb.here ?_)))
  split
  · rename_i q
    have e : PySem.W.subIn K tb (.ref C) = some false := by
      rcases Bool.or_eq_true_iff.mp hn with e | e
      · rw [beq_iff_eq.mp e] at q; simp at q
      · exact beq_iff_eq.mp e
    refine wpAny_bind ((PySem.W.looks_subIn X e).here ?_)
    simp only [Bool.false_eq_true, if_false]
    refine wpAny_bind (wpAny_mono one (fun r s' z => ?_) fun _ _ e => e)
    obtain ⟨v, rfl, hq⟩ := z
    exact wpAny_pure hq
  · refine wpAny_bind (wpAny_pure ?_)
    simp only [Bool.false_eq_true, if_false]
    refine wpAny_bind (wpAny_mono one (fun r s' z => ?_) fun _ _ e => e)
    obtain ⟨v, rfl, hq⟩ := z
    exact wpAny_pure hq
end
section
variable {X : Cx} {CX : CXT} {k : Nat} {f C : Addr} {fd : FuncData} {ps : List Str} {sp : Sp} {E : St → XK} {pos : Pos} {a b : Expr} {ta tb : TE}
theorem ne_core {pins : List (Addr × Obj)} {σ : St} {H2 : Hp} {s2 : Shared} {Q : VK} {v u : Value} {x y : V} (hm : Meth X.K C "__eq__" f) (hN : PySem.W.findIn X.K (.ref C) "__ne__" = some (some (.builtin "object.__ne__"))) (hmo : PySem.W.mroIn X.K C (.type "object") = some true) (F : FnG X.prog X.w X.K X.mg X.base CX0 k f fd ps sp) (hgd : X.A.guards = some []) (hr : Room (k + 1) X.A) (hb : Binds X.K fd ps [])
    (I2 : Inv X pins σ H2 s2) (rx : RelV x v) (ry : RelV y u) (q : ∃ p dx fs, x = .ref p ∧ H2 p = some (.ins C dx fs) ∧ TyN X C y H2 ∧ sp [x, y] H2 (fun v H3 => ∃ r, v = .bl r ∧ Q (.bl (!r)) H3) (fun _ _ _ => False)) :
    wpAny (model X.prog X.w) X.A (compareOp .NotEq v u) (EP X pins σ Q) X.xe s2 := by
  obtain ⟨p, dx, fs, ex, ea, ⟨t, ty, hn⟩, q⟩ := q
  subst ex
  obtain rfl : v = Value.ref p := rx
  obtain ⟨mA, O, _⟩ := ins_get I2.hok ea
  obtain ⟨od, IA, _⟩ := O.look
  obtain ⟨m, hF⟩ := I2.fr
  obtain ⟨P, kx, hp, _⟩ := kit_of I2 ry ty
  show wpAny (model X.prog X.w) X.A (richCompare .NotEq (.ref p) u) (EP X pins σ Q) X.xe s2
  have r2 : Vals [V.ref p, y] [Value.ref p, u] := .cons rfl (.cons ry .nil)
  have bl := hb s2 [.ref p, u] I2.kIn (by rw [List.append_nil, ← r2.length]; exact F.len _ _ _ _ q)
  rw [List.append_nil] at bl
  refine ne_K (Nat.lt_of_le_of_lt (Nat.le_refl _) hr.in1.units0) hF I2.ok.mod.kin IA (kx.ty _ _ I2.kIn hp) hn hN hmo hm.at_ hm.fn ?_
  refine wpAny_call (codeAny_mono (F.run X.A.in1 X.stack s2 H2 ⟨[.ref p, u], []⟩ [.ref p, u] [.ref p, y] _ (fun _ _ _ => False) hgd hr.in1 I2.env0.in1 bl r2 q) ?_)
  intro res s3 hq
  cases res with
  | error er => exact hq.elim
  | ok fl =>
    cases fl with
    | ret u2 =>
      obtain ⟨v, H', I3, rv, r, ev, q⟩ := I2.after hq
      subst ev
      cases rv
      exact ⟨r, rfl, ⟨.bl (!r), H', I3, rfl, q⟩⟩
    | next => cases hq
    | brk => cases hq
    | cont => cases hq
theorem pe_neGS (hm : Meth X.K C "__eq__" f) (hN : PySem.W.findIn X.K (.ref C) "__ne__" = some (some (.builtin "object.__ne__"))) (hmo : PySem.W.mroIn X.K C (.type "object") = some true) (F : FnG X.prog X.w X.K X.mg X.base CX0 k f fd ps sp) (hgd : X.A.guards = some []) (hr : Room (k + 1) X.A) (hb : Binds X.K fd ps []) (ha : PE X a ta) (hb2 : PE X b tb) (hmk : behindInMarks .NotEq b = false) :
    PE X (.Compare a [.NotEq] [b] pos) (fun σ H Q => ta σ H fun x H1 => tb σ H1 fun y H2 => ∃ p dx fs, x = .ref p ∧ H2 p = some (.ins C dx fs) ∧ TyN X C y H2 ∧ sp [x, y] H2 (fun v H3 => ∃ r, v = .bl r ∧ Q (.bl (!r)) H3) (fun _ _ _ => False)) := by
  refine ⟨fun pins s σ H Q I h => ?_⟩
  exact wpAny_Compare1 (binT (R := fun x y H2 => ∃ p dx fs, x = .ref p ∧ H2 p = some (.ins C dx fs) ∧ TyN X C y H2 ∧ sp [x, y] H2 (fun v H3 => ∃ r, v = .bl r ∧ Q (.bl (!r)) H3) (fun _ _ _ => False)) ha hb2 I h fun v u s2 x y H2 I2 rx ry q => ne_core hm hN hmo F hgd hr hb I2 rx ry q) hmk
end
/-- not what f tells of the two -/
def neM (c : Str) (f : List D → Option OV) (fo fe : En → Rs D) : En → Rs D := fun r => (fo r).bind fun x r1 => (fe r1).bind fun y r2 => if (isC c x && eqArg c y) = true then (match f [x, y] with
  | some (.sh (.bl b)) => .ok (.bl (!b)) r2
  | _ => .bad) else .bad
structure NeOk (K : PySem.W.Frag) (c : Str) : Prop where
  ex : ∃ C, ClsAt K c C ∧ PySem.W.findIn K (.ref C) "__ne__" = some (some (.builtin "object.__ne__")) ∧ PySem.W.mroIn K C (.type "object") = some true
section
variable {X : Cx} {g : G} {k : Nat} {c : Str} {pos : Pos} {a b : Expr} {fo fe : En → Rs D}
theorem neM_imp {f : List D → Option OV} {C : Addr} {s : St} {H : Hp} {Q : VK} (hcl : ClsAt X.K c C) (hE : EqOk X.K c) (h : tD X.K g (neM c f fo fe) s H Q) :
    tD X.K g fo s H fun x H1 => tD X.K g fe s H1 fun y H2 => ∃ p dx fs, x = .ref p ∧ H2 p = some (.ins C dx fs) ∧ TyN X C y H2 ∧ spP X.K 2 f [x, y] H2 (fun v H3 => ∃ r, v = .bl r ∧ Q (.bl (!r)) H3) (fun _ _ _ => False) := by
  obtain ⟨Fz, r, R, q⟩ := h
  refine ⟨Fz, r, R, post_mono (post_bind q) fun x r1 q F1 H1 v sm R1 hv => ?_⟩
  refine ⟨F1, r1, R1, post_mono (post_bind q) fun y r2 q F2 H2 u sm2 R2 hu => ?_⟩
  obtain ⟨hok, q9⟩ := post_if q
  obtain ⟨h1, h2⟩ := Bool.and_eq_true_iff.mp hok
  cases x with
  | obj c' fl =>
    have h1 := of_decide_eq_true h1
    subst h1
    cases hv with
    | obj k1 k2 k3 =>
      cases hcl.inj k1
      revert q9
      cases e : f [.obj c' fl, y] with
      | none => exact fun q9 => q9.elim
      | some o =>
        cases o with
        | sh d =>
          cases d with
          | bl bb =>
            intro q9
            refine ⟨_, _, _, rfl, R2.sub _ _ (sm2 _ _ k2), hE.ty hcl R2.sub hu h2, F2, [.obj c' fl, y], .sh (.bl bb), R2.sub, .cons (.obj k1 (sm2 _ _ k2) (RDf.mono sm2 _ k3)) (.cons hu .nil), rfl, e, fun F' H' v s1 s2 fr s3 hv => ?_⟩
            have hv : RD X.K F' v (.bl bb) := hv
            cases hv
            exact ⟨bb, rfl, q9 F' H' _ ((sm.trans sm2).trans s1) (R2.after s1 s2 fr s3) (.bl _)⟩
          | _ => exact fun q9 => q9.elim
        | _ => exact fun q9 => q9.elim
    | it k => exact absurd hcl (k _)
  | _ => cases h1
theorem de_neM {f : List D → Option OV} (h : HasMP X.prog X.w X.K X.mg X.base k c "__eq__" 2 f) (hE : EqOk X.K c) (hN : NeOk X.K c) (hgd : X.A.guards = some []) (hr : Room (k + 1) X.A) (ho : DE X g a fo) (hb : DE X g b fe) (hmk : behindInMarks .NotEq b = false) :
    DE X g (.Compare a [.NotEq] [b] pos) (neM c f fo fe) := by
  obtain ⟨C, fa, fd, ps, F, hcl, hc, hm, h3⟩ := h.ex
  obtain ⟨C', h1, hN1, hN2⟩ := hN.ex
  cases hcl.inj h1
  exact PE.imp (pe_neGS hm hN1 hN2 F hgd hr h3 ho hb hmk) fun s H Q h => neM_imp hcl hE h
end
end DL

/-! Data layer, part 70: == and != of dicts whose values are plain data, with both answers. -/
namespace DL
open PySem L2
theorem u70 {k : Nat} {A : Around} (r : Room k A) : A.units + 70 < cLine := by have := r.un; omega
/-- the entries of the one, looked up in the other -/
def hitsB (es : List (Key × D)) : List (Key × D) → Option Bool
  | [] => some true
  | (k, d) :: ds => match valD es k with
    | none => some false
    | some e => if d.fit && e.fit then (hitsB es ds).map fun b => d.eqv e && b else none
def dicB : D → D → Option Bool
  | .dic ds, .dic es => if ds.length = es.length then hitsB es ds else some false
  | _, _ => none
def semEqK (d e : D) : Option D := match dicB d e with
  | some b => some (.bl b)
  | none => semEq d e
section
variable {X : Cx} {pins : List (Addr × Obj)} {s : Shared} {H : Hp} {sg : L2.St} {g : G}
theorem valD_val {K : PySem.W.Frag} {F : Hp} {k : Key} : ∀ {es : List (Key × D)} {ls : List (Key × V)}, RDk K F ls es → (valD es k = none ∧ valV ls k = none) ∨ ∃ e u, valD es k = some e ∧ valV ls k = some u ∧ RD K F u e
  | [], _, h => by cases h; exact .inl ⟨rfl, rfl⟩
  | (j, e) :: es, _, h => by
    cases h with
    | @cons _ u us _ _ h1 h2 =>
      by_cases hk : j = k
      · refine .inr ⟨e, u, ?_, ?_, h1⟩
        · unfold valD
          rw [List.find?_cons]
          simp only [hk, decide_true, Option.map_some]
        · unfold valV
          rw [List.find?_cons]
          simp only [hk, decide_true, Option.map_some]
      · have e1 : valD ((j, e) :: es) k = valD es k := by
          unfold valD
          rw [List.find?_cons]
          simp only [hk, decide_false]
        have e2 : valV ((j, u) :: us) k = valV us k := by
          unfold valV
          rw [List.find?_cons]
          simp only [hk, decide_false]
        rw [e1, e2]
        exact valD_val h2
theorem eqAt_fit (I : L2.Inv X pins sg H s) {A : Around} (hu : A.in1.units + 64 < cLine) {d e : D} {x y : V} {v u : Value} (hd : d.fit = true) (he : e.fit = true) (h1 : RD X.K H x d) (h2 : RD X.K H y e) (r1 : RelV x v) (r2 : RelV y u) : SeqAt.EqAt A.in1 s v u (d.eqv e) := by
  have p1 := (Bool.and_eq_true_iff.mp hd).1
  have p2 := (Bool.and_eq_true_iff.mp he).1
  obtain ⟨as, q1⟩ := RD.reads I d x v p1 h1 r1
  obtain ⟨bs, q2⟩ := RD.reads I e y u p2 h2 r2
  have := PySem.W.keq_at (A := A) q1 q2 (fit_shaped hd) (fit_shaped he) hu
  rw [py_eqv d e p1 p2] at this
  exact this
theorem hits_of (I : L2.Inv X pins sg H s) {A : Around} (hu : A.in1.units + 64 < cLine) {es : List (Key × D)} {ls : List (Key × V)} {vb : List (Key × Value)} (hb : RDk X.K H ls es) (rb : KV ls vb) : ∀ {ds : List (Key × D)} {ks : List (Key × V)} {va : List (Key × Value)} {r : Bool}, RDk X.K H ks ds → KV ks va → hitsB es ds = some r → PySem.W.KeqHits A.in1 s vb va r
  | [], _, _, r, h, ra, e => by
    cases h
    unfold KV at ra
    cases ra
    cases e
    exact .nil
  | (k, d) :: ds, _, _, r, h, ra, e => by
    cases h with
    | @cons _ x xs _ _ h1 h2 =>
      unfold KV at ra
      cases ra with
      | @cons _ q _ qs hh ht =>
        obtain ⟨hk, hx⟩ := hh
        obtain ⟨key, v⟩ := q
        have hk : k = key := hk
        subst hk
        have rr := rb.val k
        have e : (match valD es k with
          | none => some false
          | some e => if (d.fit && e.fit) = true then (hitsB es ds).map fun b => d.eqv e && b else none) = some r := e
        rcases valD_val (k := k) hb with ⟨n1, n2⟩ | ⟨e0, u, n1, n2, n3⟩
        · rw [n1] at e
          cases e
          rw [n2] at rr
          refine .miss ?_
          cases hv : valueAt vb k with
          | none => rfl
          | some z => rw [hv] at rr; cases rr
        · rw [n1] at e
          by_cases hf : (d.fit && e0.fit) = true
          · simp only [if_pos hf] at e
            obtain ⟨b, e1, rfl⟩ := Option.map_eq_some_iff.mp e
            obtain ⟨f1, f2⟩ := Bool.and_eq_true_iff.mp hf
            rw [n2] at rr
            obtain ⟨y, hy, ry⟩ := rr.some_of
            exact .hit hy (eqAt_fit I hu f1 f2 h1 n3 hx ry) (hits_of I hu hb rb h2 ht e1)
          · simp only [if_neg hf] at e
            cases e
theorem dic_cmp (hu : X.A.units + 70 < cLine) {x y : V} {v u : Value} {ds es : List (Key × D)} {r : Bool} (I : L2.Inv X pins sg H s) (hx : RD X.K H x (.dic ds)) (hy : RD X.K H y (.dic es)) (rx : RelV x v) (ry : RelV y u) (e : dicB (.dic ds) (.dic es) = some r) (E Q : Value → Shared → Prop) :
    (Q (.bool r) s → wpAny (model X.prog X.w) X.A (compareOp .Eq v u) Q E s) ∧ (Q (.bool (!r)) s → wpAny (model X.prog X.w) X.A (compareOp .NotEq v u) Q E s) := by
  cases hx with
  | @dic a _ ks _ a1 a2 =>
    cases hy with
    | @dic b _ ls _ b1 b2 =>
      have r1 := (show v = _ from rx)
      have r2 := (show u = _ from ry)
      subst r1
      subst r2
      obtain ⟨_, _, ya, va, ra, da⟩ := (show ObjOk X.prog X.w H s.heap a (.frz _ (.dK ks)) from I.hok a _ a1)
      obtain ⟨_, _, yb, vb, rb, db⟩ := (show ObjOk X.prog X.w H s.heap b (.frz _ (.dK ls)) from I.hok b _ b1)
      have l1 := ra.length
      have l2 := rb.length
      have l3 := a2.len
      have l4 := b2.len
      have e : (if ds.length = es.length then hitsB es ds else some false) = some r := e
      have hu1 : X.A.in1.units + 64 < cLine := by rw [units_in1]; omega
      have hl : va.length = vb.length ↔ ds.length = es.length := by omega
      have main : ∃ r', (va.length = vb.length → PySem.W.KeqHits X.A.in1 s vb va r') ∧ (va.length == vb.length && r') = r := by
        by_cases hd : ds.length = es.length
        · rw [if_pos hd] at e
          refine ⟨r, fun _ => hits_of I hu1 b2 rb a2 ra e, ?_⟩
          rw [beq_iff_eq.mpr (hl.mpr hd), Bool.true_and]
        · rw [if_neg hd] at e
          cases e
          refine ⟨false, fun z => absurd (hl.mp z) hd, by rw [Bool.and_false]⟩
      obtain ⟨r', h1, h2⟩ := main
      refine ⟨fun q => PySem.W.keq_eq (knd := mixKind X.prog X.w) (r := r') ya yb da db (by omega) h1 (by rw [h2]; exact q), fun q => PySem.W.keq_ne (knd := mixKind X.prog X.w) (r := r') ya yb da db (by omega) h1 (by rw [h2]; exact q)⟩
theorem dicB_some {d e : D} {b : Bool} (h : dicB d e = some b) : ∃ ds es, d = .dic ds ∧ e = .dic es := by
  unfold dicB at h
  split at h
  · exact ⟨_, _, rfl, rfl⟩
  · cases h
theorem opd_eqK (hu : X.A.units + 70 < cLine) : OpR X (compareOp .Eq) (rD2 X.K g semEqK) := by
  intro pins s sg H x y v u Q I rx ry h
  obtain ⟨F, s0, r, dx, dy, d, R, hx, hy, e, q⟩ := h
  unfold semEqK at e
  split at e
  · next b eb =>
    cases e
    obtain ⟨ds, es, rfl, rfl⟩ := dicB_some eb
    exact (dic_cmp hu I (RD.mono R.sub _ (hx.flat (fun _ => nofun))) (RD.mono R.sub _ (hy.flat (fun _ => nofun))) rx ry eb _ _).1 ⟨.bl b, H, I, rfl, q F H _ (Same.refl _) R (.bl _)⟩
  · exact opd_eq (by omega) pins s sg H x y v u Q I rx ry ⟨F, s0, r, dx, dy, d, R, hx, hy, e, q⟩
end
end DL

/-! Data layer, part 71: expressions that give a dict that nobody else has: dict(d), a call of a def that returns its own dict, a if c else b; x = e. -/
namespace DL
open PySem L2
def setK (i : Nat) (f : En → Rs (List (Key × D))) : En → SRs := fun r => thenS (f r) fun kvs r1 => .nx (r1.set i (some (.th (.dk kvs))))
section
variable {X : Cx} {g : G} {x : Str} {p pos : Pos} {i : Nat} {e a b c : Expr}
def ifK (t : En → Rs Bool) (f h : En → Rs (List (Key × D))) : En → Rs (List (Key × D)) := fun r => (t r).bind fun b r1 => if b = true then f r1 else h r1
/-- dict(d), d a dict -/
def cpK (f : En → Rs D) : En → Rs (List (Key × D)) := fun r => (f r).bind fun d r1 => match d with
  | .dic kvs => .ok kvs r1
  | _ => .bad
end
end DL

/-! Data layer, part 72: defs whose first parameter is a list by reference and that return their own dict; such a dict frozen. -/
namespace DL
open PySem L2
section
variable {X : Cx} {g : G} {x : Str} {p pos : Pos} {i : Nat} {e a b c : Expr} {st : Stmt} {sts : List Stmt}
/-- a new dict as a value: frozen -/
def frzK (f : En → Rs (List (Key × D))) : En → Rs D := fun r => (f r).bind fun kvs r1 => .ok (.dic kvs) r1
/-- a name's dict as a value: frozen in its place -/
def vDk (i : Nat) : En → Rs D := fun r => match r[i]? with
  | some (some (.sh d)) => .ok d r
  | some (some (.th (.dk kvs))) => .ok (.dic kvs) (r.set i (some (.sh (.dic kvs))))
  | _ => .bad
/-! ### bodies that end with: return x, the dict of slot i -/
def SPk (K : PySem.W.Frag) (g : G) (F : Hp) (E : Ends) (i : Nat) : SRs → Prop
  | .nx r' => (∃ kvs, r'[i]? = some (some (.th (.dk kvs)))) ∧ ∀ F' H' s' v, Same F F' → Rel K g F' H' s' r' → s'[i]? = some (some v) → E.rt v H'
  | _ => False
theorem SPk.mono {K : PySem.W.Frag} {F F' : Hp} {E : Ends} {y : SRs} (h : SPk K g F E i y) (e : Same F F') : SPk K g F' E i y := by
  cases y with
  | nx r => exact ⟨h.1, fun F2 H2 s2 v e2 R2 hv => h.2 F2 H2 s2 v (e.trans e2) R2 hv⟩
  | _ => exact h
end
/-! ### the promise -/
def spBD (K : PySem.W.Frag) (n : Nat) (f : List D → List D → Option (List (Key × D) × List D)) : Sp := fun vs H Q _ => ∃ F a bs vb ws ds kvs bs', vs = .ref a :: ws ∧ Same F H ∧ F a = none ∧ H a = some (.lst vb) ∧ RDs K F vb bs ∧ RDs K F ws ds ∧ ds.length = n ∧ f bs ds = some (kvs, bs') ∧
  ∀ F' H' v vb', Same F F' → Same F' H' → Fresh F F' H → (∀ b o, H b = some o → b ≠ a → H' b = some o) → F' a = none → H' a = some (.lst vb') → RDs K F' vb' bs' → (∃ c us, v = .ref c ∧ F' c = none ∧ H' c = some (.dK us) ∧ RDk K F' us kvs ∧ H c = none) → Q v H'
section
variable {P : Program} {w : World} {K : PySem.W.Frag} {mg : Str → Option Value} {base : Heap}
end
structure HasBD (P : Program) (w : World) (K : PySem.W.Frag) (mg : Str → Option Value) (base : Heap) (k : Nat) (x : Str) (n : Nat) (f : List D → List D → Option (List (Key × D) × List D)) : Prop where
  ex : ∃ fa fd ps, FnG P w K mg base CX0 k fa fd ps (spBD K n f) ∧ mg x = some (.ref fa) ∧ PySem.W.keepIn K (.ref fa) = true ∧ Binds K fd ps []
/-- f(bag, e, ..), the bag in slot j: a dict of its own -/
def callBD (n : Nat) (f : List D → List D → Option (List (Key × D) × List D)) (j : Nat) (fs : List (En → Rs D)) : En → Rs (List (Key × D)) := fun r => (fill r j).bind fun _ r => (evs fs r).bind fun ds r1 => if ds.length = n then
  (ofO (((lookV r1 j).bind OV.lst?).bind fun bs => f bs ds) r1).bind fun z r1 => .ok z.1 (r1.set j (some (.ow z.2))) else .bad
section
variable {X : Cx} {g : G} {k n : Nat} {x : Str} {p pos : Pos} {e : Expr} {es : List Expr}
end
end DL

/-! Data layer, part 73: xs.pop(i) as a value; d[k] of an owned dict with tuples as keys; x, y = {k: v}, e. -/
namespace DL
open PySem L2
section
variable {X : Cx} {g : G} {x y : Str} {p pos apos cpos px py pt pt2 pd : Pos} {e e2 ek ev : Expr} {kt k2 i j : Nat}
/-! ### pop -/
def popP (k : D) : List D → Option (D × List D) := fun xs => match k with
  | .int i => if 0 ≤ i ∧ i < 1000000 then (ixN xs.length i).bind fun j => (xs[j]?).map fun d => (d, xs.eraseIdx j) else none
  | _ => none
def popV (i : Nat) (f : En → Rs D) : En → Rs D := fun r => (fillW r i).bind fun _ r => (f r).bind fun d r1 => match r1[i]? with
  | some (some (.ow xs)) => match popP d xs with
    | some z => .ok z.1 (r1.set i (some (.ow z.2)))
    | none => .bad
  | _ => .bad
theorem de_popV {f : En → Rs D} (hv : PE X (.Name x p) (tVar i)) (h : DE X g e f) (hst : starEach [e] X.env = [(false, eval e X.env)] := by rfl) (hb : attributeBase (.Name x p) "pop" X.env (eval (.Name x p) X.env) = eval (.Name x p) X.env := by rfl)
    (hline : (apos.endLine == cpos.line) = true := by rfl)
    (hfew : ((backTo cpos (starEach [e] X.env)).all (fun x => !x.1) && (backToKw cpos (keywordEach [] X.env)).all (fun x => x.1.isSome) && decide ([e].length + ([] : List Keyword).length + (if ([] : List Keyword).isEmpty then 0 else 1) < 30)) = true := by rfl)
    (hpl : (backTo cpos (starEach [] X.env)).any (·.1) = false := by rfl) : DE X g (.Call (.Attribute (.Name x p) "pop" apos) [e] [] cpos) (popV i f) :=
  PE.imp (pe_bm PySem.F.plainAttrs_list PySem.F.slot_list_pop PySem.F.type_list_pop mt_popAt hv (pa_cons h pa_nil hst) hb hfew hline hst hpl) fun s H Q ⟨F, r, R, q⟩ => by
    obtain ⟨⟨xs, e0⟩, q⟩ := post_fillW (post_bind q)
    obtain ⟨v, h1, a, vs, rfl, fa, ha, hvs⟩ := R.slot i _ e0
    refine ⟨_, h1, .inl ⟨rfl, vs, .of ha⟩, F, r, R, post_mono (post_bind q) fun d r1 q F1 H1 w sm R1 hw => ?_⟩
    split at q
    · next ys e1 =>
      obtain ⟨v', g1, b, ws, rfl, fb, hb', hws⟩ := R1.slot i _ e1
      rw [h1] at g1
      cases g1
      split at q
      · next z ez =>
        unfold popP at ez
        split at ez
        · split at ez
          · next hk =>
            obtain ⟨j, ej, ez⟩ := Option.bind_eq_some_iff.mp ez
            obtain ⟨d', ed, rfl⟩ := Option.map_eq_some_iff.mp ez
            cases hw
            obtain ⟨z1, z2, z3, z4⟩ := ixN_seq ej
            rw [← hws.length] at z1 z2
            obtain ⟨u, eu, hu⟩ := hws.get ed
            have eu2 : ws[j] = u := by
              rw [List.getElem?_eq_getElem z2] at eu
              exact Option.some.inj eu
            exact ⟨a, ws, _, j, ws[j], rfl, rfl, hb', by omega, by omega, z1, List.getElem?_eq_getElem z2, q F1 _ _ sm (R1.chg e1 h1 fb hb' (hws.erase j)) (by rw [eu2]; exact hu)⟩
          · cases ez
        · cases ez
      · exact q.elim
    · exact q.elim
/-! ### d[k] -/
def odAt (kvs : List (D × D)) (k : NestedKey) : Option D := (kvs.find? fun p => decide (p.1.nk = some k)).map (·.2)
theorem RDm.at {K : PySem.W.Frag} {F : Hp} {k : NestedKey} {d : D} : ∀ {kvs : List (D × D)} {xs : List (NestedKey × Addr × V)}, RDm K F xs kvs → odAt kvs k = some d → ∃ x, (xs.find? fun x => decide (x.1 = k)) = some x ∧ RD K F x.2.2 d
  | [], _, _, h => by cases h
  | (kd, d') :: kvs, _, h, e => by
    cases h with
    | @cons k' a v xs _ _ _ h1 h2 h3 h4 =>
      by_cases hk : k' = k
      · have : kd.nk = some k := by rw [h2.1, hk]
        have e : (List.find? (fun p : D × D => decide (p.1.nk = some k)) ((kd, d') :: kvs)).map (·.2) = some d := e
        rw [List.find?_cons_of_pos (by simpa using this)] at e
        refine ⟨(k', a, v), List.find?_cons_of_pos (by simpa using hk), ?_⟩
        have e : d' = d := Option.some.inj e
        rw [← e]
        exact h3
      · have hn : ¬ kd.nk = some k := fun z => hk (by rw [h2.1] at z; exact Option.some.inj z)
        have e : (List.find? (fun p : D × D => decide (p.1.nk = some k)) ((kd, d') :: kvs)).map (·.2) = some d := e
        rw [List.find?_cons_of_neg (by simpa using hn)] at e
        obtain ⟨x, e1, e2⟩ := RDm.at h4 e
        exact ⟨x, by rw [List.find?_cons_of_neg (by simpa using hk)]; exact e1, e2⟩
def getOd (i : Nat) (f : En → Rs D) : En → Rs D := fun r => (fill r i).bind fun _ r => (f r).bind fun kd r1 => match r1[i]? with
  | some (some (.od kvs)) => ofO (kd.key8.bind fun k => odAt kvs k) r1
  | _ => .bad
/-! ### x, y = {k: v}, e -/
def parOd1 (i j : Nat) (fk fv : En → Rs D) (h : En → Rs OV) : En → SRs := fun r => thenS (fk r).noE fun kd r1 => thenS (fv r1).noE fun d r2 => thenS (ofO kd.key8 r2) fun _ r2 => thenS (h r2).noE fun o r3 => .nx ((r3.set i (some (.od [(kd, d)]))).set j (some o))
end
end DL

/-! Data layer, part 74: a set's table laid anew has a place for each. -/
namespace DL
open PySem L2
open PySem.SetTable
/-! ### the search for a place -/
def lcg (M n i : Nat) : Nat := match n with
  | 0 => i
  | n + 1 => lcg M n ((i * 5 + 1) % M)
def orb (M : Nat) : Nat → Nat → List Nat
  | 0, _ => []
  | n + 1, i => i :: orb M n ((i * 5 + 1) % M)
theorem orb_mem {M j : Nat} : ∀ {n i : Nat}, j ∈ orb M n i → ∃ k, k < n ∧ lcg M k i = j
  | 0, _, h => by cases h
  | n + 1, i, h => by
    rcases List.mem_cons.mp h with rfl | h
    · exact ⟨0, Nat.succ_pos _, rfl⟩
    · obtain ⟨k, hk, e⟩ := orb_mem h
      exact ⟨k + 1, Nat.succ_lt_succ hk, e⟩
def coverB (M : Nat) : Bool := (List.range M).all fun i => let o := orb M M i; (List.range M).all fun j => o.contains j
theorem cover_of {M : Nat} (h : coverB M = true) {i j : Nat} (hi : i < M) (hj : j < M) : ∃ k, k < M ∧ lcg M k i = j := by
  unfold coverB at h
  rw [List.all_eq_true] at h
  have h1 := h i (List.mem_range.mpr hi)
  have h1 : ((List.range M).all fun j => (orb M M i).contains j) = true := h1
  rw [List.all_eq_true] at h1
  exact orb_mem (List.contains_iff_mem.mp (h1 j (List.mem_range.mpr hj)))
/-- the steps of a search -/
def stp (mask : Nat) : Nat → Nat × Nat → Nat × Nat
  | 0, q => q
  | n + 1, q => stp mask n (leap mask q.1 q.2)
theorem stp_add (mask : Nat) : ∀ (m n : Nat) (q : Nat × Nat), stp mask (m + n) q = stp mask n (stp mask m q)
  | 0, n, q => by rw [Nat.zero_add]; rfl
  | m + 1, n, q => by
    rw [Nat.add_right_comm]
    show stp mask (m + n) (leap mask q.1 q.2) = _
    rw [stp_add mask m n]
    rfl
theorem stp_lt {mask : Nat} : ∀ (n : Nat) {q : Nat × Nat}, q.1 < mask + 1 → (stp mask n q).1 < mask + 1
  | 0, _, h => h
  | n + 1, q, h => stp_lt n (Nat.mod_lt _ (Nat.succ_pos _))
theorem stp_snd {mask : Nat} : ∀ (n : Nat) (q : Nat × Nat), (stp mask n q).2 = q.2 / 32 ^ n
  | 0, q => by rw [Nat.pow_zero, Nat.div_one]; rfl
  | n + 1, q => by
    show (stp mask n (leap mask q.1 q.2)).2 = _
    rw [stp_snd n]
    show q.2 / 32 / 32 ^ n = _
    rw [Nat.div_div_eq_div_mul, Nat.pow_succ, Nat.mul_comm]
theorem stp_zero {mask : Nat} : ∀ (n i : Nat), stp mask n (i, 0) = (lcg (mask + 1) n i, 0)
  | 0, i => rfl
  | n + 1, i => by
    show stp mask n (leap mask i 0) = _
    have : leap mask i 0 = ((i * 5 + 1) % (mask + 1), 0) := by
      unfold leap
      rw [Nat.zero_div, Nat.add_zero]
    rw [this, stp_zero n]
    rfl
/-- each place is met in time -/
theorem meets {mask : Nat} (hc : coverB (mask + 1) = true) {i p j : Nat} (hi : i < mask + 1) (hp : p < 2 ^ 64) (hj : j < mask + 1) : ∃ n, n < turns mask ∧ (stp mask n (i, p)).1 = j := by
  have h13 : (stp mask 13 (i, p)).2 = 0 := by
    rw [stp_snd]
    exact Nat.div_eq_of_lt (Nat.lt_trans hp (by decide))
  obtain ⟨k, hk, e⟩ := cover_of hc (stp_lt 13 (q := (i, p)) hi) hj
  refine ⟨13 + k, by unfold turns; omega, ?_⟩
  rw [stp_add]
  have : stp mask 13 (i, p) = ((stp mask 13 (i, p)).1, 0) := by rw [← h13]
  rw [this, stp_zero]
  exact e
/-! ### a table laid -/
theorem bits_lt (h : Int) : bits h < 2 ^ 64 := by
  unfold bits
  have h1 : 0 ≤ h % (2 ^ 64 : Int) := Int.emod_nonneg _ (by decide)
  have h2 : h % (2 ^ 64 : Int) < 2 ^ 64 := Int.emod_lt_of_pos _ (by decide)
  omega
end DL

/-! Data layer, part 75: a set of texts merged into another one. -/
namespace DL
open PySem L2 PyProof.Rows PySem.Froz
section
variable {P : Program} {w : World} {A : Around} {E : Value → Shared → Prop} {s : Shared} {a r : Addr} {l : List Str}
variable {b : Addr} {l2 : List Str}
end
end DL

/-! Data layer, part 76: the union of two sets of texts; sorted({..} | {..}). -/
namespace DL
open PySem L2 PyProof.Rows PySem.Froz
open Builtin.Frozenset in
section
variable {P : Program} {w : World} {A : Around} {E : Value → Shared → Prop} {s : Shared} {a b : Addr} {l l2 : List Str}
theorem SetX.typeIs {s : Shared} {a : Addr} {l : List Str} (R : SetX P w s.heap a l) : s.TypeIs (.ref a) "set" := by
  obtain ⟨Z, ho, _⟩ := R
  exact ⟨_, ho, rfl⟩
open Builtin Builtin.Frozenset in
open Builtin Builtin.Frozenset in
end
end DL

/-! Data layer, part 77: sorted({..} | {..}), texts. -/
namespace DL
open PySem L2 PySem.Froz PyProof.Rows
section
variable {X : Cx} {g : G} {elt tg iter a b : Expr} {ifs : List Expr} {gs : List Comprehension} {scope : Scope} {own : List (PySem.Str × Nat)} {pos : Pos} {c : GDt} {cs : List GDt} {fe : En → Rs D} {fa fb : En → Rs (List Str)}
/-- sorted(a | b), sets of texts -/
def orS (fa fb : En → Rs (List Str)) : En → Rs OV := fun r => (fa r).bind fun ts r1 => (fb r1).bind fun us r2 => ofO (if (addT [] ts).length ≤ 15 ∧ (addT [] us).length ≤ 15 then some (OV.ow ((srtT (ts ++ us)).map D.str)) else none) r2
end
end DL

/-! Data layer, part 78: a dict of the module whose values are any flat data. -/
namespace DL
open PySem L2
end DL

/-! Data layer, part 79: enumerate of a list or of a tuple. -/
namespace DL
open PySem PySem.Spec PyProof.Rows L2
section
variable {prog : Program} {w : World} {A : Around} {E : Value → Shared → Prop} {s : Shared}
end
/-! by data -/
section
variable {X : Cx} {g : G} {tg e a b : Expr} {pos p : Pos}
def D.asE : D → Option (List D)
  | .lst ds => some ds
  | .tup ds => some ds
  | _ => none
def enX (f : En → Rs D) : En → Rs (List D) := fun r => (f r).bind fun d r1 => ofO (d.asE.map (enumD 0)) r1
end
end DL

/-! Data layer, part 80: defs that are handed the error that is handled; isinstance and fields of it there. -/
namespace DL
open PySem L2
/-- what such a def promises -/
structure FnE (P : Program) (w : World) (K : PySem.W.Frag) (mg : Str → Option Value) (base : Heap) (k : Nat) (f : Addr) (fd : FuncData) (a : Str) (fe : Exn → Option D) : Prop where
  run : ∀ (A : Around) (outer : List Env) (s : Shared) (H : Hp) (args : Args) (u : Value) (Q : VK) (p : Addr × Obj) (cls : Value) (d : Option Addr) (F : Hp) (x : Exn) (o : D),
    L2H.RoomH k A → A.guards = some [] → L2H.PinOk outer H s p → Zc cls d p.2 → (∃ vs, p.2.data = .fields vs) → Env0 P w K mg base A outer s H → BindsTo s fd args [(a, u)] → RelV (.ref p.1) u → Same F H → RX K F cls d x → fe x = some o →
    (∀ F' H' v, Same F F' → Same F' H' → Fresh F F' H → Same H H' → RD K F' v o → Q v H') → codeAny (model P w) A (.call (.ref f) args) (CR CX0 outer P w H s Q fun _ _ _ => False) s
section
variable {P : Program} {w : World} {K : PySem.W.Frag} {mg : Str → Option Value} {base : Heap}
end
structure HasEx (P : Program) (w : World) (K : PySem.W.Frag) (mg : Str → Option Value) (base : Heap) (k : Nat) (x : Str) (fe : Exn → Option D) : Prop where
  ex : ∃ fa fd a, FnE P w K mg base k fa fd a fe ∧ mg x = some (.ref fa) ∧ PySem.W.keepIn K (.ref fa) = true ∧ Binds K fd [a] []
/-! ### the error in slot i, pinned -/
section
variable {Y : Cx} {g' : G} {a : Addr} {oe : Obj} {cls : Value} {d : Option Addr} {n : Str} {np p : Pos} {i : Nat}
/-! ### the call in an except suite -/
end
end DL

/-! Data layer, part 81: a lambda handed to a def that calls it in a try; tables of code objects. -/
namespace DL
open PySem PySem.Spec PyProof.Rows L2
section
variable {X : Cx} {pins : List (Addr × Obj)} {σ : L2.St} {H : Hp} {s : Shared}
end
/-! ### the relation behind it -/
section
variable {K : PySem.W.Frag} {g : G} {F H : Hp} {s : L2.St} {r : En} {P : Addr} {q : Str}
theorem Rel.tab {ps qs : Array Value} (R : Rel K g F H s r) (hm : (P, q) ∈ g.T) (hu : ∀ p ∈ g.T, p.1 = P → p.2 = q) (hX : g.X = []) (hH : H P = some (.tbl ps)) (ht : TriplesOk qs.toList) (hc : ∀ (pos : Pos) (cv : Value), codeAmong pos qs.toList = some cv → ∃ c, cv = .ref c ∧ F c = some (LamX.CodeO c q)) :
    Rel K g F (L2.upd H P (.tbl qs)) s r := by
  obtain ⟨hF, h0, hB, _⟩ := R.tb _ hm
  have hF : F P = none := hF
  refine ⟨fun b u e => ?_, R.f0, R.fnew, fun b u e hb ht' => ?_, fun i u e => ?_, R.own, R.dist, R.pin, R.len, fun p hp => ?_, fun p hp => by rw [hX] at hp; cases hp⟩
  · rw [upd_ne fun z => by rw [z, hF] at e; cases e]; exact R.sub b u e
  · rw [upd_ne fun z => ht' _ hm z.symm]; exact R.keep b u e hb ht'
  · obtain ⟨v, h1, h2⟩ := R.slot i u e
    refine ⟨v, h1, ?_⟩
    have ne : ∀ {a : Addr} {o : HO}, H a = some o → (∀ ps, o ≠ .tbl ps) → a ≠ P := fun {a o} e n z => by
      rw [z, hH] at e
      exact n _ (Option.some.inj e).symm
    cases u with
    | sh d => exact h2
    | ow xs =>
      obtain ⟨a, vs, e1, e2, e3, e4⟩ := h2
      exact ⟨a, vs, e1, e2, by rw [upd_ne (ne e3 fun _ z => nomatch z)]; exact e3, e4⟩
    | od xs =>
      obtain ⟨a, vs, e1, e2, e3, e4⟩ := h2
      exact ⟨a, vs, e1, e2, by rw [upd_ne (ne e3 fun _ z => nomatch z)]; exact e3, e4⟩
    | oi c xs =>
      obtain ⟨a, vs, e1, e2, e3, e4⟩ := h2
      exact ⟨a, vs, e1, e2, by rw [upd_ne (ne e3 fun _ z => nomatch z)]; exact e3, e4⟩
    | th t =>
      obtain ⟨a, o, e1, e2, e3, e4⟩ := h2
      refine ⟨a, o, e1, e2, ?_, e4⟩
      cases t with
      | st ds =>
        obtain ⟨L, rfl, _⟩ := e4
        rw [upd_ne (ne e3 fun _ z => nomatch z)]; exact e3
      | dk kvs =>
        obtain ⟨vs, rfl, _⟩ := e4
        rw [upd_ne (ne e3 fun _ z => nomatch z)]; exact e3
    | exc c => exact h2
  · obtain ⟨h1, h2, h3, ps', h4, h5, h6⟩ := R.tb p hp
    refine ⟨h1, h2, h3, ?_⟩
    by_cases hp1 : p.1 = P
    · rw [hp1, hu p hp hp1]
      exact ⟨qs, upd_same, ht, hc⟩
    · exact ⟨ps', by rw [upd_ne hp1]; exact h4, h5, h6⟩
end
/-! ### the def that hears -/
/-- the body of the def that hears -/
abbrev hearB (a n e y : Str) (j : Nat) (p1 p2 p3 p4 p5 p6 p7 p8 p9 p10 p11 p12 p13 : Pos) (k1 : Nat) : List Stmt :=
  [.Try [.Return (some (.Tuple [.Constant (.str "told") j p1, .Call (.Name a p2) [] [] p3] k1 p4)) p5] [.ExceptHandler (some (.Name e p6)) (some n) [.Return (some (.Call (.Name y p7) [.Name n p8] [] p9)) p10] p11] [] [] p12]
end DL

/-! Data layer, part 82: heard(lambda: e) by data. -/
namespace DL
open PySem PySem.Spec PyProof.Rows L2
section
variable {X : Cx} {pins : List (Addr × Obj)} {σ : L2.St} {H : Hp} {s : Shared}
end
/-- the def that hears, by its text -/
structure HasHd (P : Program) (w : World) (K : PySem.W.Frag) (mg : Str → Option Value) (base : Heap) (k : Nat) (x : Str) (ct : Str → Option Bool) (fe : Exn → Option D) : Prop where
  ex : ∃ (st : Stmt) (fa : Addr) (fd : FuncData) (a n e y : Str) (j k1 : Nat) (p1 p2 p3 p4 p5 p6 p7 p8 p9 p10 p11 p12 p13 : Pos) (CS : Addr),
    Fun K x x st fa fd ∧ FnScope [a, n] [a] (defScope st) ∧ defBody st = hearB a n e y j p1 p2 p3 p4 p5 p6 p7 p8 p9 p10 p11 p12 p13 k1 ∧ mg x = some (.ref fa) ∧ PySem.W.keepIn K (.ref fa) = true ∧ Binds K fd [a] [] ∧
    (defScope st).names.lookup a = some .local ∧ (defScope st).names.lookup n = some .local ∧ (defScope st).names.lookup e = some .globalImplicit ∧ (defScope st).names.lookup y = some .globalImplicit ∧
    ((a == ("__debug__" : Str)) = false ∧ (a == ("__classdict__" : Str)) = false ∧ (n == ("__debug__" : Str)) = false ∧ (n == ("__classdict__" : Str)) = false ∧ (e == ("__debug__" : Str)) = false ∧ (y == ("__debug__" : Str)) = false) ∧
    mg e = some (.ref CS) ∧ (∀ m b C, ct m = some b → ClsAt K m C → PySem.W.exmOne K (.ref C) (.ref CS) = some b) ∧ HasEx P w K mg base k y fe
section
variable {X : Cx} {g : G} {k : Nat} {x : Str} {ct : Str → Option Bool} {fe : Exn → Option D} {c P : Addr} {params : Arguments} {body : Expr} {scope : Scope} {p lpos pos : Pos} {f : En → Rs D}
end
end DL

/-! Data layer, part 83: the law's own call where the law makes lambdas; the end. -/
namespace DL
open PySem PySem.Spec PyProof.Rows L2
section
variable {P : Program} {w : World} {K : PySem.W.Frag} {mg : Str → Option Value} {base : Heap} {CX : CXT}
end
end DL

/-! Data layer, part 84: xs.count(e); units in hot frames; g(e) of the error that is handled as a def's value. -/
namespace DL
open PySem PySem.Spec PyProof.Rows L2
theorem HasEx.mono {P : Program} {w : World} {K : PySem.W.Frag} {mg : Str → Option Value} {base : Heap} {j k : Nat} {x : Str} {fe : Exn → Option D} (h : HasEx P w K mg base j x fe) (hj : j ≤ k) : HasEx P w K mg base k x fe := by
  obtain ⟨fa, fd, a, F, h1, h2, h3⟩ := h.ex
  exact ⟨fa, fd, a, ⟨fun A outer s H args u Q p cls d Fz xx o hr => F.run A outer s H args u Q p cls d Fz xx o (hr.mono hj)⟩, h1, h2, h3⟩
section
variable {X : Cx} {g : G}
end
end DL

/-! Data layer, part 85: T.get(k, x), T a dict of the module with text keys. -/
namespace DL
open PySem PySem.Spec PyProof.Rows L2
structure TabG (K : PySem.W.Frag) (w : World) (d : Addr) (t : List (Str × D)) : Prop where
  low : (d == sysModules) = false
  at_ : ∃ es n, K.lookup d = some ⟨.type "dict", none, .dict es n, #[]⟩ ∧ PySem.W.KeysLit w.params es.toList
  val : ∀ x : Str, (∃ z v u, t.lookup x = some z ∧ PySem.W.nsIn K d x = some (some u) ∧ RelV v u ∧ ∀ F : Hp, RD K F v z) ∨ (t.lookup x = none ∧ PySem.W.nsIn K d x = some none)
section
variable {X : Cx} {g : G} {e f : Expr} {np apos cpos : Pos} {ty tx : TE}
/-- T.get(k, x) -/
def tabGetD (t : List (Str × D)) (k x : Opd) : En → Rs D := fun r => (k.run r).bind fun y r1 => (x.run r1).bind fun u r2 =>
  ofO ((look r2 y).bind fun e => (look r2 u).bind fun c => match e, c with
    | .str z, .int n => some ((t.lookup z).getD (.int n))
    | _, _ => none) r2
end
end DL

/-! Data layer, part 86: x += k, x and k integers; list(zip(xs, ys)). -/
namespace DL
open PySem PySem.Spec PyProof.Rows L2
/-- name += k -/
def augN (i : Nat) (y : Int) : En → SRs := fun r => match r[i]? with
  | some (some (.sh (.int z))) => .nx (r.set i (some (.sh (.int (z + y)))))
  | _ => .bad
section
variable {X : Cx} {g : G} {pos p1 p2 : Pos} {x : Str}
end
/-! ### list(zip(xs, ys)), at the model's level -/
structure ZlG (xs ys : Array Value) (lo : Addr) (h : Heap) (as : List Addr) : Prop where
  rise : as.Pairwise (· < ·)
  above : ∀ a ∈ as, lo < a
  pairs : ∀ (j : Nat) (a : Addr), as[j]? = some a → ∃ x y, xs[j]? = some x ∧ ys[j]? = some y ∧ h.get? a = some { cls := .type "tuple", data := .seq #[x, y] }
theorem ZlG.low {xs ys : Array Value} {lo lo' : Addr} {h : Heap} {as : List Addr} (g : ZlG xs ys lo h as) (hl : lo' ≤ lo) : ZlG xs ys lo' h as := ⟨g.rise, fun a ha => Nat.lt_of_le_of_lt hl (g.above a ha), g.pairs⟩
structure ZlSt (h : Heap) (z TI TO i1 i2 l1 l2 S : Addr) (xs ys : Array Value) (i : Nat) : Prop where
  ti : IsPair h TI (.ref i1) (.ref i2)
  it1 : h.IsListIter i1 l1 i
  it2 : h.IsListIter i2 l2 i
  ls1 : h.IsList l1 xs
  ls2 : h.IsList l2 ys
  st : (IsZip h z TI TO .none ∧ ∃ a b, IsPair h TO a b) ∨ ∃ T f oT, IsZipHeld h z TI TO T f ∧ h.get? T = some oT ∧ T ≠ z ∧ T ≠ i1 ∧ T ≠ i2 ∧ T ≠ S
theorem ZlSt.keep {h h' : Heap} {z TI TO i1 i2 l1 l2 S : Addr} {xs ys : Array Value} {i : Nat} (t : ZlSt h z TI TO i1 i2 l1 l2 S xs ys i) (n : S ∉ [z, TI, TO, i1, i2, l1, l2]) (hk : ∀ b o, b ≠ S → h.get? b = some o → h'.get? b = some o) : ZlSt h' z TI TO i1 i2 l1 l2 S xs ys i := by
  simp only [List.mem_cons, List.not_mem_nil, or_false, not_or] at n
  obtain ⟨dz, dTI, dTO, di1, di2, dl1, dl2⟩ := n
  refine ⟨hk _ _ (Ne.symm dTI) t.ti, t.it1.at fun o e => hk _ o (Ne.symm di1) e, t.it2.at fun o e => hk _ o (Ne.symm di2) e, t.ls1.at fun o e => hk _ o (Ne.symm dl1) e, t.ls2.at fun o e => hk _ o (Ne.symm dl2) e, ?_⟩
  rcases t.st with ⟨hz, a, b, hTO⟩ | ⟨T, f, oT, hz, hT, r1, r2, r3, r4⟩
  · exact .inl ⟨hk _ _ (Ne.symm dz) hz, a, b, hk _ _ (Ne.symm dTO) hTO⟩
  · exact .inr ⟨T, f, oT, hk _ _ (Ne.symm dz) hz, hk _ _ r4 hT, r1, r2, r3, r4⟩
section
variable {prog : Program} {w : World} {A : Around} {E : Value → Shared → Prop} {s : Shared} {z TI TO i1 i2 l1 l2 S : Addr} {xs ys : Array Value}
end
section
variable {prog : Program} {w : World} {A : Around} {s : Shared} {R : Result → Shared → Prop} {z TI TO i1 i2 l1 l2 : Addr} {xs ys : Array Value}
end
section
variable {prog : Program} {w : World} {A : Around} {E : Value → Shared → Prop} {s : Shared} {z TI TO i1 i2 l1 l2 : Addr} {xs ys : Array Value}
end
end DL

/-! Data layer, part 87: list(zip(xs, ys)) by data. -/
namespace DL
open PySem PySem.Spec PyProof.Rows L2
section
variable {X : Cx} {g : G}
section
variable {e e2 : Expr} {p p2 q pos : Pos} {ps : List Opd}
end
end
end DL

/-! Data layer, part 88: texts by <=. -/
namespace DL
open PySem PySem.Spec PyProof.Rows L2
section
variable {X : Cx} {g : G}
end
end DL

/-! Data layer, part 89: a tuple taken once or not at all: (e, ..) * k, k = 0 or 1. -/
namespace L2
open PySem PySem.Spec PyProof.Rows
section
variable {X : Cx}
end
end L2
namespace DL
open PySem PySem.Spec PyProof.Rows L2
section
variable {X : Cx} {g : G}
end
end DL

/-! Data layer, part 90: isinstance(e, T), e perhaps an instance of an own class. -/
namespace DL
open PySem L2
structure NiOk (K : PySem.W.Frag) (c : Str) : Prop where
  ex : ∃ C, ClsAt K c C ∧ C8.InsC K C ∧ ∀ T ∈ tyNames, PySem.W.mroIn K C (.type T) = some false
section
variable {X : Cx} {g : G} {e : Expr} {p : Opd} {pos : Pos}
end
end DL

/-! Data layer, part 91: bodies whose last statements change a dict that was frozen in them: behind it flat values alone are left. -/
namespace DL
open PySem L2
/- no dict in it -/
/-! ### statements behind which not all that was frozen need be there -/
def SPz (K : PySem.W.Frag) (g : G) (E : Ends) : SRs → Prop
  | .nx r' => ∀ F' H' s', Rel K g F' H' s' r' → E.nx s' H'
  | .rt o r' => ∀ F' H' s' v, Rel K g F' H' s' r' → RV K g F' H' s' r' v o → E.rt v H'
  | .bk r' => ∀ F' H' s', Rel K g F' H' s' r' → E.bk s' H'
  | .ct r' => ∀ F' H' s', Rel K g F' H' s' r' → E.ct s' H'
  | .bad => False
  | .ex x r' => exW K g x r'
theorem SPz.post {K : PySem.W.Frag} {g : G} {E : Ends} {x : SRs} (F : Hp) (h : SPz K g E x) : SPost K g F E x := by
  cases x with
  | nx r => exact fun F' H' s' _ R => h F' H' s' R
  | rt o r => exact fun F' H' s' v _ R => h F' H' s' v R
  | bk r => exact fun F' H' s' _ R => h F' H' s' R
  | ct r => exact fun F' H' s' _ R => h F' H' s' R
  | bad => exact h
  | ex x r => exact h
section
variable {X : Cx} {g : G} {c : Expr} {x : Str} {p apos cpos pos : Pos} {st : Stmt} {sts sa sb : List Stmt}
/-- flat values alone -/
def keepF : Option OV → Option OV
  | some (.sh d) => if d.flt = true then some (.sh d) else none
  | _ => none
end
section
variable {P : Program} {w : World} {K : PySem.W.Frag} {mg : Str → Option Value} {base : Heap}
end
end DL

/-! Data layer, part 92: {k: v, ..} as a dict of nobody's; defs with the bag that end with return {..}. -/
namespace L2
open PySem PySem.Spec PyProof.Rows
end L2
namespace DL
open PySem L2
section
variable {X : Cx} {g : G} {pos : Pos} {e : Expr} {st : Stmt} {sts : List Stmt}
/-- {k: v, ..}, nobody's -/
def dicK (fs : List ((En → Rs D) × (En → Rs D))) : En → Rs (List (Key × D)) := fun r => (evPs fs r).noE.bind fun kds r1 => if kds.length ≤ 15 then .ok (mergeD [] kds) r1 else .bad
/-! ### bodies that end with: return e, e a dict of nobody's -/
end
section
variable {P : Program} {w : World} {K : PySem.W.Frag} {mg : Str → Option Value} {base : Heap}
end
end DL

/-! Data layer, part 93: xs.extend(t), t a tuple. -/
namespace PySem.AutoSeq1
open PySem PySem.Spec
end PySem.AutoSeq1
namespace L2
open PySem PySem.Spec PyProof.Rows
end L2
namespace DL
open PySem L2
section
variable {X : Cx} {g : G} {e : Expr} {pos apos cpos p : Pos} {x : Str}
def extFT (d : D) : List D → Option (List D) := fun xs => match d with
  | .lst ys => if xs.length + ys.length ≤ 1000000 then some (xs ++ ys) else none
  | .tup ys => if xs.length + ys.length ≤ 1000000 then some (xs ++ ys) else none
  | _ => none
def extST (i : Nat) (f : En → Rs D) : En → SRs := fun r => thenS (fillW r i) fun _ r => thenS (f r) fun d r1 => chgS i (extFT d) r1
end
end DL

/-! Data layer, part 94: a def that returns a list out of a dict of its own: the list is told apart from what was passed by what is in it. -/
namespace DL
open PySem L2
/- tuples of flat values -/
mutual
def D.tfl : D → Bool
  | .tup xs => tflAll xs
  | .non => true
  | .bl _ => true
  | .int _ => true
  | .str _ => true
  | _ => false
def tflAll : List D → Bool
  | [] => true
  | d :: ds => d.tfl && tflAll ds
end
/-- what a heap's readings are alike in -/
structure Sep (K : PySem.W.Frag) (H : Hp) : Prop where
  inj : ∀ a xs ys, SqT K H a xs → SqT K H a ys → xs = ys
  off : ∀ a xs ys, H a = some (.lst xs) → SqT K H a ys → False
section
variable {w : World} {K : PySem.W.Frag} {F H : Hp}
open Classical in
end
section
variable {P : Program} {w : World} {K : PySem.W.Frag} {mg : Str → Option Value} {base : Heap}
end
end DL

/-! Data layer, part 95: the table of a def's code, from what is written down of it. -/
namespace DL
open PySem L2
end DL

/-! Data layer, part 96: defs that are given a list for good and change it. -/
namespace DL
open PySem L2
section
variable {X : Cx} {g : G} {x y : Str} {a : Expr} {pos p0 p1 p2 py p6 p7 p8 p10 apos cpos bpos : Pos}
end
/-! ### f(x), x the caller's own list, given away -/
def spC (K : PySem.W.Frag) (f : List D → Option D) : Sp := fun vs H Q _ => ∃ F a vb bs d, vs = [.ref a] ∧ Same F H ∧ F a = none ∧ H a = some (.lst vb) ∧ RDs K F vb bs ∧ f bs = some d ∧ d.flt = true ∧
  ∀ H' v, (∀ b o, H b = some o → b ≠ a → H' b = some o) → RD K F v d → Q v H'
section
variable {P : Program} {w : World} {K : PySem.W.Frag} {mg : Str → Option Value} {base : Heap}
end
structure HasC (P : Program) (w : World) (K : PySem.W.Frag) (mg : Str → Option Value) (base : Heap) (k : Nat) (x : Str) (f : List D → Option D) : Prop where
  ex : ∃ fa fd ps, FnG P w K mg base CX0 k fa fd ps (spC K f) ∧ mg x = some (.ref fa) ∧ PySem.W.keepIn K (.ref fa) = true ∧ Binds K fd ps []
section
variable {X : Cx} {g : G} {k : Nat} {x : Str} {p pos : Pos}
end
end DL

/-! Data layer, part 97: raise C(), C an error class of the program's own without __init__. -/
namespace DL
open PySem L2 PyProof.Rows
/-- the error class c over ValueError, without an __init__ of its own -/
structure HasE0 (K : PySem.W.Frag) (mg : Str → Option Value) (c : Str) : Prop where
  ex : ∃ C, mg c = some (.ref C) ∧ ClsAt K c C ∧ PySem.W.excIn K C [.type "ValueError", .type "Exception", .type "BaseException", .type "object"] "ValueError.__new__" = true ∧ PySem.W.keepIn K (.ref C) = true ∧ PySem.W.subIn K (.ref C) (.type "BaseException") = some true ∧ PySem.W.typeIn K (.ref C) = some (.type "type")
section
variable {X : Cx} {g : G} {p pos pos2 : Pos} {c : Str}
end
end DL

/-! Data layer, part 98: the lists within a thing, by their addresses; a def that collects them. -/
namespace DL
open PySem L2
def D.isFl : D → Bool
  | .non | .bl _ | .int _ | .str _ => true
  | _ => false
mutual
/-- v is read as d; the lists within it, outermost first -/
inductive LR (K : PySem.W.Frag) (F : Hp) : V → D → List Addr → Prop
  | flat {v : V} {d : D} : d.isFl = true → RD K F v d → LR K F v d []
  | lst {a : Addr} {xs : List V} {ds : List D} {ls : List (List Addr)} : F a = some (.lst xs) → LRs K F xs ds ls → LR K F (.ref a) (.lst ds) (a :: ls.flatten)
  | tup {a : Addr} {xs : List V} {ds : List D} {ls : List (List Addr)} : SqT K F a xs → LRs K F xs ds ls → LR K F (.ref a) (.tup ds) ls.flatten
inductive LRs (K : PySem.W.Frag) (F : Hp) : List V → List D → List (List Addr) → Prop
  | nil : LRs K F [] [] []
  | cons {v : V} {vs : List V} {d : D} {ds : List D} {l : List Addr} {ls : List (List Addr)} : LR K F v d l → LRs K F vs ds ls → LRs K F (v :: vs) (d :: ds) (l :: ls)
end
section
variable {K : PySem.W.Frag} {F F' : Hp}
mutual
theorem LR.rd : ∀ {v : V} {d : D} {l : List Addr}, LR K F v d l → RD K F v d
  | _, _, _, .flat _ h => h
  | _, _, _, .lst h1 h2 => .lst h1 (LRs.rd h2)
  | _, _, _, .tup h1 h2 => .tup h1 (LRs.rd h2)
theorem LRs.rd : ∀ {v : List V} {d : List D} {l : List (List Addr)}, LRs K F v d l → RDs K F v d
  | _, _, _, .nil => .nil
  | _, _, _, .cons h1 h2 => .cons (LR.rd h1) (LRs.rd h2)
end
mutual
theorem LR.mono (e : Same F F') : ∀ {v : V} {d : D} {l : List Addr}, LR K F v d l → LR K F' v d l
  | _, d, _, .flat h1 h => .flat h1 (RD.mono e d h)
  | _, _, _, .lst h1 h2 => .lst (e _ _ h1) (LRs.mono e h2)
  | _, _, _, .tup h1 h2 => .tup (same_sqT e h1) (LRs.mono e h2)
theorem LRs.mono (e : Same F F') : ∀ {v : List V} {d : List D} {l : List (List Addr)}, LRs K F v d l → LRs K F' v d l
  | _, _, _, .nil => .nil
  | _, _, _, .cons h1 h2 => .cons (LR.mono e h1) (LRs.mono e h2)
end
theorem LRs.get : ∀ {vs : List V} {ds : List D} {ls : List (List Addr)} {i : Nat} {x : V}, LRs K F vs ds ls → vs[i]? = some x → ∃ d l, ds[i]? = some d ∧ ls[i]? = some l ∧ LR K F x d l
  | _, _, _, _, _, .nil, e => by cases e
  | _, _, _, 0, _, .cons h1 _, e => by cases e; exact ⟨_, _, rfl, rfl, h1⟩
  | _, _, _, i + 1, _, .cons _ h2, e => LRs.get (i := i) h2 e
theorem LRs.len : ∀ {vs : List V} {ds : List D} {ls : List (List Addr)}, LRs K F vs ds ls → vs.length = ls.length
  | _, _, _, .nil => rfl
  | _, _, _, .cons _ h => by rw [List.length_cons, List.length_cons, LRs.len h]
end
mutual
theorem LR.mem' {K : PySem.W.Frag} {F : Hp} : ∀ {v : V} {d : D} {l : List Addr}, LR K F v d l → ∀ c ∈ l, ∃ xs ds ls, F c = some (.lst xs) ∧ LRs K F xs ds ls ∧ ∀ b ∈ ls.flatten, b ∈ l
  | _, _, _, .flat _ _, c, hc => nomatch hc
  | _, _, _, .lst h1 h2, c, hc => by
    rcases List.mem_cons.mp hc with rfl | hc
    · exact ⟨_, _, _, h1, h2, fun b hb => List.mem_cons_of_mem _ hb⟩
    · obtain ⟨xs, ds, ls, e1, e2, e3⟩ := LRs.mem' h2 c hc
      exact ⟨xs, ds, ls, e1, e2, fun b hb => List.mem_cons_of_mem _ (e3 b hb)⟩
  | _, _, _, .tup h1 h2, c, hc => LRs.mem' h2 c hc
theorem LRs.mem' {K : PySem.W.Frag} {F : Hp} : ∀ {v : List V} {d : List D} {l : List (List Addr)}, LRs K F v d l → ∀ c ∈ l.flatten, ∃ xs ds ls, F c = some (.lst xs) ∧ LRs K F xs ds ls ∧ ∀ b ∈ ls.flatten, b ∈ l.flatten
  | _, _, _, .nil, c, hc => nomatch hc
  | _, _, _, .cons h1 h2, c, hc => by
    rw [List.flatten_cons] at hc ⊢
    rcases List.mem_append.mp hc with hc | hc
    · obtain ⟨xs, ds, ls, e1, e2, e3⟩ := LR.mem' h1 c hc
      exact ⟨xs, ds, ls, e1, e2, fun b hb => List.mem_append_left _ (e3 b hb)⟩
    · obtain ⟨xs, ds, ls, e1, e2, e3⟩ := LRs.mem' h2 c hc
      exact ⟨xs, ds, ls, e1, e2, fun b hb => List.mem_append_right _ (e3 b hb)⟩
end
/-! ### tests of the first name's datum -/
section
variable {X : Cx} {e : Expr} {f : En → Rs Bool} {n : Nat}
end
/-! ### the lists within x -/
/-- f(x): a new list of the lists within x -/
def spLs (K : PySem.W.Frag) (n : Nat) : Sp := fun vs H Q _ => ∃ F v d l, vs = [v] ∧ Same F H ∧ LR K F v d l ∧ d.dp < n ∧ l.length ≤ 1000 ∧ ∀ H' p, Same H H' → H p = none → H' p = some (.lst (l.map V.ref)) → Q (.ref p) H'
section
variable {P : Program} {w : World} {K : PySem.W.Frag} {mg : Str → Option Value} {base : Heap}
end
structure HasLs (P : Program) (w : World) (K : PySem.W.Frag) (mg : Str → Option Value) (base : Heap) (k : Nat) (x : Str) (n : Nat) : Prop where
  ex : ∃ fa fd ps, FnG P w K mg base CX0 k fa fd ps (spLs K n) ∧ mg x = some (.ref fa) ∧ PySem.W.keepIn K (.ref fa) = true ∧ Binds K fd ps []
end DL

/-! Data layer, part 99: values whose lists are new and stand once; defs that give such values; heard of them. -/
namespace DL
open PySem PySem.Spec PyProof.Rows L2
/-- the lists within v stand once, and none of them was frozen in F -/
def Tr (K : PySem.W.Frag) (F F' : Hp) (v : V) (d : D) : Prop := ∃ l, LR K F' v d l ∧ l.Nodup ∧ ∀ c ∈ l, F c = none
section
variable {K : PySem.W.Frag} {F F' F1 F2 : Hp} {v : V} {d : D}
mutual
theorem tfl_LR : ∀ {d : D} {v : V}, d.tfl = true → RD K F v d → LR K F v d []
  | .non, _, _, h => .flat rfl h
  | .bl _, _, _, h => .flat rfl h
  | .int _, _, _, h => .flat rfl h
  | .str _, _, _, h => .flat rfl h
  | .tup ds, _, t, .tup h1 h2 => by
    obtain ⟨ls, e1, e2⟩ := tflAll_LR t h2
    rw [← e2]
    exact .tup h1 e1
  | .lst _, _, t, _ => by cases t
  | .dic _, _, t, _ => by cases t
  | .scr _, _, t, _ => by cases t
  | .obj _ _, _, t, _ => by cases t
theorem tflAll_LR : ∀ {ds : List D} {vs : List V}, tflAll ds = true → RDs K F vs ds → ∃ ls, LRs K F vs ds ls ∧ ls.flatten = []
  | [], _, _, .nil => ⟨[], .nil, rfl⟩
  | d :: ds, _, t, .cons h1 h2 => by
    have t : (d.tfl && tflAll ds) = true := t
    rw [Bool.and_eq_true] at t
    obtain ⟨ls, e1, e2⟩ := tflAll_LR t.2 h2
    exact ⟨[] :: ls, .cons (tfl_LR t.1 h1) e1, by rw [List.flatten_cons, e2]; rfl⟩
end
theorem Tr.flat (t : d.tfl = true) (h : RD K F' v d) : Tr K F F' v d := ⟨[], tfl_LR t h, List.nodup_nil, fun c hc => nomatch hc⟩
theorem Tr.less (h : Tr K F1 F' v d) (s : Same F F1) : Tr K F F' v d := by
  obtain ⟨l, h1, h2, h3⟩ := h
  refine ⟨l, h1, h2, fun c hc => ?_⟩
  cases z : F c with
  | none => rfl
  | some o => have := h3 c hc; rw [s _ _ z] at this; cases this
theorem Tr.mono (h : Tr K F F' v d) (s : Same F' F2) : Tr K F F2 v d := by
  obtain ⟨l, h1, h2, h3⟩ := h
  exact ⟨l, h1.mono s, h2, h3⟩
theorem Tr.told {x : Str} {p : Addr} (h : Tr K F1 F' v d) (s : Same F F1) (sp : Same F' F2) (hp : SqT K F2 p [.str x, v]) : Tr K F F2 (.ref p) (.tup [.str x, d]) := by
  obtain ⟨l, h1, h2, h3⟩ := (h.less s).mono sp
  refine ⟨[[], l].flatten, .tup hp (.cons (.flat rfl (.str x)) (.cons h1 .nil)), by simpa using h2, fun c hc => h3 c (by simpa using hc)⟩
end
def PDt (K : PySem.W.Frag) (g : G) (F : Hp) (s : L2.St) (Q : VK) (d : D) (r' : En) : Prop := ∀ F0 F' H' v, Same F F0 → Same F0 F' → Rel K g F0 H' s r' → Rel K g F' H' s r' → RD K F' v d → Tr K F0 F' v d → Q v H'
theorem Rel.keepF {K : PySem.W.Frag} {g : G} {F1 H1 H' : Hp} {s : L2.St} {r1 : En} (R1 : Rel K g F1 H1 s r1) (s3 : Same H1 H') : Rel K g F1 H' s r1 :=
  R1.after (Same.refl _) (R1.sub.trans s3) (fun b o e e0 => by rw [e0] at e; cases e) s3
/-! ### defs that may raise and give such a value -/
def QXt (K : PySem.W.Frag) (F H : Hp) (Q : VK) (E : XK) : FR → Prop
  | .ok (.sh d) => ∀ F' H' v, Same F F' → Same F' H' → Fresh F F' H → Same H H' → RD K F' v d → Tr K F F' v d → Q v H'
  | .ex x => ∀ F' H' cls d, Same F F' → Same F' H' → Fresh F F' H → Same H H' → RX K F' cls d x → E cls d H'
  | _ => False
def spXt (K : PySem.W.Frag) (n : Nat) (f : List D → FR) : Sp := fun vs H Q E => ∃ F ds, Same F H ∧ RDs K F vs ds ∧ ds.length = n ∧ QXt K F H Q E (f ds)
structure HasXt (P : Program) (w : World) (K : PySem.W.Frag) (mg : Str → Option Value) (base : Heap) (k : Nat) (x : Str) (n : Nat) (f : List D → FR) : Prop where
  ex : ∃ fa fd ps, FnG P w K mg base (L2.CX P w) k fa fd ps (spXt K n f) ∧ mg x = some (.ref fa) ∧ PySem.W.keepIn K (.ref fa) = true ∧ Binds K fd ps []
def frT (z : FR) (r : En) : Rs D := match z with
  | .ok (.sh d) => .ok d r
  | .ex x => .ex x r
  | _ => .bad
theorem QXt.of {K : PySem.W.Frag} {g : G} {F F1 H1 : Hp} {s : L2.St} {r1 : En} {Q : VK} {z : FR} (R1 : Rel K g F1 H1 s r1) (sm : Same F F1) (q : post K g (PDt K g F s Q) (frT z r1)) : QXt K F1 H1 Q (WG g s) z := by
  cases z with
  | ok o =>
    cases o with
    | sh d => exact fun F' H' v s1 s2 fr s3 hv ht => q F1 F' H' v sm s1 (R1.keepF s3) (R1.after s1 s2 fr s3) hv ht
    | _ => exact (show False from q)
  | ex x =>
    intro F' H' cls d s1 s2 fr s3 hx
    have q : exW K g x r1 := q
    unfold exW at q
    unfold WG
    revert q
    cases g.W with
    | none => exact fun q => q
    | some W => exact fun q => q F' H' s cls d (R1.after s1 s2 fr s3) hx
  | bad => exact (show False from q)
section
variable {X : Cx} {g : G} {k n : Nat} {x : Str} {p pos : Pos} {e : Expr} {es : List Expr}
end
/-! ### heard -/
section
variable {X : Cx} {g : G} {k : Nat} {x : Str} {ct : Str → Option Bool} {fe : Exn → Option D} {c P : Addr} {params : Arguments} {body : Expr} {scope : Scope} {p lpos pos : Pos} {f : En → Rs D}
end
end DL

/-! Data layer, part 100: a name whose value's lists are new and stand once, kept apart from all else. -/
namespace DL
open PySem L2
/-- slot i's value is read in F, all else in F0 -/
structure RelT (K : PySem.W.Frag) (g : G) (i : Nat) (F0 F H : Hp) (s : St) (r : En) (v : V) (d : D) : Prop where
  R0 : Rel K g F0 H s (r.set i none)
  sF : Same F0 F
  sH : Same F H
  at_ : s[i]? = some (some v)
  tr : Tr K F0 F v d
  own : ∀ (j : Nat) (o : OV) (a : Addr), (r.set i none)[j]? = some (some o) → o.own = true → s[j]? = some (some (.ref a)) → F a = none
  bb : ∀ p ∈ g.B, F p.2 = none
  tt : ∀ p ∈ g.T, F p.1 = none
  xx : ∀ p ∈ g.X, F p.1 = none
  fn : ∀ b u, F b = some u → F0 b = none → g.H0 b = none
/-- with all of F kept -/
def G.reb (g : G) (F0 F : Hp) : G := { g with F0 := F0, H0 := fun b => match F b with | some o => some o | none => g.H0 b }
section
variable {K : PySem.W.Frag} {g : G} {i : Nat} {F0 F H F0' H' : Hp} {s : St} {r r1 : En} {v : V} {d : D}
theorem reb_some {b : Addr} {o : HO} (e : F b = some o) : (g.reb F0 F).H0 b = some o := by
  show (match F b with | some o => some o | none => g.H0 b) = _
  rw [e]
theorem reb_none {b : Addr} (e : F b = none) : (g.reb F0 F).H0 b = g.H0 b := by
  show (match F b with | some o => some o | none => g.H0 b) = _
  rw [e]
theorem RelT.base (T : RelT K g i F0 F H s r v d) : Rel K (g.reb F0 F) F0 H s (r.set i none) := by
  have R := T.R0
  refine ⟨R.sub, Same.refl _, fun b o e z => ?_, fun b o e hb ht => ?_, R.slot, fun j o a e eo ea => ?_, R.dist, R.pin, R.len, fun p hp => ?_, R.ext⟩
  · have z : F0 b = none := z
    rw [z] at e; cases e
  · cases z : F b with
    | some u =>
      rw [reb_some z] at e
      cases e
      exact T.sH _ _ z
    | none =>
      rw [reb_none z] at e
      exact R.keep b o e hb ht
  · rw [reb_none (T.own j o a e eo ea)]
    exact R.own j o a e eo ea
  · obtain ⟨t1, t2, t3, t4⟩ := R.tb p hp
    exact ⟨t1, by rw [reb_none (T.tt p hp)]; exact t2, t3, t4⟩
/-- the lists of slot i's value changed -/
theorem RelT.gone (T : RelT K g i F0 F H s r v d) (hk : ∀ b o, H b = some o → (∀ xs, F b ≠ some (.lst xs)) → H' b = some o) (h0 : ∀ b xs, F0 b = some (.lst xs) → H' b = some (.lst xs)) : Rel K g F0 H' s (r.set i none) := by
  have R := T.R0
  have off : ∀ {b : Addr}, F b = none → ∀ o, H b = some o → H' b = some o := fun {b} z o e => hk b o e fun xs h => by rw [z] at h; cases h
  have sub : Same F0 H' := fun b o e => by
    by_cases h : ∃ xs, o = .lst xs
    · obtain ⟨xs, rfl⟩ := h
      exact h0 b xs e
    · exact hk b o (R.sub _ _ e) fun xs z => h ⟨xs, by rw [T.sF _ _ e] at z; exact Option.some.inj z⟩
  refine ⟨sub, R.f0, R.fnew, fun b o e hb ht => ?_, fun j u e => ?_, R.own, R.dist, R.pin, R.len, R.tb.go (fun _ _ e => e) (fun p hp => (R.tb p hp).1) fun p hp ps z => off (T.tt p hp) _ z, fun p hp => ?_⟩
  · have hH := R.keep b o e hb ht
    by_cases h : ∃ xs, F b = some (.lst xs)
    · obtain ⟨xs, h⟩ := h
      cases z : F0 b with
      | some u =>
        have h2 := T.sF _ _ z
        rw [h] at h2
        cases h2
        have := T.sH _ _ h
        rw [hH] at this
        cases this
        exact h0 b xs z
      | none =>
        have := T.fn b _ h z
        rw [e] at this
        cases this
    · exact hk b o hH fun xs z => h ⟨xs, z⟩
  · obtain ⟨v2, w1, w2⟩ := R.slot j u e
    refine ⟨v2, w1, ?_⟩
    have ofo : ∀ {b : Addr} {o : HO}, u.own = true → v2 = .ref b → H b = some o → H' b = some o := fun {b o} uo ev hbo => off (T.own j u b e uo (by rw [w1, ev])) _ hbo
    cases u with
    | sh d => exact w2
    | ow xs => obtain ⟨b, ws, e1, e2, e3, e4⟩ := w2; exact ⟨b, ws, e1, e2, ofo rfl e1 e3, e4⟩
    | od xs => obtain ⟨b, ws, e1, e2, e3, e4⟩ := w2; exact ⟨b, ws, e1, e2, ofo rfl e1 e3, e4⟩
    | oi c xs => obtain ⟨b, ws, e1, e2, e3, e4⟩ := w2; exact ⟨b, ws, e1, e2, ofo rfl e1 e3, e4⟩
    | th xs => obtain ⟨b, ws, e1, e2, e3, e4⟩ := w2; exact ⟨b, ws, e1, e2, ofo rfl e1 e3, e4⟩
    | exc c => exact w2
  · obtain ⟨x1, x2, x3⟩ := R.ext p hp
    exact ⟨off (T.xx p hp) _ x1, x2, x3⟩
end
end DL

/-! Data layer, part 101: such a name given, kept through calls that change nothing and through tests. -/
namespace DL
open PySem L2
section
variable {K : PySem.W.Frag} {g : G} {i : Nat} {F0 F H H' : Hp} {s : St} {r : En} {v : V} {d : D}
theorem RelT.mk' (R0 : Rel K g F0 H s r) (R : Rel K g F H s r) (sF : Same F0 F) (ht : Tr K F0 F v d) (hi : i < s.length) (hb : ∀ p ∈ g.B, p.1 ≠ i) : RelT K g i F0 F H (s.set i (some v)) (r.set i none) v d := by
  have fw : ∀ {F : Hp}, Rel K g F H s r → Rel K g F H (s.set i (some v)) (r.set i none) := fun R => R.forget (vs := [i]) (fun p hp z => hb p hp (List.mem_singleton.mp z)) (List.length_set ..) fun j hj => List.getElem?_set_ne fun z => hj (List.mem_singleton.mpr z.symm)
  have ee : (r.set i none).set i none = r.set i none := List.set_set ..
  have R2 := fw R
  have ow : ∀ (j : Nat) (o : OV) (a : Addr), (r.set i none)[j]? = some (some o) → o.own = true → (s.set i (some v))[j]? = some (some (.ref a)) → F a = none := fun j o a e eo ea => by
    obtain ⟨v2, w1, w2⟩ := R2.slot j o e
    rw [ea] at w1
    cases w1
    cases o with
    | sh _ => cases eo
    | ow _ => obtain ⟨b, _, e1, e2, _⟩ := w2; cases e1; exact e2
    | od _ => obtain ⟨b, _, e1, e2, _⟩ := w2; cases e1; exact e2
    | oi _ _ => obtain ⟨b, _, e1, e2, _⟩ := w2; cases e1; exact e2
    | th _ => obtain ⟨b, _, e1, e2, _⟩ := w2; cases e1; exact e2
    | exc _ => cases eo
  refine ⟨by rw [ee]; exact fw R0, sF, R.sub, List.getElem?_set_self hi, ht, fun j o a e eo ea => ow j o a (by rw [ee] at e; exact e) eo ea, fun p hp => ?_, fun p hp => (R2.tb p hp).1, fun p hp => (R2.ext p hp).2.1, fun b u e z => R.fnew b u e ?_⟩
  · obtain ⟨p1, o, p2, p3⟩ := R2.pin p hp
    exact ow _ o _ p2 p3 p1
  · cases z0 : g.F0 b with
    | none => rfl
    | some w => rw [R0.f0 _ _ z0] at z; cases z
theorem RelT.keep (T : RelT K g i F0 F H s r v d) (k : Same H H') : RelT K g i F0 F H' s r v d :=
  ⟨T.R0.keepF k, T.sF, T.sH.trans k, T.at_, T.tr, T.own, T.bb, T.tt, T.xx, T.fn⟩
/-- of g alone what a rule may ask -/
structure Lk (g g' : G) : Prop where
  B : g'.B = g.B
  w : g'.w = g.w
  W : g'.W = g.W
  xc : g'.xc = g.xc
  T : g'.T = g.T
  X : g'.X = g.X
end
end DL

/-! Data layer, part 102: a list of new lists is made beside all else. -/
namespace DL
open PySem L2
section
variable {K : PySem.W.Frag} {g : G} {i j : Nat} {F0 F F' H H' : Hp} {s : St} {r : En} {v w : V} {d : D} {p c : Addr}
/-- another name gets a value -/
theorem RelT.put {o : OV} (T : RelT K g i F0 F H s r v d) (hj : j ≠ i) (hb : ∀ p ∈ g.B, p.1 ≠ j) (hv : RV K g F0 H s (r.set i none) w o) (hF : o.own = true → ∀ a, w = .ref a → F a = none) : RelT K g i F0 F H (s.set j (some w)) (r.set j (some o)) v d := by
  have ee : (r.set j (some o)).set i none = (r.set i none).set j (some o) := List.set_comm _ _ hj
  refine ⟨by rw [ee]; exact T.R0.set hb hv, T.sF, T.sH, by rw [List.getElem?_set_ne hj]; exact T.at_, T.tr, fun k u a e eo ea => ?_, T.bb, T.tt, T.xx, T.fn⟩
  rw [ee] at e
  by_cases hk : j = k
  · subst hk
    have hlt : j < (r.set i none).length := by
      have := (List.getElem?_eq_some_iff.mp e).1
      rwa [List.length_set] at this
    rw [List.getElem?_set_self hlt] at e
    cases e
    rw [List.getElem?_set_self (by rw [← T.R0.len]; exact hlt)] at ea
    cases ea
    exact hF eo a rfl
  · rw [List.getElem?_set_ne hk] at e ea
    exact T.own k u a e eo ea
/-- x = [] -/
theorem RelT.new (R : Rel K g F0 H s r) (np : H p = none) (hi : i < s.length) (hb : ∀ p ∈ g.B, p.1 ≠ i) : RelT K g i F0 (L2.upd F0 p (.lst [])) (L2.upd H p (.lst [])) (s.set i (some (.ref p))) (r.set i none) (.ref p) (.lst []) :=
  RelT.mk' (R.laid np) (R.alloc np) (same_upd (R.ff np)) ⟨[p], .lst upd_same .nil, by simp, fun c hc => by rw [List.mem_singleton.mp hc]; exact R.ff np⟩ hi hb
mutual
theorem LR.off (k : ∀ b o, F b = some o → b ≠ p → F' b = some o) {zs : List V} (hp : F p = some (.lst zs)) : ∀ {v : V} {d : D} {l : List Addr}, LR K F v d l → p ∉ l → LR K F' v d l
  | _, .non, _, .flat h h2, _ => by cases h2; exact .flat h .non
  | _, .bl _, _, .flat h h2, _ => by cases h2; exact .flat h (.bl _)
  | _, .int _, _, .flat h h2, _ => by cases h2; exact .flat h (.int _)
  | _, .str _, _, .flat h h2, _ => by cases h2; exact .flat h (.str _)
  | _, .lst _, _, .flat h _, _ => by cases h
  | _, .tup _, _, .flat h _, _ => by cases h
  | _, .dic _, _, .flat h _, _ => by cases h
  | _, .scr _, _, .flat h _, _ => by cases h
  | _, .obj _ _, _, .flat h _, _ => by cases h
  | _, _, _, .lst h1 h2, n => .lst (k _ _ h1 fun z => n (by rw [z]; exact List.mem_cons_self)) (LRs.off k hp h2 fun z => n (List.mem_cons_of_mem _ z))
  | _, _, _, .tup h1 h2, n => .tup (by
    rcases h1 with (h1 | ⟨o, h1⟩) | h1
    · exact .inl (.inl (k _ _ h1 fun z => by rw [z, hp] at h1; cases h1))
    · exact .inl (.inr ⟨o, k _ _ h1 fun z => by rw [z, hp] at h1; cases h1⟩)
    · exact .inr h1) (LRs.off k hp h2 n)
theorem LRs.off (k : ∀ b o, F b = some o → b ≠ p → F' b = some o) {zs : List V} (hp : F p = some (.lst zs)) : ∀ {v : List V} {d : List D} {l : List (List Addr)}, LRs K F v d l → p ∉ l.flatten → LRs K F' v d l
  | _, _, _, .nil, _ => .nil
  | _, _, _, .cons h1 h2, n => by
    rw [List.flatten_cons, List.mem_append] at n
    exact .cons (LR.off k hp h1 fun z => n (.inl z)) (LRs.off k hp h2 fun z => n (.inr z))
end
theorem LRs.app : ∀ {vs ws : List V} {ds es : List D} {ls ms : List (List Addr)}, LRs K F vs ds ls → LRs K F ws es ms → LRs K F (vs ++ ws) (ds ++ es) (ls ++ ms)
  | _, _, _, _, _, _, .nil, h => h
  | _, _, _, _, _, _, .cons h1 h2, h => .cons h1 (LRs.app h2 h)
/-- x.append(y), y another name's own list of flat things -/
theorem RelT.app {ds es : List D} (T : RelT K g i F0 F H s r (.ref p) (.lst ds)) (hj : (r.set i none)[j]? = some (some (.ow es))) (ht : tflAll es = true) (hb : ∀ p ∈ g.B, p.1 ≠ j) : ∃ vs c, H p = some (.lst vs) ∧ vs.length = ds.length ∧ s[j]? = some (some (.ref c)) ∧
    ∃ F', RelT K g i F0 F' (L2.upd H p (.lst (vs ++ [.ref c]))) s (r.set j none) (.ref p) (.lst (ds ++ [.lst es])) := by
  have R := T.R0
  obtain ⟨l, h1, nd, nf⟩ := T.tr
  cases h1 with
  | flat z _ => cases z
  | @lst _ vs _ ls hp hL =>
    obtain ⟨v2, w1, c, ws, rfl, c1, c2, c3⟩ := R.slot j _ hj
    have fc : F c = none := T.own j _ c hj rfl w1
    have hcp : c ≠ p := fun z => by rw [z, hp] at fc; cases fc
    have f0p : F0 p = none := nf p List.mem_cons_self
    have hc0 : g.H0 c = none := (R.own j _ c hj rfl w1).resolve_right fun z => hb _ z rfl
    have Hp : H p = some (.lst vs) := T.sH _ _ hp
    refine ⟨vs, c, Hp, hL.rd.length, w1, L2.upd (L2.upd F c (.lst ws)) p (.lst (vs ++ [.ref c])), ?_⟩
    have R1 : Rel K g F0 (L2.upd H p (.lst (vs ++ [.ref c]))) s (r.set i none) := T.gone (fun b o e hn => by
      rw [upd_ne fun z => hn vs (by rw [z]; exact hp)]; exact e) fun b xs e => by
      rw [upd_ne fun z => by rw [z, f0p] at e; cases e]
      exact R.sub _ _ e
    have ee : (r.set j none).set i none = (r.set i none).set j none := by
      by_cases h : j = i
      · subst h; rfl
      · exact List.set_comm _ _ h
    have R2 : Rel K g F0 (L2.upd H p (.lst (vs ++ [.ref c]))) s ((r.set i none).set j none) := R1.forget (vs := [j]) (fun p hp z => hb p hp (List.mem_singleton.mp z)) rfl fun _ _ => rfl
    have other : ∀ (k : Nat) (o : OV) (a : Addr), ((r.set i none).set j none)[k]? = some (some o) → o.own = true → s[k]? = some (some (.ref a)) → a ≠ p ∧ a ≠ c ∧ F a = none := fun k o a e eo ea => by
      have hk : j ≠ k := fun z => by
        subst z
        rw [List.getElem?_set_self (List.getElem?_eq_some_iff.mp hj).1] at e
        cases e
      rw [List.getElem?_set_ne hk] at e
      have fa := T.own k o a e eo ea
      exact ⟨fun z => (by rw [z, hp] at fa; cases fa), fun z => R.dist j k _ o c hk hj rfl e eo w1 (by rw [ea, z]), fa⟩
    have no2 : ∀ {b : Addr}, b ≠ p → b ≠ c → F b = none → L2.upd (L2.upd F c (.lst ws)) p (.lst (vs ++ [.ref c])) b = none := fun {b} z1 z2 z => by
      rw [upd_ne z1, upd_ne z2]; exact z
    have sF' : Same F0 (L2.upd (L2.upd F c (.lst ws)) p (.lst (vs ++ [.ref c]))) := fun b o e => by
      have z1 : b ≠ p := fun z => by rw [z, f0p] at e; cases e
      have z2 : b ≠ c := fun z => by rw [z, c1] at e; cases e
      rw [upd_ne z1, upd_ne z2]
      exact T.sF _ _ e
    have hpl : p ∉ ls.flatten := (List.nodup_cons.mp nd).1
    refine ⟨by rw [ee]; exact R2, sF', fun b o e => ?_, T.at_, ?_, fun k o a e eo ea => ?_, fun q hq => ?_, fun q hq => ?_, fun q hq => ?_, fun b u e z => ?_⟩
    · by_cases h1 : b = p
      · subst h1; rw [upd_same] at e ⊢; exact e
      · rw [upd_ne h1] at e ⊢
        by_cases h2 : b = c
        · subst h2; rw [upd_same] at e; rw [← e]; exact c2
        · rw [upd_ne h2] at e; exact T.sH _ _ e
    · obtain ⟨ms, m1, m2⟩ := tflAll_LR ht c3
      have L1 : LRs K (L2.upd (L2.upd F c (.lst ws)) p (.lst (vs ++ [.ref c]))) vs ds ls := hL.off (p := p) (fun b o e h => by
        have z2 : b ≠ c := fun z => by rw [z, fc] at e; cases e
        rw [upd_ne h, upd_ne z2]; exact e) hp hpl
      have L2' : LR K (L2.upd (L2.upd F c (.lst ws)) p (.lst (vs ++ [.ref c]))) (.ref c) (.lst es) (c :: ms.flatten) := .lst (by rw [upd_ne hcp, upd_same]) (m1.mono sF')
      rw [m2] at L2'
      have L3 := L1.app (.cons L2' .nil)
      refine ⟨_, .lst upd_same L3, ?_, fun b hb => ?_⟩
      · have cn : c ∉ p :: ls.flatten := fun z => by
          rcases List.mem_cons.mp z with z | z
          · exact hcp z
          · obtain ⟨xs, _, _, e, _⟩ := LRs.mem' hL c z
            rw [fc] at e; cases e
        rw [List.flatten_append]
        simp only [List.flatten_cons, List.flatten_nil, List.append_nil]
        rw [← List.cons_append]
        refine List.nodup_append.mpr ⟨nd, by simp, fun a ha b hb z => ?_⟩
        rw [List.mem_singleton.mp hb] at z
        exact cn (z ▸ ha)
      · rw [List.flatten_append] at hb
        simp only [List.flatten_cons, List.flatten_nil, List.append_nil] at hb
        rcases List.mem_cons.mp hb with rfl | hb
        · exact f0p
        · rcases List.mem_append.mp hb with hb | hb
          · exact nf b (List.mem_cons_of_mem _ hb)
          · rw [List.mem_singleton.mp hb]; exact c1
    · rw [ee] at e
      obtain ⟨z1, z2, z3⟩ := other k o a e eo ea
      exact no2 z1 z2 z3
    · obtain ⟨p1, o, p2, p3⟩ := R2.pin q hq
      obtain ⟨z1, z2, z3⟩ := other _ o _ p2 p3 p1
      exact no2 z1 z2 z3
    · have ft := T.tt q hq
      obtain ⟨_, t2, _⟩ := R.tb q hq
      exact no2 (fun z => by rw [z, hp] at ft; cases ft) (fun z => t2 (by rw [z]; exact hc0)) ft
    · have fx := T.xx q hq
      obtain ⟨_, _, x3⟩ := R.ext q hq
      exact no2 (fun z => by rw [z, hp] at fx; cases fx) (fun z => x3 j _ hj rfl (by rw [w1, z])) fx
    · by_cases h1 : b = p
      · subst h1; exact T.fn b _ hp z
      · rw [upd_ne h1] at e
        by_cases h2 : b = c
        · subst h2; exact hc0
        · rw [upd_ne h2] at e; exact T.fn b u e z
end
end DL

/-! Data layer, part 103: what else is done beside such a name. -/
namespace DL
open PySem L2
section
variable {X : Cx} {g : G} {i : Nat} {e : Expr}
end
end DL

/-! Data layer, part 104: rows of a def in which slot i's value is kept apart (its lists are new, each once). -/
namespace DL
open PySem L2
def TPost (K : PySem.W.Frag) (g : G) (i : Nat) (F0 : Hp) (E : Ends) : SRs → Prop
  | .nx r' => ∀ F0' F' H' s' v d, Same F0 F0' → RelT K g i F0' F' H' s' r' v d → r'[i]? = some (some (.sh d)) → E.nx s' H'
  | .ct r' => ∀ F0' F' H' s' v d, Same F0 F0' → RelT K g i F0' F' H' s' r' v d → r'[i]? = some (some (.sh d)) → E.ct s' H'
  | .bk r' => ∀ F0' F' H' s' v d, Same F0 F0' → RelT K g i F0' F' H' s' r' v d → r'[i]? = some (some (.sh d)) → E.bk s' H'
  | .rt (.sh b) r' => ∀ F0' F' H' s' w, Same F0 F0' → Same F0' F' → Rel K g F0' H' s' (r'.set i none) → Same F' H' → (∀ c u, F' c = some u → F0' c = none → g.H0 c = none) → RD K F' w b → Tr K F0' F' w b → E.rt w H'
  | .ex x r' => ∀ F0' H' s' cls dd, Same F0 F0' → Rel K g F0' H' s' (r'.set i none) → RX K F0' cls dd x → ∃ W, g.W = some W ∧ W cls dd s' H'
  | _ => False
theorem TPost.mono {K : PySem.W.Frag} {g : G} {i : Nat} {F0 F0' : Hp} {E : Ends} {x : SRs} (h : TPost K g i F0 E x) (e : Same F0 F0') : TPost K g i F0' E x := by
  cases x with
  | nx r => exact fun A B C D v d a => h A B C D v d (e.trans a)
  | ct r => exact fun A B C D v d a => h A B C D v d (e.trans a)
  | bk r => exact fun A B C D v d a => h A B C D v d (e.trans a)
  | rt o r =>
    cases o with
    | sh b => exact fun A B C D w a => h A B C D w (e.trans a)
    | _ => exact h
  | ex x r => exact fun A B C cls dd a => h A B C cls dd (e.trans a)
  | bad => exact h
theorem RelT.env {K : PySem.W.Frag} {g : G} {i : Nat} {F0 F H : Hp} {s : St} {r r' : En} {v : V} {d : D} (T : RelT K g i F0 F H s r v d) (e : r'.set i none = r.set i none) : RelT K g i F0 F H s r' v d :=
  ⟨by rw [e]; exact T.R0, T.sF, T.sH, T.at_, T.tr, fun j o a h => T.own j o a (by rw [← e]; exact h), T.bb, T.tt, T.xx, T.fn⟩
section
variable {X : Cx} {g : G} {i j : Nat} {st : Stmt} {sts rest : List Stmt} {c e : Expr} {pos : Pos}
end
end DL

/-! Data layer, part 105: for beside such a name; x.append(y). -/
namespace DL
open PySem L2
section
variable {X : Cx} {g : G} {i j : Nat} {tg iter : Expr} {body : List Stmt} {pos : Pos}
/-- a target that stores what is shared alone, not in slot i -/
structure TgOk (i : Nat) (ks : List Nat) (h : D → En → Option En) : Prop where
  ni : i ∉ ks
  own : ∀ d r r', h d r = some r' → ∀ k o, r'[k]? = some (some o) → o.own = true → r[k]? = some (some o) ∧ k ∉ ks
  emp : ∀ d r r', h d r = some r' → r'[i]? = r[i]?
end
end DL

/-! Data layer, part 106: x.append(y), raise, return x; how such a name begins. -/
namespace DL
open PySem L2
section
variable {X : Cx} {g : G} {i j : Nat} {st : Stmt} {rest : List Stmt}
end
end DL

/-! Data layer, part 107: calls with such a name among the arguments. -/
namespace DL
open PySem L2
section
variable {X : Cx} {g : G} {i j : Nat} {e : Expr} {es : List Expr}
end
end DL

/-! Data layer, part 108: if f(.., x, ..); a def that makes such a value. -/
namespace DL
open PySem L2
section
variable {X : Cx} {g : G} {i n : Nat} {c : Expr} {sa sb : List Stmt} {pos : Pos}
end
section
variable {P : Program} {w : World} {K : PySem.W.Frag} {mg : Str → Option Value} {base : Heap}
end
end DL

/-! Data layer, part 109: what a call beside such a name froze; a value of flat things among it. -/
namespace DL
open PySem L2
end DL

/-! Data layer, part 110: return (e, x); x = f(..) as a beginning. -/
namespace DL
open PySem L2
section
variable {X : Cx} {g : G} {i : Nat} {st : Stmt} {rest : List Stmt}
end
section
variable {P : Program} {w : World} {K : PySem.W.Frag} {mg : Str → Option Value} {base : Heap}
end
end DL

/-! Data layer, part 111: a list that a name owns, at a known address: handed on as itself. -/
namespace DL
open PySem L2
theorem itS_inj {a b : Addr} (h : itS a = itS b) : a = b := by
  unfold itS at h
  injection h with h
  have h2 : [0, a] = [0, b] := congrArg Array.toList h
  injection h2 with _ h2
  injection h2
/-- no name of the module begins with the sign 0 -/
def noZ (K : PySem.W.Frag) : Bool := match K.lookup mainGlobals with
  | some ⟨_, _, .dict es _, _⟩ => es.toList.all fun e => match e.key with
    | .str s _ => s.cps[0]? != some 0
    | _ => true
  | _ => true
theorem noZ_it {K : PySem.W.Frag} (h : noZ K = true) (p : Addr) : ∀ C, ¬ ClsAt K (itS p) C := fun C hc => by
  unfold noZ at h
  unfold ClsAt PySem.W.nsIn at hc
  split at hc
  · next es ep sl e =>
    rw [e] at h
    dsimp only at h
    cases hf : es.toList.find? (·.key.isStr (itS p)) with
    | none =>
      rw [hf] at hc
      dsimp only at hc
      split at hc <;> cases hc
    | some x =>
      have h1 := List.find?_some hf
      have h2 := List.all_eq_true.mp h x (List.mem_of_find?_eq_some hf)
      have h1 : x.key.isStr (itS p) = true := h1
      unfold Value.isStr at h1
      split at h1
      · next s t ek =>
        rw [ek] at h2
        have e3 : s = itS p := by simpa using h1
        rw [e3] at h2
        have h2 : ((some 0 : Option Nat) != some 0) = true := h2
        exact absurd h2 (by decide)
      · cases h1
  · cases hc
theorem RD.it_inv {K : PySem.W.Frag} {F : Hp} {v : V} {p : Addr} (hn : ∀ C, ¬ ClsAt K (itS p) C) (h : RD K F v (.obj (itS p) [])) : v = .ref p := by
  generalize e : D.obj (itS p) [] = d at h
  cases h with
  | obj k1 k2 k3 =>
    cases e
    exact absurd k1 (hn _)
  | it k =>
    injection e with e1 e2
    rw [itS_inj e1]
  | _ => cases e
section
variable {K : PySem.W.Frag} {g : G} {F H : Hp} {s : St} {r : En} {i : Nat} {a : Addr} {xs : List D}
/-- with the address of slot i's list known -/
def G.at (g : G) (i : Nat) (a : Addr) : G := { g with B := (i, a) :: g.B }
theorem Rel.pinned (R : Rel K g F H s r) (e : r[i]? = some (some (.ow xs))) (ea : s[i]? = some (some (.ref a))) : Rel K (g.at i a) F H s r := by
  have ao := R.own i _ a e rfl ea
  refine ⟨R.sub, R.f0, R.fnew, fun b o q hb ht => R.keep b o q (fun p hp => hb p (List.mem_cons_of_mem _ hp)) ht, R.slot, fun j o b q qo qs => (R.own j o b q qo qs).imp id (List.mem_cons_of_mem _), R.dist, fun p hp => ?_, R.len, fun p hp => ?_, R.ext⟩
  · rcases List.mem_cons.mp hp with z | z
    · subst z
      exact ⟨ea, _, e, rfl⟩
    · exact R.pin p z
  · obtain ⟨h1, h2, h3, h4⟩ := R.tb p hp
    refine ⟨h1, h2, fun q hq => ?_, h4⟩
    rcases List.mem_cons.mp hq with z | z
    · subst z
      exact fun z => R.tb.tno (i := i) ao p hp z.symm
    · exact h3 q z
theorem Rel.unpinned (R : Rel K (g.at i a) F H s r) (h0 : g.H0 a = none ∨ (i, a) ∈ g.B) : Rel K g F H s r := by
  refine ⟨R.sub, R.f0, R.fnew, fun b o q hb ht => R.keep b o q (fun p hp => ?_) ht, R.slot, fun j o b q qo qs => ?_, R.dist, fun p hp => R.pin p (List.mem_cons_of_mem _ hp), R.len, fun p hp => ?_, R.ext⟩
  · rcases List.mem_cons.mp hp with z | z
    · subst z
      rcases h0 with h0 | h0
      · exact fun z => by
          have z : a = b := z
          rw [← z, h0] at q
          cases q
      · exact hb _ h0
    · exact hb p z
  · rcases R.own j o b q qo qs with z | z
    · exact .inl z
    · rcases List.mem_cons.mp z with z | z
      · cases z
        exact h0
      · exact .inr z
  · obtain ⟨h1, h2, h3, h4⟩ := R.tb p hp
    exact ⟨h1, h2, fun q hq => h3 q (List.mem_cons_of_mem _ hq), h4⟩
end
section
variable {X : Cx} {g : G} {i : Nat}
open Classical in
end
end DL

/-! Data layer, part 112: defs that are handed a datum and the error that is handled; isinstance of it by a class of the language. -/
namespace DL
open PySem L2
structure FnE2 (P : Program) (w : World) (K : PySem.W.Frag) (mg : Str → Option Value) (base : Heap) (k : Nat) (f : Addr) (fd : FuncData) (a0 a : Str) (fe : D → Exn → Option D) : Prop where
  run : ∀ (A : Around) (outer : List Env) (s : Shared) (H : Hp) (args : Args) (u0 u : Value) (v0 : V) (d0 : D) (Q : VK) (p : Addr × Obj) (cls : Value) (d : Option Addr) (F : Hp) (x : Exn) (o : D),
    L2H.RoomH k A → A.guards = some [] → L2H.PinOk outer H s p → Zc cls d p.2 → (∃ vs, p.2.data = .fields vs) → Env0 P w K mg base A outer s H → BindsTo s fd args [(a0, u0), (a, u)] → RelV v0 u0 → RD K F v0 d0 → RelV (.ref p.1) u → Same F H → RX K F cls d x → fe d0 x = some o →
    (∀ F' H' v, Same F F' → Same F' H' → Fresh F F' H → Same H H' → RD K F' v o → Q v H') → codeAny (model P w) A (.call (.ref f) args) (CR CX0 outer P w H s Q fun _ _ _ => False) s
section
variable {P : Program} {w : World} {K : PySem.W.Frag} {mg : Str → Option Value} {base : Heap}
end
structure HasEx2 (P : Program) (w : World) (K : PySem.W.Frag) (mg : Str → Option Value) (base : Heap) (k : Nat) (x : Str) (fe : D → Exn → Option D) : Prop where
  ex : ∃ fa fd a0 a, FnE2 P w K mg base k fa fd a0 a fe ∧ mg x = some (.ref fa) ∧ PySem.W.keepIn K (.ref fa) = true ∧ Binds K fd [a0, a] []
section
variable {Y : Cx} {g' : G} {a : Addr} {oe : Obj} {cls : Value} {d : Option Addr} {n : Str} {np p : Pos} {i : Nat}
end
end DL

/-! Data layer, part 113: what runs while a generator sleeps leaves it asleep. For each generator that sleeps one stands in whose waking cannot go on: what runs beside such ones never wakes them, hence runs alike beside the true ones. -/
namespace DL.Slp
open PySem

/-! ### those that stand in -/
def toRet (F : Frame) : Frame := .ret (fun _ => .unsupported "") none F.guarded [] F.where_.1 F.where_.2 []
def stand : GenState → GenState
  | .suspended _ l c p fs cl => .suspended (fun _ => .unsupported "") l c p (fs.map toRet) cl
  | y => y
def isSl : GenState → Bool
  | .suspended .. => true
  | _ => false
/-- the true ones in the place of those that stand in -/
def sw (o : Nat → Option GenState) (s : Shared) : Shared := { s with gens := s.gens.mapIdx fun i y => (o i).getD y }
/-- no frame of one of them -/
def NoG (o : Nat → Option GenState) (fs : List Frame) : Prop := ∀ g' k l c p, Frame.gen g' k l c p ∈ fs → o g' = none
theorem NoG.nil {o : Nat → Option GenState} : NoG o [] := fun _ _ _ _ _ m => by cases m
theorem NoG.app {o : Nat → Option GenState} {fs gs : List Frame} (h : NoG o fs) (h' : NoG o gs) : NoG o (fs ++ gs) := fun g' k l c p m => (List.mem_append.mp m).elim (h g' k l c p) (h' g' k l c p)
def GenState.nog (o : Nat → Option GenState) : GenState → Prop
  | .suspended _ _ _ _ fs _ => NoG o fs
  | _ => True
def NogE (o : Nat → Option GenState) : End → Prop
  | .susp _ _ _ _ _ _ fs => NoG o fs
  | _ => True
theorem NogE.st {o : Nat → Option GenState} {e : End} (h : NogE o e) : GenState.nog o e.genState := by
  cases e with
  | ret r => exact trivial
  | susp v gg l k c p fs => exact h
/-- they stand in their places -/
structure Stood (o : Nat → Option GenState) (G : Array GenState) : Prop where
  at_ : ∀ (i : Nat) (x : GenState), o i = some x → G[i]? = some (stand x) ∧ isSl x = true
  nog : ∀ (i : Nat) (y : GenState), G[i]? = some y → GenState.nog o y
theorem Stood.off {o : Nat → Option GenState} {G : Array GenState} (h : Stood o G) {g' : Nat} {y : GenState} (hg : G[g']? = some y) (n : ∀ x, isSl x = true → y ≠ stand x) : o g' = none := by
  cases e : o g' with
  | none => rfl
  | some x =>
    obtain ⟨h1, h2⟩ := h.at_ _ _ e
    rw [hg] at h1
    exact (n x h2 (Option.some.inj h1)).elim
theorem Stood.set {o : Nat → Option GenState} {g' : Nat} {y : GenState} {s : Shared} (h : Stood o s.gens) (z : o g' = none) (hy : GenState.nog o y) : Stood o (s.setGen g' y).gens := by
  refine ⟨fun i x e => ?_, fun i u e => ?_⟩
  · have ne : g' ≠ i := fun q => by rw [q, e] at z; cases z
    refine ⟨?_, (h.at_ i x e).2⟩
    show (s.gens.setIfInBounds g' y)[i]? = _
    rw [Array.getElem?_setIfInBounds, if_neg ne]
    exact (h.at_ i x e).1
  · have e : (s.gens.setIfInBounds g' y)[i]? = some u := e
    rw [Array.getElem?_setIfInBounds] at e
    split at e
    · split at e
      · cases e; exact hy
      · cases e
    · exact h.nog i u e
theorem Stood.size {o : Nat → Option GenState} {G : Array GenState} (h : Stood o G) : o G.size = none := by
  cases e : o G.size with
  | none => rfl
  | some x =>
    have := (Array.getElem?_eq_some_iff.mp (h.at_ _ _ e).1).1
    exact absurd this (Nat.lt_irrefl _)
theorem Stood.push {o : Nat → Option GenState} {y : GenState} {G : Array GenState} (h : Stood o G) (hy : GenState.nog o y) : Stood o (G.push y) := by
  refine ⟨fun i x e => ⟨?_, (h.at_ i x e).2⟩, fun i z e => ?_⟩
  · have h1 := (h.at_ i x e).1
    rw [Array.getElem?_push, if_neg (Nat.ne_of_lt (Array.getElem?_eq_some_iff.mp h1).1)]
    exact h1
  · rw [Array.getElem?_push] at e
    split at e
    · cases e; exact hy
    · exact h.nog i z e
theorem sw_get {o : Nat → Option GenState} {s : Shared} {i : Nat} : (sw o s).gens[i]? = s.gens[i]?.map fun y => (o i).getD y := by
  show (s.gens.mapIdx _)[i]? = _
  rw [Array.getElem?_mapIdx]
theorem sw_on {o : Nat → Option GenState} {s : Shared} {i : Nat} {x : GenState} (h : Stood o s.gens) (e : o i = some x) : (sw o s).gens[i]? = some x := by
  rw [sw_get, (h.at_ i x e).1, e]
  rfl
section
variable {M : Model} {o : Nat → Option GenState}
/-- what the true generators see of what ran beside those that stand in for them -/
def SwS (o : Nat → Option GenState) (P : Shared → Prop) (s' : Shared) : Prop := ∃ s1, Stood o s1.gens ∧ s' = sw o s1 ∧ P s1
end
/-- a generator that sleeps is the same behind it -/
theorem SwS.kept {o : Nat → Option GenState} {P : Shared → Prop} {s' : Shared} (h : SwS o P s') {g : Nat} {x : GenState} (e : o g = some x) : s'.gens[g]? = some x := by
  obtain ⟨s1, a, rfl, _⟩ := h
  exact sw_on a e
end DL.Slp

/-! Data layer, part 114: errors whose context is known to be None (L2N), from the raise to the except suite. -/
namespace DL
open PySem L2 PyProof.Rows
def TkGN (X : Cx) (g : G) : Prop := ∀ W, g.W = some W → L2N.Takes X W
theorem TkGN.none {X : Cx} {g : G} (h : g.W = none) : TkGN X g := fun W e => by rw [h] at e; cases e
section
variable {P : Program} {w : World} {K : PySem.W.Frag} {mg : Str → Option Value} {base : Heap}
end
structure HasXN (P : Program) (w : World) (K : PySem.W.Frag) (mg : Str → Option Value) (base : Heap) (k : Nat) (x : Str) (n : Nat) (f : List D → FR) : Prop where
  ex : ∃ fa fd ps, FnG P w K mg base (L2N.CX P w) k fa fd ps (spX K n f) ∧ mg x = some (.ref fa) ∧ PySem.W.keepIn K (.ref fa) = true ∧ Binds K fd ps []
section
variable {X : Cx} {g : G} {k n : Nat} {x : Str} {p pos : Pos} {e : Expr} {es : List Expr}
end
section
variable {X : Cx} {e : Expr} {es : List Expr} {ta : TA} {p pos : Pos}
end
section
variable {X : Cx} {g : G} {e : Expr} {p pos pos2 : Pos} {c f : Str}
end
section
variable {X : Cx} {g : G} {p pos pos2 : Pos} {c : Str}
end
section
variable {X : Cx} {g : G} {xn n : Str} {cv : Value} {i : Nat} {body suite : List Stmt} {b₀ : Stmt} {np pos pos' : Pos} {fb fs : En → SRs} {ct : Str → Option Bool}
end
end DL

/-! Data layer, part 115: [e for x in range(n)] in an except suite (the error's context is None). -/
namespace DL
open PySem L2 PySem.Spec PyProof.Rows
section
variable {X : Cx}
end
section
variable {X : Cx} {g : G} {a tg : Expr} {pos : Pos}
end
section
variable {X : Cx} {g : G} {elt tg iter : Expr} {ifs : List Expr} {scope : Scope} {own : List (PySem.Str × Nat)} {pos : Pos} {c : GDt} {fe : En → Rs D} {ah : Addr} {oh : Obj} {cls : Value} {dd : Option Addr}
end
end DL

/-! Data layer, part 116: sets of tuples of data and None: a member more, by the search. -/
namespace DL.SV
open PySem L2 PyProof.Rows DL
/-- the value v, None or a tuple, is the key k -/
def IsV (h : Heap) (k : NestedKey) (v : Value) : Prop := NestedIs h k v ∧ k.depth ≤ 8 ∧ (v = .none ∨ ∃ a, v = .ref a)
theorem IsV.up {h h' : Heap} {k : NestedKey} {v : Value} (z : IsV h k v) (kp : ∀ b o, h.get? b = some o → h'.get? b = some o) : IsV h' k v :=
  ⟨NestedIs.at (fun b o _ _ e _ => kp b o e) k _ z.1, z.2⟩
section
variable {P : Program} {w : World} {A : Around} {E : Value → Shared → Prop} {s : Shared}
end
abbrev KV : Type := Value × NestedKey
def hV (w : World) (L : List KV) : List Int := L.map fun p => p.2.hash w
def rwV (w : World) (L : List KV) : List (Int × Value) := L.map fun p => (p.2.hash w, p.1)
/-- the set at a has the keys L, at their addresses -/
structure SetV (w : World) (h : Heap) (a : Addr) (L : List KV) (es : Array (Int × Value)) (ep : Nat) (t : SetTable) : Prop where
  ob : ∃ o, h.get? a = some o ∧ o.ExactSet ∧ o.data = .set es ep t
  rows : es.toList = rwV w L
  tab : L2.TabOk t (hV w L)
  nd : (L.map (·.2)).Nodup
  tup : ∀ p ∈ L, IsV h p.2 p.1
  led : w.params.followText "set-order" = true ∨ t.led = true
  room : L.length * 5 < t.mask * 3
  few : L.length < 64
/-- what the set has of the first i -/
structure GotV (ks : List KV) (i : Nat) (L : List KV) : Prop where
  sub : ∀ p ∈ L, p ∈ ks.take i
  all : ∀ p ∈ ks.take i, p.2 ∈ L.map (·.2)
  len : L.length ≤ i
section
variable {P : Program} {w : World} {A : Around} {E : Value → Shared → Prop} {s : Shared} {a : Addr} {L : List KV} {es : Array (Int × Value)} {ep : Nat} {t : SetTable}
end
end DL.SV

/-! Data layer, part 117: sets of tuples of data and None: None put in by the scan; both ways together. -/
namespace DL.SV
open PySem L2 PyProof.Rows DL
section
variable {P : Program} {w : World} {A : Around} {E : Value → Shared → Prop} {s : Shared} {a : Addr} {L : List KV} {es : Array (Int × Value)} {ep : Nat} {t : SetTable}
end
end DL.SV

/-! Data layer, part 118: a member of a set of tuples and None sought. -/
namespace DL.SV
open PySem L2 PyProof.Rows DL
section
variable {P : Program} {w : World} {A : Around} {E : Value → Shared → Prop} {s : Shared} {a : Addr} {L : List KV} {es : Array (Int × Value)} {ep : Nat} {t : SetTable}
end
end DL.SV

/-! Data layer, part 119: a set of tuples and None walked. -/
namespace DL.SV
open PySem L2 PyProof.Rows DL
section
variable {P : Program} {w : World} {A : Around} {E : Value → Shared → Prop} {s : Shared} {a : Addr} {L : List KV} {es : Array (Int × Value)} {ep : Nat} {t : SetTable}
end
end DL.SV

/-! Data layer, part 120: such a set walked by a built-in that nobody sees: as it is walked else. -/
namespace DL.SV
open PySem L2 PyProof.Rows DL
section
variable {P : Program} {w : World} {A : Around} {E : Value → Shared → Prop} {s : Shared} {a : Addr} {L : List KV} {es : Array (Int × Value)} {ep : Nat} {t : SetTable}
theorem IsV.tuple {h : Heap} {k : NestedKey} {b : Addr} (hv : IsV h k (.ref b)) : ∃ o, h.get? b = some o ∧ o.cls = .type "tuple" := by
  have z := hv.1
  cases z with
  | tup h1 h2 h3 h4 => exact ⟨_, h1, h2⟩
end
end DL.SV

/-! Data layer, part 121: a set of tuples and None less {None}; fewer than eight members. -/
namespace DL.SV
open PySem L2 PyProof.Rows DL
section
variable {P : Program} {w : World} {A : Around} {E : Value → Shared → Prop} {s : Shared} {a : Addr} {L : List KV} {es : Array (Int × Value)} {ep : Nat} {t : SetTable}
theorem SetV.typeIs {s : Shared} (R : SetV w s.heap a L es ep t) : s.TypeIs (.ref a) "set" := by
  obtain ⟨o, oa, ex, _⟩ := R.ob
  exact ⟨o, oa, ex.1⟩
theorem SetV.keep {h h' : Heap} (R : SetV w h a L es ep t) (k : ∀ b o, h.get? b = some o → h'.get? b = some o) : SetV w h' a L es ep t := by
  obtain ⟨o, oa, r⟩ := R.ob
  exact ⟨⟨o, k a o oa, r⟩, R.rows, R.tab, R.nd, fun p hp => (R.tup p hp).up k, R.led, R.room, R.few⟩
end
end DL.SV

/-! Data layer, part 122: the difference, fewer than eight members: the whole. -/
namespace DL.SV
open PySem L2 PyProof.Rows DL
section
variable {P : Program} {w : World} {A : Around} {E : Value → Shared → Prop} {s : Shared} {a b : Addr} {L : List KV} {es eo : Array (Int × Value)} {ep epo : Nat} {t to : SetTable}
end
end DL.SV

/-! Data layer, part 123: a set of tuples and None merged into one that is as newly made. -/
namespace DL.SV
open PySem L2 PyProof.Rows PySem.Froz DL
section
variable {P : Program} {w : World} {A : Around} {E : Value → Shared → Prop} {s : Shared} {a b : Addr} {L : List KV} {es : Array (Int × Value)} {ep : Nat} {t : SetTable}
end
end DL.SV

/-! Data layer, part 124: the copy of a set of tuples and None. -/
namespace DL.SV
open PySem L2 PyProof.Rows PySem.Froz DL
section
variable {P : Program} {w : World} {A : Around} {E : Value → Shared → Prop} {s : Shared} {a b : Addr} {L : List KV} {es : Array (Int × Value)} {ep : Nat} {t : SetTable}
end
end DL.SV

/-! Data layer, part 125: None taken out of a laid set of tuples and None. -/
namespace DL.SV
open PySem L2 PyProof.Rows PySem.Froz DL
section
variable {P : Program} {w : World} {A : Around} {E : Value → Shared → Prop} {s : Shared} {a b : Addr} {L : List KV} {es : Array (Int × Value)} {ep : Nat} {t : SetTable}
end
end DL.SV

/-! Data layer, part 126: a search's way in a table of any mask that its steps cover. -/
namespace DL.SV
open PySem L2 PyProof.Rows PySem.Froz DL
theorem stp_itL (m : Nat) : ∀ (n i b : Nat), stp m n (i, b) = L2.itL m i b n
  | 0, _, _ => rfl
  | n + 1, i, b => by
    show stp m n ((SetTable.leap m i b).1, (SetTable.leap m i b).2) = L2.itL m (SetTable.leap m i b).1 (SetTable.leap m i b).2 n
    exact stp_itL m n _ _
theorem run_meetsC {m : Nat} (hc : coverB (m + 1) = true) (h : Int) {j : Nat} (hj : j ≤ m) : ∃ n, n < SetTable.turns m ∧ runI m (SetTable.bits h) n = j := by
  obtain ⟨n, hn, e⟩ := meets hc (i := SetTable.bits h % (m + 1)) (p := SetTable.bits h) (Nat.mod_lt _ (Nat.succ_pos _)) (L2.bits_lt h) (Nat.lt_succ_of_le hj)
  rw [stp_itL, L2.itL_run] at e
  exact ⟨n, hn, e⟩
theorem nth_meetsC {m : Nat} (hc : coverB (m + 1) = true) (h : Int) {j : Nat} (hj : j ≤ m) : ∃ k, k < 10 * SetTable.turns m ∧ way m h k = j := by
  obtain ⟨n, hn, e⟩ := run_meetsC hc h hj
  obtain ⟨k, hk, e2⟩ := run_nth m (SetTable.bits h) n
  refine ⟨k, by omega, ?_⟩
  show (nth m (runAt m (SetTable.bits h % (m + 1)) (SetTable.bits h)) k).j = j
  rw [e2]
  exact e
end DL.SV

/-! Data layer, part 127: a table laid for any mask that its steps cover: who sits where. -/
namespace DL.SV
open PySem L2 PyProof.Rows PySem.Froz DL
end DL.SV

/-! Data layer, part 128: laid: each is found again. -/
namespace DL.SV
open PySem L2 PyProof.Rows PySem.Froz DL
/-- a table whose slots are all found again, of any mask that the steps cover -/
structure TabC (t : SetTable) (hs : List Int) : Prop where
  ris : Ris t.place.toList
  dm : t.dummies = #[]
  sz : t.place.size = hs.length
  cov : coverB (t.mask + 1) = true
  reach : ∀ (i : Nat) (h : Int) (j : Nat), hs[i]? = some h → t.place.toList[i]? = some j → ∃ k, way t.mask h k = j ∧ ∀ k', k' < k → way t.mask h k' ∈ t.place.toList
theorem TabC.first {t : SetTable} {hs : List Int} (T : TabC t hs) (hl : hs.length ≤ t.mask) (h : Int) : ∃ K, K < 10 * SetTable.turns t.mask ∧ way t.mask h K ∉ t.place.toList ∧ ∀ k, k < K → way t.mask h k ∈ t.place.toList := by
  obtain ⟨j, hj, hn⟩ := st_missing t.place.toList (t.mask + 1) (by rw [Array.length_toList, T.sz]; omega)
  obtain ⟨k, hk, e⟩ := nth_meetsC T.cov h (Nat.le_of_lt_succ hj)
  obtain ⟨K, h1, h2, h3⟩ := st_least (p := fun k => way t.mask h k ∉ t.place.toList) k (by
    show way t.mask h k ∉ _
    rw [e]
    exact hn)
  exact ⟨K, Nat.lt_of_le_of_lt h1 hk, h2, fun c hc => Classical.byContradiction fun z => h3 c hc z⟩
end DL.SV

/-! Data layer, part 129: a member sought in a set with a table of any covered mask. -/
namespace DL.SV
open PySem L2 PyProof.Rows DL
/-- the set at a has the keys L, at their addresses; the table of any covered mask -/
structure SetC (w : World) (h : Heap) (a : Addr) (L : List KV) (es : Array (Int × Value)) (ep : Nat) (t : SetTable) : Prop where
  ob : ∃ o, h.get? a = some o ∧ o.ExactSet ∧ o.data = .set es ep t
  rows : es.toList = rwV w L
  tab : TabC t (hV w L)
  nd : (L.map (·.2)).Nodup
  tup : ∀ p ∈ L, IsV h p.2 p.1
  led : w.params.followText "set-order" = true ∨ t.led = true
  room : L.length < t.mask
  odd : t.mask % 2 = 1
  top : t.mask ≤ 127
section
variable {P : Program} {w : World} {A : Around} {E : Value → Shared → Prop} {s : Shared} {a : Addr} {L : List KV} {es : Array (Int × Value)} {ep : Nat} {t : SetTable}
end
end DL.SV

/-! Data layer, part 130: rows laid anew, each found again. -/
namespace DL.SV
open PySem L2 PyProof.Rows PySem.Froz DL
section
variable {P : Program} {w : World} {A : Around} {E : Value → Shared → Prop} {s : Shared} {a b : Addr} {L : List KV} {es : Array (Int × Value)} {ep : Nat} {t : SetTable}
end
end DL.SV

/-! Data layer, part 131: one lap of a generator: from a waking to the next item, or to the end. -/
namespace DL.Lp
open PySem
open Sem (wp)
/-- the end of a lap -/
def LapEnd (Q : Result → Shared → Prop) (Y : Value → Shared → GenState → Prop) (e : End) (s' : Shared) : Prop :=
  match e with
  | .ret r => Q r s'
  | .susp v g l k c p fs => Y v s' (End.susp v g l k c p fs).genState
def Lap (M : Model) (A : Around) (Q : Result → Shared → Prop) (Y : Value → Shared → GenState → Prop) (c : Code) (t : Sem PySem.Fin) (fs : List Frame) (s : Shared) : Prop :=
  ∀ Γ p, Γ.code = c → Γ.Woken A → ∃ e s', Runs M Γ p t fs s e s' ∧ e.quiet = true ∧ LapEnd Q Y e s'
/-- a sleeping generator's next lap -/
def Goes (M : Model) (A : Around) (Q : Result → Shared → Prop) (Y : Value → Shared → GenState → Prop) (gs : GenState) (r : Resume) (s : Shared) : Prop :=
  match gs with
  | .fresh c => r = .send .none ∧ Lap M A Q Y c (M.den c) [] s
  | .suspended k _ c _ fs _ => Lap M A Q Y c (k r) fs s
  | _ => False
section
variable {M : Model} {A : Around} {Q : Result → Shared → Prop} {Y : Value → Shared → GenState → Prop} {c : Code} {fs : List Frame} {s : Shared}
theorem Lap.mono {Q' : Result → Shared → Prop} {Y' : Value → Shared → GenState → Prop} {t : Sem PySem.Fin} (h : Lap M A Q Y c t fs s) (hq : ∀ r s', Q r s' → Q' r s') (hy : ∀ v s' g, g.bare = true → Y v s' g → Y' v s' g) : Lap M A Q' Y' c t fs s := by
  intro Γ p hc hΓ
  obtain ⟨e, s', hr, hq1, he⟩ := h Γ p hc hΓ
  refine ⟨e, s', hr, hq1, ?_⟩
  have hb := End.bare_of_quiet hq1
  cases e with
  | ret r => exact hq r s' he
  | susp v g l k c' p' fs' => exact hy v s' _ hb he
theorem Goes.mono {Q' : Result → Shared → Prop} {Y' : Value → Shared → GenState → Prop} {gs : GenState} {r : Resume} (h : Goes M A Q Y gs r s) (hq : ∀ r s', Q r s' → Q' r s') (hy : ∀ v s' g, g.bare = true → Y v s' g → Y' v s' g) : Goes M A Q' Y' gs r s := by
  cases gs with
  | fresh c => exact ⟨h.1, h.2.mono hq hy⟩
  | suspended k l c p fs cl => exact Lap.mono (show Lap M A Q Y c (k r) fs s from h) hq hy
  | running => exact h.elim
  | finished => exact h.elim
/-! ### statements -/
section
variable {env : Env} {K : Flow → Sem PySem.Fin} {H : Value → Sem PySem.Fin} {gd : Bool → Bool} {lv : List Value → List Value}
end
section
variable {prog : Program} {w : World} {env : Env} {K : Flow → Sem PySem.Fin} {H : Value → Sem PySem.Fin} {gd : Bool → Bool} {lv : List Value → List Value}
end
end
end DL.Lp

/-! Data layer, part 132: a sleeping generator by data; its context at a waking; what its consumer has behind a lap. -/
namespace DL.Lp
open PySem L2
open PyProof.Rows (envOfC AllBare)

/-- what a generator hands out, and how it ends -/
inductive GR where
  | yld (o : OV) (z : GR)
  | ret
  | ex (x : Exn)
  | bad
/-- what stays through a generator's life: n0: the heap's size at its call, a, go: its own object -/
structure GX where
  P : Program
  w : World
  K : PySem.W.Frag
  mg : Str → Option Value
  base : Heap
  n0 : Nat
  k : Nat
  a : Addr
  go : Obj
abbrev Own := List (Addr × Obj)

/-! ### the heap as it was when the generator was made, at what it is now -/
def cut (n : Nat) (h : Heap) : Heap := ⟨h.objs.extract 0 n, h.life⟩
theorem cut_size {n : Nat} {h : Heap} (e : n ≤ h.objs.size) : (cut n h).objs.size = n := by
  show (h.objs.extract 0 n).size = n
  simp; omega
/-- all that the consumer holds; what nobody knows by its very object -/
def anyO : HO := .ext fun _ => True
def over (n : Nat) (own : Own) (h : Heap) (H : Hp) : Hp := fun b =>
  match H b with
  | some u => some u
  | none => if n ≤ b ∧ b ∉ own.map (·.1) then (h.get? b).map fun o => .frz o anyO else none
section
variable {n : Nat} {own : Own} {h : Heap} {H : Hp} {b : Addr}
end
/-! ### a waking -/
structure Wake (x : GX) (A : Around) (outer : List Env) (F H : Hp) (own : Own) (s : Shared) : Prop where
  room : Room x.k A
  gd : A.guards = some []
  e0 : Env0 x.P x.w x.K x.mg x.base A outer s H
  sub : Same F H
  own : ∀ p ∈ own, s.heap.get? p.1 = some p.2 ∧ H p.1 = none ∧ p.1 ∉ frs outer
  sz : x.n0 ≤ s.heap.objs.size
  low : ∀ b ∈ frs outer, b < x.n0
  bsz : x.base.objs.size ≤ x.n0
/-- the context of the generator's code at a waking -/
def ctx (x : GX) (N : List Str) (qual : Str) (scope : Scope) (f : Addr) (cd : Value) (A : Around) (outer : List Env) (H : Hp) (own : Own) (s : Shared) (E : XK) : Cx where
  prog := x.P
  w := x.w
  K := x.K
  mg := x.mg
  base := x.base
  A := A.deeper (envOfC qual scope x.n0 f cd)
  N := N
  s_0 := { s with heap := cut x.n0 s.heap }
  H_0 := over x.n0 own s.heap H
  env := envOfC qual scope x.n0 f cd
  outer := outer
  stack := envOfC qual scope x.n0 f cd :: outer
  ex := []
  calm := true
  fn := fun _ => true
  pn := [(x.a, x.go)]
  xe := fun e s' => wpAny (model x.P x.w) (A.deeper (envOfC qual scope x.n0 f cd)) (leaving (envOfC qual scope x.n0 f cd) e)
    (fun _ s'' => L2.CX x.P x.w outer (over x.n0 own s.heap H) { s with heap := cut x.n0 s.heap } E e s'' ∧ ∀ p ∈ [(x.a, x.go)], s''.heap.get? p.1 = some p.2) (fun _ _ => False) s'
def lapG (x : GX) (F H : Hp) (own : Own) (s : Shared) (E : XK) : G := ⟨F, over x.n0 own s.heap H, [], [], x.w, some (fun cls d _ H' => E cls d H'), none, []⟩
/-- a generator def's scope without cells -/
structure NoCell (n0 : Nat) (scope : Scope) : Prop where
  kind : scope.kind = .function
  cells : cellsFrom (n0 + 1) scope.names [] = []
  nk : ∀ y : Str, scope.names.lookup y ≠ some .cell ∧ scope.names.lookup y ≠ some .free
section
variable {x : GX} {N : List Str} {qual : Str} {scope : Scope} {f : Addr} {cd : Value} {A : Around} {outer : List Env} {F H : Hp} {own : Own} {s : Shared} {E : XK}
/-! ### behind a lap -/
/-- what the consumer has behind a lap -/
structure Went (x : GX) (outer : List Env) (F H : Hp) (own : Own) (s : Shared) (F' H' : Hp) (s1 : Shared) : Prop where
  os : s1.os = s.os
  bare : AllBare s1.gens
  un : Un (frs outer) (own.map (·.1)) H H' s.heap s1.heap
  hok : HOk x.P x.w H' s1.heap
  sF : Same F F'
  sub : Same F' H'
  fresh : Fresh F F' H
  sH : Same H H'
/-- the generator's own objects behind a lap -/
def OwnAt (x : GX) (outer : List Env) (own : Own) (s : Shared) (H' : Hp) (own' : Own) (s1 : Shared) : Prop :=
  ∀ p ∈ own', s1.heap.get? p.1 = some p.2 ∧ H' p.1 = none ∧ p.1 ∉ frs outer ∧ x.n0 ≤ p.1 ∧ (∀ v, p.2.data ≠ .cell v) ∧ ∀ o, s.heap.get? p.1 = some o → p.1 ∈ own.map (·.1)
section
variable {ip : Own} {σ τ : St} {H1 F1 : Hp} {s1 : Shared} {r : En}
end

/-! ### an error -/
def EE (K : PySem.W.Frag) (F H : Hp) (e : Exn) : XK := fun cls d H' => ∃ F', Same F F' ∧ Same F' H' ∧ Fresh F F' H ∧ Same H H' ∧ RX K F' cls d e
def GErr (x : GX) (outer : List Env) (F H : Hp) (own : Own) (s : Shared) (e : Exn) (er : Value) (s1 : Shared) : Prop :=
  ∃ G : Heap, (∀ b o, b ∉ own.map (·.1) → s.heap.get? b = some o → G.get? b = some o) ∧ (∀ b o, G.get? b = some o → b ∉ own.map (·.1) ∧ s.heap.get? b = some o) ∧ L2.CX x.P x.w outer H { s with heap := G } (EE x.K F H e) er s1 ∧ s1.heap.get? x.a = some x.go
end

/-! ### asleep -/
def QZ (x : GX) (outer : List Env) (F H : Hp) (own : Own) (s : Shared) : GR → Result → Shared → Prop
  | .ret, r, s1 => (r = .ok (.ret .none) ∨ r = .ok .next) ∧ (∃ F' H', Went x outer F H own s F' H' s1) ∧ s1.heap.get? x.a = some x.go
  | .ex e, r, s1 => ∃ er, r = .error er ∧ GErr x outer F H own s e er s1
  | _, _, _ => False
def YO (x : GX) (outer : List Env) (F H : Hp) (own : Own) (s : Shared) (nxt : Hp → Own → GenState → Prop) (o : OV) (v : Value) (s1 : Shared) (gs : GenState) : Prop :=
  ∃ F' H' own' vv, Went x outer F H own s F' H' s1 ∧ OwnAt x outer own s H' own' s1 ∧ (x.a, x.go) ∈ own' ∧ RelV vv v ∧ RVf x.K F' H' H vv o ∧ nxt F' own' gs
/-- a generator that sleeps, with z before it -/
def Asleep (x : GX) : GR → Hp → Own → GenState → Prop
  | .yld o z, F, own, gs => ∀ A outer H s, Wake x A outer F H own s → Goes (model x.P x.w) A (fun _ _ => False) (YO x outer F H own s (Asleep x z) o) gs (.send .none) s
  | .ret, F, own, gs => ∀ A outer H s, Wake x A outer F H own s → Goes (model x.P x.w) A (QZ x outer F H own s .ret) (fun _ _ _ => False) gs (.send .none) s
  | .ex e, F, own, gs => ∀ A outer H s, Wake x A outer F H own s → Goes (model x.P x.w) A (QZ x outer F H own s (.ex e)) (fun _ _ _ => False) gs (.send .none) s
  | .bad, _, _, _ => False
def YZ (x : GX) (outer : List Env) (F H : Hp) (own : Own) (s : Shared) : GR → Value → Shared → GenState → Prop
  | .yld o z => YO x outer F H own s (Asleep x z) o
  | _ => fun _ _ _ => False
end DL.Lp

/-! Data layer, part 133: the code of a generator def, by data. -/
namespace DL.Lp
open PySem L2
open PyProof.Rows (envOfC AllBare)

/-- what a stretch of a generator's code hands out, and how it ends -/
inductive GO where
  | yld (o : OV) (w : GO)
  | fin (u : SRs)
def GO.bind : GO → (SRs → GO) → GO
  | .yld o w, k => .yld o (w.bind k)
  | .fin u, k => k u
def GR.good : GR → Prop
  | .yld _ z => z.good
  | .bad => False
  | _ => True
theorem GR.good.ne {z : GR} (h : z.good) : z ≠ .bad := fun e => by rw [e] at h; exact h
/-- what is wished of errors in a lap, by what is to come -/
def EZ (K : PySem.W.Frag) (F H : Hp) : GR → XK
  | .ex e => EE K F H e
  | _ => fun _ _ _ => False

/-- a generator def -/
structure GD where
  x : GX
  N : List Str
  qual : Str
  scope : Scope
  f : Addr
  cd : Value
def GD.env (y : GD) : Env := envOfC y.qual y.scope y.x.n0 y.f y.cd
/-- a lap: who wakes it, from what -/
structure LP where
  A : Around
  outer : List Env
  F : Hp
  H : Hp
  own : Own
  s : Shared
def LP.Ok (y : GD) (l : LP) : Prop := Wake y.x l.A l.outer l.F l.H l.own l.s
def LP.E (y : GD) (l : LP) (z : GR) : XK := EZ y.x.K l.F (over y.x.n0 l.own l.s.heap l.H) z
def LP.X (y : GD) (l : LP) (z : GR) : Cx := ctx y.x y.N y.qual y.scope y.f y.cd l.A l.outer l.H l.own l.s (l.E y z)
def LP.g (y : GD) (l : LP) (z : GR) : G := lapG y.x l.F l.H l.own l.s (l.E y z)
/-- from here on z is to come -/
def LP.Lap (y : GD) (l : LP) (z : GR) (c : Code) (t : Sem PySem.Fin) (fs : List Frame) (s : Shared) : Prop :=
  Lp.Lap (model y.x.P y.x.w) l.A (QZ y.x l.outer l.F l.H l.own l.s z) (YZ y.x l.outer l.F l.H l.own l.s z) c t fs s

/-- where the code stands -/
structure GCd (y : GD) (c : Code) (fs : List Frame) (gd : Bool → Bool) : Prop where
  over : ∀ A : Around, A.over c fs = A.deeper y.env
  split : splitAtGen fs = none
  guard : fs.any Frame.guarded = false
  gd : gd false = false
def Fl (X : Cx) (g : G) (ip : Own) (F : Hp) : SRs → Flow → Shared → Prop
  | .nx r, f, s => f = .next ∧ ∃ σ H F', Inv X ip σ H s ∧ Same F F' ∧ Rel X.K g F' H σ r
  | .bk r, f, s => f = .brk ∧ ∃ σ H F', Inv X ip σ H s ∧ Same F F' ∧ Rel X.K g F' H σ r
  | .ct r, f, s => f = .cont ∧ ∃ σ H F', Inv X ip σ H s ∧ Same F F' ∧ Rel X.K g F' H σ r
  | .rt o r, f, s => ∃ v u σ τ H F', f = .ret u ∧ RelV v u ∧ Inv X ip σ H s ∧ Same F F' ∧ Rel X.K g F' H τ r ∧ RV X.K g F' H τ r v o
  | _, _, _ => False
theorem Fl.mono {X : Cx} {g : G} {ip : Own} {F F' : Hp} {u : SRs} {f : Flow} {s : Shared} (e : Same F F') (h : Fl X g ip F' u f s) : Fl X g ip F u f s := by
  cases u with
  | nx r => obtain ⟨h1, σ, H, F2, h2, h3, h4⟩ := h; exact ⟨h1, σ, H, F2, h2, e.trans h3, h4⟩
  | bk r => obtain ⟨h1, σ, H, F2, h2, h3, h4⟩ := h; exact ⟨h1, σ, H, F2, h2, e.trans h3, h4⟩
  | ct r => obtain ⟨h1, σ, H, F2, h2, h3, h4⟩ := h; exact ⟨h1, σ, H, F2, h2, e.trans h3, h4⟩
  | rt o r => obtain ⟨v, u, σ, τ, H, F2, h1, h2, h3, h4, h5, h6⟩ := h; exact ⟨v, u, σ, τ, H, F2, h1, h2, h3, e.trans h4, h5, h6⟩
  | bad => exact h
  | ex x r => exact h
/-- what follows -/
structure GK (y : GD) (ip : Own) (F : Hp) (kz : SRs → GR) (c : Code) (fs : List Frame) (K : Flow → Sem PySem.Fin) (J : Value → Sem PySem.Fin) : Prop where
  ok : ∀ (l : LP) (u : SRs) (f : Flow) (s : Shared), l.Ok y → (kz u).good → Fl (l.X y (kz u)) (l.g y (kz u)) ip F u f s → l.Lap y (kz u) c (K f) fs s
  exc : ∀ (l : LP) (z : GR) (e : Value) (s : Shared), l.Ok y → z.good → (l.X y z).xe e s → l.Lap y z c (J e) fs s
  ex : ∀ x r, kz (.ex x r) = .ex x
  bad : kz .bad = .bad
section
variable {y : GD} {st : Stmt} {rest : List Stmt}
/-! ### yield -/
end
end DL.Lp

/-! Data layer, part 134: a for whose body hands out. -/
namespace DL.Lp
open PySem L2
open PyProof.Rows (envOfC AllBare)
section
variable {y : GD}
/-- what a loop's iterator keeps through all laps -/
def FpS (y : GD) (ip : Own) (fp : List Addr) : Prop := ∀ b ∈ fp, b ≠ y.x.n0 ∧ y.x.n0 ≤ b ∧ ∀ p ∈ (y.x.a, y.x.go) :: ip, p.1 ≠ b
theorem FpS.ok {l : LP} {z : GR} {ip : Own} {H : Hp} {fp : List Addr} (S : NoCell y.x.n0 y.scope) (ok : l.Ok y) (h : FpS y ip fp) (hn : ∀ b ∈ fp, H b = none) : ∀ b ∈ fp, FpOk (l.X y z) ip H b := fun b hb => by
  obtain ⟨h1, h2, h3⟩ := h b hb
  refine ⟨hn b hb, h1, fun q => absurd (ok.low b q) (Nat.not_lt_of_le h2), .inr ?_, fun x c e => ?_, h3⟩
  · show (cut y.x.n0 l.s.heap).objs.size ≤ b
    rw [cut_size ok.sz]
    exact h2
  · have e : (cellsFrom (y.x.n0 + 1) y.scope.names []).lookup x = some c := e
    rw [S.cells] at e
    cases e
end
end DL.Lp

/-! Data layer, part 135: what a generator def promises; its call gives a generator that sleeps. -/
namespace DL.Lp
open PySem L2
open PyProof.Rows (envOfC AllBare)

/-- what a call of a generator def gives -/
def Made (P : Program) (w : World) (K : PySem.W.Frag) (mg : Str → Option Value) (base : Heap) (k : Nat) (z : GR) (F : Hp) (s : Shared) (u : Value) (s' : Shared) : Prop :=
  ∃ (a : Addr) (g : Nat) (go : Obj) (c : Code) (own : Own), u = .ref a ∧ s.heap.objs.size ≤ a ∧ (∀ h : Heap, h.get? a = some go → h.IsGen a g) ∧ s'.gens[g]? = some (.fresh c) ∧ s'.os = s.os ∧ AllBare s'.gens ∧
    (∀ b o, s.heap.get? b = some o → s'.heap.get? b = some o) ∧ (∀ p ∈ own, s'.heap.get? p.1 = some p.2 ∧ s.heap.objs.size ≤ p.1 ∧ ∀ v, p.2.data ≠ .cell v) ∧ (a, go) ∈ own ∧
    Asleep ⟨P, w, K, mg, base, s.heap.objs.size, k, a, go⟩ z F own (.fresh c)
structure FnGen (P : Program) (w : World) (K : PySem.W.Frag) (mg : Str → Option Value) (base : Heap) (k : Nat) (f : Addr) (fd : FuncData) (ps : List Str) (n : Nat) (fz : List D → GR) : Prop where
  len : ps.length = n
  run : ∀ (A : Around) (outer : List Env) (s : Shared) (H F : Hp) (args : Args) (us : List Value) (vs : List V) (ds : List D), A.guards = some [] → Room k A → Env0 P w K mg base A outer s H → BindsTo s fd args (ps.zip us) → Vals vs us → Same F H → RDs K F vs ds → ds.length = n → (fz ds).good →
    codeAny (model P w) A (.call (.ref f) args) (fun r s' => match r with | .ok (.ret u) => Made P w K mg base k (fz ds) F s u s' | _ => False) s
end DL.Lp

/-! Data layer, part 136: the next item, for a consumer. -/
namespace DL.Lp
open PySem L2
open PyProof.Rows (envOfC AllBare)

/-! ### the consumer -/
/-- none of the consumer's own objects; it may turn -/
def Apt (X : Cx) (b : Addr) : Prop := b ≠ X.env.locals ∧ (∀ y c, X.env.cells.lookup y = some c → c ≠ b) ∧ b ∉ X.fs ∧ (b ∈ X.ex ∨ X.s_0.heap.objs.size ≤ b)
/-- the generator as its consumer holds it -/
structure Hd (X : Cx) (pins : Own) (x : GX) (gi : Nat) (own : Own) (s : Shared) : Prop where
  P : x.P = X.prog
  w : x.w = X.w
  K : x.K = X.K
  mg : x.mg = X.mg
  base : x.base = X.base
  gen : ∀ h : Heap, h.get? x.a = some x.go → h.IsGen x.a gi
  mem : (x.a, x.go) ∈ own
  apt : ∀ p ∈ own, Apt X p.1
  own : ∀ p ∈ own, s.heap.get? p.1 = some p.2 ∧ x.n0 ≤ p.1 ∧ (∀ v, p.2.data ≠ .cell v) ∧ ∀ q ∈ X.pn ++ pins, q.1 ≠ p.1
  free : ∀ b, x.n0 ≤ b → (∀ o, X.s_0.heap.get? b = some o → b ∈ X.ex) → b ∈ X.ex ∨ X.s_0.heap.objs.size ≤ b
  lowF : ∀ b ∈ frs X.stack, b < x.n0
  low0 : X.base.objs.size ≤ x.n0
  sz : x.n0 ≤ s.heap.objs.size
/-- both frozen maps in one -/
def join (F F' : Hp) : Hp := fun b => match F b with
  | some u => some u
  | none => F' b
/-- the consumer's side of a lap -/
structure Gone (H F : Hp) (F' H' : Hp) : Prop where
  sF : Same F F'
  sub : Same F' H'
  fresh : Fresh F F' H
  sH : Same H H'
section
variable {X : Cx} {pins : Own} {x : GX} {gi : Nat} {own : Own} {s : Shared} {σ : St} {H F Fg : Hp} {gs : GenState} {z : GR} {B : Around}
theorem Hd.fp (h : Hd X pins x gi own s) (hn : ∀ p ∈ own, H p.1 = none) : ∀ b ∈ own.map (·.1), FpOk X pins H b := fun b hb => by
  obtain ⟨p, hm, rfl⟩ := List.mem_map.mp hb
  obtain ⟨_, h2, _, h4⟩ := h.own p hm
  obtain ⟨a1, a2, a3, a4⟩ := h.apt p hm
  exact ⟨hn p hm, a1, a3, a4, a2, h4⟩
end
end DL.Lp

/-! Data layer, part 137: list(g). -/
namespace DL.Lp
open PySem L2
open PyProof.Rows (envOfC AllBare)

def GR.items : GR → List D
  | .yld o z => o.d :: z.items
  | _ => []
def GR.last : GR → GR
  | .yld _ z => z.last
  | z => z
theorem Gone.trans {H F F1 H1 F2 H2 : Hp} (a : Gone H F F1 H1) (b : Gone H1 F1 F2 H2) : Gone H F F2 H2 :=
  ⟨a.sF.trans b.sF, b.sub, (fun c o e e0 => by
    cases q : F1 c with
    | some u => exact a.fresh c u q e0
    | none =>
      have h := b.fresh c o e q
      cases q2 : H c with
      | none => rfl
      | some u => rw [a.sH c u q2] at h; cases h), a.sH.trans b.sH⟩
theorem Gone.refl {H F : Hp} (h : Same F H) : Gone H F F H := ⟨Same.refl _, h, fun c o e e0 => (by rw [e0] at e; cases e), Same.refl _⟩
section
variable {X : Cx} {pins : Own} {σ : St} {H F : Hp} {s : Shared}
end
section
variable {X : Cx} {pins : Own} {x : GX} {gi : Nat} {σ : St} {B : Around} {R : Result → Shared → Prop} {S : Addr} {res : Value} {H0 F0 : Hp}
end
end DL.Lp

/-! Data layer, part 138: generators made by a call; list(f(..)). -/
namespace DL.Lp
open PySem L2
open PyProof.Rows (envOfC AllBare)

structure HasGen (P : Program) (w : World) (K : PySem.W.Frag) (mg : Str → Option Value) (base : Heap) (k : Nat) (x : Str) (n : Nat) (fz : List D → GR) : Prop where
  ex : ∃ fa fd ps, FnGen P w K mg base k fa fd ps n fz ∧ mg x = some (.ref fa) ∧ PySem.W.keepIn K (.ref fa) = true ∧ Binds K fd ps []
/-- e gives a generator that has not begun -/
structure DGn (X : Cx) (g : G) (k : Nat) (e : Expr) (f : En → Rs GR) : Prop where
  run : ∀ (pins : Own) (s : Shared) (σ : St) (H : Hp) (R : GR → Hp → Hp → En → Prop), Inv X pins σ H s → (∃ F r, Rel X.K g F H σ r ∧ post X.K g (fun z r1 => ∀ F1 H1, Same F F1 → Rel X.K g F1 H1 σ r1 → R z F1 H1 r1) (f r)) →
    wpAny (model X.prog X.w) X.A (eval e X.env) (fun u s' => ∃ z F1 H1 r1 sc, R z F1 H1 r1 ∧ Inv X pins σ H1 sc ∧ Rel X.K g F1 H1 σ r1 ∧ Made X.prog X.w X.K X.mg X.base k z F1 sc u s') X.xe s
section
variable {X : Cx} {g : G} {k n : Nat} {nm : Str} {p pos : Pos} {e : Expr} {es : List Expr}
end
section
variable {X : Cx} {pins : Own} {x : GX} {gi : Nat} {σ : St} {H F : Hp} {s : Shared}
end

/-! ### by data -/
section
variable {X : Cx} {g : G} {k : Nat} {p pos : Pos} {e : Expr}
/-- behind a lap, by data -/
theorem Gone.rel {K : PySem.W.Frag} {F H F' H' : Hp} {σ : St} {r : En} (R : Rel K g F H σ r) (h : Gone H F F' H') : Rel K g F' H' σ r := R.after h.sF h.sub h.fresh h.sH
end
end DL.Lp

/-! Data layer, part 139: an error that leaves a comprehension. -/
namespace DL.Lp
open PySem L2
open PyProof.Rows (envOfC AllBare)
section
variable {X : Cx} {pins : Own} {σ : St} {H : Hp} {s1 s2 : Shared} {C : Addr} {W : WX} {er : Value}
end
end DL.Lp

/-! Data layer, part 140: a comprehension over a generator. -/
namespace DL.Lp
open PySem L2
open PyProof.Rows (envOfC AllBare)

/-! ### beside a sleeping generator -/
structure Bes (gi : Nat) (gs : GenState) (s1 s' : Shared) : Prop where
  heap : s'.heap = s1.heap
  os : s'.os = s1.os
  bare : AllBare s1.gens → AllBare s'.gens
  gen : s'.gens[gi]? = some gs
/-! ### the loop -/
end DL.Lp

/-! Data layer, part 141: [e for x in f(..)], f a generator def. -/
namespace DL.Lp
open PySem L2 PySem.Spec
open PyProof.Rows (envOfC AllBare)

section
variable {X : Cx} {g : G} {k : Nat} {pos : Pos} {e tg elt : Expr}
end
end DL.Lp

/-! Data layer, part 142: raise C(e) from n, n the error that is handled. -/
namespace DL.Lp
open PySem L2 HotX
end DL.Lp

/-! Data layer, part 143: try: body, except C as n: a suite that raises. -/
namespace DL.Lp
open PySem L2 HotX
section
variable {X : Cx} {pins : Own} {σ : L2.St} {H : Hp} {s : Shared}
end
def Ends.no : Ends := { nx := fun _ _ => False, rt := fun _ _ => False }
section
variable {X : Cx} {x n : Str} {c : Value} {i : Nat} {body suite : List Stmt} {b₀ : Stmt} {np pos pos' : Pos} {tb : WX → TS} {ts : Addr → Value → Option Addr → TS} {Wout : WX}
end
end DL.Lp

/-! Data layer, part 144: try: .. except D as n: raise C(e) from n, by data. -/
namespace DL.Lp
open PySem L2 HotX
/-- the error class c with its one attribute f, raised where an error is handled -/
structure HasEH (P : Program) (w : World) (K : PySem.W.Frag) (mg : Str → Option Value) (base : Heap) (c f : Str) : Prop where
  ex : ∃ C fI fd ps, mg c = some (.ref C) ∧ ClsAt K c C ∧ OexC K C ∧ PySem.W.findIn K (.ref C) f = some none ∧ PySem.W.findIn K (.ref C) "__init__" = some (some (.ref fI)) ∧ PySem.W.typeIn K (.ref fI) = some (.type "function") ∧ L2H.FnH P w K mg base CX0 1 fI fd ps (spEI K f) ∧ Binds K fd ps []
/-! ### by data -/
section
variable {X : Cx} {g : G} {xn n c f : Str} {cv : Value} {i : Nat} {body : List Stmt} {np pos pos' p1 p2 p3 p4 : Pos} {e : Expr} {fb : En → SRs} {fe : En → Rs D} {ct : Str → Option Bool} {k : Nat}
end
end DL.Lp

/-! Data layer, part 145: what the printer says of a generator's code. -/
namespace DL.Lp
open PySem L2
open PyProof.Rows (envOfC AllBare)
end DL.Lp

/-! Data layer, part 146: a comprehension of new lists: [e for x in xs], e a list of its own each time. -/
namespace DL
open PySem L2
def G.mor (g : G) (L : List (Addr × HO)) : G := { g with X := L ++ g.X }
section
variable {K : PySem.W.Frag} {g : G} {F H : Hp} {s : St} {r : En}
theorem Rel.mor {L : List (Addr × HO)} (R : Rel K g F H s r) (h : ∀ p ∈ L, H p.1 = some p.2 ∧ F p.1 = none ∧ ∀ (j : Nat) (o : OV), r[j]? = some (some o) → o.own = true → s[j]? ≠ some (some (.ref p.1))) : Rel K (g.mor L) F H s r :=
  ⟨R.sub, R.f0, R.fnew, R.keep, R.slot, R.own, R.dist, R.pin, R.len, R.tb, fun p hp => (List.mem_append.mp hp).elim (h p) (R.ext p)⟩
theorem Rel.les {L : List (Addr × HO)} (R : Rel K (g.mor L) F H s r) : Rel K g F H s r ∧ ∀ p ∈ L, H p.1 = some p.2 ∧ F p.1 = none ∧ ∀ (j : Nat) (o : OV), r[j]? = some (some o) → o.own = true → s[j]? ≠ some (some (.ref p.1)) :=
  ⟨⟨R.sub, R.f0, R.fnew, R.keep, R.slot, R.own, R.dist, R.pin, R.len, R.tb, fun p hp => R.ext p (List.mem_append_right _ hp)⟩, fun p hp => R.ext p (List.mem_append_left _ hp)⟩
/-- what is held still is frozen -/
theorem Rel.ice {a : Addr} {o : HO} (R : Rel K g F H s r) (ha : H a = some o) (hF : F a = none) (ho : ∀ (j : Nat) (u : OV), r[j]? = some (some u) → u.own = true → s[j]? ≠ some (some (.ref a))) (h0 : g.H0 a = none) (hX : ∀ p ∈ g.X, p.1 ≠ a) : Rel K g (L2.upd F a o) H s r := by
  have tn := R.tb.tn h0
  refine ⟨fun b u e => ?_, R.f0.trans (same_upd hF), fun b u e e0 => ?_, R.keep, fun i u e => ?_, R.own, R.dist, R.pin, R.len, R.tb.atF tn hF, fun p hp => ?_⟩
  · by_cases hb : b = a
    · subst hb; rw [upd_same] at e; cases e; exact ha
    · rw [upd_ne hb] at e; exact R.sub b u e
  · by_cases hb : b = a
    · subst hb; exact h0
    · rw [upd_ne hb] at e; exact R.fnew b u e e0
  · obtain ⟨v, h1, h2⟩ := R.slot i u e
    refine ⟨v, h1, ?_⟩
    have nb : ∀ b, u.own = true → v = .ref b → L2.upd F a o b = F b := fun b eu ev => upd_ne fun z => ho i u e eu (by rw [h1, ev, z])
    cases u with
    | sh d => exact RD.mono (same_upd hF) d h2
    | ow xs => obtain ⟨b, ws, e1, e2, e3, e4⟩ := h2; exact ⟨b, ws, e1, (nb b rfl e1).trans e2, e3, RDs.mono (same_upd hF) _ e4⟩
    | od xs => obtain ⟨b, ws, e1, e2, e3, e4⟩ := h2; exact ⟨b, ws, e1, (nb b rfl e1).trans e2, e3, e4.mono (same_upd hF)⟩
    | oi c xs => obtain ⟨b, ws, e1, e2, e3, e4⟩ := h2; exact ⟨b, ws, e1, (nb b rfl e1).trans e2, e3, e4.mono (same_upd hF)⟩
    | th t => obtain ⟨b, ws, e1, e2, e3, e4⟩ := h2; exact ⟨b, ws, e1, (nb b rfl e1).trans e2, e3, e4.mono (same_upd hF)⟩
    | exc c => exact RE.mono (same_upd hF) h2
  · obtain ⟨x1, x2, x3⟩ := R.ext p hp
    exact ⟨x1, (upd_ne (hX p hp)).trans x2, x3⟩
/-- the lists of a comprehension of lists, by data -/
def lcTS (vs : List Nat) (h : D → En → Option En) (elt : En → Rs OV) : List D → En → Rs (List (List D))
  | [], r => .ok [] r
  | d :: ds, r =>
    match h d (wipeE r vs) with
    | none => .bad
    | some r1 => (elt r1).bind fun o r2 => match o with
      | .ow ys => if tflAll ys = true then (lcTS vs h elt ds (wipeE r2 vs)).bind fun yss r3 => .ok (ys :: yss) r3 else .bad
      | _ => .bad
def lcTL (f : En → Rs (List D)) (vs : List Nat) (h : D → En → Option En) (elt : En → Rs OV) : En → Rs (List (List D)) := fun r => (f r).bind fun ds r1 => if ds.length ≤ 1000000 then (lcTS vs h elt ds r1).noE.bind fun yss r2 => .ok yss (wipeE r2 vs) else .bad
/-- the cells: new lists, each with what it holds -/
inductive Cells (K : PySem.W.Frag) (F : Hp) : List (Addr × HO) → List V → List (List D) → Prop
  | nil : Cells K F [] [] []
  | snoc {L : List (Addr × HO)} {us : List V} {yss : List (List D)} {a : Addr} {ws : List V} {ys : List D} : Cells K F L us yss → RDs K F ws ys → tflAll ys = true → (∀ p ∈ L, p.1 ≠ a) → Cells K F (L ++ [(a, .lst ws)]) (us ++ [.ref a]) (yss ++ [ys])
theorem Cells.mono {K : PySem.W.Frag} {F F' : Hp} (e : Same F F') {L : List (Addr × HO)} {us : List V} {yss : List (List D)} (h : Cells K F L us yss) : Cells K F' L us yss := by
  induction h with
  | nil => exact .nil
  | snoc _ h2 h3 h4 ih => exact .snoc ih (RDs.mono e _ h2) h3 h4
theorem Cells.len {K : PySem.W.Frag} {F : Hp} {L : List (Addr × HO)} {us : List V} {yss : List (List D)} (h : Cells K F L us yss) : us.length = yss.length := by
  induction h with
  | nil => rfl
  | snoc _ _ _ _ ih => rw [List.length_append, List.length_append, ih]; rfl
/-- all cells frozen -/
theorem Cells.ice {K : PySem.W.Frag} {g : G} {F F1 H : Hp} {s : St} {r : En} {L : List (Addr × HO)} {us : List V} {yss : List (List D)} (h : Cells K F L us yss) (sF : Same F F1) (R : Rel K g F1 H s r)
    (hL : ∀ p ∈ L, H p.1 = some p.2 ∧ F1 p.1 = none ∧ (∀ (j : Nat) (o : OV), r[j]? = some (some o) → o.own = true → s[j]? ≠ some (some (.ref p.1))) ∧ g.H0 p.1 = none ∧ ∀ q ∈ g.X, q.1 ≠ p.1) :
    ∃ F', Same F1 F' ∧ Rel K g F' H s r ∧ (∃ ls, LRs K F' us (yss.map D.lst) ls ∧ ls.flatten = L.map (·.1)) ∧ (∀ b, b ∉ L.map (·.1) → F' b = F1 b) ∧ (L.map (·.1)).Nodup := by
  induction h with
  | nil => exact ⟨F1, Same.refl _, R, ⟨[], .nil, rfl⟩, fun _ _ => rfl, List.nodup_nil⟩
  | @snoc L us yss a ws ys c h2 h3 h4 ih =>
    obtain ⟨F', s1, R1, ⟨ls, l1, l2⟩, o1, nd⟩ := ih fun p hp => hL p (List.mem_append_left _ hp)
    obtain ⟨q1, q2, q3, q4, q5⟩ := hL (a, .lst ws) (List.mem_append_right _ List.mem_cons_self)
    have na : a ∉ L.map (·.1) := fun z => by
      obtain ⟨p, hp, e⟩ := List.mem_map.mp z
      exact h4 p hp e
    have eF : F' a = none := (o1 a na).trans q2
    have s2 : Same F1 (L2.upd F' a (.lst ws)) := s1.trans (same_upd eF)
    obtain ⟨ms, m1, m2⟩ := tflAll_LR (K := K) (F := L2.upd F' a (.lst ws)) h3 (RDs.mono (sF.trans s2) _ h2)
    refine ⟨L2.upd F' a (.lst ws), s2, R1.ice q1 eF q3 q4 q5, ⟨ls ++ [[a]], ?_, ?_⟩, fun b hb => ?_, ?_⟩
    · rw [List.map_append]
      refine LRs.app (l1.mono (same_upd eF)) (.cons ?_ .nil)
      have z : LR K (L2.upd F' a (.lst ws)) (.ref a) (.lst ys) (a :: ms.flatten) := .lst upd_same m1
      rw [m2] at z
      exact z
    · rw [List.flatten_append, l2, List.map_append]
      rfl
    · rw [List.map_append, List.mem_append] at hb
      rw [upd_ne fun z => hb (.inr (by rw [z]; exact List.mem_cons_self)), o1 b fun z => hb (.inl z)]
    · rw [List.map_append]
      refine List.nodup_append.mpr ⟨nd, by simp, fun x hx y hy e => ?_⟩
      have hy : y ∈ [a] := hy
      rw [List.mem_singleton.mp hy] at e
      exact na (e ▸ hx)
/-- the list at A holds the cells L, each read by its list -/
def PCl (K : PySem.W.Frag) (g : G) (F : Hp) (s : St) (Q : VK) (yss : List (List D)) (r' : En) : Prop := ∀ F' H' A us L, Same F F' → Rel K (g.mor ((A, .lst us) :: L)) F' H' s r' → Cells K F' L us yss → (∀ p ∈ L, p.1 ≠ A ∧ g.H0 p.1 = none ∧ ∀ q ∈ g.X, q.1 ≠ p.1) → g.H0 A = none → (∀ q ∈ g.X, q.1 ≠ A) → Q (.ref A) H'
def tCl (K : PySem.W.Frag) (g : G) (f : En → Rs (List (List D))) : TE := fun s H Q => ∃ F r, Rel K g F H s r ∧ post K g (PCl K g F s Q) (f r)
/-- between two turns -/
def LcT (K : PySem.W.Frag) (g : G) (F1 : Hp) (s : St) (Q : VK) (A : Addr) (vs : List Nat) (h : D → En → Option En) (fe : En → Rs OV) (ds : List D) (i : Nat) (H2 : Hp) : Prop :=
  ∃ F2 r2 yss vacc L, Same F1 F2 ∧ Rel K (g.mor ((A, .lst vacc) :: L)) F2 H2 s r2 ∧ Cells K F2 L vacc yss ∧ yss.length ≤ i ∧ (∀ p ∈ L, p.1 ≠ A ∧ g.H0 p.1 = none ∧ ∀ q ∈ g.X, q.1 ≠ p.1) ∧
    post K g.nw (fun zss r3 => PCl K g F1 s Q (yss ++ zss) (wipeE r3 vs)) (lcTS vs h fe (ds.drop i) r2)
theorem lct_imp {K : PySem.W.Frag} {g : G} {vs ks : List Nat} {f : En → Rs (List D)} {h : D → En → Option En} {fe : En → Rs OV} {s : St} {H : Hp} {Q : VK} (hb : ∀ p ∈ g.B, p.1 ∉ vs) (hks : ∀ i ∈ ks, i ∈ vs) (h0 : tCl K g (lcTL f vs h fe) s H Q) :
    tLc (tID K g f) (fun v s H Q => ∃ g' : G, Blk g g' ∧ tGD K g' ks h v s H Q) (fun s H Q => ∃ g' : G, Blk g g' ∧ tTD K g' yesT s H Q) (fun s H Q => ∃ g' : G, Blk g g' ∧ tO K g' fe s H Q) vs s H Q := by
  obtain ⟨F, r, R, q⟩ := h0
  refine ⟨F, r, R, post_mono (post_bind q) fun ds r1 q F1 H1 J sm R1 wk => ?_⟩
  obtain ⟨hl, q⟩ := post_if q
  have q : post K g.nw _ _ := post_noE (post_bind q)
  intro A nA
  have hA0 : g.H0 A = none := R1.live nA
  have hAX : ∀ p ∈ g.X, p.1 ≠ A := fun p hp z => by have := (R1.ext p hp).1; rw [z, nA] at this; cases this
  refine ⟨fun i m H2 => m = ds.length - i ∧ i ≤ ds.length ∧ LcT K g F1 s Q A vs h fe ds i H2, ⟨ds.length, rfl, Nat.zero_le _, F1, r1, [], [], [], Same.refl _, (R1.laid nA).mor fun p hp => ?_, .nil, Nat.le_refl _, fun p hp => (nomatch hp), ?_⟩, ?_⟩
  · rw [List.mem_singleton.mp hp]
    exact ⟨upd_same, R1.ff nA, fun j o e eo => not_own R1 nA j o e eo⟩
  · rw [List.drop_zero]
    exact post_mono q fun ys r3 q F3 H3 A us L sm3 => q F3 H3 A us L (sm.trans sm3)
  rintro i m H2 ⟨rfl, hi2, F2, r2, yss, vacc, L, sm2, R2m, hC, hal, hL, q2⟩
  obtain ⟨R2, hR2⟩ := R2m.les
  obtain ⟨w1, w2⟩ := wk g F2 H2 s r2 rfl sm2 R2
  by_cases hlt : i < ds.length
  · have ed : ds[i]? = some ds[i] := List.getElem?_eq_getElem hlt
    obtain ⟨go, yl⟩ := w1 i _ ed
    rw [List.drop_eq_getElem_cons hlt] at q2
    refine .inr ⟨go, fun H3 => LcT K g F1 s Q A vs h fe ds (i + 1) H3, fun H3 hh => ⟨ds.length - (i + 1), by omega, rfl, hlt, hh⟩, fun x H3 hy => ?_⟩
    obtain ⟨w1m, _⟩ := wk (g.mor ((A, .lst vacc) :: L)) F2 H2 s r2 rfl sm2 R2m
    obtain ⟨F3, sm3, R3, hx⟩ := (w1m i _ ed).2 x H3 hy
    have R3w : Rel K (g.mor ((A, .lst vacc) :: L)) F3 H3 (wipe s vs) (wipeE r2 vs) := R3.forget hb (wipe_length _ _) fun i hi => wipe_keep hi
    have q3 : post K g.nw (fun zss r3 => PCl K g F1 s Q (yss ++ zss) (wipeE r3 vs)) (match h ds[i] (wipeE r2 vs) with
      | none => .bad
      | some r1 => (fe r1).bind fun o r2 => match o with
        | .ow ys => if tflAll ys = true then (lcTS vs h fe (ds.drop (i + 1)) (wipeE r2 vs)).bind fun yss r3 => .ok (ys :: yss) r3 else .bad
        | _ => .bad) := q2
    cases eh : h ds[i] (wipeE r2 vs) with
    | none => rw [eh] at q3; exact q3.elim
    | some r3 =>
      rw [eh] at q3
      refine ⟨(g.mor ((A, .lst vacc) :: L)).nw, ⟨rfl, rfl, rfl, rfl⟩, F3, _, ds[i], r3, R3w.nw, hx, eh, fun s4 ag R4 => ⟨agr_wipe ag hks, (g.mor ((A, .lst vacc) :: L)).nw, ⟨rfl, rfl, rfl, rfl⟩, F3, r3, R4, fun F4 H4 sm4 R4' => ?_⟩⟩
      have wkeep : ∀ i, i ∉ vs → s[i]? = s4[i]? := fun i hi => by rw [ag.2 i fun z => hi (hks i z), wipe_keep hi]
      have hl4 : s.length = s4.length := by rw [ag.1, wipe_length]
      have sm14 : Same F1 F4 := (sm2.trans sm3).trans sm4
      refine ⟨(g.mor ((A, .lst vacc) :: L)).nw, ⟨rfl, rfl, rfl, rfl⟩, F4, r3, R4', post_mono (post_w (post_bind q3)) fun o r5 q5 F5 H5 v sm5 R5' hv => ?_⟩
      obtain ⟨R5, hR5⟩ := R5'.unw.les
      cases o with
      | ow ys =>
        obtain ⟨a, ws, rfl, a2, a3, a4, a5, a6, a7⟩ := hv
        have a7 : ∀ p ∈ ((A, HO.lst vacc) :: L) ++ g.X, p.1 ≠ a := a7
        obtain ⟨ht, q5⟩ := post_if q5
        have sm15 : Same F1 F5 := sm14.trans sm5
        have hC5 := hC.mono ((sm3.trans sm4).trans sm5)
        have hnA : a ≠ A := fun z => a7 (A, _) (List.mem_append_left _ List.mem_cons_self) z.symm
        have bA := hR5 (A, .lst vacc) List.mem_cons_self
        refine ⟨vacc, bA.1, ?_, F5, wipeE r5 vs, yss ++ [ys], vacc ++ [.ref a], L ++ [(a, .lst ws)], sm15, ?_, hC5.snoc a4 ht fun p hp => a7 p (List.mem_append_left _ (List.mem_cons_of_mem _ hp)), by rw [List.length_append]; simp; omega, fun p hp => ?_, ?_⟩
        · rw [hC.len]
          have : (1000000 : Nat) < sizeLine := by decide
          omega
        · have R6 : Rel K g F5 (L2.upd H5 A (.lst (vacc ++ [.ref a]))) s4 r5 := Rel.grow (o := .lst vacc) (R5.more bA.1 bA.2.1 bA.2.2) hA0 hAX
          refine (R6.forget (s' := s) hb hl4 wkeep).mor fun p hp => ?_
          have own : ∀ b, (∀ (j : Nat) (o : OV), r5[j]? = some (some o) → o.own = true → s4[j]? ≠ some (some (.ref b))) → ∀ (j : Nat) (o : OV), (wipeE r5 vs)[j]? = some (some o) → o.own = true → s[j]? ≠ some (some (.ref b)) := fun b hb j o e eo => by
            obtain ⟨e1, e2⟩ := wipeE_some e
            rw [wkeep j e2]
            exact hb j o e1 eo
          rcases List.mem_cons.mp hp with rfl | hp
          · exact ⟨upd_same, bA.2.1, own _ bA.2.2⟩
          · rcases List.mem_append.mp hp with hp | hp
            · obtain ⟨z1, z2, z3⟩ := hR5 p (List.mem_cons_of_mem _ hp)
              exact ⟨(upd_ne (hL p hp).1).trans z1, z2, own _ z3⟩
            · rw [List.mem_singleton.mp hp]
              exact ⟨(upd_ne hnA).trans a3, a2, own _ a6⟩
        · rcases List.mem_append.mp hp with hp | hp
          · exact hL p hp
          · rw [List.mem_singleton.mp hp]
            exact ⟨hnA, a5, fun q hq => a7 q (List.mem_append_right _ hq)⟩
        · refine post_mono (post_bind q5) fun zss r6 q6 => ?_
          have q6 : PCl K g F1 s Q (yss ++ ys :: zss) (wipeE r6 vs) := q6
          rw [List.append_assoc]
          exact q6
      | _ => exact q5.elim
  · rw [List.drop_of_length_le (by omega)] at q2
    have q2 : PCl K g F1 s Q (yss ++ []) (wipeE r2 vs) := q2
    rw [List.append_nil] at q2
    exact .inl ⟨w2 i (by omega), q2 F2 H2 A vacc L sm2 (R2m.forget hb rfl fun _ _ => rfl) hC hL hA0 hAX⟩
end
/-- THE RULE: [e for x in xs], where e is a list of its own each time -/
theorem cl_lc {X : Cx} {g : G} {elt iter tg : Expr} {scope : Scope} {pos : Pos} {own : List (Str × Nat)} {vs ks : List Nat} {f : En → Rs (List D)} {h : D → En → Option En} {fe : En → Rs OV} (hc : X.calm = true) (hN : X.N.Nodup) (hi : DI X g tg iter f) (ok : BlkOk X.N X.env.scope scope own)
    (hvs : own.map (·.2) = vs) (hb : ∀ p ∈ g.B, p.1 ∉ vs) (hks : ∀ i ∈ ks, i ∈ vs)
    (hg : ∀ (s : Shared) (H : Hp) (C : Addr) (cl : List (Str × Addr)) (fp : List Addr) (g' : G), Blk g g' → DG (X.blk s H scope (compEnvC scope cl C X.env) fp) g' tg ks h)
    (he : ∀ (s : Shared) (H : Hp) (C : Addr) (cl : List (Str × Addr)) (fp : List Addr) (g' : G), Blk g g' → DO (X.blk s H scope (compEnvC scope cl C X.env) fp) g' elt fe) (hs : ∀ x, foldedSetIterable iter X.env x = pure x := by intro _; rfl) :
    PE X (.ListComp elt [⟨tg, iter, [], 0⟩] scope pos) (tCl X.K g (lcTL f vs h fe)) := by
  subst hvs
  exact PE.imp (pe_lc hc hN hi ok (g := fun v s H Q => ∃ g' : G, Blk g g' ∧ tGD X.K g' ks h v s H Q) (tt := fun s H Q => ∃ g' : G, Blk g g' ∧ tTD X.K g' yesT s H Q) (te := fun s H Q => ∃ g' : G, Blk g g' ∧ tO X.K g' fe s H Q)
    (fun s H C cl fp => ⟨fun pins s2 σ H2 v u Q I rv ⟨g', eg, q⟩ => (hg s H C cl fp g' eg).run pins s2 σ H2 v u Q I rv q⟩)
    (fun s H C cl fp => ⟨fun pins s2 σ H2 Q I ⟨g', eg, q⟩ => (pts_nilD (X := X.blk s H scope (compEnvC scope cl C X.env) fp) (g := g')).run pins s2 σ H2 Q I q⟩)
    (fun s H C cl fp => ⟨fun pins s2 σ H2 Q I ⟨g', eg, q⟩ => (he s H C cl fp g' eg).run pins s2 σ H2 Q I q⟩) hs) fun s H Q h0 => lct_imp hb hks h0
end DL

/-! Data layer, part 147: a pair of lists that a def goes on changing through another name. -/
namespace DL
open PySem L2
/-- the same context, its names otherwise counted -/
def nam (X : Cx) (N : List Str) : Cx := { X with N := N }
theorem inv_re {X : Cx} {N : List Str} {pins : List (Addr × Obj)} {σ σ2 : L2.St} {H : Hp} {s : Shared} (I : Inv X pins σ H s) (hl : σ2.length = N.length)
    (h : ∀ (i : Nat) (x : Str) (v : V), N[i]? = some x → σ2[i]? = some (some v) → Vis X.env.scope x → ∃ j : Nat, X.N[j]? = some x ∧ σ[j]? = some (some v)) : Inv (nam X N) pins σ2 H s := by
  have k := I.ok
  refine ⟨⟨k.mod, k.kind, k.glob, k.blt, k.above, k.inj, k.has, k.cab, k.hd, k.frames, k.stk, k.exf, k.bs, k.bsz, k.noex, k.exfs, k.funs, k.frf⟩, I.os, I.bare, I.base, ?_, I.cell, I.free, I.freeC, I.pin, I.hok, hl⟩
  obtain ⟨m, hn, hl⟩ := I.loc
  refine ⟨m, hn, fun i x v h1 h2 h3 => ?_⟩
  obtain ⟨j, e1, e2⟩ := h i x v h1 h2 h3
  exact hl j x v e1 e2 h3
theorem inv_un {X : Cx} {N : List Str} {pins : List (Addr × Obj)} {σ σ2 : L2.St} {H : Hp} {s : Shared} (I : Inv (nam X N) pins σ H s) (hl : σ2.length = X.N.length)
    (h : ∀ (i : Nat) (x : Str) (v : V), X.N[i]? = some x → σ2[i]? = some (some v) → Vis X.env.scope x → ∃ j : Nat, N[j]? = some x ∧ σ[j]? = some (some v)) : Inv X pins σ2 H s :=
  inv_re (X := nam X N) (N := X.N) I hl h
/-- the names that no code sees may hold anything -/
theorem ps_loose {X : Cx} {st : Stmt} {t : TS} (h : PS X st t) : PS X st (fun E σ H => t { E with nx := fun σ' H' => ∃ σ2 : L2.St, σ2.length = σ'.length ∧ (∀ (i : Nat) (x : Str) (v : V), X.N[i]? = some x → Vis X.env.scope x → σ2[i]? = some (some v) → σ'[i]? = some (some v)) ∧ E.nx σ2 H' } σ H) := by
  refine ⟨fun pins s σ H E I q => wpAny_mono (h.run pins s σ H _ I q) (fun f s' hs => ?_) fun _ _ x => x⟩
  cases f with
  | next =>
    obtain ⟨σ', H', I', σ2, l, hv, q⟩ := hs
    exact ⟨σ2, H', inv_re (N := X.N) I' (by rw [l]; exact I'.len) (fun i x v h1 h2 h3 => ⟨i, h1, hv i x v h1 h3 h2⟩), q⟩
  | brk => exact hs
  | cont => exact hs
  | ret u => exact hs
def itD (a : Addr) : D := .obj (itS a) []
def onlyRt : SRs → SRs
  | .rt o r => .rt o r
  | _ => .bad
/-- slot j's name stands for slot iA's or iB's list -/
def aliS (j : Nat) (A B : Addr) (mA mB : En → SRs) : En → SRs := fun r => match r[j]? with
  | some (some (.sh (.obj c []))) => if c = itS A then onlyRt (mA r) else if c = itS B then onlyRt (mB r) else .bad
  | _ => .bad
section
variable {X : Cx} {g : G} {i j l iA iB : Nat} {A B : Addr}
theorem only_rt {K : PySem.W.Frag} {F : Hp} {E : Ends} {u : SRs} (h : SPost K g F E (onlyRt u)) : SPost K g F ⟨fun _ _ => False, E.rt, fun _ _ => False, fun _ _ => False⟩ u := by
  cases u with
  | rt o r => exact h
  | _ => exact h.elim
/-- how the names are counted anew -/
def Anew (X : Cx) (N : List Str) (j iA : Nat) : Prop := N.length = X.N.length ∧ ∀ (i : Nat) (x : Str), N[i]? = some x → Vis X.env.scope x → (i = iA ∧ X.N[j]? = some x) ∨ X.N[i]? = some x
theorem run_ali {N : List Str} {rest : List Stmt} {m : En → SRs} {pins : List (Addr × Obj)} {s : Shared} {σ : L2.St} {H F : Hp} {E : Ends} {r : En} (hA : (iA, A) ∈ g.B) (hN : Anew X N j iA) (h : DSs (nam X N) g rest m) (I : Inv X pins σ H s) (R : Rel X.K g F H σ r)
    (hj : σ[j]? = some (some (.ref A))) (q : SPost X.K g F E (onlyRt (m r))) : wpAny (model X.prog X.w) X.A (execs rest X.env) (SP X pins E) X.xe s := by
  have hp := (R.pin _ hA).1
  have I' : Inv (nam X N) pins σ H s := inv_re I (by rw [I.len, hN.1]) fun i x v h1 h2 h3 => by
    rcases hN.2 i x h1 h3 with ⟨rfl, e⟩ | e
    · rw [hp] at h2
      cases h2
      exact ⟨j, e, hj⟩
    · exact ⟨i, e, h2⟩
  refine wpAny_mono (h.run pins s σ H ⟨fun _ _ => False, E.rt, fun _ _ => False, fun _ _ => False⟩ I' ⟨F, r, R, only_rt q⟩) (fun f s' hs => ?_) fun _ _ x => x
  cases f with
  | next => obtain ⟨_, _, _, z⟩ := hs; exact z.elim
  | brk => obtain ⟨_, _, _, z⟩ := hs; exact z.elim
  | cont => obtain ⟨_, _, _, z⟩ := hs; exact z.elim
  | ret u =>
    obtain ⟨v, σ', H', I2, rv, z⟩ := hs
    refine ⟨v, σ'.map fun _ => none, H', inv_un I2 ?_ fun i x v h1 h2 h3 => ?_, rv, z⟩
    · rw [List.length_map, I2.len]
      exact hN.1
    · rw [List.getElem?_map] at h2
      obtain ⟨_, _, z⟩ := Option.map_eq_some_iff.mp h2
      cases z
theorem dss_ali {NA NB : List Str} {rest : List Stmt} {mA mB : En → SRs} (hA : (iA, A) ∈ g.B) (hB : (iB, B) ∈ g.B) (hn : ∀ p C, ¬ ClsAt X.K (itS p) C) (hNA : Anew X NA j iA) (hNB : Anew X NB j iB) (h0 : DSs (nam X NA) g rest mA) (h1 : DSs (nam X NB) g rest mB) : DSs X g rest (aliS j A B mA mB) := by
  refine ⟨fun pins s σ H E I ⟨F, r, R, q⟩ => ?_⟩
  unfold aliS at q
  revert q
  split
  · next c ec =>
    obtain ⟨v, hv, hr⟩ := R.slot j _ ec
    by_cases h : c = itS A
    · subst h
      rw [if_pos rfl]
      intro q
      have hr : RD X.K F v (.obj (itS A) []) := hr
      rw [hr.it_inv (hn A)] at hv
      exact run_ali hA hNA h0 I R hv q
    · rw [if_neg h]
      by_cases h' : c = itS B
      · subst h'
        rw [if_pos rfl]
        intro q
        have hr : RD X.K F v (.obj (itS B) []) := hr
        rw [hr.it_inv (hn B)] at hv
        exact run_ali hB hNB h1 I R hv q
      · rw [if_neg h']
        exact fun q => q.elim
  · exact fun q => q.elim
/-- e0.append(e), where e0 gives the very list of slot i -/
def appIt (i : Nat) (p : Addr) (f0 f : En → Rs D) : En → SRs := fun r => thenS (f0 r) fun d r => match d with
  | .obj c [] => if c = itS p then thenS (fillW r i) fun _ r => thenS (f r) fun d r1 => chgS i (appF d) r1 else .bad
  | _ => .bad
theorem ds_appIt {e0 e : Expr} {f0 f : En → Rs D} {apos cpos pos : Pos} {p : Addr} (hB : (i, p) ∈ g.B) (hn : ∀ p C, ¬ ClsAt X.K (itS p) C) (hv : DE X g e0 f0) (h : DE X g e f) (hst : starEach [e] X.env = [(false, eval e X.env)] := by rfl) (hb : attributeBase e0 "append" X.env (eval e0 X.env) = eval e0 X.env := by rfl)
    (hline : (apos.endLine == cpos.line) = true := by rfl) (hsw : swapsWith (.Call (.Attribute e0 "append" apos) [e] [] cpos) none pos.line X.env = pure false := by rfl)
    (hfew : ((backTo cpos (starEach [e] X.env)).all (fun x => !x.1) && (backToKw cpos (keywordEach [] X.env)).all (fun x => x.1.isSome) && decide ([e].length + ([] : List Keyword).length + (if ([] : List Keyword).isEmpty then 0 else 1) < 30)) = true := by rfl)
    (hpl : (backTo cpos (starEach [] X.env)).any (·.1) = false := by rfl) : DS X g (.Expr (.Call (.Attribute e0 "append" apos) [e] [] cpos) pos) (appIt i p f0 f) :=
  PS.imp (ps_expr (pe_bm PySem.F.plainAttrs_list PySem.F.slot_list_append PySem.F.type_list_append mt_append hv (pa_cons h pa_nil hst) hb hfew hline hst hpl) hsw) fun E s H ⟨F, r, R, q⟩ => by
    refine ⟨F, r, R, post_mono (post_then q) fun d r0 q F0 H0 v sm0 R0 hv0 => ?_⟩
    split at q
    · next c =>
      split at q
      · next hd =>
        subst hd
        obtain ⟨⟨xs, e0⟩, q⟩ := then_fillW q
        have hp := (R0.pin _ hB).1
        have hv0 : RD X.K F0 v (.obj (itS p) []) := hv0
        obtain rfl := hv0.it_inv (hn p)
        obtain ⟨v, h1, a, vs, rfl, fa, ha, hvs⟩ := R0.slot i _ e0
        rw [hp] at h1
        cases h1
        refine ⟨.inl ⟨rfl, vs, .of ha⟩, F0, r0, R0, post_mono (post_then q) fun d r1 q F1 H1 w sm R1 hw => ?_⟩
        obtain ⟨b, ws, zs, ys, g1, g2, g3, g4, g5, g6⟩ := chgS_ok R1 (sm0.trans sm) q
        rw [(R1.pin _ hB).1] at g1
        cases g1
        unfold appF at g5
        split at g5
        · next hl =>
          cases g5
          exact ⟨_, ws, w, rfl, rfl, g2, by rw [g3.length]; exact Nat.lt_of_le_of_lt hl (by decide), g6 _ (g3.app (.cons hw .nil))⟩
        · cases g5
      · exact q.elim
    · exact q.elim
end
/-- slot 0 alone -/
def few (r : En) : En := r.take 1 ++ List.replicate (r.length - 1) none
theorem few_at {r : En} {i : Nat} {o : OV} (h : (few r)[i]? = some (some o)) : i = 0 ∧ r[0]? = some (some o) := by
  cases r with
  | nil => cases h
  | cons a r =>
    cases i with
    | zero => exact ⟨rfl, h⟩
    | succ n =>
      have h : (List.replicate r.length (none : Option OV))[n]? = some (some o) := h
      rw [List.getElem?_replicate] at h
      split at h <;> cases h
theorem few_len {r : En} : (few r).length = r.length := by
  cases r with
  | nil => rfl
  | cons a r => simp [few]
theorem few_zero {r : En} : (few r)[0]? = r[0]? := by
  cases r with
  | nil => rfl
  | cons a r => rfl
theorem few_eq {r r' : En} (h : r[0]? = r'[0]?) (hl : r.length = r'.length) : few r = few r' := by
  cases r with
  | nil =>
    cases r' with
    | nil => rfl
    | cons b r' => cases hl
  | cons a r =>
    cases r' with
    | nil => cases hl
    | cons b r' =>
      have h : some a = some b := h
      cases h
      have hl : r.length + 1 = r'.length + 1 := hl
      simp only [few, List.length_cons, hl]
      rfl
theorem rel_few {K : PySem.W.Frag} {g : G} {F H : Hp} {σ : L2.St} {r : En} (hB : g.B.map (·.1) = [0]) (R : Rel K g F H σ r) : Rel K g F H σ (few r) := by
  refine ⟨R.sub, R.f0, R.fnew, R.keep, fun i o e => ?_, fun i o a e => ?_, fun i j o u a hij e eo e' eo' => ?_, fun p hp => ?_, by rw [few_len]; exact R.len, R.tb, fun p hp => ⟨(R.ext p hp).1, (R.ext p hp).2.1, fun j o e => ?_⟩⟩
  · obtain ⟨rfl, e1⟩ := few_at e
    exact R.slot 0 o e1
  · obtain ⟨rfl, e1⟩ := few_at e
    exact R.own 0 o a e1
  · obtain ⟨rfl, e⟩ := few_at e
    obtain ⟨rfl, e'⟩ := few_at e'
    exact (hij rfl).elim
  · have h0 : p.1 = 0 := by
      have : p.1 ∈ g.B.map (·.1) := List.mem_map.mpr ⟨p, hp, rfl⟩
      rw [hB] at this
      exact List.mem_singleton.mp this
    obtain ⟨h1, o, h2, h3⟩ := R.pin p hp
    refine ⟨h1, o, ?_, h3⟩
    rw [h0] at h2 ⊢
    rw [few_zero]
    exact h2
  · obtain ⟨rfl, e1⟩ := few_at e
    exact (R.ext p hp).2.2 0 o e1
theorem post_up {α : Type} {K : PySem.W.Frag} {g g' : G} {P P' : α → En → Prop} {z : Rs α} (hR : ∀ {F H : Hp} {s : L2.St} {r : En}, Rel K g' F H s r → Rel K g F H s r) (hW : g'.W = g.W) (hP : ∀ a r, P a r → P' a r) (h : post K g P z) : post K g' P' z := by
  cases z with
  | ok a r => exact hP a r h
  | bad => exact h
  | ex x r =>
    have h : exW K g x r := h
    show exW K g' x r
    unfold exW at h ⊢
    rw [hW]
    revert h
    cases g.W with
    | none => exact fun h => h
    | some W => exact fun h F' H' s' cls d R hx => h F' H' s' cls d (hR R) hx
theorem Cells.two {K : PySem.W.Frag} {F : Hp} {L : List (Addr × HO)} {us : List V} {xs ys : List D} (h : Cells K F L us [xs, ys]) : ∃ A B wA wB, L = [(A, .lst wA), (B, .lst wB)] ∧ us = [.ref A, .ref B] ∧ RDs K F wA xs ∧ RDs K F wB ys ∧ A ≠ B := by
  generalize e : [xs, ys] = z at h
  cases h with
  | nil => cases e
  | @snoc L us yss a ws ys' c h2 h3 h4 =>
    have e : [xs] ++ [ys] = yss ++ [ys'] := e
    obtain ⟨e1, e2⟩ := List.append_inj' e rfl
    cases e2
    cases e1
    generalize e9 : [xs] = z9 at c
    cases c with
    | nil => cases e9
    | @snoc L us yss a' ws' ys' c h2' h3' h4' =>
      have e9 : [] ++ [xs] = yss ++ [ys'] := e9
      obtain ⟨e1, e2⟩ := List.append_inj' e9 rfl
      cases e2
      cases e1
      generalize e8 : ([] : List (List D)) = z8 at c
      cases c with
      | nil => exact ⟨a', a, ws', ws, rfl, rfl, h2', h2, h4 (a', .lst ws') (by simp)⟩
      | snoc =>
        have := congrArg List.length e8
        simp at this
open Classical in
/-- the end of a def with two such lists: they are handed out -/
noncomputable def cellE (iA iB : Nat) (m : Addr → Addr → En → SRs) (ρ : Addr → Addr → En) : SRs := match m 0 1 (ρ 0 1) with
  | .rt (.sh (.tup [_, ad])) r' => match r'[iA]?, r'[iB]? with
    | some (some (.ow xs)), some (some (.ow ys)) =>
      if ∀ A B, A ≠ B → ∃ r2, m A B (ρ A B) = .rt (.sh (.tup [.lst [itD A, itD B], ad])) r2 ∧ r2[iA]? = some (some (.ow xs)) ∧ r2[iB]? = some (some (.ow ys)) ∧ r2[0]? = r'[0]? ∧ r2.length = r'.length
      then .rt (.sh (.tup [.lst [.lst xs, .lst ys], ad])) (few r') else .bad
    | _, _ => .bad
  | _ => .bad
noncomputable def cellF (i j l iA iB : Nat) (m : Addr → Addr → En → SRs) (d2 d3 : D) (r3 : En) : List (List D) → SRs
  | [xs, ys] => if iA < r3.length ∧ iB < r3.length then cellE iA iB m fun A B => ((((r3.set i (some (.sh (.lst [itD A, itD B])))).set j (some (.sh d2))).set l (some (.sh d3))).set iA (some (.ow xs))).set iB (some (.ow ys)) else .bad
  | _ => .bad
theorem cellF_inv {K : PySem.W.Frag} {g : G} {F : Hp} {E : Ends} {i j l iA iB : Nat} {m : Addr → Addr → En → SRs} {d2 d3 : D} {r3 : En} {yss : List (List D)} (q : SPost K g F E (cellF i j l iA iB m d2 d3 r3 yss)) : ∃ xs ys, yss = [xs, ys] ∧ iA < r3.length ∧ iB < r3.length ∧
    SPost K g F E (cellE iA iB m fun A B => ((((r3.set i (some (.sh (.lst [itD A, itD B])))).set j (some (.sh d2))).set l (some (.sh d3))).set iA (some (.ow xs))).set iB (some (.ow ys))) := by
  unfold cellF at q
  split at q
  · next xs ys =>
    split at q
    · next h => exact ⟨xs, ys, rfl, h.1, h.2, q⟩
    · exact q.elim
  · exact q.elim
noncomputable def cellS (i j l iA iB : Nat) (fL : En → Rs (List (List D))) (f2 f3 : En → Rs D) (m : Addr → Addr → En → SRs) : En → SRs := fun r => thenS (fL r) fun yss r1 => thenS (f2 r1) fun d2 r2 => thenS (f3 r2) fun d3 r3 => cellF i j l iA iB m d2 d3 r3 yss
/-- of g alone what a call asks -/
structure Lw (g g' : G) : Prop where
  B : g'.B = g.B
  w : g'.w = g.w
  W : g'.W = g.W
  xc : g'.xc = g.xc
  T : g'.T = g.T
section
variable {X : Cx} {g : G} {i j l iA iB : Nat}
theorem cell_end {m : Addr → Addr → En → SRs} {ρ : Addr → Addr → En} {A B : Addr} {F : Hp} {E : Ends} {K : PySem.W.Frag} (hB : g.B.map (·.1) = [0]) (hn : ∀ p C, ¬ ClsAt K (itS p) C) (hab : A ≠ B) (iA0 : iA ≠ 0) (iB0 : iB ≠ 0) (hA0 : g.H0 A = none) (hB0 : g.H0 B = none) (q : SPost K g F E (cellE iA iB m ρ)) : SPost K ((g.at iA A).at iB B) F E (m A B (ρ A B)) := by
  unfold cellE at q
  revert q
  split
  · next d0 ad r' em =>
    split
    · next xs ys ex ey =>
      split
      · next hu =>
        intro q
        obtain ⟨r2, e1, e2, e3, e4, e5⟩ := hu A B hab
        rw [e1]
        intro F' H' s' v sm R hv
        have pA := (R.pin (iA, A) (List.mem_cons_of_mem _ List.mem_cons_self)).1
        have pB := (R.pin (iB, B) List.mem_cons_self).1
        have R1 : Rel K (g.at iA A) F' H' s' r2 := R.unpinned (.inl hB0)
        have R2 : Rel K g F' H' s' r2 := R1.unpinned (.inl hA0)
        obtain ⟨vA, a1, A', wA, rfl, fA, hA, rA⟩ := R2.slot iA _ e2
        rw [pA] at a1
        cases a1
        obtain ⟨vB, b1, B', wB, rfl, fB, hHB, rB⟩ := R2.slot iB _ e3
        rw [pB] at b1
        cases b1
        have R3 : Rel K g F' H' s' (few r2) := rel_few hB R2
        have xA : ∀ p ∈ g.X, p.1 ≠ A := fun p hp z => (R2.ext p hp).2.2 iA _ e2 rfl (by rw [z]; exact pA)
        have xB : ∀ p ∈ g.X, p.1 ≠ B := fun p hp z => (R2.ext p hp).2.2 iB _ e3 rfl (by rw [z]; exact pB)
        have oA : ∀ (k : Nat) (u : OV), (few r2)[k]? = some (some u) → u.own = true → s'[k]? ≠ some (some (.ref A)) := fun k u e eo z => by
          obtain ⟨rfl, e9⟩ := few_at e
          exact R2.dist iA 0 _ u A iA0 e2 rfl e9 eo pA z
        have oB : ∀ (k : Nat) (u : OV), (few r2)[k]? = some (some u) → u.own = true → s'[k]? ≠ some (some (.ref B)) := fun k u e eo z => by
          obtain ⟨rfl, e9⟩ := few_at e
          exact R2.dist iB 0 _ u B iB0 e3 rfl e9 eo pB z
        have R4 := R3.ice hA fA oA hA0 xA
        have fB2 : L2.upd F' A (.lst wA) B = none := (upd_ne (Ne.symm hab)).trans fB
        have R5 := R4.ice hHB fB2 oB hB0 xB
        have sAB : Same F' (L2.upd (L2.upd F' A (.lst wA)) B (.lst wB)) := (same_upd fA).trans (same_upd fB2)
        rw [few_eq e4 e5] at R5
        refine q _ H' s' v (sm.trans sAB) R5 ?_
        have hv : RD K F' v (.tup [.lst [itD A, itD B], ad]) := hv
        cases hv with
        | tup t1 t2 =>
          cases t2 with
          | cons u1 u2 =>
            cases u1 with
            | lst w1 w2 =>
              cases w2 with
              | cons z1 z2 =>
                cases z2 with
                | cons z3 z4 =>
                  cases z4
                  have z1 : RD K F' _ (.obj (itS A) []) := z1
                  have z3 : RD K F' _ (.obj (itS B) []) := z3
                  obtain rfl := z1.it_inv (hn A)
                  obtain rfl := z3.it_inv (hn B)
                  refine .tup (same_sqT sAB t1) (.cons (.lst (sAB _ _ w1) (.cons (.lst ((upd_ne hab).trans upd_same) (RDs.mono sAB _ rA)) (.cons (.lst upd_same (RDs.mono sAB _ rB)) .nil))) (RDs.mono sAB _ u2))
      · exact fun q => q.elim
    · exact fun q => q.elim
  · exact fun q => q.elim
theorem lw_mor {L : List (Addr × HO)} : Lw g (g.mor L) := ⟨rfl, rfl, rfl, rfl, rfl⟩
/-- THE RULE: x, y, z = [list(e) for e in ..], b, c: behind it the pair of new lists is changed through other names; at last it is handed out -/
theorem dss_cells {x y z : Str} {a b c : Expr} {rest : List Stmt} {px py pz pt pos : Pos} {kt k2 pt2} {fL : En → Rs (List (List D))} {f2 f3 : En → Rs D} {m : Addr → Addr → En → SRs} (hB : g.B.map (·.1) = [0]) (hn : ∀ p C, ¬ ClsAt X.K (itS p) C) (hd : [0, i, j, l, iA, iB].Nodup)
    (hgA : ∀ x, X.N[iA]? = some x → ¬ Vis X.env.scope x) (hgB : ∀ x, X.N[iB]? = some x → ¬ Vis X.env.scope x) (hN : X.N.Nodup) (hc : X.calm = true) (h1 : PE X a (tCl X.K g fL)) (h2 : ∀ g', Lw g g' → DE X g' b f2) (h3 : ∀ g', Lw g g' → DE X g' c f3)
    (hr : ∀ A B, A ≠ B → DSs X ((g.at iA A).at iB B) rest (m A B))
    (hi : X.N[i]? = some x := by rfl) (hj : X.N[j]? = some y := by rfl) (hl : X.N[l]? = some z := by rfl)
    (hx : X.env.scope.names.lookup x = some .local := by rfl) (hy : X.env.scope.names.lookup y = some .local := by rfl) (hz : X.env.scope.names.lookup z = some .local := by rfl)
    (hw : swappedStores [.Tuple [.Name x px, .Name y py, .Name z pz] kt pt] (.Tuple [a, b, c] k2 pt2) X.env = pure (some [x, y, z]) := by rfl)
    (hs : swapsWithSole [.Tuple [.Name x px, .Name y py, .Name z pz] kt pt] (.Tuple [a, b, c] k2 pt2) pos.line X.env = pure false := by rfl)
    (s1 : starEach [a, b, c] X.env = (false, eval a X.env) :: starEach [b, c] X.env := by rfl) (s2 : starEach [b, c] X.env = (false, eval b X.env) :: starEach [c] X.env := by rfl) (s3 : starEach [c] X.env = (false, eval c X.env) :: starEach [] X.env := by rfl) :
    DSs X g (.Assign [.Tuple [.Name x px, .Name y py, .Name z pz] kt pt] (.Tuple [a, b, c] k2 pt2) pos :: rest) (cellS i j l iA iB fL f2 f3 m) := by
  simp only [List.nodup_cons, List.mem_cons, List.not_mem_nil, or_false, not_or, not_false_eq_true, List.nodup_nil, and_true] at hd
  obtain ⟨⟨d01, d02, d03, d04, d05⟩, ⟨dij, dil, diA, diB⟩, ⟨djl, djA, djB⟩, ⟨dlA, dlB⟩, dAB⟩ := hd
  have nbk : ∀ k, 0 ≠ k → ∀ p ∈ g.B, p.1 ≠ k := fun k h p hp e => by
    have : p.1 ∈ g.B.map (·.1) := List.mem_map.mpr ⟨p, hp, rfl⟩
    rw [hB, List.mem_singleton] at this
    exact h (this.symm.trans e)
  have e2 : PE X b (fun s H Q => ∃ g', Lw g g' ∧ tD X.K g' f2 s H Q) := ⟨fun pins s σ H Q I ⟨g', l, q⟩ => (h2 g' l).run pins s σ H Q I q⟩
  have e3 : PE X c (fun s H Q => ∃ g', Lw g g' ∧ tD X.K g' f3 s H Q) := ⟨fun pins s σ H Q I ⟨g', l, q⟩ => (h3 g' l).run pins s σ H Q I q⟩
  have er : PSs X rest (fun E s H => ∃ A B F r, A ≠ B ∧ Rel X.K ((g.at iA A).at iB B) F H s r ∧ SPost X.K ((g.at iA A).at iB B) F E (m A B r)) := ⟨fun pins s σ H E I ⟨A, B, F, r, hab, R, q⟩ => (hr A B hab).run pins s σ H E I ⟨F, r, R, q⟩⟩
  refine PSs.imp (pss_cons (ps_loose (ps_par3 hc hN hi hj hl dij dil djl hx hy hz (pa_cons h1 (pa_cons e2 (pa_cons e3 pa_nil s3) s2) s1) hw hs)) er) fun E s H ⟨F, r, R, q⟩ => ?_
  refine ⟨F, r, R, post_mono (post_then q) fun yss r1 q F1 H1 A0 us L sm1 R1 hC hL hA0 hAX => ?_⟩
  -- the outer list is frozen
  obtain ⟨R1', hb⟩ := R1.les
  have bA := hb (A0, .lst us) List.mem_cons_self
  have R1L : Rel X.K (g.mor L) F1 H1 s r1 := R1'.mor fun p hp => hb p (List.mem_cons_of_mem _ hp)
  have R1i : Rel X.K (g.mor L) (L2.upd F1 A0 (.lst us)) H1 s r1 := R1L.ice bA.1 bA.2.1 bA.2.2 hA0 fun p hp => (List.mem_append.mp hp).elim (fun z => (hL p z).1) fun z => hAX p z
  have sA0 : Same F1 (L2.upd F1 A0 (.lst us)) := same_upd bA.2.1
  refine ⟨g.mor L, lw_mor, _, r1, R1i, post_up (g := g) (fun R => R.les.1) rfl (fun d2 r2 q => ?_) (post_then q)⟩
  intro F2 H2 v2 sm2 R2 hv2
  refine ⟨g.mor L, lw_mor, F2, r2, R2, post_up (g := g) (fun R => R.les.1) rfl (fun d3 r3 q => ?_) (post_then q)⟩
  intro F3 H3 v3 sm3 R3 hv3
  obtain ⟨xs, ys, rfl, lA, lB, q⟩ := cellF_inv (show SPost X.K g F E (cellF i j l iA iB m d2 d3 r3 yss) from q)
  obtain ⟨A, B, wA, wB, rfl, rfl, rA, rB, hab⟩ := hC.two
  have s13 : Same F1 F3 := (sA0.trans sm2).trans sm3
  obtain ⟨Rg, hg⟩ := R3.les
  have cA := hg (A, .lst wA) List.mem_cons_self
  have cB := hg (B, .lst wB) (List.mem_cons_of_mem _ List.mem_cons_self)
  have hLA := hL (A, .lst wA) List.mem_cons_self
  have hLB := hL (B, .lst wB) (List.mem_cons_of_mem _ List.mem_cons_self)
  have hv1 : RD X.K F3 (.ref A0) (.lst [itD A, itD B]) := .lst ((sm2.trans sm3) _ _ upd_same) (.cons (.it (hn A)) (.cons (.it (hn B)) .nil))
  have VA : RV X.K g F3 H3 s r3 (.ref A) (.ow xs) := ⟨A, wA, rfl, cA.2.1, cA.1, RDs.mono s13 _ rA, hLA.2.1, cA.2.2, hLA.2.2⟩
  have VB : RV X.K (g.more A (.lst wA)) F3 H3 s r3 (.ref B) (.ow ys) := ⟨B, wB, rfl, cB.2.1, cB.1, RDs.mono s13 _ rB, hLB.2.1, cB.2.2, fun p hp => by
    rcases List.mem_cons.mp hp with rfl | hp
    · exact hab
    · exact hLB.2.2 p hp⟩
  have T3 := ((Rg.set (nbk i d01) (v := .ref A0) (o := .sh (.lst [itD A, itD B])) hv1).set (nbk j d02) (v := v2) (o := .sh d2) (RD.mono sm3 d2 hv2)).set (nbk l d03) (v := v3) (o := .sh d3) hv3
  have VA3 : RV X.K g F3 H3 (((s.set i (some (.ref A0))).set j (some v2)).set l (some v3)) (((r3.set i (some (.sh (.lst [itD A, itD B])))).set j (some (.sh d2))).set l (some (.sh d3))) (.ref A) (.ow xs) := RV.set (RV.set (RV.set VA))
  have VB3 : RV X.K (g.more A (.lst wA)) F3 H3 (((s.set i (some (.ref A0))).set j (some v2)).set l (some v3)) (((r3.set i (some (.sh (.lst [itD A, itD B])))).set j (some (.sh d2))).set l (some (.sh d3))) (.ref B) (.ow ys) := RV.set (RV.set (RV.set VB))
  have T4 := T3.set (nbk iA d04) VA3
  have T5 := T4.set (nbk iB d05) (RV.setOw (q := .lst wA) VB3)
  have ls : s.length = r3.length := Rg.len.symm
  have gA : (((((r3.set i (some (.sh (.lst [itD A, itD B])))).set j (some (.sh d2))).set l (some (.sh d3))).set iA (some (.ow xs))).set iB (some (.ow ys)))[iA]? = some (some (OV.ow xs)) := by
    rw [List.getElem?_set_ne (Ne.symm dAB), List.getElem?_set_self (by simpa using lA)]
  have gB : (((((r3.set i (some (.sh (.lst [itD A, itD B])))).set j (some (.sh d2))).set l (some (.sh d3))).set iA (some (.ow xs))).set iB (some (.ow ys)))[iB]? = some (some (OV.ow ys)) := by
    rw [List.getElem?_set_self (by simpa using lB)]
  have kA : (((((s.set i (some (V.ref A0))).set j (some v2)).set l (some v3)).set iA (some (.ref A))).set iB (some (.ref B)))[iA]? = some (some (V.ref A)) := by
    rw [List.getElem?_set_ne (Ne.symm dAB), List.getElem?_set_self (by simpa [ls] using lA)]
  have kB : (((((s.set i (some (V.ref A0))).set j (some v2)).set l (some v3)).set iA (some (.ref A))).set iB (some (.ref B)))[iB]? = some (some (V.ref B)) := by
    rw [List.getElem?_set_self (by simpa [ls] using lB)]
  refine ⟨_, _, _, rfl, ((((s.set i (some (V.ref A0))).set j (some v2)).set l (some v3)).set iA (some (.ref A))).set iB (some (.ref B)), by simp, fun k n u hk hv e => ?_, A, B, F3, _, hab, (T5.pinned gA kA).pinned gB kB, ?_⟩
  · by_cases h1 : iB = k
    · subst h1
      exact (hgB n hk hv).elim
    · rw [List.getElem?_set_ne h1] at e
      by_cases h2 : iA = k
      · subst h2
        exact (hgA n hk hv).elim
      · rw [List.getElem?_set_ne h2] at e
        exact e
  · exact cell_end hB hn hab (Ne.symm d04) (Ne.symm d05) hLA.2.1 hLB.2.1 (q.mono ((sm1.trans sA0).trans (sm2.trans sm3)))
end
theorem noVis {N : List Str} {sc : Scope} {i : Nat} {y : Str} (h : N[i]? = some y) (h2 : sc.names.lookup y = none) : ∀ x, N[i]? = some x → ¬ Vis sc x := fun x e v => by
  rw [h] at e
  cases e
  unfold Vis at v
  rw [h2] at v
  rcases v with v | v | v <;> cases v
def anewB (N NA : List Str) (sc : Scope) (j iA : Nat) : Bool := NA.length == N.length && (List.range N.length).all fun i => NA[i]? == N[i]? || (i == iA && NA[i]? == N[j]?) || (match NA[i]? with
  | some x => (sc.names.lookup x).isNone
  | none => true)
theorem anew_by {X : Cx} {N NA : List Str} {sc : Scope} {j iA : Nat} (h : anewB N NA sc j iA = true) (eN : X.N = N := by rfl) (es : X.env.scope = sc := by rfl) : Anew X NA j iA := by
  subst eN es
  unfold anewB at h
  rw [Bool.and_eq_true, List.all_eq_true] at h
  obtain ⟨h1, h2⟩ := h
  have hl : NA.length = X.N.length := by simpa using h1
  refine ⟨hl, fun i x e v => ?_⟩
  have hi : i < X.N.length := by rw [← hl]; exact (List.getElem?_eq_some_iff.mp e).1
  have h3 := h2 i (List.mem_range.mpr hi)
  simp only [Bool.or_eq_true, Bool.and_eq_true, beq_iff_eq] at h3
  rcases h3 with (h3 | ⟨h3, h4⟩) | h3
  · exact .inr (h3 ▸ e)
  · exact .inl ⟨h3, h4 ▸ e⟩
  · rw [e] at h3
    have h3 : (X.env.scope.names.lookup x).isNone = true := h3
    rw [Option.isNone_iff_eq_none] at h3
    unfold Vis at v
    rw [h3] at v
    rcases v with v | v | v <;> cases v
end DL

/-! Data layer, part 19: plain lemmas about dicts. -/
namespace DL
open PySem L2
theorem eqB_nil (ds : List D) : eqB (.lst ds) (.lst []) = some ds.isEmpty := by
  cases ds with
  | nil => decide
  | cons d ds =>
    unfold eqB
    show (if (D.lst (d :: ds)).fit && (D.lst []).fit then some (D.eqv (.lst (d :: ds)) (.lst [])) else lenB (.lst (d :: ds)) (.lst [])) = _
    split
    · rfl
    · rfl
theorem semEq_nil (ds : List D) : semEq (.lst ds) (.lst []) = some (.bl ds.isEmpty) := by unfold semEq; rw [eqB_nil]; rfl
theorem semNe_nil (ds : List D) : semNe (.lst ds) (.lst []) = some (.bl (!ds.isEmpty)) := by unfold semNe; rw [eqB_nil]; rfl
theorem semAt_lst (xs : List D) (i : Int) : semAt (.lst xs) (.int i) = atI xs i := rfl
theorem semAt_tup (xs : List D) (i : Int) : semAt (.tup xs) (.int i) = atI xs i := rfl
theorem semAt_str (x : Str) (i : Int) : semAt (.str x) (.int i) = if x.length ≤ 1000000 then (atI x.cps.toList i).map fun c => .str ⟨#[c]⟩ else none := rfl
theorem semAt_dic (ds : List (Key × D)) (y : D) : semAt (.dic ds) y = y.key.bind fun k => valD ds k := rfl
end DL

/-! Tools, part 2: plain data can be shown. -/
namespace DL
open PySem L2
mutual
theorem pl_rp : ∀ d : D, d.pl = true → d.six = true → d.rp = true
  | .non, _, _ => rfl
  | .bl _, _, _ => rfl
  | .int i, _, h => h
  | .str x, h, _ => h
  | .lst xs, h, k => plAll_rp xs h k
  | .tup xs, h, k => plAll_rp xs h k
  | .dic _, h, _ => by cases h
  | .scr _, h, _ => by cases h
theorem plAll_rp : ∀ ds : List D, plAll ds = true → sixAll ds = true → rpAll ds = true
  | [], _, _ => rfl
  | d :: ds, h, k => by
    have h : (d.pl && plAll ds) = true := h
    have k : (d.six && sixAll ds) = true := k
    obtain ⟨h1, h2⟩ := Bool.and_eq_true_iff.mp h
    obtain ⟨k1, k2⟩ := Bool.and_eq_true_iff.mp k
    show (d.rp && rpAll ds) = true
    rw [pl_rp d h1 k1, plAll_rp ds h2 k2]; rfl
end
mutual
theorem pl_dq : ∀ d : D, d.pl = true → d.dq = d.dp
  | .non, _ => rfl
  | .bl _, _ => rfl
  | .int i, _ => rfl
  | .str x, h => rfl
  | .lst xs, h => by show dqAll xs + 1 = dpAll xs + 1; rw [plAll_dq xs h]
  | .tup xs, h => by show dqAll xs + 1 = dpAll xs + 1; rw [plAll_dq xs h]
  | .dic _, h => by cases h
  | .scr _, h => by cases h
theorem plAll_dq : ∀ ds : List D, plAll ds = true → dqAll ds = dpAll ds
  | [], _ => rfl
  | d :: ds, h => by
    have h : (d.pl && plAll ds) = true := h
    obtain ⟨h1, h2⟩ := Bool.and_eq_true_iff.mp h
    show max d.dq (dqAll ds) = max d.dp (dpAll ds)
    rw [pl_dq d h1, plAll_dq ds h2]
end
mutual
theorem pl_wq : ∀ d : D, d.pl = true → d.wq = d.wt
  | .non, _ => rfl
  | .bl _, _ => rfl
  | .int i, _ => rfl
  | .str x, h => rfl
  | .lst xs, h => by show wqAll xs + 3 = wtAll xs + 3; rw [plAll_wq xs h]
  | .tup xs, h => by show wqAll xs + 3 = wtAll xs + 3; rw [plAll_wq xs h]
  | .dic _, h => by cases h
  | .scr _, h => by cases h
theorem plAll_wq : ∀ ds : List D, plAll ds = true → wqAll ds = wtAll ds
  | [], _ => rfl
  | d :: ds, h => by
    have h : (d.pl && plAll ds) = true := h
    obtain ⟨h1, h2⟩ := Bool.and_eq_true_iff.mp h
    show d.wq + 2 + wqAll ds = d.wt + 2 + wtAll ds
    rw [pl_wq d h1, plAll_wq ds h2]
end
end DL

/-! Tools, part 3: slices by natural numbers, lists. -/
namespace DL
open PySem L2
end DL

/-! Tools, part 4: comprehensions with two fors, dicts that can be shown. -/
namespace DL
open PySem L2
/-! ### dicts -/
end DL

/-! plain tools, part 5: stepping through ifs, returns, whiles. -/
namespace DL
open PySem L2
theorem ifS_no {t : En → Rs Bool} {f h : En → SRs} {r r1 : En} (e : t r = .ok false r1) : ifS t f h r = h r1 := by unfold ifS; rw [e]; rfl
theorem ifS_yes {t : En → Rs Bool} {f h : En → SRs} {r r1 : En} (e : t r = .ok true r1) : ifS t f h r = f r1 := by unfold ifS; rw [e]; rfl
theorem seqIf_no {t : En → Rs Bool} {f h : En → SRs} {r r1 : En} (e : t r = .ok false r1) : seqS (ifS t f nxS) h r = h r1 := seqS_nx (ifS_no (h := nxS) e)
theorem rtS_d {f : En → Rs D} {r r1 : En} {d : D} (e : f r = .ok d r1) : rtS (shD f) r = .rt (.sh d) r1 := by unfold rtS shD; rw [e]; rfl
theorem frz_o {f : En → Rs OV} {r r1 : En} {o : OV} (e : f r = .ok o r1) : frzD f r = .ok o.d r1 := by unfold frzD; rw [e]; rfl
/-! operations put together -/
theorem ex_run {f : En → Rs D} {r r1 : En} {d : D} (e : f r = .ok d r1) : (Opd.ex f).run r = .ok (.inl d) r1 := by
  show (f r).map Sum.inl = _
  rw [e]
  rfl
theorem opN1_of {p : Opd} {sem : List D → Option D} {r r1 : En} {a : Sum D Nat} {x z : D} (h1 : p.run r = .ok a r1) (h3 : look r1 a = some x) (h5 : sem [x] = some z) : opN [p] sem r = .ok z r1 := by
  unfold opN
  simp only [runs, looks, h1, Rs.bind, h3, Option.bind_some, Option.map_some, h5, ofO]
end DL

/-! plain tools, part 6: sorted texts, comprehensions with two clauses. -/
namespace DL
open PySem L2
end DL

/-! plain tools, part 7: calls put together. -/
namespace DL
open PySem L2
theorem evs_nil {r : En} : evs [] r = .ok [] r := rfl
theorem evs_cons {f : En → Rs D} {fs : List (En → Rs D)} {r r1 r2 : En} {d : D} {ds : List D} (h1 : f r = .ok d r1) (h2 : evs fs r1 = .ok ds r2) : evs (f :: fs) r = .ok (d :: ds) r2 := by
  show (f r).bind (fun d r1 => (evs fs r1).bind fun ds r2 => .ok (d :: ds) r2) = _
  rw [h1]
  show (evs fs r1).bind _ = _
  rw [h2]
  rfl
theorem callP_of {n : Nat} {f : List D → Option OV} {fs : List (En → Rs D)} {r r1 : En} {ds : List D} {o : OV} (h1 : evs fs r = .ok ds r1) (hn : ds.length = n) (h2 : f ds = some o) : callP n f fs r = .ok o r1 := by
  unfold callP
  rw [h1]
  simp only [Rs.bind, hn, if_true, h2, ofO]
theorem toB_of {f : En → Rs D} {r r1 : En} {b : Bool} (h : f r = .ok (.bl b) r1) : toB f r = .ok b r1 := by
  unfold toB
  rw [h]
  rfl
theorem notT_of {f : En → Rs Bool} {r r1 : En} {b : Bool} (h : f r = .ok b r1) : notT f r = .ok (!b) r1 := by
  unfold notT
  rw [h]
  rfl
end DL

/-! plain tools, part 8: errors, instances. -/
namespace DL
open PySem L2
section
variable {ct : Str → Option Bool} {i : Nat} {fb fs : En → SRs} {r r1 r2 : En} {x : Exn} {o : OV}
end
theorem seqS_ex {f h : En → SRs} {r r1 : En} {x : Exn} (e : f r = .ex x r1) : seqS f h r = .ex x r1 := by unfold seqS; rw [e]
end DL

/-! plain tools, part 9: running by what is wanted of the end. -/
namespace DL
open PySem L2
/-- the expression ends well, with Q, or in an error, with E -/
def wE {α : Type} (f : En → Rs α) (r : En) (Q : α → En → Prop) (E : Exn → En → Prop) : Prop := match f r with
  | .ok a r1 => Q a r1
  | .ex x r1 => E x r1
  | .bad => False
def wS (f : En → SRs) (r : En) (Q : SRs → Prop) : Prop := Q (f r)
/-- no error -/
def nE : Exn → En → Prop := fun _ _ => False
section
variable {α β : Type} {r r1 : En} {Q : α → En → Prop} {E : Exn → En → Prop} {S : SRs → Prop}
theorem wE_ok {f : En → Rs α} {a : α} (e : f r = .ok a r1) (q : Q a r1) : wE f r Q E := by unfold wE; rw [e]; exact q
theorem wE_get {f : En → Rs α} (h : wE f r Q nE) : ∃ a r1, f r = .ok a r1 ∧ Q a r1 := by
  unfold wE at h
  revert h
  cases e : f r with
  | ok a r1 => exact fun h => ⟨a, r1, rfl, h⟩
  | ex x r1 => exact fun h => h.elim
  | bad => exact fun h => h.elim
theorem wE_mono {f : En → Rs α} {Q' : α → En → Prop} {E' : Exn → En → Prop} (h : wE f r Q E) (i : ∀ a r1, Q a r1 → Q' a r1) (j : ∀ x r1, E x r1 → E' x r1) : wE f r Q' E' := by
  unfold wE at *
  cases e : f r with
  | ok a r1 => rw [e] at h; exact i _ _ h
  | ex x r1 => rw [e] at h; exact j _ _ h
  | bad => rw [e] at h; exact h
/-! the parts' rules; the ones of bind's make -/
theorem wE_bind {f : En → Rs β} {k : β → En → Rs α} {g : En → Rs α} (hg : g r = (f r).bind k) (h : wE f r (fun b r1 => wE (k b) r1 Q E) E) : wE g r Q E := by
  unfold wE at *
  rw [hg]
  cases e : f r with
  | ok a r1 => rw [e] at h; exact h
  | ex x r1 => rw [e] at h; exact h
  | bad => rw [e] at h; exact h
theorem wE_map {f : En → Rs β} {k : β → α} {g : En → Rs α} (hg : g r = (f r).map k) (h : wE f r (fun b r1 => Q (k b) r1) E) : wE g r Q E := by
  unfold wE at *
  rw [hg]
  cases e : f r with
  | ok a r1 => rw [e] at h; exact h
  | ex x r1 => rw [e] at h; exact h
  | bad => rw [e] at h; exact h
theorem wE_ofO {o : Option α} {a : α} (e : o = some a) (q : Q a r) : wE (fun r => ofO o r) r Q E := by subst e; exact q
end
section
variable {r : En} {Q : D → En → Prop} {E : Exn → En → Prop}
theorem w_con {d : D} (q : Q d r) : wE (cD d) r Q E := q
theorem w_var {i : Nat} {d : D} (e : r[i]? = some (some (.sh d))) (q : Q d r) : wE (vD i) r Q E := by unfold wE vD; rw [e]; exact q
theorem w_varO {i : Nat} {xs : List D} (e : r[i]? = some (some (.ow xs))) (q : ∀ r1, r.set i (some (.sh (.lst xs))) = r1 → Q (.lst xs) r1) : wE (vD i) r Q E := by unfold wE vD; rw [e]; exact q _ rfl
theorem w_frz {f : En → Rs OV} (h : wE f r (fun o r1 => ∀ d, o.d = d → Q d r1) E) : wE (frzD f) r Q E := wE_map rfl (wE_mono h (fun _ _ h => h _ rfl) fun _ _ h => h)
theorem w_sh {f : En → Rs D} {Q : OV → En → Prop} (h : wE f r (fun d r1 => Q (.sh d) r1) E) : wE (shD f) r Q E := wE_map rfl h
theorem w_mv {i : Nat} {d : D} {Q : OV → En → Prop} (e : r[i]? = some (some (.sh d))) (q : Q (.sh d) r) : wE (mvD i) r Q E := by unfold wE mvD lookV; rw [e]; exact q
theorem w_mvO {i : Nat} {xs : List D} {Q : OV → En → Prop} (e : r[i]? = some (some (.ow xs))) (q : ∀ r1, r.set i none = r1 → Q (.ow xs) r1) : wE (mvD i) r Q E := by unfold wE mvD lookV; rw [e]; exact q _ rfl
end
/-! operands -/
section
variable {r : En} {E : Exn → En → Prop}
theorem w_oex {f : En → Rs D} {Q : Sum D Nat → En → Prop} (h : wE f r (fun d r1 => Q (.inl d) r1) E) : wE (Opd.ex f).run r Q E := wE_map (g := (Opd.ex f).run) rfl h
theorem w_ova {i : Nat} {o : OV} {Q : Sum D Nat → En → Prop} (e : r[i]? = some (some o)) (q : Q (.inr i) r) : wE (Opd.va i).run r Q E := by
  refine wE_ok (r1 := r) (a := .inr i) ?_ q
  show (fill r i).bind (fun _ r => Rs.ok (Sum.inr i) r) = _
  unfold fill
  rw [e]
  rfl
theorem lk_l {d : D} : look r (.inl d) = some d := rfl
theorem lk_sh {i : Nat} {d : D} (e : r[i]? = some (some (.sh d))) : look r (.inr i) = some d := by show (lookV r i).map OV.d = _; unfold lookV; rw [e]; rfl
theorem lk_ow {i : Nat} {xs : List D} (e : r[i]? = some (some (.ow xs))) : look r (.inr i) = some (.lst xs) := by show (lookV r i).map OV.d = _; unfold lookV; rw [e]; rfl
variable {Q : D → En → Prop}
/-- what an operation gives: to be shown, and what follows -/
def Gi {β : Type} (o : Option β) (k : β → Prop) : Prop := ∃ z, o = some z ∧ k z
theorem Gi.of {β : Type} {o : Option β} {k : β → Prop} {z : β} (e : o = some z) (q : k z) : Gi o k := ⟨z, e, q⟩
theorem gi_l {d : D} {k : D → Prop} (q : k d) : Gi (look r (.inl d)) k := ⟨d, rfl, q⟩
theorem w_op1 {p : Opd} {sem : D → Option D} (h : wE p.run r (fun a r1 => Gi (look r1 a) fun x => Gi (sem x) fun z => Q z r1) E) : wE (op1 p sem) r Q E :=
  wE_bind rfl (wE_mono h (fun a r1 ⟨x, e1, z, e2, q⟩ => wE_ok (r1 := r1) (a := z) (by simp only [e1, Option.bind_some, e2, ofO]) q) fun _ _ h => h)
theorem w_op2 {p u : Opd} {sem : D → D → Option D} (h : wE p.run r (fun a r1 => wE u.run r1 (fun b r2 => Gi (look r2 a) fun x => Gi (look r2 b) fun y => Gi (sem x y) fun z => Q z r2) E) E) : wE (op2 p u sem) r Q E :=
  wE_bind rfl (wE_mono h (fun a r1 h => wE_bind rfl (wE_mono h (fun b r2 ⟨x, e1, y, e2, z, e3, q⟩ => wE_ok (r1 := r2) (a := z) (by simp only [e1, e2, Option.bind_some, e3, ofO]) q) fun _ _ h => h)) fun _ _ h => h)
theorem w_op2O {p u : Opd} {sem : D → D → Option (List D)} {Q : OV → En → Prop} (h : wE p.run r (fun a r1 => wE u.run r1 (fun b r2 => Gi (look r2 a) fun x => Gi (look r2 b) fun y => Gi (sem x y) fun z => Q (.ow z) r2) E) E) : wE (op2O p u sem) r Q E :=
  wE_bind rfl (wE_mono h (fun a r1 h => wE_bind rfl (wE_mono h (fun b r2 ⟨x, e1, y, e2, z, e3, q⟩ => wE_ok (r1 := r2) (a := .ow z) (by simp only [e1, e2, Option.bind_some, e3, Option.map_some, ofO]) q) fun _ _ h => h)) fun _ _ h => h)
/-! lists of operands -/
theorem w_rnil {Q : List (Sum D Nat) → En → Prop} (q : Q [] r) : wE (runs []) r Q E := q
theorem w_rcons {p : Opd} {ps : List Opd} {Q : List (Sum D Nat) → En → Prop} (h : wE p.run r (fun a r1 => wE (runs ps) r1 (fun as r2 => Q (a :: as) r2) E) E) : wE (runs (p :: ps)) r Q E :=
  wE_bind (g := runs (p :: ps)) (k := fun x r1 => (runs ps r1).bind fun xs r2 => .ok (x :: xs) r2) rfl (wE_mono h (fun a r1 h => wE_bind (k := fun xs r2 => Rs.ok (a :: xs) r2) rfl (wE_mono h (fun as r2 q => q) fun _ _ h => h)) fun _ _ h => h)
theorem lks_nil : looks r [] = some [] := rfl
theorem lks_cons {a : Sum D Nat} {as : List (Sum D Nat)} {x : D} {xs : List D} (h : look r a = some x) (h2 : looks r as = some xs) : looks r (a :: as) = some (x :: xs) := by
  show ((look r a).bind fun d => (looks r as).map fun ds => d :: ds) = _
  rw [h, h2]
  rfl
theorem w_opN {ps : List Opd} {sem : List D → Option D} (h : wE (runs ps) r (fun as r1 => Gi (looks r1 as) fun xs => Gi (sem xs) fun z => Q z r1) E) : wE (opN ps sem) r Q E :=
  wE_bind rfl (wE_mono h (fun a r1 ⟨x, e1, z, e2, q⟩ => wE_ok (r1 := r1) (a := z) (by simp only [e1, Option.bind_some, e2, ofO]) q) fun _ _ h => h)
theorem w_opNO {ps : List Opd} {sem : List D → Option (List D)} {Q : OV → En → Prop} (h : wE (runs ps) r (fun as r1 => Gi (looks r1 as) fun xs => Gi (sem xs) fun z => Q (.ow z) r1) E) : wE (opNO ps sem) r Q E :=
  wE_bind rfl (wE_mono h (fun a r1 ⟨x, e1, z, e2, q⟩ => wE_ok (r1 := r1) (a := .ow z) (by simp only [e1, Option.bind_some, e2, Option.map_some, ofO]) q) fun _ _ h => h)
/-- neither an instance nor the script -/
def _root_.DL.D.isk : D → Bool
  | .scr _ => false
  | .obj _ _ => false
  | _ => true
theorem w_isi {p : Opd} {Ts : List String} (h : wE p.run r (fun a r1 => Gi (look r1 a) fun x => x.isk = true ∧ Q (.bl (x.isi Ts)) r1) E) : wE (isiD p Ts) r Q E :=
  wE_bind rfl (wE_mono h (fun a r1 ⟨x, e1, h2, q⟩ => wE_ok (r1 := r1) (a := .bl (x.isi Ts)) (by
    rw [e1]
    cases x with
    | scr _ => exact absurd h2 Bool.false_ne_true
    | obj _ _ => exact absurd h2 Bool.false_ne_true
    | _ => rfl) q) fun _ _ h => h)
theorem w_m1 {p u : Opd} {sem : D → D → Option D} (h : wE p.run r (fun a r1 => ∃ y, look r1 a = some (.str y) ∧ wE u.run r1 (fun b r2 => Gi (look r2 b) fun d => Gi (sem (.str y) d) fun z => Q z r2) E) E) : wE (m1D p u sem) r Q E :=
  wE_bind rfl (wE_mono h (fun a r1 ⟨y, e1, h⟩ => by
    have : wE (fun r => (u.run r).bind fun z r2 => ofO ((look r2 z).bind fun d => sem (.str y) d) r2) r1 Q E := wE_bind rfl (wE_mono h (fun b r2 ⟨x, e2, z, e3, q⟩ => wE_ok (r1 := r2) (a := z) (by simp only [e2, Option.bind_some, e3, ofO]) q) fun _ _ h => h)
    unfold wE at this ⊢
    simp only [e1]
    exact this) fun _ _ h => h)
/-! lists of expressions -/
theorem w_enil {Q : List D → En → Prop} (q : Q [] r) : wE (evs []) r Q E := q
theorem w_econs {f : En → Rs D} {fs : List (En → Rs D)} {Q : List D → En → Prop} (h : wE f r (fun a r1 => wE (evs fs) r1 (fun as r2 => Q (a :: as) r2) E) E) : wE (evs (f :: fs)) r Q E :=
  wE_bind (g := evs (f :: fs)) (k := fun x r1 => (evs fs r1).bind fun xs r2 => .ok (x :: xs) r2) rfl (wE_mono h (fun a r1 h => wE_bind (k := fun xs r2 => Rs.ok (a :: xs) r2) rfl (wE_mono h (fun as r2 q => q) fun _ _ h => h)) fun _ _ h => h)
theorem w_tup {fs : List (En → Rs D)} (h : wE (evs fs) r (fun ds r1 => ds.length ≤ 1000 ∧ Q (.tup ds) r1) E) : wE (tupD fs) r Q E :=
  wE_bind rfl (wE_mono h (fun ds r1 ⟨hl, q⟩ => wE_ok (r1 := r1) (a := .tup ds) (by rw [if_pos hl]) q) fun _ _ h => h)
theorem w_lst {fs : List (En → Rs D)} {Q : OV → En → Prop} (h : wE (evs fs) r (fun ds r1 => ds.length ≤ 1000 ∧ Q (.ow ds) r1) E) : wE (lstD fs) r Q E :=
  wE_bind rfl (wE_mono h (fun ds r1 ⟨hl, q⟩ => wE_ok (r1 := r1) (a := .ow ds) (by rw [if_pos hl]) q) fun _ _ h => h)
theorem w_znil {Q : List D → En → Prop} (q : Q [] r) : wE nlZ r Q E := q
theorem w_zcons {f : En → Rs D} {fs : En → Rs (List D)} {Q : List D → En → Prop} (h : wE f r (fun a r1 => wE fs r1 (fun as r2 => Q (a :: as) r2) E) E) : wE (cnZ f fs) r Q E :=
  wE_bind (k := fun x r1 => (fs r1).bind fun xs r2 => .ok (x :: xs) r2) rfl (wE_mono h (fun a r1 h => wE_bind (k := fun xs r2 => Rs.ok (a :: xs) r2) rfl (wE_mono h (fun as r2 q => q) fun _ _ h => h)) fun _ _ h => h)
theorem w_zst {f : En → Rs D} {fs : En → Rs (List D)} {Q : List D → En → Prop} (h : wE f r (fun a r1 => Gi a.sq fun xs => wE fs r1 (fun as r2 => Q (xs ++ as) r2) E) E) : wE (stZ f fs) r Q E :=
  wE_bind (k := fun d r1 => (ofO d.sq r1).bind fun xs r1 => (fs r1).bind fun ds r2 => .ok (xs ++ ds) r2) rfl (wE_mono h (fun a r1 ⟨xs, e, h⟩ => wE_bind (f := fun r => ofO a.sq r) (k := fun xs r1 => (fs r1).bind fun ds r2 => .ok (xs ++ ds) r2) rfl (wE_ofO e (wE_bind (k := fun ds r2 => Rs.ok (xs ++ ds) r2) rfl (wE_mono h (fun as r2 q => q) fun _ _ h => h)))) fun _ _ h => h)
theorem w_lstZ {fs : En → Rs (List D)} {Q : OV → En → Prop} (h : wE fs r (fun ds r1 => ds.length ≤ 1000 ∧ Q (.ow ds) r1) E) : wE (lstZ fs) r Q E :=
  wE_bind rfl (wE_mono h (fun ds r1 ⟨hl, q⟩ => wE_ok (r1 := r1) (a := .ow ds) (by rw [if_pos hl]) q) fun _ _ h => h)
theorem w_tupZ {fs : En → Rs (List D)} (h : wE fs r (fun ds r1 => ds.length ≤ 1000 ∧ Q (.tup ds) r1) E) : wE (tupZ fs) r Q E :=
  wE_bind rfl (wE_mono h (fun ds r1 ⟨hl, q⟩ => wE_ok (r1 := r1) (a := .tup ds) (by rw [if_pos hl]) q) fun _ _ h => h)
/-! slices -/
theorem w_poN {Q : Option Int → En → Prop} (q : Q none r) : wE poN r Q E := q
theorem w_poS {f : En → Rs D} {Q : Option Int → En → Prop} (h : wE f r (fun d r1 => Gi d.asI fun i => Q (some i) r1) E) : wE (poS f) r Q E :=
  wE_bind rfl (wE_mono h (fun d r1 ⟨i, e, q⟩ => wE_ok (r1 := r1) (a := some i) (by rw [e]; rfl) q) fun _ _ h => h)
theorem w_sl {p : Opd} {lo hi : En → Rs (Option Int)} {sem : D → Option Int → Option Int → Option D} (h : wE p.run r (fun a r1 => wE lo r1 (fun l r2 => wE hi r2 (fun h r3 => Gi (look r3 a) fun x => Gi (sem x l h) fun z => Q z r3) E) E) E) : wE (slD p lo hi sem) r Q E :=
  wE_bind rfl (wE_mono h (fun a r1 h => wE_bind rfl (wE_mono h (fun l r2 h => wE_bind rfl (wE_mono h (fun u r3 ⟨x, e1, z, e2, q⟩ => wE_ok (r1 := r3) (a := z) (by simp only [e1, Option.bind_some, e2, ofO]) q) fun _ _ h => h)) fun _ _ h => h)) fun _ _ h => h)
end
end DL

/-! plain tools, part 10: running by what is wanted of the end: tests, calls, statements. -/
namespace DL
open PySem L2
section
variable {r : En} {E : Exn → En → Prop}
/-! tests -/
theorem w_yes {Q : Bool → En → Prop} (q : Q true r) : wE yesT r Q E := q
theorem w_toB {f : En → Rs D} {Q : Bool → En → Prop} (h : wE f r (fun d r1 => Gi d.asB fun b => Q b r1) E) : wE (toB f) r Q E :=
  wE_bind rfl (wE_mono h (fun d r1 ⟨i, e, q⟩ => wE_ok (r1 := r1) (a := i) (by rw [e]; rfl) q) fun _ _ h => h)
theorem w_toT {p : Opd} {Q : Bool → En → Prop} (h : wE p.run r (fun a r1 => Gi (look r1 a) fun x => Gi x.tru fun b => Q b r1) E) : wE (toT p) r Q E :=
  wE_bind rfl (wE_mono h (fun a r1 ⟨x, e1, z, e2, q⟩ => wE_ok (r1 := r1) (a := z) (by simp only [e1, Option.bind_some, e2, ofO]) q) fun _ _ h => h)
theorem w_notT {f : En → Rs Bool} {Q : Bool → En → Prop} (h : wE f r (fun b r1 => Q (!b) r1) E) : wE (notT f) r Q E := wE_map rfl h
theorem w_notD {f : En → Rs D} {Q : D → En → Prop} (h : wE f r (fun d r1 => Gi d.asB fun b => Q (.bl (!b)) r1) E) : wE (notD f) r Q E :=
  wE_bind rfl (wE_mono h (fun d r1 ⟨i, e, q⟩ => wE_ok (r1 := r1) (a := .bl (!i)) (by rw [e]; rfl) q) fun _ _ h => h)
theorem w_notV {p : Opd} {Q : D → En → Prop} (h : wE (toT p) r (fun b r1 => Q (.bl (!b)) r1) E) : wE (notV p) r Q E := wE_map rfl h
/-- a choice by a truth -/
def Ch (b : Bool) (P P' : Prop) : Prop := if b = true then P else P'
theorem Ch.t {P P' : Prop} (h : P) : Ch true P P' := h
theorem Ch.f {P P' : Prop} (h : P') : Ch false P P' := h
theorem Ch.ty {b : Bool} {P P' : Prop} (e : b = true) (h : P) : Ch b P P' := by subst e; exact h
theorem Ch.fy {b : Bool} {P P' : Prop} (e : b = false) (h : P') : Ch b P P' := by subst e; exact h
theorem Ch.dt {p : Prop} [Decidable p] {P P' : Prop} (e : p) (h : P) : Ch (decide p) P P' := Ch.ty (decide_eq_true e) h
theorem Ch.df {p : Prop} [Decidable p] {P P' : Prop} (e : ¬ p) (h : P') : Ch (decide p) P P' := Ch.fy (decide_eq_false e) h
theorem Ch.nt {b : Bool} {P P' : Prop} (h : Ch b P' P) : Ch (!b) P P' := by cases b <;> exact h
theorem Ch.by {b : Bool} {P P' : Prop} (h1 : b = true → P) (h2 : b = false → P') : Ch b P P' := by
  cases b with
  | true => exact h1 rfl
  | false => exact h2 rfl
theorem w_andT {f h : En → Rs Bool} {Q : Bool → En → Prop} (q : wE f r (fun b r1 => Ch b (wE h r1 Q E) (Q false r1)) E) : wE (andT f h) r Q E :=
  wE_bind rfl (wE_mono q (fun b r1 q => by cases b <;> exact q) fun _ _ h => h)
theorem w_orT {f h : En → Rs Bool} {Q : Bool → En → Prop} (q : wE f r (fun b r1 => Ch b (Q true r1) (wE h r1 Q E)) E) : wE (orT f h) r Q E :=
  wE_bind rfl (wE_mono q (fun b r1 q => by cases b <;> exact q) fun _ _ h => h)
theorem w_andD {f h : En → Rs D} {Q : D → En → Prop} (q : wE f r (fun d r1 => Gi d.asB fun b => Ch b (wE h r1 Q E) (Q (.bl false) r1)) E) : wE (andD f h) r Q E :=
  wE_bind rfl (wE_mono q (fun d r1 ⟨b, e, q⟩ => by
    unfold wE at *
    rw [e]
    cases b <;> exact q) fun _ _ h => h)
theorem w_orD {f h : En → Rs D} {Q : D → En → Prop} (q : wE f r (fun d r1 => Gi d.asB fun b => Ch b (Q (.bl true) r1) (wE h r1 Q E)) E) : wE (orD f h) r Q E :=
  wE_bind rfl (wE_mono q (fun d r1 ⟨b, e, q⟩ => by
    unfold wE at *
    rw [e]
    cases b <;> exact q) fun _ _ h => h)
theorem w_andV {f h : En → Rs D} {Q : D → En → Prop} (q : wE f r (fun d r1 => Gi d.tru fun b => Ch b (wE h r1 Q E) (Q d r1)) E) : wE (andV f h) r Q E :=
  wE_bind rfl (wE_mono q (fun d r1 ⟨b, e, q⟩ => by
    unfold wE at *
    rw [e]
    cases b <;> exact q) fun _ _ h => h)
theorem w_orV {f h : En → Rs D} {Q : D → En → Prop} (q : wE f r (fun d r1 => Gi d.tru fun b => Ch b (Q d r1) (wE h r1 Q E)) E) : wE (orV f h) r Q E :=
  wE_bind rfl (wE_mono q (fun d r1 ⟨b, e, q⟩ => by
    unfold wE at *
    rw [e]
    cases b <;> exact q) fun _ _ h => h)
theorem w_if {α : Type} {c : En → Rs Bool} {f h : En → Rs α} {Q : α → En → Prop} (q : wE c r (fun b r1 => Ch b (wE f r1 Q E) (wE h r1 Q E)) E) : wE (ifD c f h) r Q E :=
  wE_bind rfl (wE_mono q (fun b r1 q => by cases b <;> exact q) fun _ _ h => h)
theorem w_chain {p u v : Opd} {sem sem' : D → D → Option D} {Q : D → En → Prop} (h : wE p.run r (fun a r1 => wE u.run r1 (fun b r2 => Gi (look r2 a) fun x => Gi (look r2 b) fun y => Gi (sem x y) fun z => Gi z.asB fun k => Ch k (wE v.run r2 (fun c r3 => Gi (look r3 b) fun y => Gi (look r3 c) fun z => Gi (sem' y z) fun w => Q w r3) E) (Q (.bl false) r2)) E) E) : wE (chD p u v sem sem') r Q E :=
  wE_bind rfl (wE_mono h (fun a r1 h => wE_bind rfl (wE_mono h (fun b r2 ⟨x, e1, y, e2, z, e3, k, e4, q⟩ => by
    have hb : ofO (((look r2 a).bind fun dx => (look r2 b).bind fun dy => sem dx dy).bind D.asB) r2 = .ok k r2 := by simp only [e1, e2, e3, e4, Option.bind_some, ofO]
    refine wE_bind (f := fun r2 => ofO (((look r2 a).bind fun dx => (look r2 b).bind fun dy => sem dx dy).bind D.asB) r2) rfl (wE_ok hb ?_)
    cases k with
    | false => exact q
    | true => exact wE_bind (f := v.run) rfl (wE_mono q (fun c r3 ⟨y', f1, z', f2, w, f3, q⟩ => wE_ok (r1 := r3) (a := w) (by simp only [f1, f2, Option.bind_some, f3, ofO]) q) fun _ _ h => h)) fun _ _ h => h)) fun _ _ h => h)
/-! calls -/
theorem w_call {n : Nat} {f : List D → Option OV} {fs : List (En → Rs D)} {Q : OV → En → Prop} (h : wE (evs fs) r (fun ds r1 => ds.length = n ∧ Gi (f ds) fun o => Q o r1) E) : wE (callP n f fs) r Q E :=
  wE_bind rfl (wE_mono h (fun ds r1 ⟨hl, o, e, q⟩ => wE_ok (r1 := r1) (a := o) (by rw [if_pos hl, e]; rfl) q) fun _ _ h => h)
theorem w_callL {n : Nat} {f : List D → Option OV} {ps : List Opd} {Q : OV → En → Prop} (h : wE (runs ps) r (fun as r1 => Gi (looks r1 as) fun ds => ds.length = n ∧ Gi (f ds) fun o => o.flt = true ∧ Q o r1) E) : wE (callL n f ps) r Q E :=
  wE_bind rfl (wE_mono h (fun a r1 ⟨x, e1, hn, o, e2, hf, q⟩ => wE_ok (r1 := r1) (a := o) (by simp only [e1, Option.bind_some, hn, if_true, e2, hf, ofO]) q) fun _ _ h => h)
/-- what a def gives that changes its first list -/
def Gb (o : Option (OV × List D)) (k : OV → List D → Prop) : Prop := ∃ a b, o = some (a, b) ∧ k a b
theorem Gb.of {o : Option (OV × List D)} {k : OV → List D → Prop} {a : OV} {b : List D} (e : o = some (a, b)) (q : k a b) : Gb o k := ⟨a, b, e, q⟩
theorem w_callB {n j : Nat} {f : List D → List D → Option (OV × List D)} {fs : List (En → Rs D)} {Q : OV → En → Prop} (hj : ∃ o, r[j]? = some (some o)) (h : wE (evs fs) r (fun ds r1 => ds.length = n ∧ ∃ bs, r1[j]? = some (some (.ow bs)) ∧ Gb (f bs ds) fun o b' => ∀ r2, r1.set j (some (.ow b')) = r2 → Q o r2) E) : wE (callB n f j fs) r Q E := by
  obtain ⟨o, hj⟩ := hj
  have hf : fill r j = .ok () r := by unfold fill; rw [hj]
  refine wE_bind (f := fun r => fill r j) rfl (wE_ok hf ?_)
  refine wE_bind rfl (wE_mono h (fun ds r1 ⟨hl, bs, e1, o, b', e2, q⟩ => wE_ok (r1 := r1.set j (some (.ow b'))) (a := o) ?_ (q _ rfl)) fun _ _ h => h)
  have : (lookV r1 j).bind OV.lst? = some bs := by unfold lookV; rw [e1]; rfl
  rw [if_pos hl, this]
  simp only [Option.bind_some, e2, ofO, Rs.bind]
/-- what a def gives that may raise -/
def Gx (z : FR) (k : OV → Prop) (e : Exn → Prop) : Prop := match z with
  | .ok o => k o
  | .ex x => e x
  | .bad => False
theorem Gx.o {z : FR} {k : OV → Prop} {e : Exn → Prop} {o : OV} (h : z = .ok o) (q : k o) : Gx z k e := by subst h; exact q
theorem Gx.x {z : FR} {k : OV → Prop} {e : Exn → Prop} {x : Exn} (h : z = .ex x) (q : e x) : Gx z k e := by subst h; exact q
theorem wE_fr {z : FR} {Q : OV → En → Prop} (h : Gx z (fun o => Q o r) (fun x => E x r)) : wE (frR z) r Q E := by cases z <;> exact h
theorem w_callX {n : Nat} {f : List D → FR} {fs : List (En → Rs D)} {Q : OV → En → Prop} (h : wE (evs fs) r (fun ds r1 => ds.length = n ∧ Gx (f ds) (fun o => Q o r1) (fun x => E x r1)) E) : wE (callX n f fs) r Q E :=
  wE_bind rfl (wE_mono h (fun ds r1 ⟨hl, q⟩ => by
    show wE (fun r1 => if ds.length = n then frR (f ds) r1 else .bad) r1 Q E
    simp only [if_pos hl]
    exact wE_fr q) fun _ _ h => h)
/-- what __init__ gives -/
def Gy (z : FI) (k : List (Str × D) → Prop) (e : Exn → Prop) : Prop := match z with
  | .ok o => k o
  | .ex x => e x
  | .bad => False
theorem Gy.o {z : FI} {k : List (Str × D) → Prop} {e : Exn → Prop} {o : List (Str × D)} (h : z = .ok o) (q : k o) : Gy z k e := by subst h; exact q
theorem Gy.x {z : FI} {k : List (Str × D) → Prop} {e : Exn → Prop} {x : Exn} (h : z = .ex x) (q : e x) : Gy z k e := by subst h; exact q
theorem wE_fi {c : Str} {z : FI} {Q : OV → En → Prop} (h : Gy z (fun fl => Q (.sh (.obj c fl)) r) (fun x => E x r)) : wE (fiR c z) r Q E := by cases z <;> exact h
theorem w_make {c : Str} {n : Nat} {f : List D → FI} {fs : List (En → Rs D)} {Q : OV → En → Prop} (h : wE (evs fs) r (fun ds r1 => ds.length = n ∧ Gy (f ds) (fun fl => Q (.sh (.obj c fl)) r1) (fun x => E x r1)) E) : wE (makeD c n f fs) r Q E :=
  wE_bind rfl (wE_mono h (fun ds r1 ⟨hl, q⟩ => by
    show wE (fun r1 => if ds.length = n then fiR c (f ds) r1 else .bad) r1 Q E
    simp only [if_pos hl]
    exact wE_fi q) fun _ _ h => h)
theorem w_meth {c m : Str} {n : Nat} {f : List D → FR} {fo : En → Rs D} {fs : List (En → Rs D)} {Q : OV → En → Prop} (h : wE fo r (fun x r1 => objOk c m x = true ∧ wE (evs fs) r1 (fun ds r2 => ds.length + 1 = n ∧ Gx (f (x :: ds)) (fun o => Q o r2) (fun x => E x r2)) E) E) : wE (methX c m n f fo fs) r Q E :=
  wE_bind rfl (wE_mono h (fun x r1 ⟨hk, h⟩ => by
    show wE (fun r1 => if objOk c m x = true then (evs fs r1).bind fun ds r2 => if ds.length + 1 = n then frR (f (x :: ds)) r2 else .bad else .bad) r1 Q E
    simp only [if_pos hk]
    exact wE_bind rfl (wE_mono h (fun ds r2 ⟨hl, q⟩ => by
      show wE (fun r1 => if ds.length + 1 = n then frR (f (x :: ds)) r1 else .bad) r2 Q E
      simp only [if_pos hl]
      exact wE_fr q) fun _ _ h => h)) fun _ _ h => h)
theorem Gx_P {f : List D → Option OV} {ds : List D} {k : OV → Prop} {e : Exn → Prop} (h : Gi (f ds) k) : Gx ((fun ds => toFR (f ds)) ds) k e := by
  obtain ⟨o, h1, h2⟩ := h
  show Gx (toFR (f ds)) k e
  rw [h1]
  exact h2
theorem w_lenM {c : Str} {f : List D → Option OV} {fo : En → Rs D} {Q : D → En → Prop} (h : wE fo r (fun x r1 => Gi (lenF c f x) fun z => Q z r1) E) : wE (lenM c f fo) r Q E :=
  wE_bind rfl (wE_mono h (fun d r1 ⟨i, e, q⟩ => wE_ok (r1 := r1) (a := i) (by rw [e]; rfl) q) fun _ _ h => h)
/-! the error at hand -/
theorem w_isx {i : Nat} {t : Str → Option Bool} {x : Exn} {b : Bool} {Q : D → En → Prop} (e : r[i]? = some (some (.exc x))) (h : t x.c = some b) (q : Q (.bl b) r) : wE (isxD i t) r Q E := by
  unfold wE isxD
  rw [e]
  simp only [h, Option.map_some, ofO]
  exact q
theorem w_xf {i : Nat} {f : Str} {cs : List Str} {x : Exn} {d : D} {Q : D → En → Prop} (e : r[i]? = some (some (.exc x))) (h : x.c ∈ cs) (h2 : x.fs.lookup f = some d) (q : Q d r) : wE (xfD' i f cs) r Q E := by
  unfold wE xfD'
  rw [e]
  simp only [h, if_true, h2, ofO]
  exact q
theorem w_fldO {i : Nat} {c f : Str} {fl : List (Str × D)} {d : D} {Q : D → En → Prop} (e : r[i]? = some (some (.oi c fl))) (h2 : fl.lookup f = some d) (q : Q d r) : wE (fldO i c f) r Q E := by
  unfold wE fldO
  rw [e]
  simp only [if_true, h2, ofO]
  exact q
end
/-! statements -/
section
variable {r : En} {Q : SRs → Prop}
/-- the statements that follow -/
def Th (g : En → SRs) (Q : SRs → Prop) (x : SRs) : Prop := match x with
  | .nx r1 => wS g r1 Q
  | y => Q y
theorem Th.n {g : En → SRs} {r1 : En} (h : wS g r1 Q) : Th g Q (.nx r1) := h
theorem Th.t {g : En → SRs} {r1 : En} {o : OV} (h : Q (.rt o r1)) : Th g Q (.rt o r1) := h
theorem Th.x {g : En → SRs} {r1 : En} {x : Exn} (h : Q (.ex x r1)) : Th g Q (.ex x r1) := h
theorem Th.b {g : En → SRs} {r1 : En} (h : Q (.bk r1)) : Th g Q (.bk r1) := h
theorem Th.c {g : En → SRs} {r1 : En} (h : Q (.ct r1)) : Th g Q (.ct r1) := h
theorem s_seq {f g : En → SRs} (h : wS f r (Th g Q)) : wS (seqS f g) r Q := by
  unfold wS seqS at *
  cases e : f r <;> (rw [e] at h; exact h)
theorem s_nx (h : Q (.nx r)) : wS nxS r Q := h
theorem s_bk (h : Q (.bk r)) : wS bkS r Q := h
theorem s_ct (h : Q (.ct r)) : wS ctS r Q := h
theorem wS_then {α : Type} {f : En → Rs α} {k : α → En → SRs} {g : En → SRs} (hg : g r = thenS (f r) k) (h : wE f r (fun a r1 => wS (k a) r1 Q) (fun x r1 => Q (.ex x r1))) : wS g r Q := by
  unfold wS wE at *
  rw [hg]
  cases e : f r with
  | ok a r1 => rw [e] at h; exact h
  | ex x r1 => rw [e] at h; exact h
  | bad => rw [e] at h; exact h.elim
theorem s_rt {f : En → Rs OV} (h : wE f r (fun o r1 => Q (.rt o r1)) (fun x r1 => Q (.ex x r1))) : wS (rtS f) r Q := wS_then rfl h
theorem s_rtN (h : Q (.rt (.sh .non) r)) : wS rtN r Q := h
theorem s_ex {f : En → Rs D} (h : wE f r (fun o r1 => Q (.nx r1)) (fun x r1 => Q (.ex x r1))) : wS (exS f) r Q := wS_then rfl h
theorem s_set {i : Nat} {f : En → Rs OV} (h : wE f r (fun o r1 => ∀ r2, r1.set i (some o) = r2 → Q (.nx r2)) (fun x r1 => Q (.ex x r1))) : wS (setS i f) r Q := wS_then rfl (wE_mono h (fun o r1 h => h _ rfl) fun _ _ h => h)
theorem s_if {c : En → Rs Bool} {f g : En → SRs} (h : wE c r (fun b r1 => Ch b (wS f r1 Q) (wS g r1 Q)) (fun x r1 => Q (.ex x r1))) : wS (ifS c f g) r Q := wS_then rfl (wE_mono h (fun b r1 h => by cases b <;> exact h) fun _ _ h => h)
theorem s_raise {c f : Str} {fe : En → Rs D} (h : wE fe r (fun d r1 => Q (.ex ⟨c, [(f, d)]⟩ r1)) (fun x r1 => Q (.ex x r1))) : wS (raiseS c f fe) r Q := wS_then rfl h
theorem s_fld {i : Nat} {c f : Str} {fe : En → Rs D} (h : wE fe r (fun d r1 => ∃ fl, r1[i]? = some (some (.oi c fl)) ∧ fl.length < 900 ∧ ∀ r2, r1.set i (some (.oi c (putFd f d fl))) = r2 → Q (.nx r2)) (fun x r1 => Q (.ex x r1))) : wS (fldS i c f fe) r Q :=
  wS_then rfl (wE_mono h (fun d r1 ⟨fl, e, hl, h⟩ => by
    unfold wS
    simp only [e, true_and, if_pos hl]
    exact h _ rfl) fun _ _ h => h)
theorem s_par2 {i j : Nat} {f : En → Rs D} {g : En → Rs OV} (h : wE f r (fun d r1 => wE g r1 (fun o r2 => ∀ r3, (r2.set i (some (.sh d))).set j (some o) = r3 → Q (.nx r3)) (fun x r1 => Q (.ex x r1))) (fun x r1 => Q (.ex x r1))) : wS (par2 i j f g) r Q :=
  wS_then rfl (wE_mono h (fun d r1 h => wS_then rfl (wE_mono h (fun o r2 h => h _ rfl) fun _ _ h => h)) fun _ _ h => h)
theorem s_par3 {i j l : Nat} {f f2 : En → Rs D} {g : En → Rs OV} (h : wE f r (fun d r1 => wE f2 r1 (fun d2 r2 => wE g r2 (fun o r3 => ∀ r4, ((r3.set i (some (.sh d))).set j (some (.sh d2))).set l (some o) = r4 → Q (.nx r4)) (fun x r1 => Q (.ex x r1))) (fun x r1 => Q (.ex x r1))) (fun x r1 => Q (.ex x r1))) : wS (par3 i j l f f2 g) r Q :=
  wS_then rfl (wE_mono h (fun d r1 h => wS_then rfl (wE_mono h (fun o r2 h => wS_then rfl (wE_mono h (fun o r2 h => h _ rfl) fun _ _ h => h)) fun _ _ h => h)) fun _ _ h => h)
theorem wE_noE {α : Type} {f : En → Rs α} {Q : α → En → Prop} {E : Exn → En → Prop} (h : wE f r Q nE) : wE (fun r => (f r).noE) r Q E := by
  obtain ⟨a, r1, e, q⟩ := wE_get h
  exact wE_ok (r1 := r1) (a := a) (by rw [e]; rfl) q
theorem s_par2o {i j : Nat} {f g : En → Rs OV} (h : wE f r (fun d r1 => wE g r1 (fun o r2 => ∀ r3, (r2.set i (some d)).set j (some o) = r3 → Q (.nx r3)) nE) (fun x r1 => Q (.ex x r1))) : wS (par2o i j f g) r Q :=
  wS_then rfl (wE_mono h (fun d r1 h => wS_then (f := fun r => (g r).noE) rfl (wE_noE (wE_mono h (fun o r2 h => h _ rfl) fun _ _ h => h))) fun _ _ h => h)
theorem s_asg {f : En → Rs D} {h : D → En → Option En} (q : wE f r (fun d r1 => Gi (h d r1) fun r2 => ∀ r3, r2 = r3 → Q (.nx r3)) (fun x r1 => Q (.ex x r1))) : wS (asgS f h) r Q :=
  wS_then rfl (wE_mono q (fun d r1 ⟨r2, e, q⟩ => by unfold wS; simp only [e]; exact q _ rfl) fun _ _ h => h)
theorem wS_chg {i : Nat} {f : List D → Option (List D)} {xs : List D} (e : r[i]? = some (some (.ow xs))) (h : Gi (f xs) fun ys => ∀ r2, r.set i (some (.ow ys)) = r2 → Q (.nx r2)) : wS (chgS i f) r Q := by
  obtain ⟨ys, e2, h⟩ := h
  have : (lookV r i).bind OV.lst? = some xs := by unfold lookV; rw [e]; rfl
  unfold wS chgS
  simp only [this, e2]
  exact h _ rfl
theorem fillW_ok {i : Nat} {xs : List D} (e : r[i]? = some (some (.ow xs))) : fillW r i = .ok () r := by unfold fillW lookV; rw [e]
theorem s_app {i : Nat} {f : En → Rs D} (h0 : ∃ xs, r[i]? = some (some (.ow xs))) (h : wE f r (fun d r1 => ∃ xs, r1[i]? = some (some (.ow xs)) ∧ xs.length ≤ 1000000 ∧ ∀ r2, r1.set i (some (.ow (xs ++ [d]))) = r2 → Q (.nx r2)) (fun x r1 => Q (.ex x r1))) : wS (appS i f) r Q := by
  obtain ⟨xs, h0⟩ := h0
  refine wS_then (f := fun r => fillW r i) rfl (wE_ok (fillW_ok h0) (wS_then rfl (wE_mono h (fun d r1 ⟨xs, e, hl, q⟩ => wS_chg e ⟨xs ++ [d], by unfold appF; rw [if_pos hl], q⟩) fun _ _ h => h)))
theorem s_ext {i : Nat} {f : En → Rs D} (h0 : ∃ xs, r[i]? = some (some (.ow xs))) (h : wE f r (fun d r1 => ∃ xs, r1[i]? = some (some (.ow xs)) ∧ Gi (extF d xs) fun ys => ∀ r2, r1.set i (some (.ow ys)) = r2 → Q (.nx r2)) (fun x r1 => Q (.ex x r1))) : wS (extS i f) r Q := by
  obtain ⟨xs, h0⟩ := h0
  refine wS_then (f := fun r => fillW r i) rfl (wE_ok (fillW_ok h0) (wS_then rfl (wE_mono h (fun d r1 ⟨xs, e, q⟩ => wS_chg e q) fun _ _ h => h)))
theorem s_pop {i : Nat} {f : En → Rs D} (h0 : ∃ xs, r[i]? = some (some (.ow xs))) (h : wE f r (fun d r1 => ∃ xs, r1[i]? = some (some (.ow xs)) ∧ Gi (popF d xs) fun ys => ∀ r2, r1.set i (some (.ow ys)) = r2 → Q (.nx r2)) (fun x r1 => Q (.ex x r1))) : wS (popS i f) r Q := by
  obtain ⟨xs, h0⟩ := h0
  refine wS_then (f := fun r => fillW r i) rfl (wE_ok (fillW_ok h0) (wS_then rfl (wE_mono h (fun d r1 ⟨xs, e, q⟩ => wS_chg e q) fun _ _ h => h)))
theorem s_ins {i : Nat} {f g : En → Rs D} (h0 : ∃ xs, r[i]? = some (some (.ow xs))) (h : wE f r (fun k r1 => wE g r1 (fun d r2 => ∃ xs, r2[i]? = some (some (.ow xs)) ∧ Gi (insF k d xs) fun ys => ∀ r3, r2.set i (some (.ow ys)) = r3 → Q (.nx r3)) (fun x r1 => Q (.ex x r1))) (fun x r1 => Q (.ex x r1))) : wS (insS i f g) r Q := by
  obtain ⟨xs, h0⟩ := h0
  refine wS_then (f := fun r => fillW r i) rfl (wE_ok (fillW_ok h0) (wS_then rfl (wE_mono h (fun k r1 h => wS_then rfl (wE_mono h (fun d r2 ⟨xs, e, q⟩ => wS_chg e q) fun _ _ h => h)) fun _ _ h => h)))
theorem s_put {i : Nat} {fi f : En → Rs D} (h : wE f r (fun d r1 => (∃ xs, r1[i]? = some (some (.ow xs))) ∧ wE fi r1 (fun k r2 => ∃ xs, r2[i]? = some (some (.ow xs)) ∧ Gi (DL.putF k d xs) fun ys => ∀ r3, r2.set i (some (.ow ys)) = r3 → Q (.nx r3)) (fun x r1 => Q (.ex x r1))) (fun x r1 => Q (.ex x r1))) : wS (putS i fi f) r Q := by
  refine wS_then rfl (wE_mono h (fun d r1 ⟨⟨xs, h0⟩, h⟩ => wS_then (f := fun r => fillW r i) rfl (wE_ok (fillW_ok h0) (wS_then rfl (wE_mono h (fun k r2 ⟨xs, e, q⟩ => wS_chg e q) fun _ _ h => h)))) fun _ _ h => h)
/-! loops -/
/-- behind a turn -/
def Tn (I : En → Prop) (Q : SRs → Prop) (x : SRs) : Prop := match x with
  | .nx r => I r
  | .ct r => I r
  | .bk r => Q (.nx r)
  | y => Q y
theorem Tn.n {I : En → Prop} {r1 : En} (h : I r1) : Tn I Q (.nx r1) := h
theorem Tn.t {I : En → Prop} {r1 : En} {o : OV} (h : Q (.rt o r1)) : Tn I Q (.rt o r1) := h
theorem wS_for {h : D → En → Option En} {body : En → SRs} (ds : List D) (I : Nat → En → Prop) (st : ∀ (i : Nat) (d : D), ds[i]? = some d → ∀ r, I i r → Gi (h d r) fun r1 => ∀ r2, r1 = r2 → wS body r2 (Tn (I (i + 1)) Q)) (hq : ∀ r, I ds.length r → Q (.nx r)) (h0 : I 0 r) : wS (forS h body ds) r Q := by
  induction ds generalizing I r with
  | nil => exact hq r h0
  | cons d ds ih =>
    obtain ⟨r1, e1, w1⟩ := st 0 d rfl r h0
    have w1 : Tn (I 1) Q (body r1) := w1 _ rfl
    have ih' : ∀ r0, I 1 r0 → Q (forS h body ds r0) := fun r0 h0 => ih (r := r0) (fun i => I (i + 1)) (fun i d hd r hr => st (i + 1) d hd r hr) (fun r hr => hq r hr) h0
    show Q (forS h body (d :: ds) r)
    unfold forS
    simp only [e1]
    revert w1
    cases body r1 with
    | nx r2 => exact fun w => ih' r2 w
    | ct r2 => exact fun w => ih' r2 w
    | bk r2 => exact fun w => w
    | rt o r2 => exact fun w => w
    | ex x r2 => exact fun w => w
    | bad => exact fun w => w
theorem s_for {it : En → Rs (List D)} {h : D → En → Option En} {body : En → SRs} (q : wE it r (fun ds r1 => wS (forS h body ds) r1 Q) (fun x r1 => Q (.ex x r1))) : wS (forD it h body) r Q := wS_then rfl q
/-! a turn that may not matter for a list of known things -/
/-- behind an except clause's suite -/
def Hq (i : Nat) (Q : SRs → Prop) (y : SRs) : Prop := match y with
  | .nx r3 => noX (r3.set i none) = true ∧ ∀ r4, r3.set i none = r4 → Q (.nx r4)
  | .rt o r3 => noX (r3.set i none) = true ∧ ∀ r4, r3.set i none = r4 → Q (.rt o r4)
  | .bk r3 => noX (r3.set i none) = true ∧ ∀ r4, r3.set i none = r4 → Q (.bk r4)
  | .ct r3 => noX (r3.set i none) = true ∧ ∀ r4, r3.set i none = r4 → Q (.ct r4)
  | _ => False
theorem Hq.n {i : Nat} {r3 : En} (h1 : noX (r3.set i none) = true) (h2 : ∀ r4, r3.set i none = r4 → Q (.nx r4)) : Hq i Q (.nx r3) := ⟨h1, h2⟩
theorem Hq.t {i : Nat} {o : OV} {r3 : En} (h1 : noX (r3.set i none) = true) (h2 : ∀ r4, r3.set i none = r4 → Q (.rt o r4)) : Hq i Q (.rt o r3) := ⟨h1, h2⟩
/-- behind what is tried -/
def Tq (ct : Str → Option Bool) (i : Nat) (fs : En → SRs) (Q : SRs → Prop) (x : SRs) : Prop := match x with
  | .ex x r1 => Gi (ct x.c) fun b => Ch b (∀ r2, r1.set i (some (.exc x)) = r2 → wS fs r2 (Hq i Q)) (Q (.ex x r1))
  | y => Q y
theorem Tq.n {ct : Str → Option Bool} {i : Nat} {fs : En → SRs} {r1 : En} (h : Q (.nx r1)) : Tq ct i fs Q (.nx r1) := h
theorem Tq.t {ct : Str → Option Bool} {i : Nat} {fs : En → SRs} {r1 : En} {o : OV} (h : Q (.rt o r1)) : Tq ct i fs Q (.rt o r1) := h
theorem s_try {ct : Str → Option Bool} {i : Nat} {fb fs : En → SRs} (h : wS fb r (Tq ct i fs Q)) : wS (tryS ct i fb fs) r Q := by
  unfold wS tryS at *
  revert h
  cases fb r with
  | ex x r1 =>
    rintro ⟨b, e, h⟩
    simp only [e]
    cases b with
    | false => exact h
    | true =>
      have h : Hq i Q (fs (r1.set i (some (.exc x)))) := h _ rfl
      simp only
      revert h
      cases fs (r1.set i (some (.exc x))) with
      | nx r3 => exact fun ⟨h1, h2⟩ => by simp only [h1, if_true]; exact h2 _ rfl
      | rt o r3 => exact fun ⟨h1, h2⟩ => by simp only [h1, if_true]; exact h2 _ rfl
      | bk r3 => exact fun ⟨h1, h2⟩ => by simp only [h1, if_true]; exact h2 _ rfl
      | ct r3 => exact fun ⟨h1, h2⟩ => by simp only [h1, if_true]; exact h2 _ rfl
      | ex x r3 => exact fun h => h.elim
      | bad => exact fun h => h.elim
  | nx r1 => exact fun h => h
  | rt o r1 => exact fun h => h
  | bk r1 => exact fun h => h
  | ct r1 => exact fun h => h
  | bad => exact fun h => h
end
/-! defs -/
theorem fnP_w {n : Nat} {m : En → SRs} {ds : List D} {o : OV} (h : ∀ r, startE n (ds.map OV.sh) = r → wS m r (fun x => match x with | .nx _ => o = .sh .non | .rt o' _ => o' = o | _ => False)) : fnP n m ds = some o := by
  unfold fnP
  have h := h _ rfl
  unfold wS at h
  revert h
  cases m (startE n (ds.map OV.sh)) with
  | nx r => exact fun h => by rw [h]
  | rt o' r => exact fun h => by rw [h]
  | _ => exact fun h => h.elim
theorem fnB_w {n : Nat} {m : En → SRs} {bs ds : List D} {P : OV → List D → Prop} (h : ∀ r, startE n (.ow bs :: ds.map OV.sh) = r → wS m r (fun x => match x with | .nx r => ∃ b, r[0]? = some (some (.ow b)) ∧ P (.sh .non) b | .rt o r => ∃ b, r[0]? = some (some (.ow b)) ∧ P o b | _ => False)) : ∃ o b, fnB n m bs ds = some (o, b) ∧ P o b := by
  unfold fnB
  have h := h _ rfl
  unfold wS at h
  revert h
  cases m (startE n (.ow bs :: ds.map OV.sh)) with
  | nx r =>
    rintro ⟨b, e, p⟩
    exact ⟨_, b, by simp only [show (lookV r 0).bind OV.lst? = some b by unfold lookV; rw [e]; rfl, Option.map_some], p⟩
  | rt o r =>
    rintro ⟨b, e, p⟩
    exact ⟨o, b, by simp only [show (lookV r 0).bind OV.lst? = some b by unfold lookV; rw [e]; rfl, Option.map_some], p⟩
  | _ => exact fun h => h.elim
/-! comprehensions and what is walked -/
section
variable {r : En} {E : Exn → En → Prop}
theorem w_itA {f : En → Rs D} {Q : List D → En → Prop} (h : wE f r (fun d r1 => Gi d.items fun ds => Q ds r1) E) : wE (itA f) r Q E :=
  wE_bind rfl (wE_mono h (fun d r1 ⟨i, e, q⟩ => wE_ok (r1 := r1) (a := i) (by rw [e]; rfl) q) fun _ _ h => h)
theorem w_enD {f : En → Rs D} {Q : List D → En → Prop} (h : wE f r (fun d r1 => Gi d.asL fun ds => Q (enumD 0 ds) r1) E) : wE (enD f) r Q E :=
  wE_bind rfl (wE_mono h (fun d r1 ⟨i, e, q⟩ => wE_ok (r1 := r1) (a := enumD 0 i) (by rw [e]; rfl) q) fun _ _ h => h)
theorem w_zpD {f g : En → Rs D} {Q : List D → En → Prop} (h : wE f r (fun d r1 => wE g r1 (fun e r2 => Gi (zip2 d e) fun ds => Q ds r2) E) E) : wE (zpD f g) r Q E :=
  wE_bind rfl (wE_mono h (fun d r1 h => wE_bind rfl (wE_mono h (fun d' r1 ⟨i, e, q⟩ => wE_ok (r1 := r1) (a := i) (by rw [e]; rfl) q) fun _ _ h => h)) fun _ _ h => h)
theorem w_rg1 {f : En → Rs D} {Q : List D → En → Prop} (h : wE f r (fun d r1 => ∃ i : Int, d = .int i ∧ (-1000000 ≤ i ∧ i ≤ 1000000) ∧ Q (rangeD 0 i.toNat) r1) E) : wE (rg1 f) r Q E :=
  wE_bind rfl (wE_mono h (fun d r1 ⟨i, e, hb, q⟩ => wE_ok (r1 := r1) (a := rangeD 0 i.toNat) (by subst e; show (if -1000000 ≤ i ∧ i ≤ 1000000 then _ else _) = _; rw [if_pos hb]) q) fun _ _ h => h)
theorem w_vaD {f : En → Rs D} {Q : List D → En → Prop} (h : wE f r (fun d r1 => Gi d.vals fun ds => Q ds r1) E) : wE (vaD f) r Q E :=
  wE_bind rfl (wE_mono h (fun d r1 ⟨i, e, q⟩ => wE_ok (r1 := r1) (a := i) (by rw [e]; rfl) q) fun _ _ h => h)
theorem w_its {f : En → Rs D} {Q : OV → En → Prop} (h : wE f r (fun d r1 => Gi d.itms fun ds => Q (.ow ds) r1) E) : wE (itsO f) r Q E :=
  wE_bind rfl (wE_mono h (fun d r1 ⟨i, e, q⟩ => wE_ok (r1 := r1) (a := .ow i) (by rw [e]; rfl) q) fun _ _ h => h)
/-- the elements of a comprehension that draws nothing -/
theorem lcS_wp {α : Type} {vs : List Nat} {h : D → En → Option En} {t : En → Rs Bool} {elt : En → Rs D} {r2 : En} (enc : α → D) (p : α → Bool) (q : α → D) (hw2 : wipeE r2 vs = r2) : ∀ (xs : List α),
    (∀ x ∈ xs, Gi (h (enc x) r2) fun ra => ∀ ra', ra = ra' → wE t ra' (fun b rb => b = p x ∧ wipeE rb vs = r2 ∧ (p x = true → wE elt rb (fun y rc => y = q x ∧ wipeE rc vs = r2) nE)) nE) → ∀ r, wipeE r vs = r2 → ∃ r3, lcS vs h t elt (xs.map enc) r = .ok ((xs.filter p).map q) r3 ∧ wipeE r3 vs = r2
  | [], _, r, hr => ⟨r, rfl, hr⟩
  | x :: xs, he, r, hr => by
    have ih := lcS_wp enc p q hw2 xs (fun y hy => he y (List.mem_cons_of_mem _ hy))
    obtain ⟨ra, e1, w1⟩ := he x List.mem_cons_self
    obtain ⟨b, rb, e2, rfl, e3, w2⟩ := wE_get (w1 _ rfl)
    rw [List.map_cons]
    unfold lcS
    rw [hr]
    simp only [e1, e2, Rs.bind]
    cases hp : p x with
    | true =>
      obtain ⟨y, rc, e4, rfl, e5⟩ := wE_get (w2 hp)
      obtain ⟨r3, e6, e7⟩ := ih (wipeE rc vs) (by rw [e5]; exact hw2)
      refine ⟨r3, ?_, e7⟩
      rw [List.filter_cons_of_pos hp]
      simp only [if_true, e4, e6, List.map_cons]
    | false =>
      obtain ⟨r3, e6, e7⟩ := ih (wipeE rb vs) (by rw [e3]; exact hw2)
      refine ⟨r3, ?_, e7⟩
      rw [List.filter_cons_of_neg (by rw [hp]; exact Bool.false_ne_true)]
      simp only [Bool.false_eq_true, if_false, e6]
theorem w_lc {α : Type} {it : En → Rs (List D)} {vs : List Nat} {h : D → En → Option En} {t : En → Rs Bool} {elt : En → Rs D} {Q : OV → En → Prop} (xs : List α) (enc : α → D) (p : α → Bool) (q : α → D)
    (w : wE it r (fun ds r1 => ds = xs.map enc ∧ xs.length ≤ 1000000 ∧ ∀ r2, wipeE r1 vs = r2 → wipeE r2 vs = r2 ∧ (∀ x ∈ xs, Gi (h (enc x) r2) fun ra => ∀ ra', ra = ra' → wE t ra' (fun b rb => b = p x ∧ wipeE rb vs = r2 ∧ (p x = true → wE elt rb (fun y rc => y = q x ∧ wipeE rc vs = r2) nE)) nE) ∧ Q (.ow ((xs.filter p).map q)) r2) E) : wE (lcD it vs h t elt) r Q E :=
  wE_bind rfl (wE_mono w (fun ds r1 ⟨e, hl, hh⟩ => by
    obtain ⟨h1, h2, h3⟩ := hh _ rfl
    subst e
    obtain ⟨r3, e1, e2⟩ := lcS_wp enc p q h1 xs h2 r1 rfl
    refine wE_ok (r1 := wipeE r1 vs) (a := OV.ow ((xs.filter p).map q)) ?_ h3
    rw [if_pos (by rw [List.length_map]; exact hl), e1]
    show Rs.ok _ (wipeE r3 vs) = _
    rw [e2]) fun _ _ h => h)
theorem w_lc1 {α : Type} {it : En → Rs (List D)} {vs : List Nat} {h : D → En → Option En} {elt : En → Rs D} {Q : OV → En → Prop} (xs : List α) (enc : α → D) (q : α → D)
    (w : wE it r (fun ds r1 => ds = xs.map enc ∧ xs.length ≤ 1000000 ∧ ∀ r2, wipeE r1 vs = r2 → wipeE r2 vs = r2 ∧ (∀ x ∈ xs, Gi (h (enc x) r2) fun ra => ∀ ra', ra = ra' → wipeE ra' vs = r2 ∧ wE elt ra' (fun y rc => y = q x ∧ wipeE rc vs = r2) nE) ∧ Q (.ow (xs.map q)) r2) E) : wE (lcD it vs h yesT elt) r Q E :=
  w_lc xs enc (fun _ => true) q (wE_mono w (fun ds r1 ⟨e, hl, hh⟩ => ⟨e, hl, fun r2 er => by
    obtain ⟨h1, h2, h3⟩ := hh r2 er
    refine ⟨h1, fun x hx => ?_, by rw [List.filter_eq_self.mpr (fun _ _ => rfl)]; exact h3⟩
    obtain ⟨ra, e1, e2'⟩ := h2 x hx
    exact ⟨ra, e1, fun ra' era => ⟨rfl, (e2' _ era).1, fun _ => (e2' _ era).2⟩⟩⟩) fun _ _ h => h)
end
end DL

/-! plain tools, part 11: running comprehensions with several clauses. -/
namespace DL
open PySem L2
section
variable {ok : List D → D → Bool} {fe : En → Rs D} {B : Nat} {r : En} {R : En → Prop}
end
section
variable {r : En} {Q : OV → En → Prop} {E : Exn → En → Prop} {cs : List GDt} {fe : En → Rs D}
/-! two clauses -/
end
section
variable {r : En} {E : Exn → En → Prop}
/-! more operations -/
theorem w_sum {p : Opd} {Q : OV → En → Prop} (h : wE p.run r (fun a r1 => Gi (look r1 a) fun x => Gi (semSumL x) fun z => Q (.ow z) r1) E) : wE (sumO p) r Q E :=
  wE_bind rfl (wE_mono h (fun a r1 ⟨x, e1, z, e2, q⟩ => wE_ok (r1 := r1) (a := .ow z) (by simp only [e1, Option.bind_some, e2, Option.map_some, ofO]) q) fun _ _ h => h)
theorem w_pnil {Q : List (Key × D) → En → Prop} (q : Q [] r) : wE (evPs []) r Q E := q
theorem w_pcons {f g : En → Rs D} {fs : List ((En → Rs D) × (En → Rs D))} {Q : List (Key × D) → En → Prop} (h : wE f r (fun k r1 => wE g r1 (fun d r2 => Gi k.key fun k => wE (evPs fs) r2 (fun kds r3 => Q ((k, d) :: kds) r3) E) E) E) : wE (evPs ((f, g) :: fs)) r Q E :=
  wE_bind (g := evPs ((f, g) :: fs)) (k := fun k r1 => (g r1).bind fun d r2 => (ofO k.key r2).bind fun k r2 => (evPs fs r2).bind fun kds r3 => .ok ((k, d) :: kds) r3) rfl (wE_mono h (fun k r1 h =>
    wE_bind (f := g) (k := fun d r2 => (ofO k.key r2).bind fun k r2 => (evPs fs r2).bind fun kds r3 => .ok ((k, d) :: kds) r3) rfl (wE_mono h (fun d r2 ⟨k', e, h⟩ =>
      wE_bind (f := fun r2 => ofO k.key r2) (k := fun k r2 => (evPs fs r2).bind fun kds r3 => .ok ((k, d) :: kds) r3) rfl (wE_ofO e (wE_bind (f := evPs fs) (k := fun kds r3 => .ok ((k', d) :: kds) r3) rfl (wE_mono h (fun kds r3 h => h) fun _ _ h => h)))) fun _ _ h => h)) fun _ _ h => h)
theorem w_dic {fs : List ((En → Rs D) × (En → Rs D))} {Q : D → En → Prop} (h : wE (evPs fs) r (fun kds r1 => kds.length ≤ 15 ∧ ∀ d, D.dic (mergeD [] kds) = d → Q d r1) nE) : wE (dicD fs) r Q E := by
  obtain ⟨kds, r1, e, hl, q⟩ := wE_get h
  exact wE_ok (r1 := r1) (a := .dic (mergeD [] kds)) (by unfold dicD; rw [e]; show (if _ then _ else _) = _; rw [if_pos hl]) (q _ rfl)
theorem w_dst {f : En → Rs D} {fs : List ((En → Rs D) × (En → Rs D))} {Q : D → En → Prop} (h : wE f r (fun d r1 => ∃ kds, d = .dic kds ∧ kds.length ≤ 1000 ∧ wE (evPs fs) r1 (fun rs r2 => rs.length ≤ 15 ∧ ∀ d, D.dic (mergeD (mergeD [] kds) (mergeD [] rs)) = d → Q d r2) nE) nE) : wE (dstD f fs) r Q E := by
  obtain ⟨d, r1, e, kds, rfl, hl, h⟩ := wE_get h
  obtain ⟨rs, r2, e2, hl2, q⟩ := wE_get h
  refine wE_ok (r1 := r2) (a := .dic (mergeD (mergeD [] kds) (mergeD [] rs))) ?_ (q _ rfl)
  unfold dstD
  rw [e]
  show (if kds.length ≤ 1000 then _ else _) = _
  rw [if_pos hl, e2]
  show (if rs.length ≤ 15 then _ else _) = _
  rw [if_pos hl2]
theorem w_stL {f : En → Rs D} {fs : List (En → Rs D)} {Q : OV → En → Prop} (h : wE f r (fun d r1 => ∃ xs, d = .lst xs ∧ wE (evs fs) r1 (fun ds r2 => (xs ++ ds).length ≤ 1000 ∧ Q (.ow (xs ++ ds)) r2) E) E) : wE (stL f fs) r Q E :=
  wE_bind rfl (wE_mono h (fun d r1 ⟨xs, e, h⟩ => by
    subst e
    exact wE_bind (f := evs fs) (k := fun ds r2 => if (xs ++ ds).length ≤ 1000 then .ok (.ow (xs ++ ds)) r2 else .bad) rfl (wE_mono h (fun ds r2 ⟨hl, q⟩ => wE_ok (r1 := r2) (a := .ow (xs ++ ds)) (by rw [if_pos hl]) q) fun _ _ h => h)) fun _ _ h => h)
theorem w_rg2 {f g : En → Rs D} {Q : List D → En → Prop} (h : wE f r (fun d r1 => wE g r1 (fun d' r2 => ∃ i j : Int, d = .int i ∧ d' = .int j ∧ ((-1000000 ≤ i ∧ i ≤ 1000000) ∧ -1000000 ≤ j ∧ j ≤ 1000000) ∧ Q (rangeD i (j - i).toNat) r2) E) E) : wE (rg2 f g) r Q E :=
  wE_bind rfl (wE_mono h (fun d r1 h => wE_bind rfl (wE_mono h (fun d' r2 ⟨i, j, e, e', hb, q⟩ => wE_ok (r1 := r2) (a := rangeD i (j - i).toNat) (by subst e; subst e'; show (if (-1000000 ≤ i ∧ i ≤ 1000000) ∧ -1000000 ≤ j ∧ j ≤ 1000000 then _ else _) = _; rw [if_pos hb]) q) fun _ _ h => h)) fun _ _ h => h)
end
theorem semAdd_l {xs ys : List D} (h : xs.length + ys.length ≤ 1000000) : semAdd (.lst xs) (.lst ys) = some (.lst (xs ++ ys)) := by
  show (if _ then _ else _) = _
  rw [if_pos h]
theorem semAdd_t {xs ys : List D} (h : xs.length + ys.length ≤ 1000000) : semAdd (.tup xs) (.tup ys) = some (.tup (xs ++ ys)) := by
  show (if _ then _ else _) = _
  rw [if_pos h]
theorem semAdd_s {x y : Str} (h : x.length + y.length ≤ 1000000) : semAdd (.str x) (.str y) = some (.str (x ++ y)) := by
  show (if _ then _ else _) = _
  rw [if_pos h]
end DL

/-! plain tools, part 12: running with sets of tuples. -/
namespace DL
open PySem L2
theorem wS_mono {f : En → SRs} {r : En} {Q Q' : SRs → Prop} (h : wS f r Q) (i : ∀ y, Q y → Q' y) : wS f r Q' := i _ h
theorem s_clr {i : Nat} {r : En} {Q : SRs → Prop} {xs : List D} (e : r[i]? = some (some (.ow xs))) (q : ∀ r1, r.set i (some (.ow [])) = r1 → Q (.nx r1)) : wS (clrS i) r Q := by
  exact wS_then (f := fun r => fillW r i) rfl (wE_ok (fillW_ok e) (wS_chg e ⟨[], rfl, q⟩))
theorem hide_sh {d : D} : hideO (some (.sh d)) = some (.sh d) := rfl
theorem hide_ow {xs : List D} : hideO (some (.ow xs)) = none := rfl
theorem hide_no : hideO none = none := rfl
theorem w_bw {i : Nat} {f : En → Rs D} {r : En} {xs : List D} {Q : D → En → Prop} {E : Exn → En → Prop} (e : r[i]? = some (some (.ow xs))) (h : ∀ r1, (r.map hideO).set i (some (.sh (.lst xs))) = r1 → wE f r1 (fun d _ => d.flt = true ∧ Q d r) nE) : wE (bwD i f) r Q E := by
  obtain ⟨d, r1, e1, h1, q⟩ := wE_get (h _ rfl)
  refine wE_ok (r1 := r) (a := d) ?_ q
  unfold bwD
  rw [e]
  show bwR (f _) r = _
  rw [e1]
  exact if_pos h1
end DL

/-! plain tools, part 13: d.get(k, x), dict(zip(..)). -/
namespace DL
open PySem L2
theorem w_get {p k x : Opd} {r : En} {Q : D → En → Prop} {E : Exn → En → Prop} (h : wE p.run r (fun z r1 => Gi (look r1 z) fun d0 => d0.isDic = true ∧ wE k.run r1 (fun y r2 => wE x.run r2 (fun u r3 => Gi (look r3 z) fun d => Gi (look r3 y) fun e => Gi (look r3 u) fun c => Gi (semGet d e c) fun v => Q v r3) E) E) E) : wE (getD2 p k x) r Q E := by
  refine wE_bind rfl (wE_mono h (fun z r1 ⟨d0, e0, hd, h⟩ => ?_) fun _ _ h => h)
  have e1 : (ofO ((look r1 z).bind fun d => if d.isDic = true then some d else none) r1 : Rs D) = .ok d0 r1 := by simp only [e0, Option.bind_some, if_pos hd, ofO]
  refine wE_bind (f := fun r1 => ofO ((look r1 z).bind fun d => if d.isDic = true then some d else none) r1) rfl (wE_ok e1 ?_)
  exact wE_bind rfl (wE_mono h (fun y r2 h => wE_bind rfl (wE_mono h (fun u r3 ⟨d, e1, e, e2, c, e3, v, e4, q⟩ => wE_ok (r1 := r3) (a := v) (by simp only [e1, e2, e3, Option.bind_some, e4, ofO]) q) fun _ _ h => h)) fun _ _ h => h)
end DL

/-! plain tools, part 14: dict comprehensions, owned dicts, two fields at once, isinstance of an own class. -/
namespace DL
open PySem L2
section
variable {r : En} {E : Exn → En → Prop}
theorem putFd_len (f : Str) (d : D) : ∀ fl : List (Str × D), (putFd f d fl).length ≤ fl.length + 1
  | [] => Nat.le_refl _
  | (g, x) :: fl => by
    unfold putFd
    have := putFd_len f d fl
    split
    · simp
    · simp only [List.length_cons]; omega
theorem s_fld2 {i : Nat} {c f1 f2 : Str} {h1 h2 : En → Rs D} {Q : SRs → Prop} (h : wE h1 r (fun d1 r1 => wE h2 r1 (fun d2 r2 => ∃ fl, r2[i]? = some (some (.oi c fl)) ∧ fl.length < 800 ∧ ∀ r3, r2.set i (some (.oi c (putFd f2 d2 (putFd f1 d1 fl)))) = r3 → Q (.nx r3)) (fun x r1 => Q (.ex x r1))) (fun x r1 => Q (.ex x r1))) : wS (fld2S i c f1 f2 h1 h2) r Q :=
  wS_then rfl (wE_mono h (fun d1 r1 h => wS_then rfl (wE_mono h (fun d2 r2 ⟨fl, e, hl, q⟩ => by
    have hi : i < r2.length := (List.getElem?_eq_some_iff.mp e).1
    have pl : (putFd f1 d1 fl).length < 900 := by
      have := putFd_len f1 d1 fl
      omega
    have e1 : putFs i c f1 d1 r2 = some (r2.set i (some (.oi c (putFd f1 d1 fl)))) := by
      unfold putFs
      simp only [e, true_and, if_pos (show fl.length < 900 by omega)]
    have e2 : putFs i c f2 d2 (r2.set i (some (.oi c (putFd f1 d1 fl)))) = some (r2.set i (some (.oi c (putFd f2 d2 (putFd f1 d1 fl))))) := by
      unfold putFs
      simp only [List.getElem?_set_self hi, true_and, if_pos pl, List.set_set]
    have e3 : (ofO ((putFs i c f1 d1 r2).bind fun r3 => putFs i c f2 d2 r3) r2 : Rs En) = .ok (r2.set i (some (.oi c (putFd f2 d2 (putFd f1 d1 fl))))) r2 := by
      rw [e1, Option.bind_some, e2]
      rfl
    exact wS_then (f := fun r2 => ofO ((putFs i c f1 d1 r2).bind fun r3 => putFs i c f2 d2 r3) r2) rfl (wE_ok e3 (q _ rfl))) fun _ _ h => h)) fun _ _ h => h)
theorem w_iso {p : Opd} {c : Str} {Q : D → En → Prop} (h : wE p.run r (fun a r1 => Gi (look r1 a) fun x => Gi (isoB c x) fun b => Q (.bl b) r1) E) : wE (isoD p c) r Q E :=
  wE_bind rfl (wE_mono h (fun a r1 ⟨x, e1, b, e2, q⟩ => wE_ok (r1 := r1) (a := .bl b) (by simp only [e1, Option.bind_some, e2, Option.map_some, ofO]) q) fun _ _ h => h)
/-! owned dicts -/
theorem s_newDk {i : Nat} {Q : SRs → Prop} (q : ∀ r1, r.set i (some (.th (.dk []))) = r1 → Q (.nx r1)) : wS (newDk i) r Q := q _ rfl
theorem slDk_at {i : Nat} {kvs : List (Key × D)} (e : r[i]? = some (some (.th (.dk kvs)))) : slDk r i = some kvs := by unfold slDk; rw [e]; rfl
theorem s_putDk {i : Nat} {fi f : En → Rs D} {Q : SRs → Prop} (h : wE f r (fun d r1 => (∃ kvs, r1[i]? = some (some (.th (.dk kvs)))) ∧ wE fi r1 (fun kd r2 => ∃ kvs, r2[i]? = some (some (.th (.dk kvs))) ∧ kvs.length ≤ 1000000 ∧ Gi kd.key fun k => ∀ r3, r2.set i (some (.th (.dk (putD kvs k d)))) = r3 → Q (.nx r3)) (fun x r1 => Q (.ex x r1))) (fun x r1 => Q (.ex x r1))) : wS (putDk i fi f) r Q :=
  wS_then rfl (wE_mono h (fun d r1 ⟨⟨kvs, e0⟩, h⟩ => by
    have hf : fill r1 i = .ok () r1 := by unfold fill; rw [e0]
    refine wS_then (f := fun r => fill r i) rfl (wE_ok hf (wS_then rfl (wE_mono h (fun kd r2 ⟨kvs, e1, hl, k, ek, q⟩ => ?_) fun _ _ h => h)))
    have e2 : (ofO ((slDk r2 i).bind fun kvs => if kvs.length ≤ 1000000 then kd.key.map fun k => putD kvs k d else none) r2 : Rs (List (Key × D))) = .ok (putD kvs k d) r2 := by
      rw [slDk_at e1, Option.bind_some, if_pos hl, ek]
      rfl
    exact wS_then (f := fun r2 => ofO ((slDk r2 i).bind fun kvs => if kvs.length ≤ 1000000 then kd.key.map fun k => putD kvs k d else none) r2) rfl (wE_ok e2 (q _ rfl))) fun _ _ h => h)
end
end DL

/-! Tools, part 15: own == and &. -/
namespace DL
open PySem L2
variable {r : En} {E : Exn → En → Prop}
theorem w_opM {c : Str} {ok : D → Bool} {f : List D → FR} {fo fe : En → Rs D} {Q : OV → En → Prop} (h : wE fo r (fun x r1 => wE fe r1 (fun y r2 => (isC c x && ok y) = true ∧ Gx (f [x, y]) (fun o => Q o r2) (fun x => E x r2)) E) E) : wE (opM c ok f fo fe) r Q E :=
  wE_bind rfl (wE_mono h (fun x r1 h => wE_bind (f := fe) rfl (wE_mono h (fun y r2 ⟨hk, q⟩ => by
    show wE (fun r2 => if (isC c x && ok y) = true then frR (f [x, y]) r2 else .bad) r2 Q E
    simp only [if_pos hk]
    exact wE_fr q) fun _ _ h => h)) fun _ _ h => h)
end DL

/-! Tools, part 16: running with owned dicts: dict(d), d[k], defs that hand out their own dict; own !=. -/
namespace DL
open PySem L2
variable {r : En} {E : Exn → En → Prop}
theorem w_vDk {i : Nat} {kvs : List (Key × D)} {Q : D → En → Prop} (e : r[i]? = some (some (.th (.dk kvs)))) (q : ∀ r1, r.set i (some (.sh (.dic kvs))) = r1 → Q (.dic kvs) r1) : wE (vDk i) r Q E := by unfold wE vDk; rw [e]; exact q _ rfl
theorem w_vDkS {i : Nat} {d : D} {Q : D → En → Prop} (e : r[i]? = some (some (.sh d))) (q : Q d r) : wE (vDk i) r Q E := by unfold wE vDk; rw [e]; exact q
theorem w_getDk {i : Nat} {f : En → Rs D} {Q : D → En → Prop} (h0 : ∃ o, r[i]? = some (some o)) (h : wE f r (fun kd r1 => ∃ kvs, r1[i]? = some (some (.th (.dk kvs))) ∧ Gi (semAt (.dic kvs) kd) fun d => Q d r1) E) : wE (getDk i f) r Q E := by
  obtain ⟨o, h0⟩ := h0
  have hf : fill r i = .ok () r := by unfold fill; rw [h0]
  refine wE_bind (f := fun r => fill r i) rfl (wE_ok hf ?_)
  refine wE_bind rfl (wE_mono h (fun kd r1 ⟨kvs, e1, z, e2, q⟩ => ?_) fun _ _ h => h)
  refine wE_ok (r1 := r1) (a := z) ?_ q
  rw [slDk_at e1]
  show ofO (semAt (.dic kvs) kd) r1 = _
  rw [e2]
  rfl
theorem s_setK {i : Nat} {f : En → Rs (List (Key × D))} {Q : SRs → Prop} (h : wE f r (fun kvs r1 => ∀ r2, r1.set i (some (.th (.dk kvs))) = r2 → Q (.nx r2)) (fun x r1 => Q (.ex x r1))) : wS (setK i f) r Q := wS_then rfl (wE_mono h (fun o r1 h => h _ rfl) fun _ _ h => h)
theorem w_cpK {f : En → Rs D} {Q : List (Key × D) → En → Prop} (h : wE f r (fun d r1 => ∃ kvs, d = .dic kvs ∧ Q kvs r1) E) : wE (cpK f) r Q E :=
  wE_bind rfl (wE_mono h (fun d r1 ⟨kvs, e, q⟩ => by subst e; exact wE_ok (r1 := r1) (a := kvs) rfl q) fun _ _ h => h)
theorem w_ifK {t : En → Rs Bool} {f h : En → Rs (List (Key × D))} {Q : List (Key × D) → En → Prop} (q : wE t r (fun b r1 => Ch b (wE f r1 Q E) (wE h r1 Q E)) E) : wE (ifK t f h) r Q E :=
  wE_bind rfl (wE_mono q (fun b r1 q => by cases b <;> exact q) fun _ _ h => h)
theorem w_frzK {f : En → Rs (List (Key × D))} {Q : D → En → Prop} (h : wE f r (fun kvs r1 => Q (.dic kvs) r1) E) : wE (frzK f) r Q E :=
  wE_bind rfl (wE_mono h (fun kvs r1 q => wE_ok (r1 := r1) (a := D.dic kvs) rfl q) fun _ _ h => h)
def Gk (o : Option (List (Key × D) × List D)) (k : List (Key × D) → List D → Prop) : Prop := ∃ a b, o = some (a, b) ∧ k a b
theorem Gk.of {o : Option (List (Key × D) × List D)} {k : List (Key × D) → List D → Prop} {a : List (Key × D)} {b : List D} (e : o = some (a, b)) (q : k a b) : Gk o k := ⟨a, b, e, q⟩
theorem w_callBD {n j : Nat} {f : List D → List D → Option (List (Key × D) × List D)} {fs : List (En → Rs D)} {Q : List (Key × D) → En → Prop} (hj : ∃ o, r[j]? = some (some o)) (h : wE (evs fs) r (fun ds r1 => ds.length = n ∧ ∃ bs, r1[j]? = some (some (.ow bs)) ∧ Gk (f bs ds) fun o b' => ∀ r2, r1.set j (some (.ow b')) = r2 → Q o r2) E) : wE (callBD n f j fs) r Q E := by
  obtain ⟨o, hj⟩ := hj
  have hf : fill r j = .ok () r := by unfold fill; rw [hj]
  refine wE_bind (f := fun r => fill r j) rfl (wE_ok hf ?_)
  refine wE_bind rfl (wE_mono h (fun ds r1 ⟨hl, bs, e1, o, b', e2, q⟩ => wE_ok (r1 := r1.set j (some (.ow b'))) (a := o) ?_ (q _ rfl)) fun _ _ h => h)
  have : (lookV r1 j).bind OV.lst? = some bs := by unfold lookV; rw [e1]; rfl
  rw [if_pos hl, this]
  simp only [Option.bind_some, e2, ofO, Rs.bind]
theorem w_neM {c : Str} {f : List D → Option OV} {fo fe : En → Rs D} {Q : D → En → Prop} (h : wE fo r (fun x r1 => wE fe r1 (fun y r2 => (isC c x && eqArg c y) = true ∧ ∃ b, f [x, y] = some (.sh (.bl b)) ∧ Q (.bl (!b)) r2) E) E) : wE (neM c f fo fe) r Q E :=
  wE_bind rfl (wE_mono h (fun x r1 h => wE_bind (f := fe) rfl (wE_mono h (fun y r2 ⟨hk, b, e, q⟩ => by
    refine wE_ok (r1 := r2) (a := .bl (!b)) ?_ q
    rw [if_pos hk]
    simp only [e]) fun _ _ h => h)) fun _ _ h => h)
/-! a for over a literal list, turn by turn -/
theorem hasDk {i : Nat} {kvs : List (Key × D)} {P : Prop} (e : r[i]? = some (some (.th (.dk kvs)))) (p : P) : (∃ kvs, r[i]? = some (some (OV.th (Tg.dk kvs)))) ∧ P := ⟨⟨kvs, e⟩, p⟩
theorem getsDk {i : Nat} {kvs : List (Key × D)} {P : List (Key × D) → Prop} (e : r[i]? = some (some (.th (.dk kvs)))) (h : kvs.length ≤ 1000000) (p : P kvs) : ∃ kvs, r[i]? = some (some (OV.th (Tg.dk kvs))) ∧ kvs.length ≤ 1000000 ∧ P kvs := ⟨kvs, e, h, p⟩
theorem getDk' {i : Nat} {kvs : List (Key × D)} {P : List (Key × D) → Prop} (e : r[i]? = some (some (.th (.dk kvs)))) (p : P kvs) : ∃ kvs, r[i]? = some (some (OV.th (Tg.dk kvs))) ∧ P kvs := ⟨kvs, e, p⟩
end DL

/-! plain tools, part 17: running pop as a value, owned dicts with tuples as keys, while, sorted(a | b). -/
namespace DL
open PySem L2
section
variable {r : En} {E : Exn → En → Prop}
theorem w_enX {f : En → Rs D} {Q : List D → En → Prop} (h : wE f r (fun d r1 => Gi d.asE fun ds => Q (enumD 0 ds) r1) E) : wE (enX f) r Q E :=
  wE_bind rfl (wE_mono h (fun d r1 ⟨i, e, q⟩ => wE_ok (r1 := r1) (a := enumD 0 i) (by rw [e]; rfl) q) fun _ _ h => h)
theorem w_popV {i : Nat} {f : En → Rs D} {Q : D → En → Prop} (h0 : ∃ xs, r[i]? = some (some (.ow xs))) (h : wE f r (fun d r1 => ∃ xs, r1[i]? = some (some (.ow xs)) ∧ Gi (popP d xs) fun z => ∀ r2, r1.set i (some (.ow z.2)) = r2 → Q z.1 r2) E) : wE (popV i f) r Q E := by
  obtain ⟨xs, h0⟩ := h0
  refine wE_bind (f := fun r => fillW r i) rfl (wE_ok (fillW_ok h0) ?_)
  refine wE_bind rfl (wE_mono h (fun d r1 ⟨ys, e1, z, e2, q⟩ => ?_) fun _ _ h => h)
  refine wE_ok (r1 := r1.set i (some (.ow z.2))) (a := z.1) ?_ (q _ rfl)
  rw [e1]
  simp only [e2]
theorem w_getOd {i : Nat} {f : En → Rs D} {Q : D → En → Prop} (h0 : ∃ o, r[i]? = some (some o)) (h : wE f r (fun kd r1 => ∃ kvs, r1[i]? = some (some (.od kvs)) ∧ Gi (kd.key8.bind fun k => odAt kvs k) fun d => Q d r1) E) : wE (getOd i f) r Q E := by
  obtain ⟨o, h0⟩ := h0
  have hf : fill r i = .ok () r := by unfold fill; rw [h0]
  refine wE_bind (f := fun r => fill r i) rfl (wE_ok hf ?_)
  refine wE_bind rfl (wE_mono h (fun kd r1 ⟨kvs, e1, z, e2, q⟩ => ?_) fun _ _ h => h)
  refine wE_ok (r1 := r1) (a := z) ?_ q
  rw [e1]
  show ofO (kd.key8.bind fun k => odAt kvs k) r1 = _
  rw [e2]
  rfl
theorem w_inOd {n : Bool → Bool} {i : Nat} {f : En → Rs D} {Q : Bool → En → Prop} (h : wE f r (fun kd r1 => ∃ kvs, r1[i]? = some (some (.od kvs)) ∧ Gi kd.key8 fun k => Q (n (odHas kvs k)) r1) E) : wE (inOd n i f) r Q E := by
  refine wE_bind rfl (wE_mono h (fun kd r1 ⟨kvs, e1, k, e2, q⟩ => ?_) fun _ _ h => h)
  refine wE_ok (r1 := r1) (a := n (odHas kvs k)) ?_ q
  rw [e1]
  show ofO (kd.key8.map fun k => n (odHas kvs k)) r1 = _
  rw [e2]
  rfl
theorem s_putOd {i : Nat} {fi f : En → Rs D} {Q : SRs → Prop} (h : wE f r (fun d r1 => (∃ o, r1[i]? = some (some o)) ∧ wE fi r1 (fun kd r2 => ∃ kvs, r2[i]? = some (some (.od kvs)) ∧ Gi kd.key8 fun k => (odHas kvs k = false ∧ kvs.length ≤ 1000000) ∧ ∀ r3, r2.set i (some (.od (kvs ++ [(kd, d)]))) = r3 → Q (.nx r3)) (fun x r1 => Q (.ex x r1))) (fun x r1 => Q (.ex x r1))) : wS (putOd i fi f) r Q := by
  refine wS_then rfl (wE_mono h (fun d r1 ⟨⟨o, h0⟩, h⟩ => ?_) fun _ _ h => h)
  have hf : fill r1 i = .ok () r1 := by unfold fill; rw [h0]
  refine wS_then (f := fun r => fill r i) rfl (wE_ok hf (wS_then rfl (wE_mono h (fun kd r2 ⟨kvs, e1, k, e2, hc, q⟩ => ?_) fun _ _ h => h)))
  unfold wS
  simp only [e1, e2, hc, and_self, if_true]
  exact q _ rfl
theorem s_parOd1 {i j : Nat} {fk fv : En → Rs D} {h : En → Rs OV} {Q : SRs → Prop} (w : wE fk r (fun kd r1 => wE fv r1 (fun d r2 => Gi kd.key8 fun _ => wE h r2 (fun o r3 => ∀ r4, (r3.set i (some (.od [(kd, d)]))).set j (some o) = r4 → Q (.nx r4)) nE) nE) nE) : wS (parOd1 i j fk fv h) r Q := by
  obtain ⟨kd, r1, e1, w⟩ := wE_get w
  obtain ⟨d, r2, e2, k, e3, w⟩ := wE_get w
  obtain ⟨o, r3, e4, w⟩ := wE_get w
  unfold wS parOd1
  rw [e1]
  show Q (thenS ((fv r1).noE) _)
  rw [e2]
  show Q (thenS (ofO kd.key8 r2) _)
  rw [e3]
  show Q (thenS ((h r2).noE) _)
  rw [e4]
  exact w _ rfl
theorem w_orS {fa fb : En → Rs (List Str)} {Q : OV → En → Prop} (h : wE fa r (fun ts r1 => wE fb r1 (fun us r2 => ((addT [] ts).length ≤ 15 ∧ (addT [] us).length ≤ 15) ∧ Q (.ow ((srtT (ts ++ us)).map D.str)) r2) E) E) : wE (orS fa fb) r Q E := by
  refine wE_bind rfl (wE_mono h (fun ts r1 h => ?_) fun _ _ h => h)
  refine wE_bind rfl (wE_mono h (fun us r2 ⟨hc, q⟩ => ?_) fun _ _ h => h)
  refine wE_ok (r1 := r2) (a := OV.ow ((srtT (ts ++ us)).map D.str)) ?_ q
  rw [if_pos hc]
  rfl
theorem w_lenDk {i : Nat} {Q : D → En → Prop} {kvs : List (Key × D)} (e : r[i]? = some (some (.th (.dk kvs)))) (q : Q (.int (kvs.length : Nat)) r) : wE (lenDk i) r Q E := by
  refine wE_ok (r1 := r) ?_ q
  unfold lenDk
  rw [slDk_at e]
  rfl
end
end DL

/-! plain tools, part 18: T.get(k, n), heard(lambda: e), x += k, xs.count(..). -/
namespace DL
open PySem L2
def getT (t : List (Str × D)) (e c : D) : Option D := match e, c with
  | .str z, .int n => some ((t.lookup z).getD (.int n))
  | _, _ => none
section
variable {r : En} {E : Exn → En → Prop}
theorem w_tabGet {t : List (Str × D)} {k x : Opd} {Q : D → En → Prop} (h : wE k.run r (fun y r1 => wE x.run r1 (fun u r2 => Gi (look r2 y) fun e => Gi (look r2 u) fun c => Gi (getT t e c) fun d => Q d r2) E) E) : wE (tabGetD t k x) r Q E :=
  wE_bind rfl (wE_mono h (fun y r1 h => wE_bind rfl (wE_mono h (fun u r2 ⟨e, e1, c, e2, d, e3, q⟩ => wE_ok (r1 := r2) (a := d) (by
    simp only [e1, e2, Option.bind_some]
    show ofO (getT t e c) r2 = _
    rw [e3]
    rfl) q) fun _ _ h => h)) fun _ _ h => h)
theorem s_augN {i : Nat} {y : Int} {Q : SRs → Prop} (h : ∃ z, r[i]? = some (some (.sh (.int z))) ∧ ∀ r2, r.set i (some (.sh (.int (z + y)))) = r2 → Q (.nx r2)) : wS (augN i y) r Q := by
  obtain ⟨z, e, q⟩ := h
  unfold wS augN
  simp only [e]
  exact q _ rfl
end
end DL

/-! plain tools, part 19: bodies that clear a dict frozen in them; defs with the bag that hand out the dict of a display. -/
namespace DL
open PySem L2
section
variable {r : En} {E : Exn → En → Prop}
theorem isWE {α : Type} {f : En → Rs α} {Q : α → En → Prop} (h : wE f r Q E) : wE f r Q E := h
theorem isWS {f : En → SRs} {Q : SRs → Prop} (h : wS f r Q) : wS f r Q := h
theorem isGi {α : Type} {o : Option α} {k : α → Prop} (h : Gi o k) : Gi o k := h
theorem s_extT {i : Nat} {f : En → Rs D} {Q : SRs → Prop} (h0 : ∃ xs, r[i]? = some (some (.ow xs))) (h : wE f r (fun d r1 => ∃ xs, r1[i]? = some (some (.ow xs)) ∧ Gi (extFT d xs) fun ys => ∀ r2, r1.set i (some (.ow ys)) = r2 → Q (.nx r2)) (fun x r1 => Q (.ex x r1))) : wS (extST i f) r Q := by
  obtain ⟨xs, h0⟩ := h0
  refine wS_then (f := fun r => fillW r i) rfl (wE_ok (fillW_ok h0) (wS_then rfl (wE_mono h (fun d r1 ⟨xs, e, q⟩ => wS_chg e q) fun _ _ h => h)))
end
end DL

/-! All lists within a thing changed: none stands twice. -/
namespace DL
open PySem L2
/-- f(x), x given away: True where no list stands twice in it -/
def spRu (K : PySem.W.Frag) : Sp := fun vs H Q _ => ∃ F v d l, vs = [v] ∧ Same F H ∧ LR K F v d l ∧ d.dp < 20 ∧ l.length ≤ 1000 ∧ l.Nodup ∧ (∀ c ∈ l, ∀ xs, F c = some (.lst xs) → xs.length ≤ 1000) ∧ ∀ H', (∀ b o, H b = some o → b ∉ l → H' b = some o) → Q (.bl true) H'
/-! ### what is read behind it -/
mutual
/-- what was read is read still, if each list of it has something -/
theorem LR.any {K : PySem.W.Frag} {F F2 : Hp} {S : List Addr} (keep : ∀ b o, F b = some o → (∀ xs, o ≠ .lst xs) → F2 b = some o) (new : ∀ c ∈ S, ∀ xs, F c = some (.lst xs) → ∃ i, F2 c = some (.lst (xs ++ [.int i]))) : ∀ {v : V} {d : D} {l : List Addr}, LR K F v d l → (∀ b ∈ l, b ∈ S) → ∃ d', RD K F2 v d'
  | _, d, _, .flat h1 h2, _ => by
    cases d with
    | non => cases h2; exact ⟨_, .non⟩
    | bl b => cases h2; exact ⟨_, .bl _⟩
    | int i => cases h2; exact ⟨_, .int _⟩
    | str x => cases h2; exact ⟨_, .str _⟩
    | _ => cases h1
  | _, _, _, .lst h1 h2, hs => by
    obtain ⟨i, e⟩ := new _ (hs _ List.mem_cons_self) _ h1
    obtain ⟨ds', h⟩ := LRs.any keep new h2 fun b hb => hs b (List.mem_cons_of_mem _ hb)
    exact ⟨_, .lst e (h.app (.cons (.int i) .nil))⟩
  | _, _, _, .tup h1 h2, hs => by
    obtain ⟨ds', h⟩ := LRs.any keep new h2 hs
    refine ⟨.tup ds', .tup ?_ h⟩
    rcases h1 with (h1 | ⟨o, h1⟩) | h1
    · exact .inl (.inl (keep _ _ h1 fun xs z => by cases z))
    · exact .inl (.inr ⟨o, keep _ _ h1 fun xs z => by cases z⟩)
    · exact .inr h1
theorem LRs.any {K : PySem.W.Frag} {F F2 : Hp} {S : List Addr} (keep : ∀ b o, F b = some o → (∀ xs, o ≠ .lst xs) → F2 b = some o) (new : ∀ c ∈ S, ∀ xs, F c = some (.lst xs) → ∃ i, F2 c = some (.lst (xs ++ [.int i]))) : ∀ {v : List V} {d : List D} {l : List (List Addr)}, LRs K F v d l → (∀ b ∈ l.flatten, b ∈ S) → ∃ ds', RDs K F2 v ds'
  | _, _, _, .nil, _ => ⟨_, .nil⟩
  | _, _, _, .cons h1 h2, hs => by
    obtain ⟨d', e1⟩ := LR.any keep new h1 fun b hb => hs b (by rw [List.flatten_cons]; exact List.mem_append_left _ hb)
    obtain ⟨ds', e2⟩ := LRs.any keep new h2 fun b hb => hs b (by rw [List.flatten_cons]; exact List.mem_append_right _ hb)
    exact ⟨_, .cons e1 e2⟩
end
section
variable {P : Program} {w : World} {K : PySem.W.Frag} {mg : Str → Option Value} {base : Heap}
end
/-! ### the last row's value -/
structure HasRu (P : Program) (w : World) (K : PySem.W.Frag) (mg : Str → Option Value) (base : Heap) (k : Nat) (x : Str) : Prop where
  ex : ∃ fa fd ps, FnG P w K mg base CX0 k fa fd ps (spRu K) ∧ mg x = some (.ref fa) ∧ PySem.W.keepIn K (.ref fa) = true ∧ Binds K fd ps []
end DL

/-! not f(list(x[1])), x a name whose value's lists are new, f the def that changes all lists. -/
namespace DL
open PySem L2
section
variable {K : PySem.W.Frag} {F : Hp}
end
end DL

/-! x = heard(..); if not alike(x, due) or t: return False; if x[0] == "told" and not ruined(list(x[1])): return False -/
namespace DL
open PySem L2
section
variable {X : Cx} {g : G} {i j : Nat} {hT : En → Rs D} {fa : List D → Option OV} {t2 : En → Rs Bool} {st1 st2 st3 : Stmt} {rest : List Stmt} {fr : En → SRs} {tb2 tb3 : TS}
end
end DL

/-! plain tools, part 23: running rows beside a name whose value's lists are new. -/
namespace DL
open PySem L2
section
variable {r : En} {E : Exn → En → Prop}
variable {Q : SRs → Prop}
end
end DL

/-! Tools, part 24: running with a pair of lists that is changed through another name (DC147); lists taken apart at a place. -/
namespace DL
open PySem L2
section
variable {r : En} {Q : SRs → Prop}
def Rt (Q : SRs → Prop) : SRs → Prop := fun x => match x with
  | .rt o r => Q (.rt o r)
  | _ => False
theorem rt_r {o : OV} {r1 : En} (h : Q (.rt o r1)) : Rt Q (.rt o r1) := h
theorem only_Rt {x : SRs} (h : Rt Q x) : Q (onlyRt x) := by
  cases x with
  | rt o r => exact h
  | _ => exact h.elim
theorem s_aliA {j : Nat} {A B : Addr} {mA mB : En → SRs} (e : r[j]? = some (some (.sh (itD A)))) (h : wS mA r (Rt Q)) : wS (aliS j A B mA mB) r Q := by
  unfold wS aliS
  rw [e]
  show Q (if itS A = itS A then onlyRt (mA r) else _)
  rw [if_pos rfl]
  exact only_Rt h
theorem s_aliB {j : Nat} {A B : Addr} {mA mB : En → SRs} (hab : A ≠ B) (e : r[j]? = some (some (.sh (itD B)))) (h : wS mB r (Rt Q)) : wS (aliS j A B mA mB) r Q := by
  unfold wS aliS
  rw [e]
  show Q (if itS B = itS A then onlyRt (mA r) else if itS B = itS B then onlyRt (mB r) else .bad)
  rw [if_neg fun z => hab (itS_inj z).symm, if_pos rfl]
  exact only_Rt h
theorem s_appIt {i : Nat} {p : Addr} {f0 f : En → Rs D} (h : wE f0 r (fun d r1 => d = itD p ∧ (∃ xs, r1[i]? = some (some (.ow xs))) ∧ wE f r1 (fun d r2 => ∃ xs, r2[i]? = some (some (.ow xs)) ∧ xs.length ≤ 1000000 ∧ ∀ r3, r2.set i (some (.ow (xs ++ [d]))) = r3 → Q (.nx r3)) (fun x r2 => Q (.ex x r2))) (fun x r1 => Q (.ex x r1))) : wS (appIt i p f0 f) r Q := by
  refine wS_then rfl (wE_mono h (fun d r1 ⟨hd, ⟨xs, h0⟩, h⟩ => ?_) fun _ _ h => h)
  subst hd
  unfold wS itD
  dsimp only
  rw [if_pos rfl]
  exact wS_then (g := fun r => thenS (fillW r i) fun _ r => thenS (f r) fun d r1 => chgS i (appF d) r1) (f := fun r => fillW r i) rfl (wE_ok (fillW_ok h0) (wS_then rfl (wE_mono h (fun d r1 ⟨xs, e, hl, q⟩ => wS_chg e ⟨xs ++ [d], by unfold appF; rw [if_pos hl], q⟩) fun _ _ h => h)))
theorem s_cells {i j l iA iB n : Nat} {fL : En → Rs (List (List D))} {f2 f3 : En → Rs D} {m : Addr → Addr → En → SRs} {xs ys xs' ys' b' : List D} {d2 d3 ad : D} {r1 r2 r3 : En} (hL : fL r = .ok [xs, ys] r1) (h2 : f2 r1 = .ok d2 r2) (h3 : f3 r2 = .ok d3 r3) (hl : iA < r3.length ∧ iB < r3.length)
    (hm : ∀ A B : Addr, A ≠ B → wS (m A B) (((((r3.set i (some (.sh (.lst [itD A, itD B])))).set j (some (.sh d2))).set l (some (.sh d3))).set iA (some (.ow xs))).set iB (some (.ow ys))) (fun x => ∃ r4, x = .rt (.sh (.tup [.lst [itD A, itD B], ad])) r4 ∧ r4[iA]? = some (some (.ow xs')) ∧ r4[iB]? = some (some (.ow ys')) ∧ r4[0]? = some (some (.ow b')) ∧ r4.length = n))
    (q : ∀ r5 : En, r5[0]? = some (some (.ow b')) → Q (.rt (.sh (.tup [.lst [.lst xs', .lst ys'], ad])) r5)) : wS (cellS i j l iA iB fL f2 f3 m) r Q := by
  unfold wS cellS
  rw [hL]
  show Q (thenS (f2 r1) _)
  rw [h2]
  show Q (thenS (f3 r2) _)
  rw [h3]
  show Q (cellF i j l iA iB m d2 d3 r3 [xs, ys])
  unfold cellF
  dsimp only
  rw [if_pos hl]
  unfold cellE
  obtain ⟨s4, e1, e2, e3, e4, e5⟩ := hm 0 1 (by decide)
  rw [show m 0 1 _ = _ from e1]
  dsimp only
  rw [e2, e3]
  dsimp only
  rw [if_pos fun A B hab => ?_]
  · exact q _ (by rw [few_zero]; exact e4)
  · obtain ⟨t4, g1, g2, g3, g4, g5⟩ := hm A B hab
    exact ⟨t4, g1, g2, g3, g4.trans e4.symm, g5.trans e5.symm⟩
end
theorem and_it {p : Addr} {P : Prop} (h : P) : itD p = itD p ∧ P := ⟨rfl, h⟩
theorem of_sh {d : D} {P : D → Prop} (h : P d) : ∀ d', (OV.sh d).d = d' → P d' := fun d' e => by
  have e : d = d' := e
  rw [← e]
  exact h
def Gp (o : Option (D × List D)) (k : D → List D → Prop) : Prop := ∃ x ys, o = some (x, ys) ∧ k x ys
theorem gp_of {o : Option (D × List D)} {k : D → List D → Prop} {x : D} {ys : List D} (e : o = some (x, ys)) (q : k x ys) : Gp o k := ⟨x, ys, e, q⟩
theorem w_popP {i : Nat} {r : En} {f : En → Rs D} {Q : D → En → Prop} {E : Exn → En → Prop} (h0 : ∃ xs, r[i]? = some (some (.ow xs))) (h : wE f r (fun d r1 => ∃ xs, r1[i]? = some (some (.ow xs)) ∧ Gp (popP d xs) fun x ys => ∀ r2, r1.set i (some (.ow ys)) = r2 → Q x r2) E) : wE (popV i f) r Q E :=
  w_popV h0 (wE_mono h (fun d r1 ⟨xs, e, x, ys, e2, q⟩ => ⟨xs, e, (x, ys), e2, q⟩) fun _ _ h => h)
theorem lcTS_one {vs : List Nat} {h : D → En → Option En} {elt : En → Rs OV} {d : D} {ds ys : List D} {yss : List (List D)} {r r1 r2 r3 : En} (e1 : h d (wipeE r vs) = some r1) (e2 : elt r1 = .ok (.ow ys) r2) (e3 : tflAll ys = true) (e4 : lcTS vs h elt ds (wipeE r2 vs) = .ok yss r3) : lcTS vs h elt (d :: ds) r = .ok (ys :: yss) r3 := by
  unfold lcTS
  rw [e1]
  dsimp only
  rw [e2]
  show (if tflAll ys = true then (lcTS vs h elt ds (wipeE r2 vs)).bind _ else _) = _
  rw [if_pos e3, e4]
  rfl
/-! lists at a place -/
section
variable {pre post : List D} {x d : D}
theorem ix_mid : ixN (pre ++ x :: post).length (pre.length : Int) = some pre.length := by
  unfold ixN
  have h : (pre.length : Int) < ((pre ++ x :: post).length : Int) := by rw [List.length_append, List.length_cons]; omega
  simp
  omega
theorem pop_mid (hl : pre.length < 1000000) : popF (.int (pre.length : Int)) (pre ++ x :: post) = some (pre ++ post) := by
  unfold popF
  dsimp only
  rw [if_pos (by omega), ix_mid, Option.map_some, List.eraseIdx_append_of_length_le (Nat.le_refl _), Nat.sub_self]
  rfl
theorem popP_mid (hl : pre.length < 1000000) : popP (.int (pre.length : Int)) (pre ++ x :: post) = some (x, pre ++ post) := by
  unfold popP
  dsimp only
  rw [if_pos (by omega), ix_mid, Option.bind_some, List.getElem?_append_right (Nat.le_refl _), Nat.sub_self, List.eraseIdx_append_of_length_le (Nat.le_refl _), Nat.sub_self]
  rfl
theorem put_mid : DL.putF (.int (pre.length : Int)) d (pre ++ x :: post) = some (pre ++ d :: post) := by
  unfold DL.putF
  dsimp only
  rw [ix_mid, Option.map_some, List.set_append_right _ _ (Nat.le_refl _), Nat.sub_self]
  rfl
theorem ins_mid (hl : (pre ++ post).length ≤ 1000000) (h2 : pre.length < 1000000) : insF (.int (pre.length : Int)) d (pre ++ post) = some (pre ++ d :: post) := by
  unfold insF
  dsimp only
  rw [if_pos ⟨by omega, by omega, hl⟩]
  simp
theorem at_mid : semAt (.lst (pre ++ x :: post)) (.int (pre.length : Int)) = some x := by
  show atI (pre ++ x :: post) (pre.length : Int) = _
  unfold atI
  rw [ix_mid, Option.bind_some, List.getElem?_append_right (Nat.le_refl _), Nat.sub_self]
  rfl
end
end DL

local macro_rules | `(tactic| walk_at "lenb") => `(tactic| first | omega | (simp only [List.length_append, List.length_map, List.length_cons, List.length_nil, List.length_range, List.length_take, List.length_drop, List.length_zipIdx, List.length_reverse]; omega))
local macro_rules | `(tactic| walk_at "lks") => `(tactic| first | exact DL.lks_nil | (refine' DL.lks_cons ?a ?b; (case a => first | exact DL.lk_l | exact DL.lk_sh rfl | exact DL.lk_ow rfl); (case b => walk_at "lks")))
local macro_rules | `(tactic| walk_at "dk") => `(tactic| first
  | ((with_reducible refine' DL.hasDk ?e ?q); (case e => rfl))
  | ((with_reducible refine' DL.getsDk ?e ?l ?q); (case e => rfl); (case l => first | exact Nat.le_of_ble_eq_true rfl | assumption | omega))
  | ((with_reducible refine' DL.getDk' ?e ?q); (case e => rfl)))
local macro_rules | `(tactic| walk_at "go1ws") => `(tactic| first
  | (with_reducible refine DL.s_seq ?_)
  | (with_reducible refine DL.s_augN ?_)
  | (with_reducible refine DL.s_putOd ?_)
  | (with_reducible refine DL.s_parOd1 ?_)
  | (with_reducible refine DL.s_setK ?_)
  | (with_reducible refine DL.s_set ?_)
  | (with_reducible refine DL.s_fld2 ?_)
  | (with_reducible refine DL.s_newDk ?_)
  | (with_reducible refine DL.s_putDk ?_)
  | (with_reducible refine DL.s_if ?_)
  | (with_reducible refine DL.s_rt ?_)
  | (with_reducible refine DL.s_rtN ?_)
  | (with_reducible refine DL.s_nx ?_)
  | (with_reducible refine DL.s_ex ?_)
  | (with_reducible refine DL.s_raise ?_)
  | ((with_reducible refine' DL.s_clr ?e ?q); (case e => rfl))
  | ((with_reducible refine DL.s_app ?e ?q); (case e => exact ⟨_, rfl⟩))
  | ((with_reducible refine DL.s_ext ?e ?q); (case e => exact ⟨_, rfl⟩))
  | ((with_reducible refine DL.s_extT ?e ?q); (case e => exact ⟨_, rfl⟩))
  | ((with_reducible refine DL.s_pop ?e ?q); (case e => exact ⟨_, rfl⟩))
  | ((with_reducible refine DL.s_ins ?e ?q); (case e => exact ⟨_, rfl⟩))
  | (with_reducible refine DL.s_put ?_)
  | (with_reducible refine DL.s_par2 ?_)
  | (with_reducible refine DL.s_par3 ?_)
  | (with_reducible refine DL.s_par2o ?_)
  | (with_reducible refine DL.s_asg ?_)
  | (with_reducible refine DL.s_fld ?_)
  | (with_reducible refine DL.s_for ?_)
  | (with_reducible refine DL.s_try ?_)
  | (with_reducible refine DL.s_bk ?_)
  | (with_reducible refine DL.s_ct ?_))
local macro_rules | `(tactic| walk_at "go1we") => `(tactic| first
  | (with_reducible refine DL.w_con ?_)
  | ((with_reducible refine' DL.w_var ?e ?q); (case e => rfl))
  | ((with_reducible refine' DL.w_varO ?e ?q); (case e => rfl))
  | (with_reducible refine DL.w_frz ?_)
  | (with_reducible refine DL.w_sh ?_)
  | ((with_reducible refine' DL.w_mv ?e ?q); (case e => rfl))
  | ((with_reducible refine' DL.w_mvO ?e ?q); (case e => rfl))
  | (with_reducible refine DL.w_oex ?_)
  | ((with_reducible refine' DL.w_ova ?e ?q); (case e => rfl))
  | (with_reducible refine DL.w_op2 ?_)
  | (with_reducible refine DL.w_op1 ?_)
  | (with_reducible refine DL.w_rnil ?_)
  | (with_reducible refine DL.w_rcons ?_)
  | (with_reducible refine DL.w_opN ?_)
  | (with_reducible refine DL.w_get ?_)
  | (with_reducible refine DL.w_opNO ?_)
  | (with_reducible refine DL.w_op2O ?_)
  | (with_reducible refine DL.w_enil ?_)
  | (with_reducible refine DL.w_econs ?_)
  | (with_reducible refine DL.w_tup ?_)
  | (with_reducible refine DL.w_lst ?_)
  | (with_reducible refine DL.w_call ?_)
  | ((with_reducible refine DL.w_callB ?e ?q); (case e => exact ⟨_, rfl⟩))
  | (with_reducible refine DL.w_callL ?_)
  | (with_reducible refine DL.w_callX ?_)
  | (with_reducible refine DL.w_make ?_)
  | (with_reducible refine DL.w_meth ?_)
  | (with_reducible refine DL.w_lenM ?_)
  | (with_reducible refine DL.w_toB ?_)
  | (with_reducible refine DL.w_toT ?_)
  | (with_reducible refine DL.w_notT ?_)
  | (with_reducible refine DL.w_notD ?_)
  | (with_reducible refine DL.w_notV ?_)
  | (with_reducible refine DL.w_andT ?_)
  | (with_reducible refine DL.w_orT ?_)
  | (with_reducible refine DL.w_andD ?_)
  | (with_reducible refine DL.w_orD ?_)
  | (with_reducible refine DL.w_andV ?_)
  | (with_reducible refine DL.w_orV ?_)
  | (with_reducible refine DL.w_if ?_)
  | (with_reducible refine DL.w_chain ?_)
  | (with_reducible refine DL.w_isi ?_)
  | (with_reducible refine DL.w_iso ?_)
  | (with_reducible refine DL.w_m1 ?_)
  | (with_reducible refine DL.w_znil ?_)
  | (with_reducible refine DL.w_zcons ?_)
  | (with_reducible refine DL.w_zst ?_)
  | (with_reducible refine DL.w_lstZ ?_)
  | (with_reducible refine DL.w_tupZ ?_)
  | (with_reducible refine DL.w_poN ?_)
  | (with_reducible refine DL.w_poS ?_)
  | (with_reducible refine DL.w_sl ?_)
  | (with_reducible refine DL.w_yes ?_)
  | (with_reducible refine DL.w_itA ?_)
  | (with_reducible refine DL.w_enD ?_)
  | (with_reducible refine DL.w_zpD ?_)
  | (with_reducible refine DL.w_enX ?_)
  | (with_reducible refine DL.w_tabGet ?_)
  | ((with_reducible refine DL.w_popV ?e ?q); (case e => exact ⟨_, rfl⟩))
  | ((with_reducible refine DL.w_getOd ?e ?q); (case e => exact ⟨_, rfl⟩))
  | (with_reducible refine DL.w_inOd ?_)
  | (with_reducible refine DL.w_orS ?_)
  | ((with_reducible refine' DL.w_lenDk ?e ?q); (case e => rfl))
  | (with_reducible refine DL.w_rg1 ?_)
  | (with_reducible refine DL.w_vaD ?_)
  | (with_reducible refine DL.w_its ?_)
  | (with_reducible refine DL.w_sum ?_)
  | (with_reducible refine DL.w_pnil ?_)
  | (with_reducible refine DL.w_pcons ?_)
  | (with_reducible refine DL.w_dic ?_)
  | (with_reducible refine DL.w_dst ?_)
  | (with_reducible refine DL.w_stL ?_)
  | (with_reducible refine DL.w_rg2 ?_)
  | ((with_reducible refine' DL.w_xf ?e ?m ?l ?q); (case e => rfl); (case m => decide +kernel); (case l => rfl))
  | ((with_reducible refine' DL.w_isx (b := true) ?e ?m ?q); (case e => rfl); (case m => decide +kernel))
  | ((with_reducible refine' DL.w_isx (b := false) ?e ?m ?q); (case e => rfl); (case m => decide +kernel))
  | ((with_reducible refine' DL.w_fldO ?e ?l ?q); (case e => rfl); (case l => rfl))
  | ((with_reducible refine' DL.w_vDkS ?e ?q); (case e => rfl))
  | ((with_reducible refine' DL.w_vDk ?e ?q); (case e => rfl))
  | ((with_reducible refine DL.w_getDk ?e ?q); (case e => exact ⟨_, rfl⟩))
  | (with_reducible refine DL.w_cpK ?_)
  | (with_reducible refine DL.w_ifK ?_)
  | (with_reducible refine DL.w_frzK ?_)
  | ((with_reducible refine DL.w_callBD ?e ?q); (case e => exact ⟨_, rfl⟩))
  | (with_reducible refine DL.w_opM ?_)
  | (with_reducible refine DL.w_neM ?_)
  | ((with_reducible refine' DL.w_bw ?e ?q); (case e => rfl); (intro r2 hr2); (simp only [List.map_cons, List.map_nil, DL.hide_sh, DL.hide_ow, DL.hide_no, List.set_cons_succ, List.set_cons_zero] at hr2); subst hr2))
local macro_rules | `(tactic| walk_at "go1gi") => `(tactic| first
  | ((with_reducible refine' DL.Gi.of (o := DL.getT _ _ _) ?e ?q); (case e => rfl))
  | ((with_reducible refine' DL.Gi.of (o := DL.D.asE _) ?e ?q); (case e => rfl))
  | (with_reducible apply DL.gi_l)
  | ((with_reducible refine' DL.Gi.of (DL.lk_sh ?e) ?q); (case e => rfl))
  | ((with_reducible refine' DL.Gi.of (DL.lk_ow ?e) ?q); (case e => rfl))
  | ((with_reducible refine' DL.Gi.of (o := DL.looks _ _) ?e ?q); (case e => walk_at "lks"))
  | (with_reducible refine DL.Gi.of (DL.semEq_str _ _) ?_)
  | (with_reducible refine DL.Gi.of (DL.semNe_str _ _) ?_)
  | (with_reducible refine DL.Gi.of (DL.semEq_int _ _) ?_)
  | (with_reducible refine DL.Gi.of (DL.semNe_int _ _) ?_)
  | (with_reducible refine DL.Gi.of (DL.semEq_bl _ _) ?_)
  | (with_reducible refine DL.Gi.of (DL.semNe_bl _ _) ?_)
  | ((with_reducible refine' DL.Gi.of (o := DL.semAt _ _) ?e ?q); (case e => rfl))
  | ((with_reducible refine DL.Gi.of (DL.semAdd_l ?h) ?q); (case h => walk_at "lenb"))
  | ((with_reducible refine DL.Gi.of (DL.semAdd_t ?h) ?q); (case h => walk_at "lenb"))
  | ((with_reducible refine DL.Gi.of (DL.semAdd_s ?h) ?q); (case h => walk_at "lenb"))
  | ((with_reducible refine' DL.Gi.of (o := DL.semAdd _ _) ?e ?q); (case e => rfl))
  | ((with_reducible refine' DL.Gi.of (o := DL.semSub _ _) ?e ?q); (case e => rfl))
  | ((with_reducible refine' DL.Gi.of (o := DL.semMod _ _) ?e ?q); (case e => rfl))
  | ((with_reducible refine' DL.Gi.of (o := DL.semFdiv _ _) ?e ?q); (case e => rfl))
  | ((with_reducible refine' DL.Gi.of (o := DL.semLt _ _) ?e ?q); (case e => rfl))
  | ((with_reducible refine' DL.Gi.of (o := DL.semLe _ _) ?e ?q); (case e => rfl))
  | ((with_reducible refine' DL.Gi.of (o := DL.semGt _ _) ?e ?q); (case e => rfl))
  | ((with_reducible refine' DL.Gi.of (o := DL.semGe _ _) ?e ?q); (case e => rfl))
  | ((with_reducible refine' DL.Gi.of (o := DL.semIs _ _) ?e ?q); (case e => rfl))
  | ((with_reducible refine' DL.Gi.of (o := DL.semIsNot _ _) ?e ?q); (case e => rfl))
  | ((with_reducible refine' DL.Gi.of (o := DL.semLen _) ?e ?q); (case e => rfl))
  | ((with_reducible refine' DL.Gi.of (o := DL.semTuple _) ?e ?q); (case e => rfl))
  | ((with_reducible refine' DL.Gi.of (o := DL.semList _) ?e ?q); (case e => rfl))
  | ((with_reducible refine' DL.Gi.of (o := DL.semInt _) ?e ?q); (case e => rfl))
  | ((with_reducible refine' DL.Gi.of (o := DL.semAbs _) ?e ?q); (case e => rfl))
  | ((with_reducible refine' DL.Gi.of (o := DL.semFld _ _ _) ?e ?q); (case e => rfl))
  | ((with_reducible refine' DL.Gi.of (o := DL.semSl _ _ _) ?e ?q); (case e => rfl))
  | ((with_reducible refine' DL.Gi.of (o := DL.D.asB _) ?e ?q); (case e => rfl))
  | ((with_reducible refine' DL.Gi.of (o := DL.D.asI _) ?e ?q); (case e => rfl))
  | ((with_reducible refine' DL.Gi.of (o := DL.D.tru _) ?e ?q); (case e => rfl))
  | ((with_reducible refine' DL.Gi.of (o := DL.D.sq _) ?e ?q); (case e => rfl))
  | ((with_reducible refine' DL.Gi.of (o := DL.D.items _) ?e ?q); (case e => rfl))
  | ((with_reducible refine' DL.Gi.of (o := DL.D.asL _) ?e ?q); (case e => rfl))
  | ((with_reducible refine' DL.Gi.of (o := DL.D.vals _) ?e ?q); (case e => rfl))
  | ((with_reducible refine' DL.Gi.of (o := DL.D.itms _) ?e ?q); (case e => rfl))
  | ((with_reducible refine' DL.Gi.of (o := DL.zip2 _ _) ?e ?q); (case e => rfl))
  | ((with_reducible refine' DL.Gi.of (o := DL.semAddL _ _) ?e ?q); (case e => rfl))
  | ((with_reducible refine' DL.Gi.of (o := DL.semListL _) ?e ?q); (case e => rfl))
  | ((with_reducible refine' DL.Gi.of (o := DL.gN _ _ _) ?e ?q); (case e => rfl))
  | ((with_reducible refine' DL.Gi.of (o := DL.gT _ _ _ _) ?e ?q); (case e => rfl))
  | ((with_reducible refine' DL.Gi.of (o := DL.extF _ _) ?e ?q); (case e => rfl))
  | ((with_reducible refine' DL.Gi.of (o := DL.popF _ _) ?e ?q); (case e => rfl))
  | ((with_reducible refine' DL.Gi.of (o := DL.semNeg _) ?e ?q); (case e => rfl))
  | ((with_reducible refine' DL.Gi.of (o := DL.D.key _) ?e ?q); (case e => rfl)))
local macro_rules | `(tactic| walk_at "go1gr") => `(tactic| first
  | (with_reducible refine DL.Th.n ?_)
  | ((with_reducible refine' ⟨_, ?e, ?q⟩); (case e => ((with_reducible show _ = some (some (DL.OV.sh (DL.D.int _)))); rfl)))
  | ((with_reducible refine' ⟨_, ?e, ?q⟩); (case e => ((with_reducible show _ = some (some (DL.OV.od _))); rfl)))
  | ((with_reducible refine' ⟨⟨_, ?e⟩, ?q⟩); (case e => ((with_reducible show _ = some (some (_ : DL.OV))); rfl)))
  | ((with_reducible refine' ⟨?e, ?q⟩); (case e => ((with_reducible show DL.D.flt _ = true); rfl)))
  | ((with_reducible refine' ⟨?e, ?q⟩); (case e => ((with_reducible show DL.OV.flt _ = true); rfl)))
  | (with_reducible refine DL.Th.t ?_)
  | (with_reducible refine DL.Th.x ?_)
  | (with_reducible refine DL.Tn.n ?_)
  | (with_reducible refine DL.Tq.n ?_)
  | (with_reducible refine DL.Tq.t ?_)
  | ((with_reducible refine DL.Hq.n ?e ?q); (case e => rfl))
  | ((with_reducible refine DL.Hq.t ?e ?q); (case e => rfl))
  | (with_reducible refine DL.Tn.t ?_)
  | (with_reducible refine DL.Gx_P ?_)
  | ((with_reducible refine' ⟨?e, ?q⟩); (case e => ((with_reducible show List.length _ = _); rfl)))
  | ((with_reducible refine' ⟨?e, ?q⟩); (case e => ((with_reducible show List.length _ + 1 = _); rfl)))
  | ((with_reducible refine' ⟨?e, ?q⟩); (case e => ((with_reducible show List.length _ ≤ _); exact Nat.le_of_ble_eq_true rfl)))
  | ((with_reducible refine' ⟨?e, ?q⟩); (case e => ((with_reducible show DL.D.isk _ = true); rfl)))
  | ((with_reducible refine' ⟨_, ?e, ?q⟩); (case e => ((with_reducible show DL.look _ _ = some (DL.D.str _)); rfl)))
  | ((with_reducible refine' ⟨_, ?e, ?q⟩); (case e => ((with_reducible show _ = some (some (DL.OV.ow _))); rfl)))
  | ((with_reducible refine' ⟨_, ?e, ?q⟩); (case e => ((with_reducible show _ = some (some (DL.OV.oi _ _))); rfl)))
  | (with_reducible refine DL.Ch.t ?_)
  | (with_reducible refine DL.Ch.f ?_)
  | (with_reducible refine DL.Ch.nt ?_)
  | (with_reducible refine DL.Ch.ty (by with_reducible assumption) ?_)
  | (with_reducible refine DL.Ch.fy (by with_reducible assumption) ?_)
  | (with_reducible refine DL.Ch.dt (by with_reducible assumption) ?_)
  | (with_reducible refine DL.Ch.df (by with_reducible assumption) ?_)
  | ((with_reducible refine' ⟨?e, ?q⟩); (case e => ((with_reducible show DL.wipeE _ _ = _); rfl)))
  | ((with_reducible refine' ⟨?e, ?q⟩); (case e => rfl); (case q => rfl))
  | (with_reducible intro r2 hr2; first | (simp only [List.set_cons_succ, List.set_cons_zero, DL.wipeE] at hr2; subst hr2) | (simp only [DL.startE, List.map_cons, List.map_nil, List.length_cons, List.length_nil, Nat.zero_add, Nat.reduceAdd, Nat.reduceSub, Nat.sub_self, List.replicate, List.cons_append, List.nil_append, List.append_nil] at hr2; subst hr2) | (simp only [DL.OV.d] at hr2; subst hr2) | subst hr2))
local macro_rules | `(tactic| walk_at "go1") => `(tactic| first
  | ((with_reducible refine DL.isWE ?_); walk_at "go1we")
  | ((with_reducible refine DL.isGi ?_); walk_at "go1gi")
  | ((with_reducible refine DL.isWS ?_); walk_at "go1ws")
  | walk_at "go1gr")

/-! printed by gen.py: the defs of the linked text, by the data layer -/
namespace T
noncomputable section
open PySem L2 DL
def topS (i : Nat) : Stmt := PySem.Challenge.pw_scriptpicks_k23_starts_equal.main.body.getD i (.Pass ⟨0, 0, 0, 0⟩)
abbrev e_Wrong : Stmt := inClass (topS 14) 0
theorem esc_Wrong : FnScope ["self", "place"] ["self", "place"] (defScope e_Wrong) := ⟨rfl, rfl, rfl, by decide +kernel, rfl, by decide +kernel, by decide +kernel⟩
def c_LETTERS : D := (D.str "abcdefghijklmnopqrstuvwxyz")
def c_MOST_LETTERS : D := (D.int 8)
def c_RELATIONS : D := (D.tup [(D.str "eq"), (D.str "lt"), (D.str "gt")])
structure Fa (K : PySem.W.Frag) (w : World) (mg : Str → Option Value) (base : Heap) where
  sy : SysAt base
  v_LETTERS : V
  u_LETTERS : Value
  m_LETTERS : mg "LETTERS" = some u_LETTERS
  r_LETTERS : RelV v_LETTERS u_LETTERS
  d_LETTERS : ∀ F : Hp, RD K F v_LETTERS c_LETTERS
  v_MOST_LETTERS : V
  u_MOST_LETTERS : Value
  m_MOST_LETTERS : mg "MOST_LETTERS" = some u_MOST_LETTERS
  r_MOST_LETTERS : RelV v_MOST_LETTERS u_MOST_LETTERS
  d_MOST_LETTERS : ∀ F : Hp, RD K F v_MOST_LETTERS c_MOST_LETTERS
  v_RELATIONS : V
  u_RELATIONS : Value
  m_RELATIONS : mg "RELATIONS" = some u_RELATIONS
  r_RELATIONS : RelV v_RELATIONS u_RELATIONS
  d_RELATIONS : ∀ F : Hp, RD K F v_RELATIONS c_RELATIONS
  nz : noZ K = true
  io_Start : IsoOk K mg "Start"
  eq_Start : EqOk K "Start"
  ne_Start : NeOk K "Start"
  fl_Start_its_aim : FldOk K "Start" "its_aim"
  fl_Start_its_rows : FldOk K "Start" "its_rows"
  b_abs : mg "abs" = none
  b_all : mg "all" = none
  b_int : mg "int" = none
  b_isinstance : mg "isinstance" = none
  b_len : mg "len" = none
  b_list : mg "list" = none
  b_range : mg "range" = none
  b_repr : mg "repr" = none
  b_str : mg "str" = none
  b_tuple : mg "tuple" = none
section
variable {P : Program} {w : World} {K : PySem.W.Frag} {mg : Str → Option Value} {base : Heap}
abbrev s__law_bag : Stmt := topS 20
abbrev s__law_bag_sc : Scope := defScope s__law_bag
abbrev n__law_bag : List Str := ["_law_script", "_law_cell"]
theorem sc__law_bag : FnScope n__law_bag ["_law_script"] (defScope s__law_bag) := ⟨rfl, rfl, rfl, by decide +kernel, rfl, by decide +kernel, by decide +kernel⟩
abbrev it__law_bag_1 : En → Rs (List D) := (itA (slD (.va 0) poN (poS (cD (.int 63))) semSl))
abbrev el__law_bag_1 : En → Rs D := (opN [(.va 1)] semAbs)
abbrev lc__law_bag_1 : En → Rs OV := lcD it__law_bag_1 [1] (gN 1) yesT el__law_bag_1
def m__law_bag : En → SRs :=
    (rtS (lstD [(cD (.int 0)), (cD (.int 1234567891)), (cD (.int 0)), (frzD lc__law_bag_1)]))
def f__law_bag : List D → Option OV := fnP 2 m__law_bag
theorem ok__law_bag {f : Addr} {fd : FuncData} (fa : Fa K w mg base)  (F : Fun K "_law_bag" "_law_bag" s__law_bag f fd) : FnG P w K mg base CX0 1 f fd ["_law_script"] (spP K 1 f__law_bag) := by
  have nd := sc__law_bag.nd
  unfold f__law_bag
  refine fnP_ok (k := 0) (m := m__law_bag) F sc__law_bag rfl rfl fun cdv A outer s H E g hgd hr hB0 hW hWn hxc => ?_
  have hB := nb00 hB0
  unfold m__law_bag
  exact (ds_one (ds_ret (do_lst (da_cons de_int (da_cons de_int (da_cons de_int (da_cons (DO.fz (do_lc (own := [("_law_cell", 1)]) (ks := [1]) rfl nd (di_any (de_slice (db_var 0 (pv 0)) dpo_none (dpo_some de_int))) (blkOk_by (N := n__law_bag) (sc := s__law_bag_sc) (by decide +kernel)) rfl (nbs hB (by decide)) (by decide) (fun _ _ _ _ _ g1 e1 => (dg_name (i := 1) (nb (nbt e1 hB) 1 (by decide)) nd)) (fun _ _ _ _ _ g1 e1 => pts_nilD) (fun _ _ _ _ _ g1 e1 => (de_callB cd_abs fa.b_abs (dbs_cons (db_var 1 (pv 1)) dbs_nil))))) da_nil)))))))
theorem has__law_bag (fa : Fa K w mg base)  (F : FnAt K mg "_law_bag" s__law_bag) : HasP P w K mg base 1 "_law_bag" 1 f__law_bag := by
  obtain ⟨f, fd, F, hm⟩ := F
  exact ⟨f, fd, ["_law_script"], ok__law_bag fa  F, hm, F.kp, F.binds fun _ _ _ _ _ _ us hl => match us, hl with | [_], _ => rfl⟩
abbrev s__law_take : Stmt := topS 21
abbrev n__law_take : List Str := ["_law_bag_here", "_law_many", "_law_cell", "_law_mixed", "_law_value", "_law_begin", "_law_second"]
theorem sc__law_take : FnScope n__law_take ["_law_bag_here", "_law_many"] (defScope s__law_take) := ⟨rfl, rfl, rfl, by decide +kernel, rfl, by decide +kernel, by decide +kernel⟩
def m__law_take : En → SRs :=
    (seqS (ifS (toB (op2 (.ex (op2 (.va 0) (.ex (cD (.int 0))) semAt)) (.ex (cD (.int 0))) semEq)) (seqS (setS 2 (shD (op2 (.ex (op2 (.ex (slD (.ex (op2 (.va 0) (.ex (cD (.int 3))) semAt)) (poS (op2 (.va 0) (.ex (cD (.int 2))) semAt)) poN semSl)) (.ex (frzD (lstD [(cD (.int 0))]))) semAdd)) (.ex (cD (.int 0))) semAt)))
    (seqS (augS 0 2 1)
    (seqS (ifS (toB (op2 (.va 2) (.ex (cD (.int 1000000000000000000))) semGe)) (putS 0 (cD (.int 0)) (vD 2)) nxS)
    (seqS (setS 3 (shD (op2 (.ex (op2 (.ex (op2 (.ex (op2 (.va 0) (.ex (cD (.int 1))) semAt)) (.ex (cD (.int 48271))) semMul)) (.ex (op2 (.ex (opN [(.va 2)] semInt)) (.ex (cD (.int 2147483647))) semMod)) semAdd)) (.ex (op2 (.ex (cD (.int 7919))) (.ex (op2 (.va 0) (.ex (cD (.int 2))) semAt)) semMul)) semAdd)))
    (putS 0 (cD (.int 1)) (op2 (.ex (opN [(.va 3)] semInt)) (.ex (cD (.int 2147483647))) semMod)))))) nxS)
    (seqS (ifS (toB (op2 (.ex (op2 (.va 0) (.ex (cD (.int 0))) semAt)) (.ex (cD (.int 0))) semGt)) (seqS (setS 4 (shD (op2 (.ex (opN [(.ex (op2 (.va 0) (.ex (cD (.int 0))) semAt))] semInt)) (.va 1) semMod)))
    (seqS (putS 0 (cD (.int 0)) (op2 (.ex (op2 (.va 0) (.ex (cD (.int 0))) semAt)) (.va 1) semFdiv))
    (rtS (mvD 4)))) nxS)
    (seqS (setS 5 (shD (op2 (.ex (opN [(.ex (op2 (.ex (op2 (.ex (op2 (.va 0) (.ex (cD (.int 1))) semAt)) (.ex (cD (.int 1))) semAdd)) (.ex (cD (.int 39373))) semMul))] semInt)) (.ex (cD (.int 1000000007))) semMod)))
    (seqS (setS 6 (shD (op2 (.ex (opN [(.ex (op2 (.ex (op2 (.ex (opN [(.ex (op2 (.va 5) (.va 5) semMul))] semInt)) (.ex (cD (.int 998244353))) semMod)) (.ex (cD (.int 30011))) semMul))] semInt)) (.ex (cD (.int 998244353))) semMod)))
    (rtS (shD (op2 (.ex (opN [(.ex (op2 (.va 6) (.ex (cD (.int 7))) semFdiv))] semInt)) (.va 1) semMod)))))))
def f__law_take : List D → List D → Option (OV × List D) := fnB 7 m__law_take
theorem ok__law_take {f : Addr} {fd : FuncData} (fa : Fa K w mg base)  (F : Fun K "_law_take" "_law_take" s__law_take f fd) : FnG P w K mg base CX0 1 f fd ["_law_bag_here", "_law_many"] (spB K 1 f__law_take) := by
  have nd := sc__law_take.nd
  unfold f__law_take
  refine fnB_ok (k := 0) (m := m__law_take) F sc__law_take rfl rfl fun cdv A outer s H E g hgd hr hB hW hWn hxc => ?_
  unfold m__law_take
  exact (ds_cons (ds_if (dt_cmp (opd_eq hr.units) (DE.opd (de_ix (ixAt (u65 hr)) (db_var 0 (pv 0)) (DE.opd de_int) (fun _ _ => rfl))) (DE.opd de_int) (nomark _)) (ds_cons (ds_set (i := 2) (nb hB 2 (by decide)) nd (DE.shd (de_ix (ixAt (u65 hr)) (DE.opd (de_op opd_add (DE.opd (de_slice (DE.opd (de_ix (ixAt (u65 hr)) (db_var 0 (pv 0)) (DE.opd de_int) (fun _ _ => rfl))) (dpo_some (de_ix (ixAt (u65 hr)) (db_var 0 (pv 0)) (DE.opd de_int) (fun _ _ => rfl))) dpo_none)) (DE.opd (DO.fz (do_lst (da_cons de_int da_nil)))))) (DE.opd de_int) (fun _ _ => rfl))))
    (ds_cons (ds_augI (i := 0) (pv 0))
    (ds_cons (ds_if (dt_cmp opd_ge (db_var 2 (pv 2)) (DE.opd de_int) (nomark _)) (ds_one (ds_put (i := 0) (pv 0) de_int (de_var 2 (nb hB 2 (by decide)) (pv 2)))) ds_nil)
    (ds_cons (ds_set (i := 3) (nb hB 3 (by decide)) nd (DE.shd (de_op opd_add (DE.opd (de_op opd_add (DE.opd (de_op opd_mul (DE.opd (de_ix (ixAt (u65 hr)) (db_var 0 (pv 0)) (DE.opd de_int) (fun _ _ => rfl))) (DE.opd de_int))) (DE.opd (de_op opd_mod (DE.opd (de_callT cd_int fa.b_int (dbs_cons (db_var 2 (pv 2)) dbs_nil))) (DE.opd de_int))))) (DE.opd (de_op opd_mul (DE.opd de_int) (DE.opd (de_ix (ixAt (u65 hr)) (db_var 0 (pv 0)) (DE.opd de_int) (fun _ _ => rfl))))))))
    (ds_one (ds_put (i := 0) (pv 0) de_int (de_op opd_mod (DE.opd (de_callT cd_int fa.b_int (dbs_cons (db_var 3 (pv 3)) dbs_nil))) (DE.opd de_int)))))))) ds_nil)
    (ds_cons (ds_if (dt_cmp opd_gt (DE.opd (de_ix (ixAt (u65 hr)) (db_var 0 (pv 0)) (DE.opd de_int) (fun _ _ => rfl))) (DE.opd de_int) (nomark _)) (ds_cons (ds_set (i := 4) (nb hB 4 (by decide)) nd (DE.shd (de_op opd_mod (DE.opd (de_callT cd_int fa.b_int (dbs_cons (DE.opd (de_ix (ixAt (u65 hr)) (db_var 0 (pv 0)) (DE.opd de_int) (fun _ _ => rfl))) dbs_nil))) (db_var 1 (pv 1)))))
    (ds_cons (ds_put (i := 0) (pv 0) de_int (de_op opd_fdiv (DE.opd (de_ix (ixAt (u65 hr)) (db_var 0 (pv 0)) (DE.opd de_int) (fun _ _ => rfl))) (db_var 1 (pv 1))))
    (ds_one (ds_ret (do_var 4 (nb hB 4 (by decide)) (pv 4)))))) ds_nil)
    (ds_cons (ds_set (i := 5) (nb hB 5 (by decide)) nd (DE.shd (de_op opd_mod (DE.opd (de_callT cd_int fa.b_int (dbs_cons (DE.opd (de_op opd_mul (DE.opd (de_op opd_add (DE.opd (de_ix (ixAt (u65 hr)) (db_var 0 (pv 0)) (DE.opd de_int) (fun _ _ => rfl))) (DE.opd de_int))) (DE.opd de_int))) dbs_nil))) (DE.opd de_int))))
    (ds_cons (ds_set (i := 6) (nb hB 6 (by decide)) nd (DE.shd (de_op opd_mod (DE.opd (de_callT cd_int fa.b_int (dbs_cons (DE.opd (de_op opd_mul (DE.opd (de_op opd_mod (DE.opd (de_callT cd_int fa.b_int (dbs_cons (DE.opd (de_op opd_mul (db_var 5 (pv 5)) (db_var 5 (pv 5)))) dbs_nil))) (DE.opd de_int))) (DE.opd de_int))) dbs_nil))) (DE.opd de_int))))
    (ds_one (ds_ret (DE.shd (de_op opd_mod (DE.opd (de_callT cd_int fa.b_int (dbs_cons (DE.opd (de_op opd_fdiv (db_var 6 (pv 6)) (DE.opd de_int))) dbs_nil))) (db_var 1 (pv 1))))))))))
theorem has__law_take (fa : Fa K w mg base)  (F : FnAt K mg "_law_take" s__law_take) : HasB P w K mg base 1 "_law_take" 1 f__law_take := by
  obtain ⟨f, fd, F, hm⟩ := F
  exact ⟨f, fd, ["_law_bag_here", "_law_many"], ok__law_take fa  F, hm, F.kp, F.binds fun _ _ _ _ _ _ us hl => match us, hl with | [_, _], _ => rfl⟩
abbrev s__law_names : Stmt := topS 24
abbrev s__law_names_sc : Scope := defScope s__law_names
abbrev n__law_names : List Str := ["_law_bag_here", "_law_many", "_law_letters", "_law_found", "_law_words", "_law_k", "_law_signs", "_law_spin", "_law_at", "_law_rest", "_law_some_here", "_law_one"]
theorem sc__law_names : FnScope n__law_names ["_law_bag_here", "_law_many"] (defScope s__law_names) := ⟨rfl, rfl, rfl, by decide +kernel, rfl, by decide +kernel, by decide +kernel⟩
abbrev it__law_names_1 : En → Rs (List D) := (rg1 (op2 (.ex (frzD (lstD [(cD (.int 1)), (cD (.int 2)), (cD (.int 8)), (cD (.int 4))]))) (.ex (frzD (callB 1 f__law_take 0 [(cD (.int 4))]))) semAt))
abbrev el__law_names_1 : En → Rs D := (op2 (.va 2) (.ex (frzD (callB 1 f__law_take 0 [(cD (.int 26))]))) semAt)
abbrev lc__law_names_1 : En → Rs OV := lcD it__law_names_1 [7] (gN 7) yesT el__law_names_1
abbrev it__law_names_2 : En → Rs (List D) := (itA (op2 (.ex (slD (.va 2) (poS (vD 8)) poN semSl)) (.ex (slD (.va 2) poN (poS (vD 8)) semSl)) semAdd))
abbrev el__law_names_2 : En → Rs D := (op2 (.va 11) (.va 9) semAdd)
abbrev lc__law_names_2 : En → Rs OV := lcD it__law_names_2 [11] (gN 11) yesT el__law_names_2
abbrev it__law_names_3 : En → Rs (List D) := (itA (vD 10))
abbrev ts__law_names_1 : En → Rs Bool := (toB (op2 (.va 11) (.va 3) semNotIn2))
abbrev el__law_names_3 : En → Rs D := (vD 11)
abbrev lc__law_names_3 : En → Rs OV := lcD it__law_names_3 [11] (gN 11) ts__law_names_1 el__law_names_3
abbrev it__law_names_4 : En → Rs (List D) := (rg1 (vD 1))
abbrev bd__law_names_1 : En → SRs := (seqS (setS 6 (shD (frzD lc__law_names_1)))
    (seqS (par2 8 9 (m1D (.va 2) (.ex (op2 (.va 6) (.ex (cD (.int 0))) semAt)) semSIndex) (shD (m1D (.ex (cD (.str ""))) (.ex (slD (.va 6) (poS (cD (.int 1))) poN semSl)) semJoin)))
    (seqS (setS 10 (shD (op2 (.ex (op2 (.ex (slD (.va 4) (poS (vD 8)) poN semSl)) (.ex (opN [(.ex (op2 (.ex (frzD (callB 1 f__law_take 0 [(cD (.int 8))]))) (.ex (cD (.int 0))) semEq))] semInt)) semMul)) (.ex (frzD lc__law_names_2)) semAdd)))
    (appS 3 (op2 (.ex (frzD lc__law_names_3)) (.ex (cD (.int 0))) semAt)))))
abbrev fr__law_names_1 : En → SRs := forD it__law_names_4 (gN 5) bd__law_names_1
def m__law_names : En → SRs :=
    (seqS (par2 2 3 (cD (.str "abcdefghijklmnopqrstuvwxyz")) (lstD []))
    (seqS (setS 4 (shD (m1D (.ex (cD (.str "at as last like all name book goal with turn part drop call copy chain close eq lt gt put"))) (.ex (cD (.str " "))) semSplit)))
    (seqS fr__law_names_1
    (rtS (mvD 3)))))
def f__law_names : List D → List D → Option (OV × List D) := fnB 12 m__law_names
theorem ok__law_names {f : Addr} {fd : FuncData} (fa : Fa K w mg base) (h__law_take : HasB P w K mg base 1 "_law_take" 1 f__law_take) (F : Fun K "_law_names" "_law_names" s__law_names f fd) : FnG P w K mg base CX0 2 f fd ["_law_bag_here", "_law_many"] (spB K 1 f__law_names) := by
  have nd := sc__law_names.nd
  unfold f__law_names
  refine fnB_ok (k := 1) (m := m__law_names) F sc__law_names rfl rfl fun cdv A outer s H E g hgd hr hB hW hWn hxc => ?_
  unfold m__law_names
  exact (ds_cons (ds_tup2 (i := 2) (j := 3) (nb hB 2 (by decide)) (nb hB 3 (by decide)) nd rfl  de_str (do_lst da_nil))
    (ds_cons (ds_set (i := 4) (nb hB 4 (by decide)) nd (DE.shd (de_m1 PySem.F.slot_str_split PySem.F.type_str_split md_split (DE.opd de_str) (DE.opd de_str))))
    (ds_cons (ds_for PassesOwn.never rfl (di_range1 rfl fa.b_range (de_var 1 (nb hB 1 (by decide)) (pv 1))) (dg_name (i := 5) (nb hB 5 (by decide)) nd) (ds_cons (ds_fz (nb hB 6 (by decide)) lc_nod (ds_setLc (i := 6) (nb hB 6 (by decide)) (own := [("_law_spin", 7)]) (ks := [7]) rfl nd (di_range1 rfl fa.b_range (de_ix (ixAt (u65 hr)) (DE.opd (DO.fz (do_lst (da_cons de_int (da_cons de_int (da_cons de_int (da_cons de_int da_nil))))))) (DE.opd (DO.fz (do_callB h__law_take hgd (hr.mono (by decide)) (pv 0) (da_cons de_int da_nil)))) (fun _ _ => rfl))) (blkOk_by (N := n__law_names) (sc := s__law_names_sc) (by decide +kernel)) rfl (nbs hB (by decide)) (by decide) (fun _ _ _ _ _ g1 e1 => (dg_name (i := 7) (nb (nbt e1 hB) 7 (by decide)) nd)) (fun _ _ _ _ _ g1 e1 => pts_nilD) (fun _ _ _ _ _ g1 e1 => (de_ix (ixAt (u65 hr)) (db_var 2 (pv 2)) (DE.opd (DO.fz (do_callB h__law_take hgd (hr.mono (by decide)) (pv 0) (da_cons de_int da_nil)))) (fun _ _ => rfl))) (sw_true rfl rfl rfl (by decide +kernel))))
    (ds_cons (ds_tup2 (i := 8) (j := 9) (nb hB 8 (by decide)) (nb hB 9 (by decide)) nd rfl  (de_m1 PySem.F.slot_str_index PySem.F.type_str_index md_sindex (db_var 2 (pv 2)) (DE.opd (de_ix (ixAt (u65 hr)) (db_var 6 (pv 6)) (DE.opd de_int) (fun _ _ => rfl)))) (DE.shd (de_m1 PySem.F.slot_str_join PySem.F.type_str_join md_join (DE.opd de_str) (DE.opd (de_slice (db_var 6 (pv 6)) (dpo_some de_int) dpo_none)))))
    (ds_cons (ds_set (i := 10) (nb hB 10 (by decide)) nd (DE.shd (de_op opd_add (DE.opd (de_op opd_mul (DE.opd (de_slice (db_var 4 (pv 4)) (dpo_some (de_var 8 (nb hB 8 (by decide)) (pv 8))) dpo_none)) (DE.opd (de_callT cd_int fa.b_int (dbs_cons (DE.opd (de_cmp (opd_eq hr.units) (DE.opd (DO.fz (do_callB h__law_take hgd (hr.mono (by decide)) (pv 0) (da_cons de_int da_nil)))) (DE.opd de_int) (nomark _))) dbs_nil))))) (DE.opd (DO.fz (do_lc (own := [("_law_one", 11)]) (ks := [11]) rfl nd (di_any (de_op opd_add (DE.opd (de_slice (db_var 2 (pv 2)) (dpo_some (de_var 8 (nb hB 8 (by decide)) (pv 8))) dpo_none)) (DE.opd (de_slice (db_var 2 (pv 2)) dpo_none (dpo_some (de_var 8 (nb hB 8 (by decide)) (pv 8))))))) (blkOk_by (N := n__law_names) (sc := s__law_names_sc) (by decide +kernel)) rfl (nbs hB (by decide)) (by decide) (fun _ _ _ _ _ g1 e1 => (dg_name (i := 11) (nb (nbt e1 hB) 11 (by decide)) nd)) (fun _ _ _ _ _ g1 e1 => pts_nilD) (fun _ _ _ _ _ g1 e1 => (de_op opd_add (db_var 11 (pv 11)) (db_var 9 (pv 9))))))))))
    (ds_one (ds_append (i := 3) (pv 3) (de_ix (ixAt (u65 hr)) (DE.opd (DO.fz (do_lc (own := [("_law_one", 11)]) (ks := [11]) rfl nd (di_any (de_var 10 (nb hB 10 (by decide)) (pv 10))) (blkOk_by (N := n__law_names) (sc := s__law_names_sc) (by decide +kernel)) rfl (nbs hB (by decide)) (by decide) (fun _ _ _ _ _ g1 e1 => (dg_name (i := 11) (nb (nbt e1 hB) 11 (by decide)) nd)) (fun _ _ _ _ _ g1 e1 => (pts_oneD (dt_cmp (opd_notIn2 (u65 hr)) (db_var 11 (pv 11)) (db_var 3 (pv 3)) rfl))) (fun _ _ _ _ _ g1 e1 => (de_var 11 (nb (nbt e1 hB) 11 (by decide)) (pv 11)))))) (DE.opd de_int) (fun _ _ => rfl))))))))
    (ds_one (ds_ret (do_var 3 (nb hB 3 (by decide)) (pv 3)))))))
theorem has__law_names (fa : Fa K w mg base) (h__law_take : HasB P w K mg base 1 "_law_take" 1 f__law_take) (F : FnAt K mg "_law_names" s__law_names) : HasB P w K mg base 2 "_law_names" 1 f__law_names := by
  obtain ⟨f, fd, F, hm⟩ := F
  exact ⟨f, fd, ["_law_bag_here", "_law_many"], ok__law_names fa h__law_take F, hm, F.kp, F.binds fun _ _ _ _ _ _ us hl => match us, hl with | [_, _], _ => rfl⟩
abbrev s__law_world : Stmt := topS 25
abbrev n__law_world : List Str := ["_law_bag_here"]
theorem sc__law_world : FnScope n__law_world ["_law_bag_here"] (defScope s__law_world) := ⟨rfl, rfl, rfl, by decide +kernel, rfl, by decide +kernel, by decide +kernel⟩
def m__law_world : En → SRs :=
    (rtS (shD (dicD [((cD (.str "names")), (frzD (callB 1 f__law_names 0 [(cD (.int 3))]))), ((cD (.str "things")), (frzD (callB 1 f__law_names 0 [(op2 (.ex (cD (.int 2))) (.ex (frzD (callB 1 f__law_take 0 [(cD (.int 3))]))) semAdd)])))])))
def f__law_world : List D → List D → Option (OV × List D) := fnB 1 m__law_world
theorem ok__law_world {f : Addr} {fd : FuncData} (fa : Fa K w mg base) (h__law_names : HasB P w K mg base 2 "_law_names" 1 f__law_names) (h__law_take : HasB P w K mg base 1 "_law_take" 1 f__law_take) (F : Fun K "_law_world" "_law_world" s__law_world f fd) : FnG P w K mg base CX0 3 f fd ["_law_bag_here"] (spB K 0 f__law_world) := by
  have nd := sc__law_world.nd
  unfold f__law_world
  refine fnB_ok (k := 2) (m := m__law_world) F sc__law_world rfl rfl fun cdv A outer s H E g hgd hr hB hW hWn hxc => ?_
  unfold m__law_world
  exact (ds_one (ds_ret (DE.shd (de_disp (dps_cons (fun g1 e1 => de_str) (fun g1 e1 => (DO.fz (do_callB h__law_names hgd (hr.mono (by decide)) (pv 0) (da_cons de_int da_nil)))) (dps_cons (fun g1 e1 => de_str) (fun g1 e1 => (DO.fz (do_callB h__law_names hgd (hr.mono (by decide)) (pv 0) (da_cons (de_op opd_add (DE.opd de_int) (DE.opd (DO.fz (do_callB h__law_take hgd (hr.mono (by decide)) (pv 0) (da_cons de_int da_nil))))) da_nil)))) dps_nil))))))
theorem has__law_world (fa : Fa K w mg base) (h__law_names : HasB P w K mg base 2 "_law_names" 1 f__law_names) (h__law_take : HasB P w K mg base 1 "_law_take" 1 f__law_take) (F : FnAt K mg "_law_world" s__law_world) : HasB P w K mg base 3 "_law_world" 0 f__law_world := by
  obtain ⟨f, fd, F, hm⟩ := F
  exact ⟨f, fd, ["_law_bag_here"], ok__law_world fa h__law_names h__law_take F, hm, F.kp, F.binds fun _ _ _ _ _ _ us hl => match us, hl with | [_], _ => rfl⟩
abbrev s_is_name : Stmt := topS 6
abbrev s_is_name_sc : Scope := defScope s_is_name
abbrev n_is_name : List Str := ["thing", "sign"]
theorem sc_is_name : FnScope n_is_name ["thing"] (defScope s_is_name) := ⟨rfl, rfl, rfl, by decide +kernel, rfl, by decide +kernel, by decide +kernel⟩
abbrev it_is_name_1 : En → Rs (List D) := (itA (vD 0))
abbrev el_is_name_1 : En → Rs D := (op2 (.va 1) (.ex (cD c_LETTERS)) semIn2)
abbrev lc_is_name_1 : En → Rs OV := lcD it_is_name_1 [1] (gN 1) yesT el_is_name_1
def m_is_name : En → SRs :=
    (seqS (ifS (orT (notT (toB (isiD (.va 0) ["str"]))) (notT (toB (chD (.ex (cD (.int 1))) (.ex (opN [(.va 0)] semLen)) (.ex (cD c_MOST_LETTERS)) semLe semLe)))) (rtS (shD (cD (.bl false)))) nxS)
    (rtS (shD (opN [(.ex (frzD lc_is_name_1))] semAll))))
def f_is_name : List D → Option OV := fnP 2 m_is_name
theorem ok_is_name {f : Addr} {fd : FuncData} (fa : Fa K w mg base)  (F : Fun K "is_name" "is_name" s_is_name f fd) : FnG P w K mg base CX0 1 f fd ["thing"] (spP K 1 f_is_name) := by
  have nd := sc_is_name.nd
  unfold f_is_name
  refine fnP_ok (k := 0) (m := m_is_name) F sc_is_name rfl rfl fun cdv A outer s H E g hgd hr hB0 hW hWn hxc => ?_
  have hB := nb00 hB0
  unfold m_is_name
  exact (ds_cons (ds_if (DW.dt (dw_or (dt_not (dt_val (de_isi1 (T := "str") (by decide) fa.b_isinstance fa.b_str (db_var 0 (pv 0))))) (dw_or1 (dt_not (dt_chain opd_le opd_le (DE.opd de_int) (DE.opd (de_callB cd_len fa.b_len (dbs_cons (db_var 0 (pv 0)) dbs_nil))) (DE.opd (de_glob fa.m_MOST_LETTERS fa.r_MOST_LETTERS fa.d_MOST_LETTERS))))))) (ds_one (ds_ret (DE.shd de_bl))) ds_nil)
    (ds_one (ds_ret (DE.shd (de_callB (cd_all rfl) fa.b_all (dbs_cons (DE.opd (DO.fz (do_lc (own := [("sign", 1)]) (ks := [1]) rfl nd (di_any (de_var 0 (nb hB 0 (by decide)) (pv 0))) (blkOk_by (N := n_is_name) (sc := s_is_name_sc) (by decide +kernel)) rfl (nbs hB (by decide)) (by decide) (fun _ _ _ _ _ g1 e1 => (dg_name (i := 1) (nb (nbt e1 hB) 1 (by decide)) nd)) (fun _ _ _ _ _ g1 e1 => pts_nilD) (fun _ _ _ _ _ g1 e1 => (de_cmp (opd_in2 (u65 hr)) (db_var 1 (pv 1)) (DE.opd (de_glob fa.m_LETTERS fa.r_LETTERS fa.d_LETTERS)) rfl))))) dbs_nil))))))
theorem has_is_name (fa : Fa K w mg base)  (F : FnAt K mg "is_name" s_is_name) : HasP P w K mg base 1 "is_name" 1 f_is_name := by
  obtain ⟨f, fd, F, hm⟩ := F
  exact ⟨f, fd, ["thing"], ok_is_name fa  F, hm, F.kp, F.binds fun _ _ _ _ _ _ us hl => match us, hl with | [_], _ => rfl⟩
abbrev s_is_relation : Stmt := topS 7
abbrev n_is_relation : List Str := ["thing"]
theorem sc_is_relation : FnScope n_is_relation ["thing"] (defScope s_is_relation) := ⟨rfl, rfl, rfl, by decide +kernel, rfl, by decide +kernel, by decide +kernel⟩
def m_is_relation : En → SRs :=
    (rtS (shD (andD (isiD (.va 0) ["str"]) (op2 (.va 0) (.ex (cD c_RELATIONS)) semIn2))))
def f_is_relation : List D → Option OV := fnP 1 m_is_relation
theorem ok_is_relation {f : Addr} {fd : FuncData} (fa : Fa K w mg base)  (F : Fun K "is_relation" "is_relation" s_is_relation f fd) : FnG P w K mg base CX0 1 f fd ["thing"] (spP K 1 f_is_relation) := by
  have nd := sc_is_relation.nd
  unfold f_is_relation
  refine fnP_ok (k := 0) (m := m_is_relation) F sc_is_relation rfl rfl fun cdv A outer s H E g hgd hr hB0 hW hWn hxc => ?_
  have hB := nb00 hB0
  unfold m_is_relation
  exact (ds_one (ds_ret (DE.shd (de_and (de_isi1 (T := "str") (by decide) fa.b_isinstance fa.b_str (db_var 0 (pv 0))) (de_one (de_cmp (opd_in2 (u65 hr)) (db_var 0 (pv 0)) (DE.opd (de_glob fa.m_RELATIONS fa.r_RELATIONS fa.d_RELATIONS)) rfl))))))
theorem has_is_relation (fa : Fa K w mg base)  (F : FnAt K mg "is_relation" s_is_relation) : HasP P w K mg base 1 "is_relation" 1 f_is_relation := by
  obtain ⟨f, fd, F, hm⟩ := F
  exact ⟨f, fd, ["thing"], ok_is_relation fa  F, hm, F.kp, F.binds fun _ _ _ _ _ _ us hl => match us, hl with | [_], _ => rfl⟩
abbrev s_is_atom : Stmt := topS 9
abbrev n_is_atom : List Str := ["thing"]
theorem sc_is_atom : FnScope n_is_atom ["thing"] (defScope s_is_atom) := ⟨rfl, rfl, rfl, by decide +kernel, rfl, by decide +kernel, by decide +kernel⟩
def m_is_atom : En → SRs :=
    (seqS (ifS (orT (notT (toB (isiD (.va 0) ["tuple"]))) (toB (op2 (.ex (opN [(.va 0)] semLen)) (.ex (cD (.int 3))) semNe))) (rtS (shD (cD (.bl false)))) nxS)
    (rtS (shD (andD (frzD (callP 1 f_is_relation [(op2 (.va 0) (.ex (cD (.int 0))) semAt)])) (andD (frzD (callP 1 f_is_name [(op2 (.va 0) (.ex (cD (.int 1))) semAt)])) (frzD (callP 1 f_is_name [(op2 (.va 0) (.ex (cD (.int 2))) semAt)])))))))
def f_is_atom : List D → Option OV := fnP 1 m_is_atom
theorem ok_is_atom {f : Addr} {fd : FuncData} (fa : Fa K w mg base) (h_is_name : HasP P w K mg base 1 "is_name" 1 f_is_name) (h_is_relation : HasP P w K mg base 1 "is_relation" 1 f_is_relation) (F : Fun K "is_atom" "is_atom" s_is_atom f fd) : FnG P w K mg base CX0 2 f fd ["thing"] (spP K 1 f_is_atom) := by
  have nd := sc_is_atom.nd
  unfold f_is_atom
  refine fnP_ok (k := 1) (m := m_is_atom) F sc_is_atom rfl rfl fun cdv A outer s H E g hgd hr hB0 hW hWn hxc => ?_
  have hB := nb00 hB0
  unfold m_is_atom
  exact (ds_cons (ds_if (DW.dt (dw_or (dt_not (dt_val (de_isi1 (T := "tuple") (by decide) fa.b_isinstance fa.b_tuple (db_var 0 (pv 0))))) (dw_or1 (dt_cmp (opd_ne hr.units) (DE.opd (de_callB cd_len fa.b_len (dbs_cons (db_var 0 (pv 0)) dbs_nil))) (DE.opd de_int) (nomark _))))) (ds_one (ds_ret (DE.shd de_bl))) ds_nil)
    (ds_one (ds_ret (DE.shd (de_and (DO.fz (do_callP h_is_relation hgd (hr.mono (by decide)) (da_cons (de_ix (ixAt (u65 hr)) (db_var 0 (pv 0)) (DE.opd de_int) (fun _ _ => rfl)) da_nil))) (de_and (DO.fz (do_callP h_is_name hgd (hr.mono (by decide)) (da_cons (de_ix (ixAt (u65 hr)) (db_var 0 (pv 0)) (DE.opd de_int) (fun _ _ => rfl)) da_nil))) (de_one (DO.fz (do_callP h_is_name hgd (hr.mono (by decide)) (da_cons (de_ix (ixAt (u65 hr)) (db_var 0 (pv 0)) (DE.opd de_int) (fun _ _ => rfl)) da_nil))))))))))
theorem has_is_atom (fa : Fa K w mg base) (h_is_name : HasP P w K mg base 1 "is_name" 1 f_is_name) (h_is_relation : HasP P w K mg base 1 "is_relation" 1 f_is_relation) (F : FnAt K mg "is_atom" s_is_atom) : HasP P w K mg base 2 "is_atom" 1 f_is_atom := by
  obtain ⟨f, fd, F, hm⟩ := F
  exact ⟨f, fd, ["thing"], ok_is_atom fa h_is_name h_is_relation F, hm, F.kp, F.binds fun _ _ _ _ _ _ us hl => match us, hl with | [_], _ => rfl⟩
abbrev s_is_fact : Stmt := topS 10
abbrev s_is_fact_sc : Scope := defScope s_is_fact
abbrev n_is_fact : List Str := ["thing", "atom"]
theorem sc_is_fact : FnScope n_is_fact ["thing"] (defScope s_is_fact) := ⟨rfl, rfl, rfl, by decide +kernel, rfl, by decide +kernel, by decide +kernel⟩
abbrev it_is_fact_1 : En → Rs (List D) := (itA (vD 0))
abbrev el_is_fact_1 : En → Rs D := (frzD (callP 1 f_is_atom [(vD 1)]))
abbrev lc_is_fact_1 : En → Rs OV := lcD it_is_fact_1 [1] (gN 1) yesT el_is_fact_1
def m_is_fact : En → SRs :=
    (rtS (shD (andD (isiD (.va 0) ["tuple"]) (andD (chD (.ex (cD (.int 1))) (.ex (opN [(.va 0)] semLen)) (.ex (cD (.int 2))) semLe semLe) (opN [(.ex (frzD lc_is_fact_1))] semAll)))))
def f_is_fact : List D → Option OV := fnP 2 m_is_fact
theorem ok_is_fact {f : Addr} {fd : FuncData} (fa : Fa K w mg base) (h_is_atom : HasP P w K mg base 2 "is_atom" 1 f_is_atom) (F : Fun K "is_fact" "is_fact" s_is_fact f fd) : FnG P w K mg base CX0 3 f fd ["thing"] (spP K 1 f_is_fact) := by
  have nd := sc_is_fact.nd
  unfold f_is_fact
  refine fnP_ok (k := 2) (m := m_is_fact) F sc_is_fact rfl rfl fun cdv A outer s H E g hgd hr hB0 hW hWn hxc => ?_
  have hB := nb00 hB0
  unfold m_is_fact
  exact (ds_one (ds_ret (DE.shd (de_and (de_isi1 (T := "tuple") (by decide) fa.b_isinstance fa.b_tuple (db_var 0 (pv 0))) (de_and (de_chain opd_le opd_le (DE.opd de_int) (DE.opd (de_callB cd_len fa.b_len (dbs_cons (db_var 0 (pv 0)) dbs_nil))) (DE.opd de_int)) (de_one (de_callB (cd_all rfl) fa.b_all (dbs_cons (DE.opd (DO.fz (do_lc (own := [("atom", 1)]) (ks := [1]) rfl nd (di_any (de_var 0 (nb hB 0 (by decide)) (pv 0))) (blkOk_by (N := n_is_fact) (sc := s_is_fact_sc) (by decide +kernel)) rfl (nbs hB (by decide)) (by decide) (fun _ _ _ _ _ g1 e1 => (dg_name (i := 1) (nb (nbt e1 hB) 1 (by decide)) nd)) (fun _ _ _ _ _ g1 e1 => pts_nilD) (fun _ _ _ _ _ g1 e1 => (DO.fz (do_callP h_is_atom hgd (hr.mono (by decide)) (da_cons (de_var 1 (nb (nbt e1 hB) 1 (by decide)) (pv 1)) da_nil))))))) dbs_nil))))))))
theorem has_is_fact (fa : Fa K w mg base) (h_is_atom : HasP P w K mg base 2 "is_atom" 1 f_is_atom) (F : FnAt K mg "is_fact" s_is_fact) : HasP P w K mg base 3 "is_fact" 1 f_is_fact := by
  obtain ⟨f, fd, F, hm⟩ := F
  exact ⟨f, fd, ["thing"], ok_is_fact fa h_is_atom F, hm, F.kp, F.binds fun _ _ _ _ _ _ us hl => match us, hl with | [_], _ => rfl⟩
abbrev s_is_row : Stmt := topS 11
abbrev n_is_row : List Str := ["thing"]
theorem sc_is_row : FnScope n_is_row ["thing"] (defScope s_is_row) := ⟨rfl, rfl, rfl, by decide +kernel, rfl, by decide +kernel, by decide +kernel⟩
def m_is_row : En → SRs :=
    (rtS (shD (andD (isiD (.va 0) ["tuple"]) (andD (op2 (.ex (opN [(.va 0)] semLen)) (.ex (cD (.int 2))) semEq) (andD (frzD (callP 1 f_is_name [(op2 (.va 0) (.ex (cD (.int 0))) semAt)])) (frzD (callP 1 f_is_fact [(op2 (.va 0) (.ex (cD (.int 1))) semAt)])))))))
def f_is_row : List D → Option OV := fnP 1 m_is_row
theorem ok_is_row {f : Addr} {fd : FuncData} (fa : Fa K w mg base) (h_is_fact : HasP P w K mg base 3 "is_fact" 1 f_is_fact) (h_is_name : HasP P w K mg base 1 "is_name" 1 f_is_name) (F : Fun K "is_row" "is_row" s_is_row f fd) : FnG P w K mg base CX0 4 f fd ["thing"] (spP K 1 f_is_row) := by
  have nd := sc_is_row.nd
  unfold f_is_row
  refine fnP_ok (k := 3) (m := m_is_row) F sc_is_row rfl rfl fun cdv A outer s H E g hgd hr hB0 hW hWn hxc => ?_
  have hB := nb00 hB0
  unfold m_is_row
  exact (ds_one (ds_ret (DE.shd (de_and (de_isi1 (T := "tuple") (by decide) fa.b_isinstance fa.b_tuple (db_var 0 (pv 0))) (de_and (de_cmp (opd_eq hr.units) (DE.opd (de_callB cd_len fa.b_len (dbs_cons (db_var 0 (pv 0)) dbs_nil))) (DE.opd de_int) (nomark _)) (de_and (DO.fz (do_callP h_is_name hgd (hr.mono (by decide)) (da_cons (de_ix (ixAt (u65 hr)) (db_var 0 (pv 0)) (DE.opd de_int) (fun _ _ => rfl)) da_nil))) (de_one (DO.fz (do_callP h_is_fact hgd (hr.mono (by decide)) (da_cons (de_ix (ixAt (u65 hr)) (db_var 0 (pv 0)) (DE.opd de_int) (fun _ _ => rfl)) da_nil))))))))))
theorem has_is_row (fa : Fa K w mg base) (h_is_fact : HasP P w K mg base 3 "is_fact" 1 f_is_fact) (h_is_name : HasP P w K mg base 1 "is_name" 1 f_is_name) (F : FnAt K mg "is_row" s_is_row) : HasP P w K mg base 4 "is_row" 1 f_is_row := by
  obtain ⟨f, fd, F, hm⟩ := F
  exact ⟨f, fd, ["thing"], ok_is_row fa h_is_fact h_is_name F, hm, F.kp, F.binds fun _ _ _ _ _ _ us hl => match us, hl with | [_], _ => rfl⟩
abbrev s_are_rows : Stmt := topS 17
abbrev s_are_rows_sc : Scope := defScope s_are_rows
abbrev n_are_rows : List Str := ["thing", "row"]
theorem sc_are_rows : FnScope n_are_rows ["thing"] (defScope s_are_rows) := ⟨rfl, rfl, rfl, by decide +kernel, rfl, by decide +kernel, by decide +kernel⟩
abbrev it_are_rows_1 : En → Rs (List D) := (itA (vD 0))
abbrev el_are_rows_1 : En → Rs D := (frzD (callP 1 f_is_row [(vD 1)]))
abbrev lc_are_rows_1 : En → Rs OV := lcD it_are_rows_1 [1] (gN 1) yesT el_are_rows_1
def m_are_rows : En → SRs :=
    (rtS (shD (andD (isiD (.va 0) ["list", "tuple"]) (opN [(.ex (frzD lc_are_rows_1))] semAll))))
def f_are_rows : List D → Option OV := fnP 2 m_are_rows
theorem ok_are_rows {f : Addr} {fd : FuncData} (fa : Fa K w mg base) (h_is_row : HasP P w K mg base 4 "is_row" 1 f_is_row) (F : Fun K "are_rows" "are_rows" s_are_rows f fd) : FnG P w K mg base CX0 5 f fd ["thing"] (spP K 1 f_are_rows) := by
  have nd := sc_are_rows.nd
  unfold f_are_rows
  refine fnP_ok (k := 4) (m := m_are_rows) F sc_are_rows rfl rfl fun cdv A outer s H E g hgd hr hB0 hW hWn hxc => ?_
  have hB := nb00 hB0
  unfold m_are_rows
  exact (ds_one (ds_ret (DE.shd (de_and (de_isiT (Ts := ["list", "tuple"]) (by decide) (by decide) fa.b_isinstance (db_var 0 (pv 0)) (pa_ty (T := "list") fa.b_list (pa_ty (T := "tuple") fa.b_tuple pa_ty0))) (de_one (de_callB (cd_all rfl) fa.b_all (dbs_cons (DE.opd (DO.fz (do_lc (own := [("row", 1)]) (ks := [1]) rfl nd (di_any (de_var 0 (nb hB 0 (by decide)) (pv 0))) (blkOk_by (N := n_are_rows) (sc := s_are_rows_sc) (by decide +kernel)) rfl (nbs hB (by decide)) (by decide) (fun _ _ _ _ _ g1 e1 => (dg_name (i := 1) (nb (nbt e1 hB) 1 (by decide)) nd)) (fun _ _ _ _ _ g1 e1 => pts_nilD) (fun _ _ _ _ _ g1 e1 => (DO.fz (do_callP h_is_row hgd (hr.mono (by decide)) (da_cons (de_var 1 (nb (nbt e1 hB) 1 (by decide)) (pv 1)) da_nil))))))) dbs_nil)))))))
theorem has_are_rows (fa : Fa K w mg base) (h_is_row : HasP P w K mg base 4 "is_row" 1 f_is_row) (F : FnAt K mg "are_rows" s_are_rows) : HasP P w K mg base 5 "are_rows" 1 f_are_rows := by
  obtain ⟨f, fd, F, hm⟩ := F
  exact ⟨f, fd, ["thing"], ok_are_rows fa h_is_row F, hm, F.kp, F.binds fun _ _ _ _ _ _ us hl => match us, hl with | [_], _ => rfl⟩
abbrev s_Start____init__ : Stmt := inClass (topS 18) 0
abbrev n_Start____init__ : List Str := ["self", "goal", "book", "aim"]
theorem sc_Start____init__ : FnScope n_Start____init__ ["self", "goal", "book", "aim"] (defScope s_Start____init__) := ⟨rfl, rfl, rfl, by decide +kernel, rfl, by decide +kernel, by decide +kernel⟩
def m_Start____init__ : En → SRs :=
    (seqS (ifS (notT (toB (frzD (callP 1 f_are_rows [(vD 1)])))) (raiseS "Wrong" "place" (cD (.int 0))) nxS)
    (seqS (ifS (notT (toB (frzD (callP 1 f_are_rows [(vD 2)])))) (raiseS "Wrong" "place" (cD (.int 1))) nxS)
    (seqS (ifS (notT (toB (frzD (callP 1 f_is_atom [(vD 3)])))) (raiseS "Wrong" "place" (cD (.int 2))) nxS)
    (seqS (fldS 0 "Start" "its_rows" (dicD [((cD (.str "goal")), (opN [(.va 1)] semList)), ((cD (.str "book")), (opN [(.va 2)] semList))]))
    (fldS 0 "Start" "its_aim" (vD 3))))))
def f_Start____init__ : List D → FI := fnI 4 "Start" m_Start____init__
theorem ok_Start____init__ {f : Addr} {fd : FuncData} (fa : Fa K w mg base) (h_are_rows : HasP P w K mg base 5 "are_rows" 1 f_are_rows) (h_is_atom : HasP P w K mg base 2 "is_atom" 1 f_is_atom) (h_E_Wrong : HasE P w K mg base "Wrong" "place") (F : Fun K "__init__" "Start.__init__" s_Start____init__ f fd) : FnG P w K mg base (L2.CX P w) 6 f fd ["self", "goal", "book", "aim"] (spI K "Start" 3 f_Start____init__) := by
  have nd := sc_Start____init__.nd
  unfold f_Start____init__
  refine fnI_ok (k := 5) (m := m_Start____init__) F sc_Start____init__ rfl rfl fun cdv A outer s H E g hgd hr hB hW hxc tk po => ?_
  unfold m_Start____init__
  exact (ds_cons (ds_if (dt_not (dt_val (DO.fz (do_callP h_are_rows hgd (hr.mono (by decide)) (da_cons (de_var 1 (nb hB 1 (by decide)) (pv 1)) da_nil))))) (ds_one (ds_raise h_E_Wrong rfl hr (by decide) tk de_int)) ds_nil)
    (ds_cons (ds_if (dt_not (dt_val (DO.fz (do_callP h_are_rows hgd (hr.mono (by decide)) (da_cons (de_var 2 (nb hB 2 (by decide)) (pv 2)) da_nil))))) (ds_one (ds_raise h_E_Wrong rfl hr (by decide) tk de_int)) ds_nil)
    (ds_cons (ds_if (dt_not (dt_val (DO.fz (do_callP h_is_atom hgd (hr.mono (by decide)) (da_cons (de_var 3 (nb hB 3 (by decide)) (pv 3)) da_nil))))) (ds_one (ds_raise h_E_Wrong rfl hr (by decide) tk de_int)) ds_nil)
    (ds_cons (ds_fld fa.fl_Start_its_rows (pv 0) (de_disp (dps_cons (fun g1 e1 => de_str) (fun g1 e1 => (de_callT cd_list fa.b_list (dbs_cons (db_var 1 (pv 1)) dbs_nil))) (dps_cons (fun g1 e1 => de_str) (fun g1 e1 => (de_callT cd_list fa.b_list (dbs_cons (db_var 2 (pv 2)) dbs_nil))) dps_nil))))
    (ds_one (ds_fld fa.fl_Start_its_aim (pv 0) (de_var 3 (nb hB 3 (by decide)) (pv 3))))))))
theorem has_Start____init__ (fa : Fa K w mg base) (h_are_rows : HasP P w K mg base 5 "are_rows" 1 f_are_rows) (h_is_atom : HasP P w K mg base 2 "is_atom" 1 f_is_atom) (h_E_Wrong : HasE P w K mg base "Wrong" "place") (F : InitAt K mg "Start" "Start.__init__" s_Start____init__) : HasI P w K mg base 6 "Start" 3 f_Start____init__ := by
  obtain ⟨C, f, fd, h1, h2, h3, F⟩ := F.ex
  exact ⟨C, f, fd, ["self", "goal", "book", "aim"], ok_Start____init__ fa h_are_rows h_is_atom h_E_Wrong F, h1, h2, h3, F.binds fun _ _ _ _ _ _ us hl => match us, hl with | [_, _, _, _], _ => rfl⟩
abbrev s__law_some : Stmt := topS 23
abbrev n__law_some : List Str := ["_law_bag_here", "_law_things"]
theorem sc__law_some : FnScope n__law_some ["_law_bag_here", "_law_things"] (defScope s__law_some) := ⟨rfl, rfl, rfl, by decide +kernel, rfl, by decide +kernel, by decide +kernel⟩
def m__law_some : En → SRs :=
    (rtS (shD (op2 (.va 1) (.ex (frzD (callB 1 f__law_take 0 [(opN [(.va 1)] semLen)]))) semAt)))
def f__law_some : List D → List D → Option (OV × List D) := fnB 2 m__law_some
theorem ok__law_some {f : Addr} {fd : FuncData} (fa : Fa K w mg base) (h__law_take : HasB P w K mg base 1 "_law_take" 1 f__law_take) (F : Fun K "_law_some" "_law_some" s__law_some f fd) : FnG P w K mg base CX0 2 f fd ["_law_bag_here", "_law_things"] (spB K 1 f__law_some) := by
  have nd := sc__law_some.nd
  unfold f__law_some
  refine fnB_ok (k := 1) (m := m__law_some) F sc__law_some rfl rfl fun cdv A outer s H E g hgd hr hB hW hWn hxc => ?_
  unfold m__law_some
  exact (ds_one (ds_ret (DE.shd (de_ix (ixAt (u65 hr)) (db_var 1 (pv 1)) (DE.opd (DO.fz (do_callB h__law_take hgd (hr.mono (by decide)) (pv 0) (da_cons (de_callB cd_len fa.b_len (dbs_cons (db_var 1 (pv 1)) dbs_nil)) da_nil)))) (fun _ _ => rfl)))))
theorem has__law_some (fa : Fa K w mg base) (h__law_take : HasB P w K mg base 1 "_law_take" 1 f__law_take) (F : FnAt K mg "_law_some" s__law_some) : HasB P w K mg base 2 "_law_some" 1 f__law_some := by
  obtain ⟨f, fd, F, hm⟩ := F
  exact ⟨f, fd, ["_law_bag_here", "_law_things"], ok__law_some fa h__law_take F, hm, F.kp, F.binds fun _ _ _ _ _ _ us hl => match us, hl with | [_, _], _ => rfl⟩
abbrev s__law_atom : Stmt := topS 26
abbrev n__law_atom : List Str := ["_law_bag_here", "_law_things"]
theorem sc__law_atom : FnScope n__law_atom ["_law_bag_here", "_law_things"] (defScope s__law_atom) := ⟨rfl, rfl, rfl, by decide +kernel, rfl, by decide +kernel, by decide +kernel⟩
def m__law_atom : En → SRs :=
    (rtS (shD (tupD [(op2 (.ex (frzD (lstD [(cD (.str "eq")), (cD (.str "lt")), (cD (.str "gt")), (cD (.str "lt"))]))) (.ex (frzD (callB 1 f__law_take 0 [(cD (.int 4))]))) semAt), (frzD (callB 1 f__law_some 0 [(vD 1)])), (frzD (callB 1 f__law_some 0 [(vD 1)]))])))
def f__law_atom : List D → List D → Option (OV × List D) := fnB 2 m__law_atom
theorem ok__law_atom {f : Addr} {fd : FuncData} (fa : Fa K w mg base) (h__law_take : HasB P w K mg base 1 "_law_take" 1 f__law_take) (h__law_some : HasB P w K mg base 2 "_law_some" 1 f__law_some) (F : Fun K "_law_atom" "_law_atom" s__law_atom f fd) : FnG P w K mg base CX0 3 f fd ["_law_bag_here", "_law_things"] (spB K 1 f__law_atom) := by
  have nd := sc__law_atom.nd
  unfold f__law_atom
  refine fnB_ok (k := 2) (m := m__law_atom) F sc__law_atom rfl rfl fun cdv A outer s H E g hgd hr hB hW hWn hxc => ?_
  unfold m__law_atom
  exact (ds_one (ds_ret (DE.shd (de_tup (da_cons (de_ix (ixAt (u65 hr)) (DE.opd (DO.fz (do_lst (da_cons de_str (da_cons de_str (da_cons de_str (da_cons de_str da_nil))))))) (DE.opd (DO.fz (do_callB h__law_take hgd (hr.mono (by decide)) (pv 0) (da_cons de_int da_nil)))) (fun _ _ => rfl)) (da_cons (DO.fz (do_callB h__law_some hgd (hr.mono (by decide)) (pv 0) (da_cons (de_var 1 (nb hB 1 (by decide)) (pv 1)) da_nil))) (da_cons (DO.fz (do_callB h__law_some hgd (hr.mono (by decide)) (pv 0) (da_cons (de_var 1 (nb hB 1 (by decide)) (pv 1)) da_nil))) da_nil)))))))
theorem has__law_atom (fa : Fa K w mg base) (h__law_take : HasB P w K mg base 1 "_law_take" 1 f__law_take) (h__law_some : HasB P w K mg base 2 "_law_some" 1 f__law_some) (F : FnAt K mg "_law_atom" s__law_atom) : HasB P w K mg base 3 "_law_atom" 1 f__law_atom := by
  obtain ⟨f, fd, F, hm⟩ := F
  exact ⟨f, fd, ["_law_bag_here", "_law_things"], ok__law_atom fa h__law_take h__law_some F, hm, F.kp, F.binds fun _ _ _ _ _ _ us hl => match us, hl with | [_, _], _ => rfl⟩
abbrev s__law_fact : Stmt := topS 27
abbrev s__law_fact_sc : Scope := defScope s__law_fact
abbrev n__law_fact : List Str := ["_law_bag_here", "_law_things", "_law_k"]
theorem sc__law_fact : FnScope n__law_fact ["_law_bag_here", "_law_things"] (defScope s__law_fact) := ⟨rfl, rfl, rfl, by decide +kernel, rfl, by decide +kernel, by decide +kernel⟩
abbrev it__law_fact_1 : En → Rs (List D) := (rg1 (op2 (.ex (cD (.int 1))) (.ex (op2 (.ex (frzD (callB 1 f__law_take 0 [(cD (.int 3))]))) (.ex (cD (.int 2))) semFdiv)) semAdd))
abbrev el__law_fact_1 : En → Rs D := (frzD (callB 1 f__law_atom 0 [(vD 1)]))
abbrev lc__law_fact_1 : En → Rs OV := lcD it__law_fact_1 [2] (gN 2) yesT el__law_fact_1
def m__law_fact : En → SRs :=
    (rtS (shD (opN [(.ex (frzD lc__law_fact_1))] semTuple)))
def f__law_fact : List D → List D → Option (OV × List D) := fnB 3 m__law_fact
theorem ok__law_fact {f : Addr} {fd : FuncData} (fa : Fa K w mg base) (h__law_take : HasB P w K mg base 1 "_law_take" 1 f__law_take) (h__law_atom : HasB P w K mg base 3 "_law_atom" 1 f__law_atom) (F : Fun K "_law_fact" "_law_fact" s__law_fact f fd) : FnG P w K mg base CX0 4 f fd ["_law_bag_here", "_law_things"] (spB K 1 f__law_fact) := by
  have nd := sc__law_fact.nd
  unfold f__law_fact
  refine fnB_ok (k := 3) (m := m__law_fact) F sc__law_fact rfl rfl fun cdv A outer s H E g hgd hr hB hW hWn hxc => ?_
  unfold m__law_fact
  exact (ds_one (ds_ret (DE.shd (de_callT cd_tuple fa.b_tuple (dbs_cons (DE.opd (DO.fz (do_lc (own := [("_law_k", 2)]) (ks := [2]) rfl nd (di_range1 rfl fa.b_range (de_op opd_add (DE.opd de_int) (DE.opd (de_op opd_fdiv (DE.opd (DO.fz (do_callB h__law_take hgd (hr.mono (by decide)) (pv 0) (da_cons de_int da_nil)))) (DE.opd de_int))))) (blkOk_by (N := n__law_fact) (sc := s__law_fact_sc) (by decide +kernel)) rfl (nbs hB (by decide)) (by decide) (fun _ _ _ _ _ g1 e1 => (dg_name (i := 2) (nb (nbt e1 hB) 2 (by decide)) nd)) (fun _ _ _ _ _ g1 e1 => pts_nilD) (fun _ _ _ _ _ g1 e1 => (DO.fz (do_callB h__law_atom hgd (hr.mono (by decide)) (pv 0) (da_cons (de_var 1 (nb (nbt e1 hB) 1 (by decide)) (pv 1)) da_nil))))))) dbs_nil)))))
theorem has__law_fact (fa : Fa K w mg base) (h__law_take : HasB P w K mg base 1 "_law_take" 1 f__law_take) (h__law_atom : HasB P w K mg base 3 "_law_atom" 1 f__law_atom) (F : FnAt K mg "_law_fact" s__law_fact) : HasB P w K mg base 4 "_law_fact" 1 f__law_fact := by
  obtain ⟨f, fd, F, hm⟩ := F
  exact ⟨f, fd, ["_law_bag_here", "_law_things"], ok__law_fact fa h__law_take h__law_atom F, hm, F.kp, F.binds fun _ _ _ _ _ _ us hl => match us, hl with | [_, _], _ => rfl⟩
abbrev s__law_row : Stmt := topS 28
abbrev n__law_row : List Str := ["_law_bag_here", "_law_world_here"]
theorem sc__law_row : FnScope n__law_row ["_law_bag_here", "_law_world_here"] (defScope s__law_row) := ⟨rfl, rfl, rfl, by decide +kernel, rfl, by decide +kernel, by decide +kernel⟩
def m__law_row : En → SRs :=
    (rtS (shD (tupD [(frzD (callB 1 f__law_some 0 [(op2 (.va 1) (.ex (cD (.str "names"))) semAt)])), (frzD (callB 1 f__law_fact 0 [(op2 (.va 1) (.ex (cD (.str "things"))) semAt)]))])))
def f__law_row : List D → List D → Option (OV × List D) := fnB 2 m__law_row
theorem ok__law_row {f : Addr} {fd : FuncData} (fa : Fa K w mg base) (h__law_some : HasB P w K mg base 2 "_law_some" 1 f__law_some) (h__law_fact : HasB P w K mg base 4 "_law_fact" 1 f__law_fact) (F : Fun K "_law_row" "_law_row" s__law_row f fd) : FnG P w K mg base CX0 5 f fd ["_law_bag_here", "_law_world_here"] (spB K 1 f__law_row) := by
  have nd := sc__law_row.nd
  unfold f__law_row
  refine fnB_ok (k := 4) (m := m__law_row) F sc__law_row rfl rfl fun cdv A outer s H E g hgd hr hB hW hWn hxc => ?_
  unfold m__law_row
  exact (ds_one (ds_ret (DE.shd (de_tup (da_cons (DO.fz (do_callB h__law_some hgd (hr.mono (by decide)) (pv 0) (da_cons (de_ix (ixAt (u65 hr)) (db_var 1 (pv 1)) (DE.opd de_str) (fun _ _ => rfl)) da_nil))) (da_cons (DO.fz (do_callB h__law_fact hgd (hr.mono (by decide)) (pv 0) (da_cons (de_ix (ixAt (u65 hr)) (db_var 1 (pv 1)) (DE.opd de_str) (fun _ _ => rfl)) da_nil))) da_nil))))))
theorem has__law_row (fa : Fa K w mg base) (h__law_some : HasB P w K mg base 2 "_law_some" 1 f__law_some) (h__law_fact : HasB P w K mg base 4 "_law_fact" 1 f__law_fact) (F : FnAt K mg "_law_row" s__law_row) : HasB P w K mg base 5 "_law_row" 1 f__law_row := by
  obtain ⟨f, fd, F, hm⟩ := F
  exact ⟨f, fd, ["_law_bag_here", "_law_world_here"], ok__law_row fa h__law_some h__law_fact F, hm, F.kp, F.binds fun _ _ _ _ _ _ us hl => match us, hl with | [_, _], _ => rfl⟩
abbrev s__law_near : Stmt := topS 30
abbrev s__law_near_sc : Scope := defScope s__law_near
abbrev n__law_near : List Str := ["_law_bag_here", "_law_rows_here", "_law_aim", "_law_world_here", "_law_manner", "_law_home", "_law_some_here", "_law_at", "_law_name", "_law_fact_here", "0a", "0b"]
abbrev na__law_near : List Str := ["_law_bag_here", "_law_rows_here", "_law_aim", "_law_world_here", "_law_manner", "_law_home", "0a", "_law_at", "_law_name", "_law_fact_here", "_law_some_here", "0b"]
abbrev nb__law_near : List Str := ["_law_bag_here", "_law_rows_here", "_law_aim", "_law_world_here", "_law_manner", "_law_home", "0b", "_law_at", "_law_name", "_law_fact_here", "0a", "_law_some_here"]
theorem sc__law_near : FnScope n__law_near ["_law_bag_here", "_law_rows_here", "_law_aim", "_law_world_here"] (defScope s__law_near) := ⟨rfl, rfl, rfl, by decide +kernel, rfl, by decide +kernel, by decide +kernel⟩
abbrev it__law_near_1 : En → Rs (List D) := (itA (vD 1))
abbrev el__law_near_1 : En → Rs OV := (opNO [(.va 6)] semListL)
abbrev cl__law_near_1 : En → Rs (List (List D)) := lcTL it__law_near_1 [6] (gN 6) el__law_near_1
abbrev ra__law_near : Addr → Addr → En → SRs := fun aA aB => (seqS (setS 7 (shD (ifD (toB (op2 (.va 10) (.ex (frzD (lstD []))) semNe)) (frzD (callB 1 f__law_take 0 [(opN [(.va 10)] semLen)])) (cD (.int 0)))))
    (seqS (ifS (toB (op2 (.va 4) (.ex (cD (.int 0))) semEq)) (insS 10 (vD 7) (frzD (callB 1 f__law_row 0 [(vD 3)]))) nxS)
    (seqS (ifS (toB (op2 (.va 4) (.ex (cD (.int 1))) semEq)) (setS 2 (shD (frzD (callB 1 f__law_atom 0 [(op2 (.va 3) (.ex (cD (.str "things"))) semAt)])))) nxS)
    (seqS (ifS (toB (op2 (.va 10) (.ex (frzD (lstD []))) semEq)) (rtS (shD (tupD [(vD 1), (vD 2)]))) nxS)
    (seqS (asgS (op2 (.va 10) (.va 7) semAt) (gT 2 (gsCons (gN 8) (gsCons (gN 9) gsNil))))
    (seqS (ifS (toB (op2 (.va 4) (.ex (cD (.int 2))) semEq)) (popS 10 (vD 7)) nxS)
    (seqS (ifS (toB (op2 (.va 4) (.ex (cD (.int 3))) semEq)) (appIt 11 aB (op2 (.va 1) (.ex (op2 (.ex (cD (.int 1))) (.va 5) semSub)) semAt) (popV 10 (vD 7))) nxS)
    (seqS (ifS (toB (op2 (.va 4) (.ex (cD (.int 4))) semEq)) (putS 10 (vD 7) (tupD [(frzD (callB 1 f__law_some 0 [(op2 (.va 3) (.ex (cD (.str "names"))) semAt)])), (vD 9)])) nxS)
    (seqS (ifS (toB (op2 (.va 4) (.ex (cD (.int 5))) semEq)) (putS 10 (vD 7) (tupD [(vD 8), (frzD (revO (.va 9)))])) nxS)
    (seqS (ifS (toB (op2 (.va 4) (.ex (cD (.int 6))) semEq)) (putS 10 (vD 7) (tupD [(vD 8), (op2 (.ex (tupD [(frzD (callB 1 f__law_atom 0 [(op2 (.va 3) (.ex (cD (.str "things"))) semAt)]))])) (.ex (slD (.va 9) (poS (cD (.int 1))) poN semSl)) semAdd)])) nxS)
    (seqS (ifS (toB (op2 (.va 4) (.ex (cD (.int 7))) semEq)) (putS 10 (vD 7) (tupD [(vD 8), (slD (.va 9) poN (poS (cD (.int 1))) semSl)])) nxS)
    (seqS (ifS (toB (op2 (.va 4) (.ex (cD (.int 8))) semEq)) (appS 10 (popV 10 (vD 7))) nxS)
    (rtS (shD (tupD [(vD 1), (vD 2)])))))))))))))))
abbrev rb__law_near : Addr → Addr → En → SRs := fun aA aB => (seqS (setS 7 (shD (ifD (toB (op2 (.va 11) (.ex (frzD (lstD []))) semNe)) (frzD (callB 1 f__law_take 0 [(opN [(.va 11)] semLen)])) (cD (.int 0)))))
    (seqS (ifS (toB (op2 (.va 4) (.ex (cD (.int 0))) semEq)) (insS 11 (vD 7) (frzD (callB 1 f__law_row 0 [(vD 3)]))) nxS)
    (seqS (ifS (toB (op2 (.va 4) (.ex (cD (.int 1))) semEq)) (setS 2 (shD (frzD (callB 1 f__law_atom 0 [(op2 (.va 3) (.ex (cD (.str "things"))) semAt)])))) nxS)
    (seqS (ifS (toB (op2 (.va 11) (.ex (frzD (lstD []))) semEq)) (rtS (shD (tupD [(vD 1), (vD 2)]))) nxS)
    (seqS (asgS (op2 (.va 11) (.va 7) semAt) (gT 2 (gsCons (gN 8) (gsCons (gN 9) gsNil))))
    (seqS (ifS (toB (op2 (.va 4) (.ex (cD (.int 2))) semEq)) (popS 11 (vD 7)) nxS)
    (seqS (ifS (toB (op2 (.va 4) (.ex (cD (.int 3))) semEq)) (appIt 10 aA (op2 (.va 1) (.ex (op2 (.ex (cD (.int 1))) (.va 5) semSub)) semAt) (popV 11 (vD 7))) nxS)
    (seqS (ifS (toB (op2 (.va 4) (.ex (cD (.int 4))) semEq)) (putS 11 (vD 7) (tupD [(frzD (callB 1 f__law_some 0 [(op2 (.va 3) (.ex (cD (.str "names"))) semAt)])), (vD 9)])) nxS)
    (seqS (ifS (toB (op2 (.va 4) (.ex (cD (.int 5))) semEq)) (putS 11 (vD 7) (tupD [(vD 8), (frzD (revO (.va 9)))])) nxS)
    (seqS (ifS (toB (op2 (.va 4) (.ex (cD (.int 6))) semEq)) (putS 11 (vD 7) (tupD [(vD 8), (op2 (.ex (tupD [(frzD (callB 1 f__law_atom 0 [(op2 (.va 3) (.ex (cD (.str "things"))) semAt)]))])) (.ex (slD (.va 9) (poS (cD (.int 1))) poN semSl)) semAdd)])) nxS)
    (seqS (ifS (toB (op2 (.va 4) (.ex (cD (.int 7))) semEq)) (putS 11 (vD 7) (tupD [(vD 8), (slD (.va 9) poN (poS (cD (.int 1))) semSl)])) nxS)
    (seqS (ifS (toB (op2 (.va 4) (.ex (cD (.int 8))) semEq)) (appS 11 (popV 11 (vD 7))) nxS)
    (rtS (shD (tupD [(vD 1), (vD 2)])))))))))))))))
def m__law_near : En → SRs :=
    (cellS 1 4 5 10 11 cl__law_near_1 (frzD (callB 1 f__law_take 0 [(cD (.int 9))])) (frzD (callB 1 f__law_take 0 [(cD (.int 2))])) fun aA aB => seqS (setS 6 (shD (op2 (.va 1) (.va 5) semAt))) (aliS 6 aA aB (ra__law_near aA aB) (rb__law_near aA aB)))
def f__law_near : List D → List D → Option (OV × List D) := fnB 12 m__law_near
theorem ok__law_near {f : Addr} {fd : FuncData} (fa : Fa K w mg base) (h__law_take : HasB P w K mg base 1 "_law_take" 1 f__law_take) (h__law_row : HasB P w K mg base 5 "_law_row" 1 f__law_row) (h__law_atom : HasB P w K mg base 3 "_law_atom" 1 f__law_atom) (h__law_some : HasB P w K mg base 2 "_law_some" 1 f__law_some) (F : Fun K "_law_near" "_law_near" s__law_near f fd) : FnG P w K mg base CX0 6 f fd ["_law_bag_here", "_law_rows_here", "_law_aim", "_law_world_here"] (spB K 3 f__law_near) := by
  have nd := sc__law_near.nd
  unfold f__law_near
  refine fnB_ok (k := 5) (m := m__law_near) F sc__law_near rfl rfl fun cdv A outer s H E g hgd hr hB hW hWn hxc => ?_
  unfold m__law_near
  exact (dss_cells (i := 1) (j := 4) (l := 5) (iA := 10) (iB := 11) hB (fun p => noZ_it fa.nz p) (by decide) (noVis (N := n__law_near) (sc := s__law_near_sc) (y := "0a") rfl (by decide +kernel)) (noVis (N := n__law_near) (sc := s__law_near_sc) (y := "0b") rfl (by decide +kernel)) nd rfl
    (cl_lc (own := [("_law_some_here", 6)]) (ks := [6]) rfl nd (di_any (de_var 1 (nb hB 1 (by decide)) (pv 1))) (blkOk_by (N := n__law_near) (sc := s__law_near_sc) (by decide +kernel)) rfl (nbs hB (by decide)) (by decide) (fun _ _ _ _ _ g1 e1 => (dg_name (i := 6) (nb (nbt e1 hB) 6 (by decide)) nd)) (fun _ _ _ _ _ g1 e1 => (do_callT co_list fa.b_list (dbs_cons (db_var 6 (pv 6)) dbs_nil)))) (fun g1 l1 => (DO.fz (do_callB h__law_take hgd (hr.mono (by decide)) (pv 0) (da_cons de_int da_nil)))) (fun g1 l1 => (DO.fz (do_callB h__law_take hgd (hr.mono (by decide)) (pv 0) (da_cons de_int da_nil))))
    fun aA aB hab => have hB : ((g.at 10 aA).at 11 aB).B.map (·.1) = [11, 10, 0] := by { show 11 :: 10 :: g.B.map (·.1) = _; rw [hB] }; (ds_cons (ds_set (i := 6) (nb hB 6 (by decide)) nd (DE.shd (de_ix (ixAt (u65 hr)) (db_var 1 (pv 1)) (db_var 5 (pv 5)) (fun _ _ => rfl))))
    (dss_ali (j := 6) (iA := 10) (iB := 11) (NA := na__law_near) (NB := nb__law_near) (List.mem_cons_of_mem _ List.mem_cons_self) List.mem_cons_self (fun p => noZ_it fa.nz p) (anew_by (N := n__law_near) (sc := s__law_near_sc) (by decide +kernel)) (anew_by (N := n__law_near) (sc := s__law_near_sc) (by decide +kernel))
    (have nd : na__law_near.Nodup := (by decide +kernel); (ds_cons (ds_set (i := 7) (nb hB 7 (by decide)) nd (DE.shd (de_if (dt_cmp (opd_ne hr.units) (db_var 10 (pv 10)) (DE.opd (DO.fz (do_lst da_nil))) (nomark _)) (DO.fz (do_callB h__law_take hgd (hr.mono (by decide)) (pv 0) (da_cons (de_callB cd_len fa.b_len (dbs_cons (db_var 10 (pv 10)) dbs_nil)) da_nil))) de_int)))
    (ds_cons (ds_if (dt_cmp (opd_eq hr.units) (db_var 4 (pv 4)) (DE.opd de_int) (nomark _)) (ds_one (ds_insert (i := 10) (pv 10) (de_var 7 (nb hB 7 (by decide)) (pv 7)) (DO.fz (do_callB h__law_row hgd (hr.mono (by decide)) (pv 0) (da_cons (de_var 3 (nb hB 3 (by decide)) (pv 3)) da_nil))))) ds_nil)
    (ds_cons (ds_if (dt_cmp (opd_eq hr.units) (db_var 4 (pv 4)) (DE.opd de_int) (nomark _)) (ds_one (ds_set (i := 2) (nb hB 2 (by decide)) nd (DE.shd (DO.fz (do_callB h__law_atom hgd (hr.mono (by decide)) (pv 0) (da_cons (de_ix (ixAt (u65 hr)) (db_var 3 (pv 3)) (DE.opd de_str) (fun _ _ => rfl)) da_nil)))))) ds_nil)
    (ds_cons (ds_if (dt_cmp (opd_eq hr.units) (db_var 10 (pv 10)) (DE.opd (DO.fz (do_lst da_nil))) (nomark _)) (ds_one (ds_ret (DE.shd (de_tup (da_cons (de_var 1 (nb hB 1 (by decide)) (pv 1)) (da_cons (de_var 2 (nb hB 2 (by decide)) (pv 2)) da_nil)))))) ds_nil)
    (ds_cons (ds_asg (de_ix (ixAt (u65 hr)) (db_var 10 (pv 10)) (db_var 7 (pv 7)) (fun _ _ => rfl)) (dg_tup rfl (dgs_cons (dg_name (i := 8) (nb hB 8 (by decide)) nd) (dgs_cons (dg_name (i := 9) (nb hB 9 (by decide)) nd) dgs_nil))))
    (ds_cons (ds_if (dt_cmp (opd_eq hr.units) (db_var 4 (pv 4)) (DE.opd de_int) (nomark _)) (ds_one (ds_popAt (i := 10) (pv 10) (de_var 7 (nb hB 7 (by decide)) (pv 7)))) ds_nil)
    (ds_cons (ds_if (dt_cmp (opd_eq hr.units) (db_var 4 (pv 4)) (DE.opd de_int) (nomark _)) (ds_one (ds_appIt (i := 11) (p := aB) List.mem_cons_self (fun p => noZ_it fa.nz p) (de_ix (ixAt (u65 hr)) (db_var 1 (pv 1)) (DE.opd (de_op opd_sub (DE.opd de_int) (db_var 5 (pv 5)))) (fun _ _ => rfl)) (de_popV (i := 10) (pv 10) (de_var 7 (nb hB 7 (by decide)) (pv 7))))) ds_nil)
    (ds_cons (ds_if (dt_cmp (opd_eq hr.units) (db_var 4 (pv 4)) (DE.opd de_int) (nomark _)) (ds_one (ds_put (i := 10) (pv 10) (de_var 7 (nb hB 7 (by decide)) (pv 7)) (de_tup (da_cons (DO.fz (do_callB h__law_some hgd (hr.mono (by decide)) (pv 0) (da_cons (de_ix (ixAt (u65 hr)) (db_var 3 (pv 3)) (DE.opd de_str) (fun _ _ => rfl)) da_nil))) (da_cons (de_var 9 (nb hB 9 (by decide)) (pv 9)) da_nil))))) ds_nil)
    (ds_cons (ds_if (dt_cmp (opd_eq hr.units) (db_var 4 (pv 4)) (DE.opd de_int) (nomark _)) (ds_one (ds_put (i := 10) (pv 10) (de_var 7 (nb hB 7 (by decide)) (pv 7)) (de_tup (da_cons (de_var 8 (nb hB 8 (by decide)) (pv 8)) (da_cons (DO.fz (do_revL (db_var 9 (pv 9)))) da_nil))))) ds_nil)
    (ds_cons (ds_if (dt_cmp (opd_eq hr.units) (db_var 4 (pv 4)) (DE.opd de_int) (nomark _)) (ds_one (ds_put (i := 10) (pv 10) (de_var 7 (nb hB 7 (by decide)) (pv 7)) (de_tup (da_cons (de_var 8 (nb hB 8 (by decide)) (pv 8)) (da_cons (de_op opd_add (DE.opd (de_tup (da_cons (DO.fz (do_callB h__law_atom hgd (hr.mono (by decide)) (pv 0) (da_cons (de_ix (ixAt (u65 hr)) (db_var 3 (pv 3)) (DE.opd de_str) (fun _ _ => rfl)) da_nil))) da_nil))) (DE.opd (de_slice (db_var 9 (pv 9)) (dpo_some de_int) dpo_none))) da_nil))))) ds_nil)
    (ds_cons (ds_if (dt_cmp (opd_eq hr.units) (db_var 4 (pv 4)) (DE.opd de_int) (nomark _)) (ds_one (ds_put (i := 10) (pv 10) (de_var 7 (nb hB 7 (by decide)) (pv 7)) (de_tup (da_cons (de_var 8 (nb hB 8 (by decide)) (pv 8)) (da_cons (de_slice (db_var 9 (pv 9)) dpo_none (dpo_some de_int)) da_nil))))) ds_nil)
    (ds_cons (ds_if (dt_cmp (opd_eq hr.units) (db_var 4 (pv 4)) (DE.opd de_int) (nomark _)) (ds_one (ds_append (i := 10) (pv 10) (de_popV (i := 10) (pv 10) (de_var 7 (nb hB 7 (by decide)) (pv 7))))) ds_nil)
    (ds_one (ds_ret (DE.shd (de_tup (da_cons (de_var 1 (nb hB 1 (by decide)) (pv 1)) (da_cons (de_var 2 (nb hB 2 (by decide)) (pv 2)) da_nil)))))))))))))))))))
    (have nd : nb__law_near.Nodup := (by decide +kernel); (ds_cons (ds_set (i := 7) (nb hB 7 (by decide)) nd (DE.shd (de_if (dt_cmp (opd_ne hr.units) (db_var 11 (pv 11)) (DE.opd (DO.fz (do_lst da_nil))) (nomark _)) (DO.fz (do_callB h__law_take hgd (hr.mono (by decide)) (pv 0) (da_cons (de_callB cd_len fa.b_len (dbs_cons (db_var 11 (pv 11)) dbs_nil)) da_nil))) de_int)))
    (ds_cons (ds_if (dt_cmp (opd_eq hr.units) (db_var 4 (pv 4)) (DE.opd de_int) (nomark _)) (ds_one (ds_insert (i := 11) (pv 11) (de_var 7 (nb hB 7 (by decide)) (pv 7)) (DO.fz (do_callB h__law_row hgd (hr.mono (by decide)) (pv 0) (da_cons (de_var 3 (nb hB 3 (by decide)) (pv 3)) da_nil))))) ds_nil)
    (ds_cons (ds_if (dt_cmp (opd_eq hr.units) (db_var 4 (pv 4)) (DE.opd de_int) (nomark _)) (ds_one (ds_set (i := 2) (nb hB 2 (by decide)) nd (DE.shd (DO.fz (do_callB h__law_atom hgd (hr.mono (by decide)) (pv 0) (da_cons (de_ix (ixAt (u65 hr)) (db_var 3 (pv 3)) (DE.opd de_str) (fun _ _ => rfl)) da_nil)))))) ds_nil)
    (ds_cons (ds_if (dt_cmp (opd_eq hr.units) (db_var 11 (pv 11)) (DE.opd (DO.fz (do_lst da_nil))) (nomark _)) (ds_one (ds_ret (DE.shd (de_tup (da_cons (de_var 1 (nb hB 1 (by decide)) (pv 1)) (da_cons (de_var 2 (nb hB 2 (by decide)) (pv 2)) da_nil)))))) ds_nil)
    (ds_cons (ds_asg (de_ix (ixAt (u65 hr)) (db_var 11 (pv 11)) (db_var 7 (pv 7)) (fun _ _ => rfl)) (dg_tup rfl (dgs_cons (dg_name (i := 8) (nb hB 8 (by decide)) nd) (dgs_cons (dg_name (i := 9) (nb hB 9 (by decide)) nd) dgs_nil))))
    (ds_cons (ds_if (dt_cmp (opd_eq hr.units) (db_var 4 (pv 4)) (DE.opd de_int) (nomark _)) (ds_one (ds_popAt (i := 11) (pv 11) (de_var 7 (nb hB 7 (by decide)) (pv 7)))) ds_nil)
    (ds_cons (ds_if (dt_cmp (opd_eq hr.units) (db_var 4 (pv 4)) (DE.opd de_int) (nomark _)) (ds_one (ds_appIt (i := 10) (p := aA) (List.mem_cons_of_mem _ List.mem_cons_self) (fun p => noZ_it fa.nz p) (de_ix (ixAt (u65 hr)) (db_var 1 (pv 1)) (DE.opd (de_op opd_sub (DE.opd de_int) (db_var 5 (pv 5)))) (fun _ _ => rfl)) (de_popV (i := 11) (pv 11) (de_var 7 (nb hB 7 (by decide)) (pv 7))))) ds_nil)
    (ds_cons (ds_if (dt_cmp (opd_eq hr.units) (db_var 4 (pv 4)) (DE.opd de_int) (nomark _)) (ds_one (ds_put (i := 11) (pv 11) (de_var 7 (nb hB 7 (by decide)) (pv 7)) (de_tup (da_cons (DO.fz (do_callB h__law_some hgd (hr.mono (by decide)) (pv 0) (da_cons (de_ix (ixAt (u65 hr)) (db_var 3 (pv 3)) (DE.opd de_str) (fun _ _ => rfl)) da_nil))) (da_cons (de_var 9 (nb hB 9 (by decide)) (pv 9)) da_nil))))) ds_nil)
    (ds_cons (ds_if (dt_cmp (opd_eq hr.units) (db_var 4 (pv 4)) (DE.opd de_int) (nomark _)) (ds_one (ds_put (i := 11) (pv 11) (de_var 7 (nb hB 7 (by decide)) (pv 7)) (de_tup (da_cons (de_var 8 (nb hB 8 (by decide)) (pv 8)) (da_cons (DO.fz (do_revL (db_var 9 (pv 9)))) da_nil))))) ds_nil)
    (ds_cons (ds_if (dt_cmp (opd_eq hr.units) (db_var 4 (pv 4)) (DE.opd de_int) (nomark _)) (ds_one (ds_put (i := 11) (pv 11) (de_var 7 (nb hB 7 (by decide)) (pv 7)) (de_tup (da_cons (de_var 8 (nb hB 8 (by decide)) (pv 8)) (da_cons (de_op opd_add (DE.opd (de_tup (da_cons (DO.fz (do_callB h__law_atom hgd (hr.mono (by decide)) (pv 0) (da_cons (de_ix (ixAt (u65 hr)) (db_var 3 (pv 3)) (DE.opd de_str) (fun _ _ => rfl)) da_nil))) da_nil))) (DE.opd (de_slice (db_var 9 (pv 9)) (dpo_some de_int) dpo_none))) da_nil))))) ds_nil)
    (ds_cons (ds_if (dt_cmp (opd_eq hr.units) (db_var 4 (pv 4)) (DE.opd de_int) (nomark _)) (ds_one (ds_put (i := 11) (pv 11) (de_var 7 (nb hB 7 (by decide)) (pv 7)) (de_tup (da_cons (de_var 8 (nb hB 8 (by decide)) (pv 8)) (da_cons (de_slice (db_var 9 (pv 9)) dpo_none (dpo_some de_int)) da_nil))))) ds_nil)
    (ds_cons (ds_if (dt_cmp (opd_eq hr.units) (db_var 4 (pv 4)) (DE.opd de_int) (nomark _)) (ds_one (ds_append (i := 11) (pv 11) (de_popV (i := 11) (pv 11) (de_var 7 (nb hB 7 (by decide)) (pv 7))))) ds_nil)
    (ds_one (ds_ret (DE.shd (de_tup (da_cons (de_var 1 (nb hB 1 (by decide)) (pv 1)) (da_cons (de_var 2 (nb hB 2 (by decide)) (pv 2)) da_nil))))))))))))))))))))))
theorem has__law_near (fa : Fa K w mg base) (h__law_take : HasB P w K mg base 1 "_law_take" 1 f__law_take) (h__law_row : HasB P w K mg base 5 "_law_row" 1 f__law_row) (h__law_atom : HasB P w K mg base 3 "_law_atom" 1 f__law_atom) (h__law_some : HasB P w K mg base 2 "_law_some" 1 f__law_some) (F : FnAt K mg "_law_near" s__law_near) : HasB P w K mg base 6 "_law_near" 3 f__law_near := by
  obtain ⟨f, fd, F, hm⟩ := F
  exact ⟨f, fd, ["_law_bag_here", "_law_rows_here", "_law_aim", "_law_world_here"], ok__law_near fa h__law_take h__law_row h__law_atom h__law_some F, hm, F.kp, F.binds fun _ _ _ _ _ _ us hl => match us, hl with | [_, _, _, _], _ => rfl⟩
abbrev s__law_rows : Stmt := topS 29
abbrev s__law_rows_sc : Scope := defScope s__law_rows
abbrev n__law_rows : List Str := ["_law_bag_here", "_law_world_here", "_law_top", "_law_k"]
theorem sc__law_rows : FnScope n__law_rows ["_law_bag_here", "_law_world_here", "_law_top"] (defScope s__law_rows) := ⟨rfl, rfl, rfl, by decide +kernel, rfl, by decide +kernel, by decide +kernel⟩
abbrev it__law_rows_1 : En → Rs (List D) := (rg1 (frzD (callB 1 f__law_take 0 [(op2 (.va 2) (.ex (cD (.int 1))) semAdd)])))
abbrev el__law_rows_1 : En → Rs D := (frzD (callB 1 f__law_row 0 [(vD 1)]))
abbrev lc__law_rows_1 : En → Rs OV := lcD it__law_rows_1 [3] (gN 3) yesT el__law_rows_1
def m__law_rows : En → SRs :=
    (rtS lc__law_rows_1)
def f__law_rows : List D → List D → Option (OV × List D) := fnB 4 m__law_rows
theorem ok__law_rows {f : Addr} {fd : FuncData} (fa : Fa K w mg base) (h__law_take : HasB P w K mg base 1 "_law_take" 1 f__law_take) (h__law_row : HasB P w K mg base 5 "_law_row" 1 f__law_row) (F : Fun K "_law_rows" "_law_rows" s__law_rows f fd) : FnG P w K mg base CX0 6 f fd ["_law_bag_here", "_law_world_here", "_law_top"] (spB K 2 f__law_rows) := by
  have nd := sc__law_rows.nd
  unfold f__law_rows
  refine fnB_ok (k := 5) (m := m__law_rows) F sc__law_rows rfl rfl fun cdv A outer s H E g hgd hr hB hW hWn hxc => ?_
  unfold m__law_rows
  exact (ds_one (ds_ret (do_lc (own := [("_law_k", 3)]) (ks := [3]) rfl nd (di_range1 rfl fa.b_range (DO.fz (do_callB h__law_take hgd (hr.mono (by decide)) (pv 0) (da_cons (de_op opd_add (db_var 2 (pv 2)) (DE.opd de_int)) da_nil)))) (blkOk_by (N := n__law_rows) (sc := s__law_rows_sc) (by decide +kernel)) rfl (nbs hB (by decide)) (by decide) (fun _ _ _ _ _ g1 e1 => (dg_name (i := 3) (nb (nbt e1 hB) 3 (by decide)) nd)) (fun _ _ _ _ _ g1 e1 => pts_nilD) (fun _ _ _ _ _ g1 e1 => (DO.fz (do_callB h__law_row hgd (hr.mono (by decide)) (pv 0) (da_cons (de_var 1 (nb (nbt e1 hB) 1 (by decide)) (pv 1)) da_nil)))))))
theorem has__law_rows (fa : Fa K w mg base) (h__law_take : HasB P w K mg base 1 "_law_take" 1 f__law_take) (h__law_row : HasB P w K mg base 5 "_law_row" 1 f__law_row) (F : FnAt K mg "_law_rows" s__law_rows) : HasB P w K mg base 6 "_law_rows" 2 f__law_rows := by
  obtain ⟨f, fd, F, hm⟩ := F
  exact ⟨f, fd, ["_law_bag_here", "_law_world_here", "_law_top"], ok__law_rows fa h__law_take h__law_row F, hm, F.kp, F.binds fun _ _ _ _ _ _ us hl => match us, hl with | [_, _, _], _ => rfl⟩
abbrev s_Start____eq__ : Stmt := inClass (topS 18) 17
abbrev n_Start____eq__ : List Str := ["self", "other"]
theorem sc_Start____eq__ : FnScope n_Start____eq__ ["self", "other"] (defScope s_Start____eq__) := ⟨rfl, rfl, rfl, by decide +kernel, rfl, by decide +kernel, by decide +kernel⟩
def m_Start____eq__ : En → SRs :=
    (seqS (ifS (notT (toB (isoD (.va 1) "Start"))) (rtS (shD (cD (.bl false)))) nxS)
    (rtS (shD (andD (op2 (.ex (op1 (.va 0) (semFld "Start" "its_rows"))) (.ex (op1 (.va 1) (semFld "Start" "its_rows"))) semEqK) (op2 (.ex (op1 (.va 0) (semFld "Start" "its_aim"))) (.ex (op1 (.va 1) (semFld "Start" "its_aim"))) semEqK)))))
def f_Start____eq__ : List D → Option OV := fnP 2 m_Start____eq__
theorem ok_Start____eq__ {f : Addr} {fd : FuncData} (fa : Fa K w mg base)  (F : Fun K "__eq__" "Start.__eq__" s_Start____eq__ f fd) : FnG P w K mg base CX0 1 f fd ["self", "other"] (spP K 2 f_Start____eq__) := by
  have nd := sc_Start____eq__.nd
  unfold f_Start____eq__
  refine fnP_ok (k := 0) (m := m_Start____eq__) F sc_Start____eq__ rfl rfl fun cdv A outer s H E g hgd hr hB0 hW hWn hxc => ?_
  have hB := nb00 hB0
  unfold m_Start____eq__
  exact (ds_cons (ds_if (dt_not (dt_val (de_iso fa.io_Start fa.b_isinstance (db_var 1 (pv 1))))) (ds_one (ds_ret (DE.shd de_bl))) ds_nil)
    (ds_one (ds_ret (DE.shd (de_and (de_cmp (opd_eqK (u70 hr)) (DE.opd (de_fld fa.fl_Start_its_rows (db_var 0 (pv 0)))) (DE.opd (de_fld fa.fl_Start_its_rows (db_var 1 (pv 1)))) (nomark _)) (de_one (de_cmp (opd_eqK (u70 hr)) (DE.opd (de_fld fa.fl_Start_its_aim (db_var 0 (pv 0)))) (DE.opd (de_fld fa.fl_Start_its_aim (db_var 1 (pv 1)))) (nomark _))))))))
theorem has_Start____eq__ (fa : Fa K w mg base)  (F : MethAt K "Start" "__eq__" "Start.__eq__" s_Start____eq__) : HasMP P w K mg base 1 "Start" "__eq__" 2 f_Start____eq__ := by
  obtain ⟨C, f, fd, h1, h2, h3, F⟩ := F.ex
  exact ⟨C, f, fd, ["self", "other"], ok_Start____eq__ fa  F, h1, h2, h3, F.binds fun _ _ _ _ _ _ us hl => match us, hl with | [_, _], _ => rfl⟩
abbrev s__law_alike : Stmt := topS 22
abbrev n__law_alike : List Str := ["_law_found", "_law_due"]
theorem sc__law_alike : FnScope n__law_alike ["_law_found", "_law_due"] (defScope s__law_alike) := ⟨rfl, rfl, rfl, by decide +kernel, rfl, by decide +kernel, by decide +kernel⟩
def m__law_alike : En → SRs :=
    (rtS (shD (andD (op2 (.va 0) (.va 1) semEqX) (op2 (.ex (opN [(.va 0)] semRepr)) (.ex (opN [(.va 1)] semRepr)) semEqX))))
def f__law_alike : List D → Option OV := fnP 2 m__law_alike
theorem ok__law_alike {f : Addr} {fd : FuncData} (fa : Fa K w mg base)  (F : Fun K "_law_alike" "_law_alike" s__law_alike f fd) : FnG P w K mg base CX0 1 f fd ["_law_found", "_law_due"] (spP K 2 f__law_alike) := by
  have nd := sc__law_alike.nd
  unfold f__law_alike
  refine fnP_ok (k := 0) (m := m__law_alike) F sc__law_alike rfl rfl fun cdv A outer s H E g hgd hr hB0 hW hWn hxc => ?_
  have hB := nb00 hB0
  unfold m__law_alike
  exact (ds_one (ds_ret (DE.shd (de_and (de_cmp (opd_eqX hr.units) (db_var 0 (pv 0)) (db_var 1 (pv 1)) (nomark _)) (de_one (de_cmp (opd_eqX hr.units) (DE.opd (de_callB (cd_repr hgd hr fa.sy) fa.b_repr (dbs_cons (db_var 0 (pv 0)) dbs_nil))) (DE.opd (de_callB (cd_repr hgd hr fa.sy) fa.b_repr (dbs_cons (db_var 1 (pv 1)) dbs_nil))) (nomark _)))))))
theorem has__law_alike (fa : Fa K w mg base)  (F : FnAt K mg "_law_alike" s__law_alike) : HasP P w K mg base 1 "_law_alike" 2 f__law_alike := by
  obtain ⟨f, fd, F, hm⟩ := F
  exact ⟨f, fd, ["_law_found", "_law_due"], ok__law_alike fa  F, hm, F.kp, F.binds fun _ _ _ _ _ _ us hl => match us, hl with | [_, _], _ => rfl⟩
abbrev s_law : Stmt := topS 31
abbrev s_law_sc : Scope := defScope s_law
abbrev n_law : List Str := ["_law_script", "_law_bag_here", "_law_spin", "_law_world_here", "_law_rows_here", "_law_aim", "_law_start", "_law_k", "_law_near_here", "_law_other_aim", "_law_other", "_law_same", "_law_found", "_law_thing"]
theorem sc_law : FnScope n_law ["_law_script"] (defScope s_law) := ⟨rfl, rfl, rfl, by decide +kernel, rfl, by decide +kernel, by decide +kernel⟩
abbrev it_law_1 : En → Rs (List D) := (rg1 (cD (.int 4)))
abbrev bd_law_1 : En → SRs := (seqS (asgS (frzD (callB 3 f__law_near 1 [(vD 4), (vD 5), (vD 3)])) (gT 2 (gsCons (gN 8) (gsCons (gN 9) gsNil))))
    (seqS (par2 10 11 (frzD (makeD "Start" 3 f_Start____init__ [(opN [(.ex (op2 (.va 8) (.ex (cD (.int 0))) semAt))] semTuple), (op2 (.va 8) (.ex (cD (.int 1))) semAt), (vD 9)])) (shD (op2 (.ex (tupD [(vD 8), (vD 9)])) (.ex (tupD [(vD 4), (vD 5)])) semEq)))
    (seqS (setS 12 (shD (frzD (lstD [(frzD (opM "Start" (eqArg "Start") (fun ds => toFR (f_Start____eq__ ds)) (vD 6) (vD 10))), (frzD (opM "Start" (eqArg "Start") (fun ds => toFR (f_Start____eq__ ds)) (vD 10) (vD 6))), (neM "Start" f_Start____eq__ (vD 6) (vD 10)), (frzD (opM "Start" (eqArg "Start") (fun ds => toFR (f_Start____eq__ ds)) (vD 6) (frzD (makeD "Start" 3 f_Start____init__ [(opN [(.ex (op2 (.va 4) (.ex (cD (.int 0))) semAt))] semTuple), (op2 (.va 4) (.ex (cD (.int 1))) semAt), (vD 5)]))))]))))
    (ifS (notT (toB (frzD (callP 2 f__law_alike [(vD 12), (frzD (lstD [(vD 11), (vD 11), (notV (.va 11)), (cD (.bl true))]))])))) (rtS (shD (cD (.bl false)))) nxS))))
abbrev fr_law_1 : En → SRs := forD it_law_1 (gN 7) bd_law_1
abbrev it_law_2 : En → Rs (List D) := (itA (frzD (lstD [(cD .non), (vD 4), (op2 (.va 4) (.ex (cD (.int 0))) semAt), (vD 5), (cD (.int 0)), (frzD (lstD [(vD 6)]))])))
abbrev el_law_1 : En → Rs D := (frzD (opM "Start" (eqArg "Start") (fun ds => toFR (f_Start____eq__ ds)) (vD 6) (vD 13)))
abbrev lc_law_1 : En → Rs OV := lcD it_law_2 [13] (gN 13) yesT el_law_1
abbrev it_law_3 : En → Rs (List D) := (rg1 (cD (.int 6)))
abbrev bd_law_2 : En → SRs := (seqS (setS 3 (shD (frzD (callB 0 f__law_world 1 []))))
    (seqS (par2 4 5 (frzD (lstD [(frzD (callB 2 f__law_rows 1 [(vD 3), (cD (.int 4))])), (frzD (callB 2 f__law_rows 1 [(vD 3), (cD (.int 3))]))])) (shD (frzD (callB 1 f__law_atom 1 [(op2 (.va 3) (.ex (cD (.str "things"))) semAt)]))))
    (seqS (setS 6 (shD (frzD (makeD "Start" 3 f_Start____init__ [(op2 (.va 4) (.ex (cD (.int 0))) semAt), (op2 (.va 4) (.ex (cD (.int 1))) semAt), (vD 5)]))))
    (seqS fr_law_1
    (ifS (toB (op2 (.ex (cD (.bl true))) (.ex (frzD lc_law_1)) semIn2)) (rtS (shD (cD (.bl false)))) nxS)))))
abbrev fr_law_2 : En → SRs := forD it_law_3 (gN 2) bd_law_2
def m_law : En → SRs :=
    (seqS (setS 1 (callP 1 f__law_bag [(vD 0)]))
    (seqS fr_law_2
    (rtS (shD (cD (.bl true))))))
def f_law : List D → Option OV := fnP 14 m_law
theorem ok_law {f : Addr} {fd : FuncData} (fa : Fa K w mg base) (h__law_bag : HasP P w K mg base 1 "_law_bag" 1 f__law_bag) (h__law_world : HasB P w K mg base 3 "_law_world" 0 f__law_world) (h__law_rows : HasB P w K mg base 6 "_law_rows" 2 f__law_rows) (h__law_atom : HasB P w K mg base 3 "_law_atom" 1 f__law_atom) (h_Start____init__ : HasI P w K mg base 6 "Start" 3 f_Start____init__) (h__law_near : HasB P w K mg base 6 "_law_near" 3 f__law_near) (h_Start____eq__ : HasMP P w K mg base 1 "Start" "__eq__" 2 f_Start____eq__) (h__law_alike : HasP P w K mg base 1 "_law_alike" 2 f__law_alike) (F : Fun K "law" "law" s_law f fd) : FnG P w K mg base CX0 8 f fd ["_law_script"] (spP K 1 f_law) := by
  have nd := sc_law.nd
  unfold f_law
  refine fnP_ok (k := 7) (m := m_law) F sc_law rfl rfl fun cdv A outer s H E g hgd hr hB0 hW hWn hxc => ?_
  have hB := nb00 hB0
  unfold m_law
  exact (ds_cons (ds_set (i := 1) (nb hB 1 (by decide)) nd (do_callP h__law_bag hgd (hr.mono (by decide)) (da_cons (de_var 0 (nb hB 0 (by decide)) (pv 0)) da_nil)))
    (ds_cons (ds_for PassesOwn.never rfl (di_range1 rfl fa.b_range de_int) (dg_name (i := 2) (nb hB 2 (by decide)) nd) (ds_cons (ds_set (i := 3) (nb hB 3 (by decide)) nd (DE.shd (DO.fz (do_callB h__law_world hgd (hr.mono (by decide)) (pv 1) da_nil))))
    (ds_cons (ds_par2 (i := 4) (j := 5) (nb hB 4 (by decide)) (nb hB 5 (by decide)) nd rfl (by decide) (DO.fz (do_lst (da_cons (DO.fz (do_callB h__law_rows hgd (hr.mono (by decide)) (pv 1) (da_cons (de_var 3 (nb hB 3 (by decide)) (pv 3)) (da_cons de_int da_nil)))) (da_cons (DO.fz (do_callB h__law_rows hgd (hr.mono (by decide)) (pv 1) (da_cons (de_var 3 (nb hB 3 (by decide)) (pv 3)) (da_cons de_int da_nil)))) da_nil)))) (DE.shd (DO.fz (do_callB h__law_atom hgd (hr.mono (by decide)) (pv 1) (da_cons (de_ix (ixAt (u65 hr)) (db_var 3 (pv 3)) (DE.opd de_str) (fun _ _ => rfl)) da_nil)))))
    (ds_cons (ds_set (i := 6) (nb hB 6 (by decide)) nd (DE.shd (DO.fz (do_make h_Start____init__ hgd (hr.mono (by decide)) (TkG.none hWn) (da_cons (de_ix (ixAt (u65 hr)) (db_var 4 (pv 4)) (DE.opd de_int) (fun _ _ => rfl)) (da_cons (de_ix (ixAt (u65 hr)) (db_var 4 (pv 4)) (DE.opd de_int) (fun _ _ => rfl)) (da_cons (de_var 5 (nb hB 5 (by decide)) (pv 5)) da_nil)))))))
    (ds_cons (ds_for PassesOwn.never rfl (di_range1 rfl fa.b_range de_int) (dg_name (i := 7) (nb hB 7 (by decide)) nd) (ds_cons (ds_asg (DO.fz (do_callB h__law_near hgd (hr.mono (by decide)) (pv 1) (da_cons (de_var 4 (nb hB 4 (by decide)) (pv 4)) (da_cons (de_var 5 (nb hB 5 (by decide)) (pv 5)) (da_cons (de_var 3 (nb hB 3 (by decide)) (pv 3)) da_nil))))) (dg_tup rfl (dgs_cons (dg_name (i := 8) (nb hB 8 (by decide)) nd) (dgs_cons (dg_name (i := 9) (nb hB 9 (by decide)) nd) dgs_nil))))
    (ds_cons (ds_par2 (i := 10) (j := 11) (nb hB 10 (by decide)) (nb hB 11 (by decide)) nd rfl (by decide) (DO.fz (do_make h_Start____init__ hgd (hr.mono (by decide)) (TkG.none hWn) (da_cons (de_callT cd_tuple fa.b_tuple (dbs_cons (DE.opd (de_ix (ixAt (u65 hr)) (db_var 8 (pv 8)) (DE.opd de_int) (fun _ _ => rfl))) dbs_nil)) (da_cons (de_ix (ixAt (u65 hr)) (db_var 8 (pv 8)) (DE.opd de_int) (fun _ _ => rfl)) (da_cons (de_var 9 (nb hB 9 (by decide)) (pv 9)) da_nil))))) (DE.shd (de_cmp (opd_eq hr.units) (DE.opd (de_tup (da_cons (de_var 8 (nb hB 8 (by decide)) (pv 8)) (da_cons (de_var 9 (nb hB 9 (by decide)) (pv 9)) da_nil)))) (DE.opd (de_tup (da_cons (de_var 4 (nb hB 4 (by decide)) (pv 4)) (da_cons (de_var 5 (nb hB 5 (by decide)) (pv 5)) da_nil)))) (nomark _))))
    (ds_cons (ds_set (i := 12) (nb hB 12 (by decide)) nd (DE.shd (DO.fz (do_lst (da_cons (DO.fz (do_eqM h_Start____eq__ fa.eq_Start hgd (hr.mono (by decide)) (de_var 6 (nb hB 6 (by decide)) (pv 6)) (de_var 10 (nb hB 10 (by decide)) (pv 10)) (nomark _))) (da_cons (DO.fz (do_eqM h_Start____eq__ fa.eq_Start hgd (hr.mono (by decide)) (de_var 10 (nb hB 10 (by decide)) (pv 10)) (de_var 6 (nb hB 6 (by decide)) (pv 6)) (nomark _))) (da_cons (de_neM h_Start____eq__ fa.eq_Start fa.ne_Start hgd (hr.mono (by decide)) (de_var 6 (nb hB 6 (by decide)) (pv 6)) (de_var 10 (nb hB 10 (by decide)) (pv 10)) (nomark _)) (da_cons (DO.fz (do_eqM h_Start____eq__ fa.eq_Start hgd (hr.mono (by decide)) (de_var 6 (nb hB 6 (by decide)) (pv 6)) (DO.fz (do_make h_Start____init__ hgd (hr.mono (by decide)) (TkG.none hWn) (da_cons (de_callT cd_tuple fa.b_tuple (dbs_cons (DE.opd (de_ix (ixAt (u65 hr)) (db_var 4 (pv 4)) (DE.opd de_int) (fun _ _ => rfl))) dbs_nil)) (da_cons (de_ix (ixAt (u65 hr)) (db_var 4 (pv 4)) (DE.opd de_int) (fun _ _ => rfl)) (da_cons (de_var 5 (nb hB 5 (by decide)) (pv 5)) da_nil))))) (nomark _))) da_nil))))))))
    (ds_one (ds_if (dt_not (dt_val (DO.fz (do_callP h__law_alike hgd (hr.mono (by decide)) (da_cons (de_var 12 (nb hB 12 (by decide)) (pv 12)) (da_cons (DO.fz (do_lst (da_cons (de_var 11 (nb hB 11 (by decide)) (pv 11)) (da_cons (de_var 11 (nb hB 11 (by decide)) (pv 11)) (da_cons (de_notV (db_var 11 (pv 11))) (da_cons de_bl da_nil)))))) da_nil)))))) (ds_one (ds_ret (DE.shd de_bl))) ds_nil))))))
    (ds_one (ds_if (dt_cmp (opd_in2 (u65 hr)) (DE.opd de_bl) (DE.opd (DO.fz (do_lc (own := [("_law_thing", 13)]) (ks := [13]) rfl nd (di_any (DO.fz (do_lst (da_cons de_non (da_cons (de_var 4 (nb hB 4 (by decide)) (pv 4)) (da_cons (de_ix (ixAt (u65 hr)) (db_var 4 (pv 4)) (DE.opd de_int) (fun _ _ => rfl)) (da_cons (de_var 5 (nb hB 5 (by decide)) (pv 5)) (da_cons de_int (da_cons (DO.fz (do_lst (da_cons (de_var 6 (nb hB 6 (by decide)) (pv 6)) da_nil))) da_nil))))))))) (blkOk_by (N := n_law) (sc := s_law_sc) (by decide +kernel)) rfl (nbs hB (by decide)) (by decide) (fun _ _ _ _ _ g1 e1 => (dg_name (i := 13) (nb (nbt e1 hB) 13 (by decide)) nd)) (fun _ _ _ _ _ g1 e1 => pts_nilD) (fun _ _ _ _ _ g1 e1 => (DO.fz (do_eqM h_Start____eq__ fa.eq_Start hgd (hr.mono (by decide)) (de_var 6 (nb (nbt e1 hB) 6 (by decide)) (pv 6)) (de_var 13 (nb (nbt e1 hB) 13 (by decide)) (pv 13)) (nomark _))))))) rfl) (ds_one (ds_ret (DE.shd de_bl))) ds_nil)))))))
    (ds_one (ds_ret (DE.shd de_bl)))))
end
theorem all_mk {l : PySem.W.OpenLaw} {w : World} {K : PySem.W.Frag} {h : Heap} {mg : Str → Option Value} {fz : Addr} (inK : K.In h) (ns : h.Ns mainGlobals mg) (hfz : mg "law" = some (.ref fz))
    {od1 an1 : Option Addr} {sl1 : Array (Option Value)} {oc1 kV1 dc1 pm1 cd1 ct1 : Value} {x1 : Addr}
    {od2 an2 : Option Addr} {sl2 : Array (Option Value)} {oc2 kV2 dc2 pm2 cd2 ct2 : Value} {x2 : Addr}
    {od3 an3 : Option Addr} {sl3 : Array (Option Value)} {oc3 kV3 dc3 pm3 cd3 ct3 : Value} {x3 : Addr}
    {od4 an4 : Option Addr} {sl4 : Array (Option Value)} {oc4 kV4 dc4 pm4 cd4 ct4 : Value} {x4 : Addr}
    {od5 an5 : Option Addr} {sl5 : Array (Option Value)} {oc5 kV5 dc5 pm5 cd5 ct5 : Value} {x5 : Addr}
    {od6 an6 : Option Addr} {sl6 : Array (Option Value)} {oc6 kV6 dc6 pm6 cd6 ct6 : Value} {x6 : Addr}
    {od7 an7 : Option Addr} {sl7 : Array (Option Value)} {oc7 kV7 dc7 pm7 cd7 ct7 : Value} {x7 : Addr}
    {od8 an8 : Option Addr} {sl8 : Array (Option Value)} {oc8 kV8 dc8 pm8 cd8 ct8 : Value} {x8 : Addr}
    {od9 an9 : Option Addr} {sl9 : Array (Option Value)} {oc9 kV9 dc9 pm9 cd9 ct9 : Value} {x9 : Addr}
    {od10 an10 : Option Addr} {sl10 : Array (Option Value)} {oc10 kV10 dc10 pm10 cd10 ct10 : Value} {x10 : Addr}
    {od11 an11 : Option Addr} {sl11 : Array (Option Value)} {oc11 kV11 dc11 pm11 cd11 ct11 : Value} {x11 : Addr}
    {od12 an12 : Option Addr} {sl12 : Array (Option Value)} {oc12 kV12 dc12 pm12 cd12 ct12 : Value} {x12 : Addr}
    {od13 an13 : Option Addr} {sl13 : Array (Option Value)} {oc13 kV13 dc13 pm13 cd13 ct13 : Value} {x13 : Addr}
    {od14 an14 : Option Addr} {sl14 : Array (Option Value)} {oc14 kV14 dc14 pm14 cd14 ct14 : Value} {x14 : Addr}
    {od15 an15 : Option Addr} {sl15 : Array (Option Value)} {oc15 kV15 dc15 pm15 cd15 ct15 : Value} {x15 : Addr}
    {od16 an16 : Option Addr} {sl16 : Array (Option Value)} {oc16 kV16 dc16 pm16 cd16 ct16 : Value} {x16 : Addr}
    {od17 an17 : Option Addr} {sl17 : Array (Option Value)} {oc17 kV17 dc17 pm17 cd17 ct17 : Value} {x17 : Addr}
    {od18 an18 : Option Addr} {sl18 : Array (Option Value)} {oc18 kV18 dc18 pm18 cd18 ct18 : Value} {x18 : Addr}
    {od19 an19 : Option Addr} {sl19 : Array (Option Value)} {oc19 kV19 dc19 pm19 cd19 ct19 : Value} {x19 : Addr}
    {od20 an20 : Option Addr} {sl20 : Array (Option Value)} {oc20 kV20 dc20 pm20 cd20 ct20 : Value} {x20 : Addr}
    {x_Wrong : Addr} (ea_Wrong : PySem.W.nsIn K mainGlobals "Wrong" = some (some (.ref x_Wrong)))
    {x_Start : Addr} (ea_Start : PySem.W.nsIn K mainGlobals "Start" = some (some (.ref x_Start)))
    (a1 : PySem.W.nsIn K mainGlobals "_law_bag" = some (some (.ref x1))) (l1 : K.lookup x1 = some ⟨oc1, od1, .func (PySem.W.fnOf "_law_bag" "_law_bag" (defArgs s__law_bag) (defBody s__law_bag) (defScope s__law_bag) .none kV1 dc1 pm1 an1 cd1 ct1), sl1⟩) (c1 : PySem.W.codeIn K cd1 "_law_bag" = true) (k1 : PySem.W.keepIn K (.ref x1) = true)
    (a2 : PySem.W.nsIn K mainGlobals "_law_take" = some (some (.ref x2))) (l2 : K.lookup x2 = some ⟨oc2, od2, .func (PySem.W.fnOf "_law_take" "_law_take" (defArgs s__law_take) (defBody s__law_take) (defScope s__law_take) .none kV2 dc2 pm2 an2 cd2 ct2), sl2⟩) (c2 : PySem.W.codeIn K cd2 "_law_take" = true) (k2 : PySem.W.keepIn K (.ref x2) = true)
    (a3 : PySem.W.nsIn K mainGlobals "_law_names" = some (some (.ref x3))) (l3 : K.lookup x3 = some ⟨oc3, od3, .func (PySem.W.fnOf "_law_names" "_law_names" (defArgs s__law_names) (defBody s__law_names) (defScope s__law_names) .none kV3 dc3 pm3 an3 cd3 ct3), sl3⟩) (c3 : PySem.W.codeIn K cd3 "_law_names" = true) (k3 : PySem.W.keepIn K (.ref x3) = true)
    (a4 : PySem.W.nsIn K mainGlobals "_law_world" = some (some (.ref x4))) (l4 : K.lookup x4 = some ⟨oc4, od4, .func (PySem.W.fnOf "_law_world" "_law_world" (defArgs s__law_world) (defBody s__law_world) (defScope s__law_world) .none kV4 dc4 pm4 an4 cd4 ct4), sl4⟩) (c4 : PySem.W.codeIn K cd4 "_law_world" = true) (k4 : PySem.W.keepIn K (.ref x4) = true)
    (a5 : PySem.W.nsIn K mainGlobals "is_name" = some (some (.ref x5))) (l5 : K.lookup x5 = some ⟨oc5, od5, .func (PySem.W.fnOf "is_name" "is_name" (defArgs s_is_name) (defBody s_is_name) (defScope s_is_name) .none kV5 dc5 pm5 an5 cd5 ct5), sl5⟩) (c5 : PySem.W.codeIn K cd5 "is_name" = true) (k5 : PySem.W.keepIn K (.ref x5) = true)
    (a6 : PySem.W.nsIn K mainGlobals "is_relation" = some (some (.ref x6))) (l6 : K.lookup x6 = some ⟨oc6, od6, .func (PySem.W.fnOf "is_relation" "is_relation" (defArgs s_is_relation) (defBody s_is_relation) (defScope s_is_relation) .none kV6 dc6 pm6 an6 cd6 ct6), sl6⟩) (c6 : PySem.W.codeIn K cd6 "is_relation" = true) (k6 : PySem.W.keepIn K (.ref x6) = true)
    (a7 : PySem.W.nsIn K mainGlobals "is_atom" = some (some (.ref x7))) (l7 : K.lookup x7 = some ⟨oc7, od7, .func (PySem.W.fnOf "is_atom" "is_atom" (defArgs s_is_atom) (defBody s_is_atom) (defScope s_is_atom) .none kV7 dc7 pm7 an7 cd7 ct7), sl7⟩) (c7 : PySem.W.codeIn K cd7 "is_atom" = true) (k7 : PySem.W.keepIn K (.ref x7) = true)
    (a8 : PySem.W.nsIn K mainGlobals "is_fact" = some (some (.ref x8))) (l8 : K.lookup x8 = some ⟨oc8, od8, .func (PySem.W.fnOf "is_fact" "is_fact" (defArgs s_is_fact) (defBody s_is_fact) (defScope s_is_fact) .none kV8 dc8 pm8 an8 cd8 ct8), sl8⟩) (c8 : PySem.W.codeIn K cd8 "is_fact" = true) (k8 : PySem.W.keepIn K (.ref x8) = true)
    (a9 : PySem.W.nsIn K mainGlobals "is_row" = some (some (.ref x9))) (l9 : K.lookup x9 = some ⟨oc9, od9, .func (PySem.W.fnOf "is_row" "is_row" (defArgs s_is_row) (defBody s_is_row) (defScope s_is_row) .none kV9 dc9 pm9 an9 cd9 ct9), sl9⟩) (c9 : PySem.W.codeIn K cd9 "is_row" = true) (k9 : PySem.W.keepIn K (.ref x9) = true)
    (a10 : PySem.W.nsIn K mainGlobals "are_rows" = some (some (.ref x10))) (l10 : K.lookup x10 = some ⟨oc10, od10, .func (PySem.W.fnOf "are_rows" "are_rows" (defArgs s_are_rows) (defBody s_are_rows) (defScope s_are_rows) .none kV10 dc10 pm10 an10 cd10 ct10), sl10⟩) (c10 : PySem.W.codeIn K cd10 "are_rows" = true) (k10 : PySem.W.keepIn K (.ref x10) = true)
    (a11 : PySem.W.findIn K (.ref x_Start) "__init__" = some (some (.ref x11))) (i11 : PySem.W.isFn K (.ref x11) = true) (l11 : K.lookup x11 = some ⟨oc11, od11, .func (PySem.W.fnOf "__init__" "Start.__init__" (defArgs s_Start____init__) (defBody s_Start____init__) (defScope s_Start____init__) .none kV11 dc11 pm11 an11 cd11 ct11), sl11⟩) (c11 : PySem.W.codeIn K cd11 "Start.__init__" = true) (k11 : PySem.W.keepIn K (.ref x11) = true)
    (a12 : PySem.W.nsIn K mainGlobals "_law_some" = some (some (.ref x12))) (l12 : K.lookup x12 = some ⟨oc12, od12, .func (PySem.W.fnOf "_law_some" "_law_some" (defArgs s__law_some) (defBody s__law_some) (defScope s__law_some) .none kV12 dc12 pm12 an12 cd12 ct12), sl12⟩) (c12 : PySem.W.codeIn K cd12 "_law_some" = true) (k12 : PySem.W.keepIn K (.ref x12) = true)
    (a13 : PySem.W.nsIn K mainGlobals "_law_atom" = some (some (.ref x13))) (l13 : K.lookup x13 = some ⟨oc13, od13, .func (PySem.W.fnOf "_law_atom" "_law_atom" (defArgs s__law_atom) (defBody s__law_atom) (defScope s__law_atom) .none kV13 dc13 pm13 an13 cd13 ct13), sl13⟩) (c13 : PySem.W.codeIn K cd13 "_law_atom" = true) (k13 : PySem.W.keepIn K (.ref x13) = true)
    (a14 : PySem.W.nsIn K mainGlobals "_law_fact" = some (some (.ref x14))) (l14 : K.lookup x14 = some ⟨oc14, od14, .func (PySem.W.fnOf "_law_fact" "_law_fact" (defArgs s__law_fact) (defBody s__law_fact) (defScope s__law_fact) .none kV14 dc14 pm14 an14 cd14 ct14), sl14⟩) (c14 : PySem.W.codeIn K cd14 "_law_fact" = true) (k14 : PySem.W.keepIn K (.ref x14) = true)
    (a15 : PySem.W.nsIn K mainGlobals "_law_row" = some (some (.ref x15))) (l15 : K.lookup x15 = some ⟨oc15, od15, .func (PySem.W.fnOf "_law_row" "_law_row" (defArgs s__law_row) (defBody s__law_row) (defScope s__law_row) .none kV15 dc15 pm15 an15 cd15 ct15), sl15⟩) (c15 : PySem.W.codeIn K cd15 "_law_row" = true) (k15 : PySem.W.keepIn K (.ref x15) = true)
    (a16 : PySem.W.nsIn K mainGlobals "_law_near" = some (some (.ref x16))) (l16 : K.lookup x16 = some ⟨oc16, od16, .func (PySem.W.fnOf "_law_near" "_law_near" (defArgs s__law_near) (defBody s__law_near) (defScope s__law_near) .none kV16 dc16 pm16 an16 cd16 ct16), sl16⟩) (c16 : PySem.W.codeIn K cd16 "_law_near" = true) (k16 : PySem.W.keepIn K (.ref x16) = true)
    (a17 : PySem.W.nsIn K mainGlobals "_law_rows" = some (some (.ref x17))) (l17 : K.lookup x17 = some ⟨oc17, od17, .func (PySem.W.fnOf "_law_rows" "_law_rows" (defArgs s__law_rows) (defBody s__law_rows) (defScope s__law_rows) .none kV17 dc17 pm17 an17 cd17 ct17), sl17⟩) (c17 : PySem.W.codeIn K cd17 "_law_rows" = true) (k17 : PySem.W.keepIn K (.ref x17) = true)
    (a18 : PySem.W.findIn K (.ref x_Start) "__eq__" = some (some (.ref x18))) (i18 : PySem.W.isFn K (.ref x18) = true) (l18 : K.lookup x18 = some ⟨oc18, od18, .func (PySem.W.fnOf "__eq__" "Start.__eq__" (defArgs s_Start____eq__) (defBody s_Start____eq__) (defScope s_Start____eq__) .none kV18 dc18 pm18 an18 cd18 ct18), sl18⟩) (c18 : PySem.W.codeIn K cd18 "Start.__eq__" = true) (k18 : PySem.W.keepIn K (.ref x18) = true)
    (a19 : PySem.W.nsIn K mainGlobals "_law_alike" = some (some (.ref x19))) (l19 : K.lookup x19 = some ⟨oc19, od19, .func (PySem.W.fnOf "_law_alike" "_law_alike" (defArgs s__law_alike) (defBody s__law_alike) (defScope s__law_alike) .none kV19 dc19 pm19 an19 cd19 ct19), sl19⟩) (c19 : PySem.W.codeIn K cd19 "_law_alike" = true) (k19 : PySem.W.keepIn K (.ref x19) = true)
    (a20 : PySem.W.nsIn K mainGlobals "law" = some (some (.ref x20))) (l20 : K.lookup x20 = some ⟨oc20, od20, .func (PySem.W.fnOf "law" "law" (defArgs s_law) (defBody s_law) (defScope s_law) .none kV20 dc20 pm20 an20 cd20 ct20), sl20⟩) (c20 : PySem.W.codeIn K cd20 "law" = true) (k20 : PySem.W.keepIn K (.ref x20) = true)
    {ft_LETTERS : Tok} (fv_LETTERS : PySem.W.nsIn K mainGlobals "LETTERS" = some (some (.str "abcdefghijklmnopqrstuvwxyz" ft_LETTERS)))
    {ft_MOST_LETTERS : Tok} (fv_MOST_LETTERS : PySem.W.nsIn K mainGlobals "MOST_LETTERS" = some (some (.int 8 ft_MOST_LETTERS)))
    {fx_RELATIONS : Addr} {fo_RELATIONS : Option Addr} {fn_RELATIONS : Nat} {fs_RELATIONS : Array (Option Value)} {ft_RELATIONS_0 : Tok} {ft_RELATIONS_1 : Tok} {ft_RELATIONS_2 : Tok} (fv_RELATIONS : PySem.W.nsIn K mainGlobals "RELATIONS" = some (some (.ref fx_RELATIONS))) (fl_RELATIONS : K.lookup fx_RELATIONS = some ⟨.type "tuple", fo_RELATIONS, .seq (List.toArray [.str "eq" ft_RELATIONS_0, .str "lt" ft_RELATIONS_1, .str "gt" ft_RELATIONS_2]) fn_RELATIONS, fs_RELATIONS⟩)
    (pg_Start : PySem.W.plainGet K x_Start Str.empty = true)
    (hd_Start : PySem.W.hasDictIn K x_Start = true)
    (po_Start : PySem.W.plainOver K x_Start = true)
    (sa_Start : PySem.W.findIn K (.ref x_Start) "__setattr__" = some (some (.builtin "object.__setattr__")))
    (mk_Start : PySem.W.makesIn K x_Start = true)
    (kc_Start : PySem.W.keepIn K (.ref x_Start) = true)
    (na_Start_its_aim : PySem.W.findIn K (.ref x_Start) "its_aim" = some none)
    (na_Start_its_rows : PySem.W.findIn K (.ref x_Start) "its_rows" = some none)
    {nm_Wrong qn_Wrong : Str} {nN_Wrong : Addr} {bs_Wrong : List Value} {sn_Wrong : List Str} {su_Wrong : List Value} {ab_Wrong : Bool} {co_Wrong : Option Bool} {dd_Wrong : Option Addr} {m0_Wrong m1_Wrong m2_Wrong m3_Wrong m5_Wrong : Option Value}
    (xl_Wrong : K.lookup x_Wrong = some (excClassObj nm_Wrong qn_Wrong x_Wrong nN_Wrong bs_Wrong [.ref x_PickError, .type "ValueError", .type "Exception", .type "BaseException", .type "object"] true sn_Wrong su_Wrong ab_Wrong co_Wrong dd_Wrong m0_Wrong m1_Wrong m2_Wrong m3_Wrong m5_Wrong "ValueError.__new__"))
    (es_Wrong : PySem.W.findIn K (.ref x_Wrong) "__setattr__" = some (some (.builtin "object.__setattr__")))
    (ec_Wrong : PySem.W.subIn K (.ref x_Wrong) (.type "BaseException") = some true)
    (et_Wrong : PySem.W.typeIn K (.ref x_Wrong) = some (.type "type"))
    (ek_Wrong : PySem.W.keepIn K (.ref x_Wrong) = true)
    (en_Wrong : PySem.W.findIn K (.ref x_Wrong) "place" = some none)
    {ei_Wrong : Addr} {eod_Wrong ean_Wrong : Option Addr} {esl_Wrong : Array (Option Value)} {eoc_Wrong ekV_Wrong edc_Wrong epm_Wrong ecd_Wrong ect_Wrong : Value}
    (ia_Wrong : PySem.W.findIn K (.ref x_Wrong) "__init__" = some (some (.ref ei_Wrong)))
    (it_Wrong : PySem.W.typeIn K (.ref ei_Wrong) = some (.type "function"))
    (il_Wrong : K.lookup ei_Wrong = some ⟨eoc_Wrong, eod_Wrong, .func (PySem.W.fnOf "__init__" "Wrong.__init__" (defArgs e_Wrong) (defBody e_Wrong) (defScope e_Wrong) .none ekV_Wrong edc_Wrong epm_Wrong ean_Wrong ecd_Wrong ect_Wrong), esl_Wrong⟩)
    (ic_Wrong : PySem.W.codeIn K ecd_Wrong "Wrong.__init__" = true)
    (ik_Wrong : PySem.W.keepIn K (.ref ei_Wrong) = true)
    (ia_i_Start : PySem.W.findIn K (.ref x_Start) "__class__" = some (some (.builtin "object.__class__")))
    (im_i_Start : PySem.W.mroIn K x_Start (.type "object") = some true)
    (iy_i_Start : PySem.W.typeIn K (.ref x_Start) = some (.type "type"))
    (ks_i_Start : PySem.W.subIn K (.ref x_Start) (.ref x_Start) = some true)
    (kt_i_Start_NoneType : PySem.W.subIn K (.type "NoneType") (.ref x_Start) = some false)
    (kt_i_Start_bool : PySem.W.subIn K (.type "bool") (.ref x_Start) = some false)
    (kt_i_Start_int : PySem.W.subIn K (.type "int") (.ref x_Start) = some false)
    (kt_i_Start_str : PySem.W.subIn K (.type "str") (.ref x_Start) = some false)
    (kt_i_Start_list : PySem.W.subIn K (.type "list") (.ref x_Start) = some false)
    (kt_i_Start_tuple : PySem.W.subIn K (.type "tuple") (.ref x_Start) = some false)
    (kt_i_Start_dict : PySem.W.subIn K (.type "dict") (.ref x_Start) = some false)
    (ne_o_Start : PySem.W.findIn K (.ref x_Start) "__ne__" = some (some (.builtin "object.__ne__")))
    (sg : PySem.W.specialIn K (.builtin "object.__class__") "__get__" = some (some (.builtin "getset_descriptor.__get__")))
    (tg : PySem.W.takesIn K (.builtin "object.__class__") = some true)
    (nz : noZ K = true)
    (z_abs : PySem.W.nsIn K mainGlobals "abs" = some none)
    (z_all : PySem.W.nsIn K mainGlobals "all" = some none)
    (z_int : PySem.W.nsIn K mainGlobals "int" = some none)
    (z_isinstance : PySem.W.nsIn K mainGlobals "isinstance" = some none)
    (z_len : PySem.W.nsIn K mainGlobals "len" = some none)
    (z_list : PySem.W.nsIn K mainGlobals "list" = some none)
    (z_range : PySem.W.nsIn K mainGlobals "range" = some none)
    (z_repr : PySem.W.nsIn K mainGlobals "repr" = some none)
    (z_str : PySem.W.nsIn K mainGlobals "str" = some none)
    (z_tuple : PySem.W.nsIn K mainGlobals "tuple" = some none) :
    ∃ fd : FuncData, (∀ (s : Shared) (v : Value), BindsTo s fd ⟨[v], []⟩ [("_law_script", v)]) ∧ ∀ base : Heap, K.In base → base.Ns mainGlobals mg → SysAt base → FnG l.prog w K mg base CX0 8 fz fd ["_law_script"] (spP K 1 f_law) := by
  have ez := hfz.symm.trans (PySem.W.mg_of inK ns a20)
  cases ez
  have F1 := fun_mk (st := s__law_bag) l1 c1 k1
  have F2 := fun_mk (st := s__law_take) l2 c2 k2
  have F3 := fun_mk (st := s__law_names) l3 c3 k3
  have F4 := fun_mk (st := s__law_world) l4 c4 k4
  have F5 := fun_mk (st := s_is_name) l5 c5 k5
  have F6 := fun_mk (st := s_is_relation) l6 c6 k6
  have F7 := fun_mk (st := s_is_atom) l7 c7 k7
  have F8 := fun_mk (st := s_is_fact) l8 c8 k8
  have F9 := fun_mk (st := s_is_row) l9 c9 k9
  have F10 := fun_mk (st := s_are_rows) l10 c10 k10
  have F11 := fun_mk (st := s_Start____init__) l11 c11 k11
  have F12 := fun_mk (st := s__law_some) l12 c12 k12
  have F13 := fun_mk (st := s__law_atom) l13 c13 k13
  have F14 := fun_mk (st := s__law_fact) l14 c14 k14
  have F15 := fun_mk (st := s__law_row) l15 c15 k15
  have F16 := fun_mk (st := s__law_near) l16 c16 k16
  have F17 := fun_mk (st := s__law_rows) l17 c17 k17
  have F18 := fun_mk (st := s_Start____eq__) l18 c18 k18
  have F19 := fun_mk (st := s__law_alike) l19 c19 k19
  have F20 := fun_mk (st := s_law) l20 c20 k20
  refine ⟨PySem.W.fnOf "law" "law" (defArgs s_law) (defBody s_law) (defScope s_law) .none kV20 dc20 pm20 an20 cd20 ct20, fun s v => .of_eq rfl, fun base _ _ sy => ?_⟩
  have fa : Fa K w mg base := {
    sy := sy,
    v_LETTERS := .str "abcdefghijklmnopqrstuvwxyz",
    u_LETTERS := _,
    m_LETTERS := PySem.W.mg_of inK ns fv_LETTERS,
    r_LETTERS := ⟨_, rfl⟩,
    d_LETTERS := fun F => .str _,
    v_MOST_LETTERS := .int 8,
    u_MOST_LETTERS := _,
    m_MOST_LETTERS := PySem.W.mg_of inK ns fv_MOST_LETTERS,
    r_MOST_LETTERS := ⟨_, rfl⟩,
    d_MOST_LETTERS := fun F => .int _,
    v_RELATIONS := .ref fx_RELATIONS,
    u_RELATIONS := _,
    m_RELATIONS := PySem.W.mg_of inK ns fv_RELATIONS,
    r_RELATIONS := rfl,
    d_RELATIONS := fun F => .tup (xs := [.str "eq", .str "lt", .str "gt"]) (.inr ⟨_, _, fn_RELATIONS, fl_RELATIONS, rfl, rfl, by show 3 ≤ sizeLine; decide, (.cons ⟨_, rfl⟩ (.cons ⟨_, rfl⟩ (.cons ⟨_, rfl⟩ .nil)))⟩) (.cons (.str _) (.cons (.str _) (.cons (.str _) .nil))),
    nz := nz,
    io_Start := ⟨⟨x_Start, PySem.W.mg_of inK ns ea_Start, ea_Start, ⟨⟨pg_Start, hd_Start, po_Start, sa_Start⟩, ia_i_Start, sg, tg, im_i_Start, kit_ref hd_Start iy_i_Start ks_i_Start ks_i_Start⟩, fun T hT => by
      simp only [dTys, List.mem_cons, List.not_mem_nil, or_false] at hT
      rcases hT with rfl | rfl | rfl | rfl | rfl | rfl | rfl
      · exact kit_ty hd_Start iy_i_Start kt_i_Start_NoneType
      · exact kit_ty hd_Start iy_i_Start kt_i_Start_bool
      · exact kit_ty hd_Start iy_i_Start kt_i_Start_int
      · exact kit_ty hd_Start iy_i_Start kt_i_Start_str
      · exact kit_ty hd_Start iy_i_Start kt_i_Start_list
      · exact kit_ty hd_Start iy_i_Start kt_i_Start_tuple
      · exact kit_ty hd_Start iy_i_Start kt_i_Start_dict⟩⟩,
    eq_Start := ⟨⟨x_Start, ea_Start, ⟨⟨pg_Start, hd_Start, po_Start, sa_Start⟩, ia_i_Start, sg, tg, im_i_Start, kit_ref hd_Start iy_i_Start ks_i_Start ks_i_Start⟩, fun T hT => by
      simp only [dTys, List.mem_cons, List.not_mem_nil, or_false] at hT
      rcases hT with rfl | rfl | rfl | rfl | rfl | rfl | rfl
      · exact kt_i_Start_NoneType
      · exact kt_i_Start_bool
      · exact kt_i_Start_int
      · exact kt_i_Start_str
      · exact kt_i_Start_list
      · exact kt_i_Start_tuple
      · exact kt_i_Start_dict⟩⟩,
    ne_Start := ⟨⟨x_Start, ea_Start, ne_o_Start, im_i_Start⟩⟩,
    fl_Start_its_aim := FldOk.of ea_Start ⟨pg_Start, hd_Start, po_Start, sa_Start⟩ na_Start_its_aim,
    fl_Start_its_rows := FldOk.of ea_Start ⟨pg_Start, hd_Start, po_Start, sa_Start⟩ na_Start_its_rows,
    b_abs := PySem.W.mg_none_of inK ns z_abs,
    b_all := PySem.W.mg_none_of inK ns z_all,
    b_int := PySem.W.mg_none_of inK ns z_int,
    b_isinstance := PySem.W.mg_none_of inK ns z_isinstance,
    b_len := PySem.W.mg_none_of inK ns z_len,
    b_list := PySem.W.mg_none_of inK ns z_list,
    b_range := PySem.W.mg_none_of inK ns z_range,
    b_repr := PySem.W.mg_none_of inK ns z_repr,
    b_str := PySem.W.mg_none_of inK ns z_str,
    b_tuple := PySem.W.mg_none_of inK ns z_tuple }
  have E_Wrong := fun_mk (st := e_Wrong) il_Wrong ic_Wrong ik_Wrong
  have h_E_Wrong : HasE l.prog w K mg base "Wrong" "place" := ⟨x_Wrong, ei_Wrong, _, _, PySem.W.mg_of inK ns ea_Wrong, ea_Wrong, ⟨⟨_, _, _, _, _, _, _, _, _, _, _, _, _, _, _, xl_Wrong, rfl⟩, es_Wrong, ec_Wrong, et_Wrong, ek_Wrong⟩, en_Wrong, ia_Wrong, it_Wrong, errInit_ok E_Wrong esc_Wrong rfl (fun _ _ _ _ _ _ => pv 0) (fun _ _ _ _ _ _ => pv 1) (fun _ _ _ _ _ _ => rfl), E_Wrong.binds (ps := ["self", "place"]) fun _ _ _ _ _ _ us hl => match us, hl with | [_, _], _ => rfl⟩
  have h__law_bag := has__law_bag (P := l.prog) (base := base) fa  ⟨_, _, F1, PySem.W.mg_of inK ns a1⟩
  have h__law_take := has__law_take (P := l.prog) (base := base) fa  ⟨_, _, F2, PySem.W.mg_of inK ns a2⟩
  have h__law_names := has__law_names (P := l.prog) (base := base) fa h__law_take ⟨_, _, F3, PySem.W.mg_of inK ns a3⟩
  have h__law_world := has__law_world (P := l.prog) (base := base) fa h__law_names h__law_take ⟨_, _, F4, PySem.W.mg_of inK ns a4⟩
  have h_is_name := has_is_name (P := l.prog) (base := base) fa  ⟨_, _, F5, PySem.W.mg_of inK ns a5⟩
  have h_is_relation := has_is_relation (P := l.prog) (base := base) fa  ⟨_, _, F6, PySem.W.mg_of inK ns a6⟩
  have h_is_atom := has_is_atom (P := l.prog) (base := base) fa h_is_name h_is_relation ⟨_, _, F7, PySem.W.mg_of inK ns a7⟩
  have h_is_fact := has_is_fact (P := l.prog) (base := base) fa h_is_atom ⟨_, _, F8, PySem.W.mg_of inK ns a8⟩
  have h_is_row := has_is_row (P := l.prog) (base := base) fa h_is_fact h_is_name ⟨_, _, F9, PySem.W.mg_of inK ns a9⟩
  have h_are_rows := has_are_rows (P := l.prog) (base := base) fa h_is_row ⟨_, _, F10, PySem.W.mg_of inK ns a10⟩
  have h_Start____init__ := has_Start____init__ (P := l.prog) (base := base) fa h_are_rows h_is_atom h_E_Wrong ⟨x_Start, _, _, PySem.W.mg_of inK ns ea_Start, ea_Start, ⟨mk_Start, a11, i11, kc_Start⟩, F11⟩
  have h__law_some := has__law_some (P := l.prog) (base := base) fa h__law_take ⟨_, _, F12, PySem.W.mg_of inK ns a12⟩
  have h__law_atom := has__law_atom (P := l.prog) (base := base) fa h__law_take h__law_some ⟨_, _, F13, PySem.W.mg_of inK ns a13⟩
  have h__law_fact := has__law_fact (P := l.prog) (base := base) fa h__law_take h__law_atom ⟨_, _, F14, PySem.W.mg_of inK ns a14⟩
  have h__law_row := has__law_row (P := l.prog) (base := base) fa h__law_some h__law_fact ⟨_, _, F15, PySem.W.mg_of inK ns a15⟩
  have h__law_near := has__law_near (P := l.prog) (base := base) fa h__law_take h__law_row h__law_atom h__law_some ⟨_, _, F16, PySem.W.mg_of inK ns a16⟩
  have h__law_rows := has__law_rows (P := l.prog) (base := base) fa h__law_take h__law_row ⟨_, _, F17, PySem.W.mg_of inK ns a17⟩
  have h_Start____eq__ := has_Start____eq__ (P := l.prog) (base := base) fa  ⟨x_Start, _, _, ea_Start, ⟨pg_Start, hd_Start, po_Start, sa_Start⟩, ⟨a18, i18, k18⟩, F18⟩
  have h__law_alike := has__law_alike (P := l.prog) (base := base) fa  ⟨_, _, F19, PySem.W.mg_of inK ns a19⟩
  exact ok_law fa h__law_bag h__law_world h__law_rows h__law_atom h_Start____init__ h__law_near h_Start____eq__ h__law_alike F20
end
end T

-- needs: _law_bag _law_take
namespace T
open PySem L2 DL
/-! ### the bag -/
structure BagOk (bs : List D) : Prop where
  ex : ∃ (b0 b1 b2 : Int) (cs : List Int), bs = [.int b0, .int b1, .int b2, .lst (cs.map D.int)] ∧ 0 ≤ b0 ∧ 0 ≤ b1 ∧ b1 < 2147483647 ∧ 0 ≤ b2 ∧ (∀ c ∈ cs, 0 ≤ c) ∧ cs.length ≤ 63
set_option maxHeartbeats 2000000 in
theorem take1 (b0 b1 b2 n : Int) (cs : List Int) (h0 : 0 < b0) (hn : 0 < n) (hn2 : n < 1073741824) : f__law_take [.int b0, .int b1, .int b2, .lst (cs.map D.int)] [.int n] = some (.sh (.int (b0 % n)), [.int (b0 / n), .int b1, .int b2, .lst (cs.map D.int)]) := by
  have e0 : b0 ≠ 0 := by omega
  simp [f__law_take, m__law_take, fnB, fnP, Rs.noE, startE, seqS, ifS, thenS, toB, op2, opN, op1, Opd.run, fill, lookV, look, Rs.bind, Rs.map, ofO, cD, vD, semIx, semEq, semNe, eqB, D.sc, D.asB, atI, ixN, semGt, semGe, semLt, semLe, setS, putS, DL.putF, shD, frzD, mvD, rtS, chgS, fillW, OV.lst?, OV.d, nxS, runs, looks, semInt, semMod, semFdiv, semAdd, semSub, semMul, semAbs, semLen, semTuple, semList, lstD, tupD, evs, callP, callB, slD, poN, poS, semSl, D.asI, appS, appF, extS, extF, augS, augF, exS, ifD, andT, orT, notT, notD, andD, orD, par2, par3, asgS, gN, gT, gsCons, gsNil, forD, rg1, rg2, itA, D.items, zpD, zip2, zipD, lcD, yesT, wipeE, m1D, tabD, semIs, semIsNot, D.isN, semAt, semIn2, semNotIn2, inB2, toT, orV, andV, notV, D.tru, chD, isiD, D.isi, D.ty, isTy, D.key, evPs, dicD, semDict, pairD, mergeD, putD, valD, semRepr, callL, op2O, slO, opNO, lrgO, OV.flt, D.flt, semAddL, semMulL, semListL, mLD, popF, popS, insF, insS, clrS, revO, e0, h0, hn, hn2]
set_option maxHeartbeats 4000000 in
theorem take0 (b1 b2 n : Int) (cs : List Int) (h1 : 0 ≤ b1) (h2 : b1 < 2147483647) (hb2 : 0 ≤ b2) (hc : ∀ c ∈ cs, 0 ≤ c) (hl : cs.length ≤ 63) (hn : 0 < n) (hn2 : n < 1073741824) :
    ∃ v bs', f__law_take [.int 0, .int b1, .int b2, .lst (cs.map D.int)] [.int n] = some (.sh (.int v), bs') ∧ 0 ≤ v ∧ v < n ∧ BagOk bs' := by
  obtain ⟨c, hcell, hc0⟩ : ∃ c : Int, (∃ rest, ((cutL cs (some b2) none).map D.int) ++ [D.int 0] = D.int c :: rest) ∧ 0 ≤ c := by
    cases e : cutL cs (some b2) none with
    | nil => exact ⟨0, ⟨[], rfl⟩, Int.le_refl 0⟩
    | cons c r => exact ⟨c, ⟨_, rfl⟩, hc c (cutL_mem (lo := some b2) (hi := none) (by rw [e]; exact List.mem_cons_self ..))⟩
  have hlen : (cutL cs (some b2) none).length + 1 ≤ 1000000 := by have := cutL_len cs (some b2) none; omega
  obtain ⟨rest, hcell⟩ := hcell
  have hm1 : -18446744073709551616 < b1 ∧ b1 < 18446744073709551616 := by omega
  have hm2 : -18446744073709551616 < b1 + 1 ∧ b1 + 1 < 18446744073709551616 := by omega
  have mix : ∀ x : Int, 0 ≤ x % 2147483647 ∧ x % 2147483647 < 2147483647 := fun x => ⟨Int.emod_nonneg _ (by decide), Int.emod_lt_of_pos _ (by decide)⟩
  by_cases hbig : 1000000000000000000 ≤ c
  · have hc1 : c ≠ 0 := by omega
    have hc2 : 0 < c := by omega
    refine ⟨c % n, [.int (c / n), .int ((b1 * 48271 + c % 2147483647 + 7919 * (b2 + 1)) % 2147483647), .int (b2 + 1), .lst (cs.map D.int)], ?_, Int.emod_nonneg _ (by omega), Int.emod_lt_of_pos _ hn, ⟨_, _, _, _, rfl, Int.ediv_nonneg (by omega) (by omega), (mix _).1, (mix _).2, by omega, hc, hl⟩⟩
    simp [f__law_take, m__law_take, fnB, fnP, Rs.noE, startE, seqS, ifS, thenS, toB, op2, opN, op1, Opd.run, fill, lookV, look, Rs.bind, Rs.map, ofO, cD, vD, semIx, semEq, semNe, eqB, D.sc, D.asB, atI, ixN, semGt, semGe, semLt, semLe, setS, putS, DL.putF, shD, frzD, mvD, rtS, chgS, fillW, OV.lst?, OV.d, nxS, runs, looks, semInt, semMod, semFdiv, semAdd, semSub, semMul, semAbs, semLen, semTuple, semList, lstD, tupD, evs, callP, callB, slD, poN, poS, semSl, D.asI, appS, appF, extS, extF, augS, augF, exS, ifD, andT, orT, notT, notD, andD, orD, par2, par3, asgS, gN, gT, gsCons, gsNil, forD, rg1, rg2, itA, D.items, zpD, zip2, zipD, lcD, yesT, wipeE, m1D, tabD, semIs, semIsNot, D.isN, semAt, semIn2, semNotIn2, inB2, toT, orV, andV, notV, D.tru, chD, isiD, D.isi, D.ty, isTy, D.key, evPs, dicD, semDict, pairD, mergeD, putD, valD, semRepr, callL, op2O, slO, opNO, lrgO, OV.flt, D.flt, semAddL, semMulL, semListL, mLD, popF, popS, insF, insS, clrS, revO, cutL_map, hcell, hlen, hbig, hc1, hc2, hn, hn2, hm1]
  · have hbig' : ¬ 1000000000000000000 ≤ c := hbig
    have key : ∀ x : Int, 0 ≤ x → x < 2147483647 → (-18446744073709551616 < x + 1 ∧ x + 1 < 18446744073709551616) := fun x a b => by omega
    have hq := mix (b1 * 48271 + c % 2147483647 + 7919 * (b2 + 1))
    generalize hm : (b1 * 48271 + c % 2147483647 + 7919 * (b2 + 1)) % 2147483647 = m at hq
    have g1 : ∀ x : Int, (-18446744073709551616 < x % 1000000007 ∧ x % 1000000007 < 18446744073709551616) := fun x => by omega
    have g2 : ∀ x : Int, (-18446744073709551616 < x % 998244353 ∧ x % 998244353 < 18446744073709551616) := fun x => by omega
    refine ⟨(((((m + 1) * 39373) % 1000000007 * (((m + 1) * 39373) % 1000000007)) % 998244353 * 30011) % 998244353 / 7) % n, [.int 0, .int m, .int (b2 + 1), .lst (cs.map D.int)], ?_, Int.emod_nonneg _ (by omega), Int.emod_lt_of_pos _ hn, ⟨_, _, _, _, rfl, Int.le_refl 0, hq.1, hq.2, by omega, hc, hl⟩⟩
    simp [f__law_take, m__law_take, fnB, fnP, Rs.noE, startE, seqS, ifS, thenS, toB, op2, opN, op1, Opd.run, fill, lookV, look, Rs.bind, Rs.map, ofO, cD, vD, semIx, semEq, semNe, eqB, D.sc, D.asB, atI, ixN, semGt, semGe, semLt, semLe, setS, putS, DL.putF, shD, frzD, mvD, rtS, chgS, fillW, OV.lst?, OV.d, nxS, runs, looks, semInt, semMod, semFdiv, semAdd, semSub, semMul, semAbs, semLen, semTuple, semList, lstD, tupD, evs, callP, callB, slD, poN, poS, semSl, D.asI, appS, appF, extS, extF, augS, augF, exS, ifD, andT, orT, notT, notD, andD, orD, par2, par3, asgS, gN, gT, gsCons, gsNil, forD, rg1, rg2, itA, D.items, zpD, zip2, zipD, lcD, yesT, wipeE, m1D, tabD, semIs, semIsNot, D.isN, semAt, semIn2, semNotIn2, inB2, toT, orV, andV, notV, D.tru, chD, isiD, D.isi, D.ty, isTy, D.key, evPs, dicD, semDict, pairD, mergeD, putD, valD, semRepr, callL, op2O, slO, opNO, lrgO, OV.flt, D.flt, semAddL, semMulL, semListL, mLD, popF, popS, insF, insS, clrS, revO, cutL_map, hcell, hlen, hbig, hn, hn2, hm1, hm, key m hq.1 hq.2, g1, g2]
theorem take_ok {bs : List D} (h : BagOk bs) {n : Int} (hn : 0 < n) (hn2 : n < 1073741824) : ∃ v bs', f__law_take bs [.int n] = some (.sh (.int v), bs') ∧ 0 ≤ v ∧ v < n ∧ BagOk bs' := by
  obtain ⟨b0, b1, b2, cs, rfl, h0, h1, h2, h3, h4, h5⟩ := h.ex
  by_cases e : b0 = 0
  · subst e
    exact take0 b1 b2 n cs h1 h2 h3 h4 h5 hn hn2
  · exact ⟨_, _, take1 b0 b1 b2 n cs (by omega) hn hn2, Int.emod_nonneg _ (by omega), Int.emod_lt_of_pos _ hn, ⟨_, _, _, _, rfl, Int.ediv_nonneg h0 (by omega), h1, h2, h3, h4, h5⟩⟩
/-! ### the bag made -/
set_option maxHeartbeats 2000000 in
theorem bag_ok (ns : List Int) : ∃ bs, f__law_bag [.scr ns] = some (.ow bs) ∧ BagOk bs := by
  have e := lcS_map (vs := [1]) (h := gN 1) (t := yesT) (elt := opN [.va 1] semAbs) (fun _ => true) (fun d => match d with | .int i => .int (if i < 0 then -i else i) | d => d) [some (.sh (.scr ns)), none] ((cutL ns none (some 63)).map D.int) (fun d hd => by
    obtain ⟨c, _, rfl⟩ := List.mem_map.mp hd
    refine ⟨[some (.sh (.scr ns)), some (.sh (.int c))], [some (.sh (.scr ns)), some (.sh (.int c))], rfl, rfl, rfl, fun _ => ⟨[some (.sh (.scr ns)), some (.sh (.int c))], ?_, rfl⟩⟩
    simp [fnB, fnP, Rs.noE, startE, seqS, ifS, thenS, toB, op2, opN, op1, Opd.run, fill, lookV, look, Rs.bind, Rs.map, ofO, cD, vD, semIx, semEq, semNe, eqB, D.sc, D.asB, atI, ixN, semGt, semGe, semLt, semLe, setS, putS, DL.putF, shD, frzD, mvD, rtS, chgS, fillW, OV.lst?, OV.d, nxS, runs, looks, semInt, semMod, semFdiv, semAdd, semSub, semMul, semAbs, semLen, semTuple, semList, lstD, tupD, evs, callP, callB, slD, poN, poS, semSl, D.asI, appS, appF, extS, extF, augS, augF, exS, ifD, andT, orT, notT, notD, andD, orD, par2, par3, asgS, gN, gT, gsCons, gsNil, forD, rg1, rg2, itA, D.items, zpD, zip2, zipD, lcD, yesT, wipeE, m1D, tabD, semIs, semIsNot, D.isN, semAt, semIn2, semNotIn2, inB2, toT, orV, andV, notV, D.tru, chD, isiD, D.isi, D.ty, isTy, D.key, evPs, dicD, semDict, pairD, mergeD, putD, valD, semRepr, callL, op2O, slO, opNO, lrgO, OV.flt, D.flt, semAddL, semMulL, semListL, mLD, popF, popS, insF, insS, clrS, revO])
  have hl : (cutL ns none (some 63)).length ≤ 63 := by
    unfold cutL
    rw [List.length_take, HT.sIx_none, show HT.sIx ns.length ns.length (some 63) = min 63 ns.length from HT.sIx_nat ns.length ns.length 63]
    omega
  have hl2 : (cutL ns none (some 63)).length ≤ 1000000 := by omega
  refine ⟨[.int 0, .int 1234567891, .int 0, .lst (((cutL ns none (some 63)).map fun i => if i < 0 then -i else i).map D.int)], ?_, ⟨0, 1234567891, 0, _, rfl, Int.le_refl 0, by decide, by decide, Int.le_refl 0, fun c hc => ?_, by rw [List.length_map]; exact hl⟩⟩
  · have e2 : List.map (fun d => match d with | .int i => D.int (if i < 0 then -i else i) | d => d) ((List.map D.int (cutL ns none (some 63))).filter fun _ => true) = ((cutL ns none (some 63)).map fun i => if i < 0 then -i else i).map D.int := by
      rw [List.filter_eq_self.mpr (fun _ _ => rfl), List.map_map, List.map_map]
      rfl
    rw [e2] at e
    have e1 : lcS [1] (gN 1) yesT (opN [.va 1] semAbs) ((cutL ns none (some 63)).map D.int) (some (.sh (.scr ns)) :: [none]) = .ok (((cutL ns none (some 63)).map fun i => if i < 0 then -i else i).map D.int) (some (.sh (.scr ns)) :: [none]) := e
    simp only [f__law_bag, m__law_bag, lc__law_bag_1, it__law_bag_1, el__law_bag_1, fnP, startE, rtS, thenS, lstD, evs, cD, Rs.bind, frzD, lcD, itA, slD, poN, poS, Opd.run, fill, look, lookV, ofO, semSl, D.asI, D.items, Rs.map, OV.d, List.map_cons, List.map_nil, List.length_cons, List.length_nil, List.replicate, List.cons_append, List.nil_append, List.getElem?_cons_zero, Option.bind_some, Option.map_some, List.length_map, Nat.sub_self, Nat.add_sub_cancel, Nat.zero_add, Nat.reduceSub, hl2, if_true, e1, wipeE, List.set_cons_succ, List.set_cons_zero]
    rfl
  · obtain ⟨i, _, rfl⟩ := List.mem_map.mp hc
    show 0 ≤ if i < 0 then -i else i
    split <;> omega

/-! ### names -/
abbrev LET : Str := "abcdefghijklmnopqrstuvwxyz"
abbrev WST : Str := "at as last like all name book goal with turn part drop call copy chain close eq lt gt put"
def WRD : List Str := ["at", "as", "last", "like", "all", "name", "book", "goal", "with", "turn", "part", "drop", "call", "copy", "chain", "close", "eq", "lt", "gt", "put"]
theorem let_codes : LET.cps.toList = (List.range 26).map (97 + ·) := by decide +kernel
theorem let_len : LET.length = 26 := by decide +kernel
theorem wst_split : Txt.split WST " " = WRD := by decide +kernel
theorem wst_len : WST.length ≤ 1000000 := by decide +kernel
theorem let_index : ∀ k : Fin 26, Builtin.Str.occurrences LET ⟨#[97 + k.val]⟩ 0 LET.length 1 = [k.val] := by decide +kernel
structure NameOk (x : Str) : Prop where
  pos : 0 < x.length
  most : x.length ≤ 8
  low : ∀ c ∈ x.cps.toList, 97 ≤ c ∧ c ≤ 122
def nameB (x : Str) : Bool := decide (0 < x.length) && decide (x.length ≤ 8) && x.cps.toList.all fun c => decide (97 ≤ c) && decide (c ≤ 122)
theorem nameB_ok {x : Str} (h : nameB x = true) : NameOk x := by
  unfold nameB at h
  simp only [Bool.and_eq_true, decide_eq_true_eq, List.all_eq_true] at h
  exact ⟨h.1.1, h.1.2, h.2⟩
theorem wrd_ok : ∀ x ∈ WRD, NameOk x := by
  have : WRD.all nameB = true := by decide +kernel
  exact fun x hx => nameB_ok (List.all_eq_true.mp this x hx)
theorem NameOk.fit {x : Str} (h : NameOk x) : (D.str x).fit = true := fit_str fun c hc => by have := h.low c hc; omega
theorem NameOk.pl {x : Str} (h : NameOk x) : (D.str x).pl = true := pl_of_fit h.fit
end T

-- needs: _law_names
namespace T
open PySem L2 DL
/-! ### one turn of names -/
def one (c : Nat) : Str := ⟨#[c]⟩
/-- the environment of names: the bag, how many, the names so far, the other slots -/
def envN (bs : List D) (m : Int) (xs : List Str) (o5 o6 o7 o8 o9 o10 o11 : Option OV) : En :=
  [some (.ow bs), some (.sh (.int m)), some (.sh (.str LET)), some (.ow (xs.map D.str)), some (.sh (.lst (WRD.map D.str))), o5, o6, o7, o8, o9, o10, o11]
theorem let_at {v : Int} (h0 : 0 ≤ v) (h : v < 26) : atI LET.cps.toList v = some (97 + v.toNat) := by
  have hl : LET.cps.toList.length = 26 := by rw [let_codes]; rfl
  unfold atI ixN
  rw [hl, if_pos h0, if_pos (show v < ((26 : Nat) : Int) from h)]
  show LET.cps.toList[v.toNat]? = _
  rw [let_codes, List.getElem?_map, List.getElem?_range (by omega)]
  rfl
set_option maxHeartbeats 2000000 in
/-- a sign drawn -/
theorem sign_ok {bs : List D} (hb : BagOk bs) (m : Int) (xs : List Str) (o5 o6 o7 o8 o9 o10 o11 : Option OV) :
    ∃ c bs', el__law_names_1 (envN bs m xs o5 o6 o7 o8 o9 o10 o11) = .ok (.str (one c)) (envN bs' m xs o5 o6 o7 o8 o9 o10 o11) ∧ 97 ≤ c ∧ c ≤ 122 ∧ BagOk bs' := by
  obtain ⟨v, bs', e, h0, h1, hb'⟩ := take_ok hb (n := 26) (by decide) (by decide)
  have hi := let_at h0 h1
  refine ⟨97 + v.toNat, bs', ?_, by omega, by omega, hb'⟩
  simp only [el__law_names_1, envN, fnB, fnP, Rs.noE, startE, seqS, ifS, thenS, toB, op2, opN, op1, Opd.run, fill, lookV, look, Rs.bind, Rs.map, ofO, cD, vD, D.asB, semGt, semGe, semLt, semLe, setS, putS, DL.putF, shD, frzD, mvD, rtS, chgS, fillW, OV.lst?, OV.d, nxS, runs, looks, semInt, semMod, semFdiv, semAdd, semSub, semMul, semAbs, semLen, semTuple, semList, lstD, tupD, evs, callP, callB, slD, poN, poS, semSl, D.asI, appS, appF, extS, extF, augS, augF, exS, ifD, andT, orT, notT, notD, andD, orD, par2, par3, asgS, gN, gT, gsCons, gsNil, forD, rg1, rg2, itA, zpD, zip2, zipD, lcD, yesT, wipeE, m1D, tabD, semIs, semIsNot, D.isN, toT, orV, andV, notV, D.tru, chD, isiD, D.key, evPs, dicD, semDict, pairD, semRepr, callL, op2O, slO, opNO, lrgO, OV.flt, D.flt, semAddL, semMulL, semListL, mLD, popF, popS, insF, insS, clrS, revO, Rs.noE, List.map_cons, List.map_nil, List.length_cons, List.length_nil, List.length_map, List.replicate, List.cons_append, List.nil_append, List.append_nil, List.getElem?_cons_zero, List.getElem?_cons_succ, List.set_cons_zero, List.set_cons_succ, Option.bind_some, Option.bind_none, Option.map_some, Option.map_none, Nat.zero_add, Nat.add_zero, Nat.reduceAdd, Nat.reduceSub, Nat.sub_self, Nat.reduceLeDiff, Nat.reduceEqDiff, Nat.le_refl, Nat.add_sub_cancel, if_true, if_false, Bool.false_eq_true, Bool.not_true, Bool.not_false, Bool.not_not, reduceIte, reduceCtorEq, and_self, and_true, true_and, decide_true, decide_false, semEq_str, semNe_str, semEq_int, semNe_int, semEq_bl, semNe_bl, atI0, atI1, atI2, atI3, atI4, OkS_nx, post_ok, items_lst, items_tup, semAt_lst, semAt_tup, semAt_str, semAt_dic, e, let_len, hi]
  rfl
set_option maxHeartbeats 2000000 in
theorem signs_ok {bs : List D} (hb : BagOk bs) (m : Int) (xs : List Str) (o5 o6 o7 o8 o9 o10 o11 : Option OV) :
    ∃ (cs : List Nat) (bs' : List D), lc__law_names_1 (envN bs m xs o5 o6 o7 o8 o9 o10 o11) = .ok (.ow (cs.map fun c => D.str (one c))) (envN bs' m xs o5 o6 none o8 o9 o10 o11) ∧ 0 < cs.length ∧ cs.length ≤ 8 ∧ cs.length ≠ 5 ∧ (∀ c ∈ cs, 97 ≤ c ∧ c ≤ 122) ∧ BagOk bs' := by
  obtain ⟨v, b1, e, h0, h1, hb1⟩ := take_ok hb (n := 4) (by decide) (by decide)
  obtain ⟨n, hn, hn1, hn2, hn5⟩ : ∃ n : Int, atI [D.int 1, D.int 2, D.int 8, D.int 4] v = some (.int n) ∧ 1 ≤ n ∧ n ≤ 8 ∧ n ≠ 5 := by
    have : v = 0 ∨ v = 1 ∨ v = 2 ∨ v = 3 := by omega
    rcases this with rfl | rfl | rfl | rfl
    · exact ⟨1, rfl, by decide, by decide, by decide⟩
    · exact ⟨2, rfl, by decide, by decide, by decide⟩
    · exact ⟨8, rfl, by decide, by decide, by decide⟩
    · exact ⟨4, rfl, by decide, by decide, by decide⟩
  have ei : it__law_names_1 (envN bs m xs o5 o6 o7 o8 o9 o10 o11) = .ok (rangeD 0 n.toNat) (envN b1 m xs o5 o6 o7 o8 o9 o10 o11) := by
    have hc : -1000000 ≤ n ∧ n ≤ 1000000 := by omega
    simp only [it__law_names_1, envN, fnB, fnP, Rs.noE, startE, seqS, ifS, thenS, toB, op2, opN, op1, Opd.run, fill, lookV, look, Rs.bind, Rs.map, ofO, cD, vD, D.asB, semGt, semGe, semLt, semLe, setS, putS, DL.putF, shD, frzD, mvD, rtS, chgS, fillW, OV.lst?, OV.d, nxS, runs, looks, semInt, semMod, semFdiv, semAdd, semSub, semMul, semAbs, semLen, semTuple, semList, lstD, tupD, evs, callP, callB, slD, poN, poS, semSl, D.asI, appS, appF, extS, extF, augS, augF, exS, ifD, andT, orT, notT, notD, andD, orD, par2, par3, asgS, gN, gT, gsCons, gsNil, forD, rg1, rg2, itA, zpD, zip2, zipD, lcD, yesT, wipeE, m1D, tabD, semIs, semIsNot, D.isN, toT, orV, andV, notV, D.tru, chD, isiD, D.key, evPs, dicD, semDict, pairD, semRepr, callL, op2O, slO, opNO, lrgO, OV.flt, D.flt, semAddL, semMulL, semListL, mLD, popF, popS, insF, insS, clrS, revO, Rs.noE, List.map_cons, List.map_nil, List.length_cons, List.length_nil, List.length_map, List.replicate, List.cons_append, List.nil_append, List.append_nil, List.getElem?_cons_zero, List.getElem?_cons_succ, List.set_cons_zero, List.set_cons_succ, Option.bind_some, Option.bind_none, Option.map_some, Option.map_none, Nat.zero_add, Nat.add_zero, Nat.reduceAdd, Nat.reduceSub, Nat.sub_self, Nat.reduceLeDiff, Nat.reduceEqDiff, Nat.le_refl, Nat.add_sub_cancel, if_true, if_false, Bool.false_eq_true, Bool.not_true, Bool.not_false, Bool.not_not, reduceIte, reduceCtorEq, and_self, and_true, true_and, decide_true, decide_false, semEq_str, semNe_str, semEq_int, semNe_int, semEq_bl, semNe_bl, atI0, atI1, atI2, atI3, atI4, OkS_nx, post_ok, items_lst, items_tup, semAt_lst, semAt_tup, semAt_str, semAt_dic, e, hn, hc]
  obtain ⟨ys, r', e1, e2, e3, e4⟩ := lcD_inv (vs := [7]) (h := gN 7) (elt := el__law_names_1)
    (fun r => ∃ b, r = envN b m xs o5 o6 none o8 o9 o10 o11 ∧ BagOk b) (fun y => ∃ c, y = .str (one c) ∧ 97 ≤ c ∧ c ≤ 122) ei (by rw [rangeD_len]; omega) ⟨b1, rfl, hb1⟩ (by rintro r ⟨b, rfl, _⟩; rfl) (by
      rintro d _ r ⟨b, rfl, hb⟩
      obtain ⟨c, b', e5, c1, c2, hb'⟩ := sign_ok hb m xs o5 o6 (some (.sh d)) o8 o9 o10 o11
      exact ⟨envN b m xs o5 o6 (some (.sh d)) o8 o9 o10 o11, _, _, rfl, e5, ⟨c, rfl, c1, c2⟩, b', rfl, hb'⟩)
  obtain ⟨b', rfl, hb'⟩ := e4
  have hl : ys.length = n.toNat := by rw [e2, rangeD_len]
  obtain ⟨cs, rfl, hcs⟩ : ∃ cs : List Nat, ys = cs.map (fun c => D.str (one c)) ∧ ∀ c ∈ cs, 97 ≤ c ∧ c ≤ 122 := by
    clear e1 e2 hl
    induction ys with
    | nil => exact ⟨[], rfl, fun _ z => absurd z List.not_mem_nil⟩
    | cons y ys ih =>
      obtain ⟨c, rfl, c1, c2⟩ := e3 y (List.mem_cons_self ..)
      obtain ⟨cs, rfl, h⟩ := ih fun z hz => e3 z (List.mem_cons_of_mem _ hz)
      refine ⟨c :: cs, rfl, fun z hz => ?_⟩
      rcases List.mem_cons.mp hz with rfl | hz
      · exact ⟨c1, c2⟩
      · exact h z hz
  rw [List.length_map] at hl
  exact ⟨cs, b', e1, by omega, by omega, by omega, hcs, hb'⟩
theorem join_codes : ∀ cs : List Nat, (Txt.join "" (cs.map one)).cps.toList = cs := by
  have key : ∀ cs : List Nat, (Str.join "" (cs.map one)).cps.toList = cs := by
    intro cs
    induction cs with
    | nil => rfl
    | cons c cs ih =>
      cases cs with
      | nil => rfl
      | cons d ds =>
        have ih : (Str.join "" (one d :: ds.map one)).cps.toList = d :: ds := ih
        show ((one c ++ ("" : Str)) ++ Str.join "" (one d :: ds.map one)).cps.toList = _
        have e : ∀ a b : Str, (a ++ b).cps.toList = a.cps.toList ++ b.cps.toList := fun a b => by
          show (a.cps ++ b.cps).toList = _
          simp
        rw [e, e, ih]
        rfl
  intro cs
  have e : Txt.join ("" : Str) (cs.map one) = Str.join ("" : Str) (cs.map one) := PySem.StrLaws.glued_eq_join _ _
  rw [e]
  exact key cs
theorem app_codes (a b : Str) : (a ++ b).cps.toList = a.cps.toList ++ b.cps.toList := by
  show (a.cps ++ b.cps).toList = _
  simp
theorem len_codes (a : Str) : a.length = a.cps.toList.length := by
  show a.cps.size = _
  simp
/-- the letters from one on, round -/
def rot (k : Nat) : Str := cutS LET (some (k : Int)) none ++ cutS LET none (some (k : Int))
theorem rot_ok : ∀ k : Fin 26, (rot k.val).cps.toList.Nodup ∧ (rot k.val).length = 26 ∧ ((rot k.val).cps.toList.all fun c => decide (97 ≤ c) && decide (c ≤ 122)) = true ∧ (cutS LET (some (k.val : Int)) none).length + (cutS LET none (some (k.val : Int))).length ≤ 1000000 := by decide +kernel
set_option maxHeartbeats 2000000 in
theorem par_ok {bs : List D} (m : Int) (xs : List Str) (o5 o7 o8 o9 o10 o11 : Option OV) (c : Nat) (cs : List Nat) (h1 : 97 ≤ c) (h2 : c ≤ 122) (hl : cs.length ≤ 7) :
    par2 8 9 (m1D (.va 2) (.ex (op2 (.va 6) (.ex (cD (.int 0))) semAt)) semSIndex) (shD (m1D (.ex (cD (.str ""))) (.ex (slD (.va 6) (poS (cD (.int 1))) poN semSl)) semJoin)) (envN bs m xs o5 (some (.sh (.lst ((c :: cs).map fun c => D.str (one c))))) o7 o8 o9 o10 o11)
      = .nx (envN bs m xs o5 (some (.sh (.lst ((c :: cs).map fun c => D.str (one c))))) o7 (some (.sh (.int ((c - 97 : Nat) : Int)))) (some (.sh (.str (Txt.join "" (cs.map one))))) o10 o11) := by
  have ho : Builtin.Str.occurrences LET (one c) 0 LET.length 1 = [c - 97] := by
    have := let_index ⟨c - 97, by omega⟩
    have e : 97 + (c - 97) = c := by omega
    simp only [e] at this
    exact this
  have hcut : cutL ((c :: cs).map fun c => D.str (one c)) (some 1) none = (cs.map one).map D.str := by
    unfold cutL
    rw [show HT.sIx ((c :: cs).map fun c => D.str (one c)).length 0 (some 1) = min 1 ((c :: cs).map fun c => D.str (one c)).length from HT.sIx_nat _ 0 1, HT.sIx_none, List.map_map]
    have hm : min 1 ((c :: cs).map fun c => D.str (one c)).length = 1 := by rw [List.length_map, List.length_cons]; omega
    rw [hm, List.length_map, List.length_cons, Nat.add_sub_cancel]
    show List.take cs.length (cs.map fun c => D.str (one c)) = _
    rw [List.take_of_length_le (by rw [List.length_map]; exact Nat.le_refl _)]
    rfl
  have hj : ((cs.map one).map (·.length)).sum + (cs.map one).length * (Str.ofString "").length ≤ 1000000 := by
    have e1 : ∀ l : List Nat, ((l.map one).map (·.length)).sum = l.length := fun l => by
      induction l with
      | nil => rfl
      | cons a l ih =>
        rw [List.map_cons, List.map_cons, List.sum_cons, ih, List.length_cons]
        show 1 + _ = _
        omega
    rw [e1, show (Str.ofString "").length = 0 by decide +kernel]
    omega
  have hst := strsOf_map (cs.map one)
  have hat : atI ((c :: cs).map fun c => D.str (one c)) 0 = some (.str (one c)) := atI_nat (j := 0) rfl
  simp only [par2, thenS, m1D, Opd.run, fill, envN, Rs.bind, look, lookV, op2, cD, ofO, Rs.map, OV.d, semAt, semIx, hat, semSIndex, ho, shD, slD, poS, poN, D.asI, semSl, hcut, semJoin, hst, hj, List.getElem?_cons_zero, List.getElem?_cons_succ, Option.bind_some, Option.map_some, List.set_cons_succ, List.set_cons_zero, if_true]
/-- the names from which the next one is taken -/
def cands (w : Bool) (k : Nat) (rest : Str) : List Str := (if w then cutL WRD (some (k : Int)) none else []) ++ (rot k).cps.toList.map fun c => one c ++ rest
theorem signs_eq (x : Str) : signs x = x.cps.toList.map fun c => D.str (one c) := rfl
/-- what is stored as the names to choose from -/
def step10 : En → SRs := setS 10 (shD (op2 (.ex (op2 (.ex (slD (.va 4) (poS (vD 8)) poN semSl)) (.ex (opN [(.ex (op2 (.ex (frzD (callB 1 f__law_take 0 [(cD (.int 8))]))) (.ex (cD (.int 0))) semEq))] semInt)) semMul)) (.ex (frzD lc__law_names_2)) semAdd))
set_option maxHeartbeats 4000000 in
theorem cands_ok {bs : List D} (hb : BagOk bs) (m : Int) (xs : List Str) (o5 o6 o7 o10 o11 : Option OV) (k : Nat) (hk : k < 26) (rest : Str) (hr : rest.length ≤ 7) :
    ∃ w bs', step10 (envN bs m xs o5 o6 o7 (some (.sh (.int k))) (some (.sh (.str rest))) o10 o11) = .nx (envN bs' m xs o5 o6 o7 (some (.sh (.int k))) (some (.sh (.str rest))) (some (.sh (.lst ((cands w k rest).map D.str)))) none) ∧ BagOk bs' := by
  obtain ⟨v, b1, e, h0, h1, hb1⟩ := take_ok hb (n := 8) (by decide) (by decide)
  obtain ⟨rn, rl, rc, rz⟩ := rot_ok ⟨k, hk⟩
  have hlet : LET.length ≤ 1000000 := by rw [let_len]; decide
  have hrot : (rot k).length ≤ 1000000 := by
    have : (rot k).length = 26 := rl
    omega
  have hW : (cutL (WRD.map D.str) (some (k : Int)) none) = (cutL WRD (some (k : Int)) none).map D.str := cutL_map _ _ _ _
  have hWl : (cutL WRD (some (k : Int)) none).length ≤ 20 := cutL_len _ _ _
  have eA : op2 (.ex (slD (.va 4) (poS (vD 8)) poN semSl)) (.ex (opN [(.ex (op2 (.ex (frzD (callB 1 f__law_take 0 [(cD (.int 8))]))) (.ex (cD (.int 0))) semEq))] semInt)) semMul (envN bs m xs o5 o6 o7 (some (.sh (.int k))) (some (.sh (.str rest))) o10 o11)
      = .ok (.lst ((if decide (v = 0) then cutL WRD (some (k : Int)) none else []).map D.str)) (envN b1 m xs o5 o6 o7 (some (.sh (.int k))) (some (.sh (.str rest))) o10 o11) := by
    have hl2 : (cutL WRD (some (k : Int)) none).length ≤ 1000 := by omega
    by_cases hv : v = 0
    · subst hv
      simp [envN, fnB, fnP, Rs.noE, startE, seqS, ifS, thenS, toB, op2, opN, op1, Opd.run, fill, lookV, look, Rs.bind, Rs.map, ofO, cD, vD, semIx, semEq, semNe, eqB, D.sc, D.asB, atI, ixN, semGt, semGe, semLt, semLe, setS, putS, DL.putF, shD, frzD, mvD, rtS, chgS, fillW, OV.lst?, OV.d, nxS, runs, looks, semInt, semMod, semFdiv, semAdd, semSub, semMul, semAbs, semLen, semTuple, semList, lstD, tupD, evs, callP, callB, slD, poN, poS, semSl, D.asI, appS, appF, extS, extF, augS, augF, exS, ifD, andT, orT, notT, notD, andD, orD, par2, par3, asgS, gN, gT, gsCons, gsNil, forD, rg1, rg2, itA, D.items, zpD, zip2, zipD, lcD, yesT, wipeE, m1D, tabD, semIs, semIsNot, D.isN, semAt, semIn2, semNotIn2, inB2, toT, orV, andV, notV, D.tru, chD, isiD, D.isi, D.ty, isTy, D.key, evPs, dicD, semDict, pairD, mergeD, putD, valD, semRepr, callL, op2O, slO, opNO, lrgO, OV.flt, D.flt, semAddL, semMulL, semListL, mLD, popF, popS, insF, insS, clrS, revO, e, hW, hl2, List.length_map]
    · simp [envN, fnB, fnP, Rs.noE, startE, seqS, ifS, thenS, toB, op2, opN, op1, Opd.run, fill, lookV, look, Rs.bind, Rs.map, ofO, cD, vD, semIx, semEq, semNe, eqB, D.sc, D.asB, atI, ixN, semGt, semGe, semLt, semLe, setS, putS, DL.putF, shD, frzD, mvD, rtS, chgS, fillW, OV.lst?, OV.d, nxS, runs, looks, semInt, semMod, semFdiv, semAdd, semSub, semMul, semAbs, semLen, semTuple, semList, lstD, tupD, evs, callP, callB, slD, poN, poS, semSl, D.asI, appS, appF, extS, extF, augS, augF, exS, ifD, andT, orT, notT, notD, andD, orD, par2, par3, asgS, gN, gT, gsCons, gsNil, forD, rg1, rg2, itA, D.items, zpD, zip2, zipD, lcD, yesT, wipeE, m1D, tabD, semIs, semIsNot, D.isN, semAt, semIn2, semNotIn2, inB2, toT, orV, andV, notV, D.tru, chD, isiD, D.isi, D.ty, isTy, D.key, evPs, dicD, semDict, pairD, mergeD, putD, valD, semRepr, callL, op2O, slO, opNO, lrgO, OV.flt, D.flt, semAddL, semMulL, semListL, mLD, popF, popS, insF, insS, clrS, revO, e, hW, hl2, hv, List.length_map]
  have eB : lc__law_names_2 (envN b1 m xs o5 o6 o7 (some (.sh (.int k))) (some (.sh (.str rest))) o10 o11)
      = .ok (.ow (((rot k).cps.toList.map fun c => one c ++ rest).map D.str)) (envN b1 m xs o5 o6 o7 (some (.sh (.int k))) (some (.sh (.str rest))) o10 none) := by
    have ei : it__law_names_2 (envN b1 m xs o5 o6 o7 (some (.sh (.int k))) (some (.sh (.str rest))) o10 o11) = .ok ((rot k).cps.toList.map fun c => D.str (one c)) (envN b1 m xs o5 o6 o7 (some (.sh (.int k))) (some (.sh (.str rest))) o10 o11) := by
      have e1 : cutS LET (some (k : Int)) none ++ cutS LET none (some (k : Int)) = rot k := rfl
      simp only [it__law_names_2, fnB, fnP, Rs.noE, startE, seqS, ifS, thenS, toB, op2, opN, op1, Opd.run, fill, lookV, look, Rs.bind, Rs.map, ofO, cD, vD, semIx, semEq, semNe, eqB, D.sc, D.asB, atI, ixN, semGt, semGe, semLt, semLe, setS, putS, DL.putF, shD, frzD, mvD, rtS, chgS, fillW, OV.lst?, OV.d, nxS, runs, looks, semInt, semMod, semFdiv, semAdd, semSub, semMul, semAbs, semLen, semTuple, semList, lstD, tupD, evs, callP, callB, slD, poN, poS, semSl, D.asI, appS, appF, extS, extF, augS, augF, exS, ifD, andT, orT, notT, notD, andD, orD, par2, par3, asgS, gN, gT, gsCons, gsNil, forD, rg1, rg2, itA, D.items, zpD, zip2, zipD, lcD, yesT, wipeE, m1D, tabD, semIs, semIsNot, D.isN, semAt, semIn2, semNotIn2, inB2, toT, orV, andV, notV, D.tru, chD, isiD, D.isi, D.ty, isTy, D.key, evPs, dicD, semDict, pairD, mergeD, putD, valD, semRepr, callL, op2O, slO, opNO, lrgO, OV.flt, D.flt, semAddL, semMulL, semListL, mLD, popF, popS, insF, insS, clrS, revO, Rs.noE, List.map_cons, List.map_nil, List.length_cons, List.length_nil, List.length_map, List.replicate, List.cons_append, List.nil_append, List.append_nil, List.getElem?_cons_zero, List.getElem?_cons_succ, List.set_cons_zero, List.set_cons_succ, Option.bind_some, Option.bind_none, Option.map_some, Option.map_none, Nat.zero_add, Nat.add_zero, Nat.reduceAdd, Nat.reduceSub, Nat.sub_self, Nat.reduceLeDiff, Nat.reduceEqDiff, Nat.le_refl, Nat.add_sub_cancel, if_true, if_false, Bool.false_eq_true, Bool.not_true, Bool.not_false, Bool.not_not, reduceIte, reduceCtorEq, and_self, and_true, true_and, decide_true, decide_false, semEq_str, semNe_str, semEq_int, semNe_int, semEq_bl, semNe_bl, atI0, atI1, atI2, atI3, atI4, OkS_nx, post_ok, items_lst, items_tup, semAt_lst, semAt_tup, semAt_str, semAt_dic, envN, hlet, rz, e1, hrot, signs_eq]
    have := lcD_map1 (vs := [11]) (h := gN 11) (elt := el__law_names_2) (envN b1 m xs o5 o6 o7 (some (.sh (.int k))) (some (.sh (.str rest))) o10 none) (rot k).cps.toList (fun c => D.str (one c)) (fun c => D.str (one c ++ rest)) ei (by rw [← len_codes]; exact hrot) rfl rfl (fun c _ => by
      refine ⟨envN b1 m xs o5 o6 o7 (some (.sh (.int k))) (some (.sh (.str rest))) o10 (some (.sh (.str (one c)))), rfl, rfl, envN b1 m xs o5 o6 o7 (some (.sh (.int k))) (some (.sh (.str rest))) o10 (some (.sh (.str (one c)))), ?_, rfl⟩
      have hl : (one c).length + rest.length ≤ 1000000 := by show 1 + rest.length ≤ _; omega
      simp only [el__law_names_2, envN, fnB, fnP, Rs.noE, startE, seqS, ifS, thenS, toB, op2, opN, op1, Opd.run, fill, lookV, look, Rs.bind, Rs.map, ofO, cD, vD, semIx, semEq, semNe, eqB, D.sc, D.asB, atI, ixN, semGt, semGe, semLt, semLe, setS, putS, DL.putF, shD, frzD, mvD, rtS, chgS, fillW, OV.lst?, OV.d, nxS, runs, looks, semInt, semMod, semFdiv, semAdd, semSub, semMul, semAbs, semLen, semTuple, semList, lstD, tupD, evs, callP, callB, slD, poN, poS, semSl, D.asI, appS, appF, extS, extF, augS, augF, exS, ifD, andT, orT, notT, notD, andD, orD, par2, par3, asgS, gN, gT, gsCons, gsNil, forD, rg1, rg2, itA, D.items, zpD, zip2, zipD, lcD, yesT, wipeE, m1D, tabD, semIs, semIsNot, D.isN, semAt, semIn2, semNotIn2, inB2, toT, orV, andV, notV, D.tru, chD, isiD, D.isi, D.ty, isTy, D.key, evPs, dicD, semDict, pairD, mergeD, putD, valD, semRepr, callL, op2O, slO, opNO, lrgO, OV.flt, D.flt, semAddL, semMulL, semListL, mLD, popF, popS, insF, insS, clrS, revO, Rs.noE, List.map_cons, List.map_nil, List.length_cons, List.length_nil, List.length_map, List.replicate, List.cons_append, List.nil_append, List.append_nil, List.getElem?_cons_zero, List.getElem?_cons_succ, List.set_cons_zero, List.set_cons_succ, Option.bind_some, Option.bind_none, Option.map_some, Option.map_none, Nat.zero_add, Nat.add_zero, Nat.reduceAdd, Nat.reduceSub, Nat.sub_self, Nat.reduceLeDiff, Nat.reduceEqDiff, Nat.le_refl, Nat.add_sub_cancel, if_true, if_false, Bool.false_eq_true, Bool.not_true, Bool.not_false, Bool.not_not, reduceIte, reduceCtorEq, and_self, and_true, true_and, decide_true, decide_false, semEq_str, semNe_str, semEq_int, semNe_int, semEq_bl, semNe_bl, atI0, atI1, atI2, atI3, atI4, OkS_nx, post_ok, items_lst, items_tup, semAt_lst, semAt_tup, semAt_str, semAt_dic, hl])
    rw [List.map_map]
    exact this
  refine ⟨decide (v = 0), b1, ?_, hb1⟩
  have hlen : ((if decide (v = 0) then cutL WRD (some (k : Int)) none else []).map D.str).length + (((rot k).cps.toList.map fun c => one c ++ rest).map D.str).length ≤ 1000000 := by
    rw [List.length_map, List.length_map, List.length_map, ← len_codes]
    have : (rot k).length = 26 := rl
    split
    · omega
    · simp; omega
  unfold step10 setS shD
  rw [op2_ee, eA]
  simp only [Rs.bind, frzD]
  rw [eB]
  simp only [Rs.map, Rs.bind, OV.d, semAdd, hlen, if_true, ofO, thenS, ← List.map_append]
  rfl
theorem rest_name {w : Bool} {k : Nat} (hk : k < 26) {rest : Str} (hr : rest.length ≤ 7) (hl : ∀ c ∈ rest.cps.toList, 97 ≤ c ∧ c ≤ 122) : ∀ x ∈ cands w k rest, NameOk x := by
  intro x hx
  obtain ⟨rn, rl, rc, rz⟩ := rot_ok ⟨k, hk⟩
  rcases List.mem_append.mp hx with hx | hx
  · cases w with
    | true => exact wrd_ok x (cutL_mem hx)
    | false => cases hx
  · obtain ⟨c, hc, rfl⟩ := List.mem_map.mp hx
    have hc2 := List.all_eq_true.mp rc c hc
    simp only [Bool.and_eq_true, decide_eq_true_eq] at hc2
    have e : (one c ++ rest).cps.toList = c :: rest.cps.toList := by rw [app_codes]; rfl
    refine ⟨?_, ?_, fun d hd => ?_⟩
    · rw [len_codes, e, List.length_cons]; omega
    · rw [len_codes, e, List.length_cons, ← len_codes]; omega
    · rw [e] at hd
      rcases List.mem_cons.mp hd with rfl | hd
      · exact hc2
      · exact hl d hd
theorem wrd_z : ∀ x ∈ WRD, x ≠ ("zzzzz" : Str) := by decide +kernel
theorem rest_z {w : Bool} {k : Nat} (hk : k < 26) {rest : Str} (hr : rest.length ≠ 4) : ∀ x ∈ cands w k rest, x ≠ ("zzzzz" : Str) := by
  intro x hx e
  rcases List.mem_append.mp hx with hx | hx
  · cases w with
    | true => exact wrd_z x (cutL_mem hx) e
    | false => cases hx
  · obtain ⟨c, hc, rfl⟩ := List.mem_map.mp hx
    have h1 : (one c ++ rest).length = rest.length + 1 := by
      rw [len_codes, app_codes, List.length_append, ← len_codes, ← len_codes]
      show 1 + rest.length = _
      omega
    have h2 : (Str.ofString "zzzzz").length = 5 := by decide +kernel
    rw [e, h2] at h1
    omega
theorem fresh_cand {w : Bool} {k : Nat} (hk : k < 26) {rest : Str} {xs : List Str} (hx : xs.length < 26) : ∃ x ∈ cands w k rest, x ∉ xs := by
  obtain ⟨rn, rl, rc, rz⟩ := rot_ok ⟨k, hk⟩
  have nd : ((rot k).cps.toList.map fun c => one c ++ rest).Nodup := by
    refine List.Pairwise.map _ (fun a b hab e => hab ?_) rn
    have e2 : (one a ++ rest).cps.toList = (one b ++ rest).cps.toList := by rw [e]
    rw [app_codes, app_codes] at e2
    have : a :: rest.cps.toList = b :: rest.cps.toList := e2
    exact (List.cons.inj this).1
  have hl : ((rot k).cps.toList.map fun c => one c ++ rest).length = 26 := by
    rw [List.length_map, ← len_codes]; exact rl
  obtain ⟨x, h1, h2⟩ := exists_not_mem _ xs nd (by rw [hl]; exact hx)
  exact ⟨x, List.mem_append_right _ h1, h2⟩
theorem sm_str {x : Str} (h : NameOk x) : Sm 0 82 (.str x) := ⟨h.pl, rfl, Nat.zero_le _, by show 10 * x.length + 2 ≤ 82; have := h.most; omega⟩
theorem fit_strs {xs : List Str} (h : ∀ x ∈ xs, NameOk x) : (D.lst (xs.map D.str)).fit = true := (Sm.all (n := 0) (w := 82) fun d hd => by
  obtain ⟨x, hx, rfl⟩ := List.mem_map.mp hd
  exact sm_str (h x hx)).1
theorem mem_strs {x : Str} {xs : List Str} : D.str x ∈ xs.map D.str ↔ x ∈ xs := by
  rw [List.mem_map]
  exact ⟨fun ⟨y, h, e⟩ => by cases e; exact h, fun h => ⟨x, h, rfl⟩⟩
theorem cl_strs {k : Bool} {xs : List Str} : ∀ e ∈ xs.map D.str, e.cl k = true := fun e he => by
  obtain ⟨x, _, rfl⟩ := List.mem_map.mp he
  rfl
theorem notIn_strs {xs : List Str} {x : Str} (hx : NameOk x) (h : ∀ x ∈ xs, NameOk x) : semNotIn2 (.str x) (.lst (xs.map D.str)) = some (.bl (decide (x ∉ xs))) := by
  rw [semNotIn_lst true hx.fit (fit_strs h) rfl cl_strs]
  simp only [mem_strs, decide_not]
set_option maxHeartbeats 4000000 in
theorem app_ok {bs : List D} (m : Int) (xs ys : List Str) (o5 o6 o7 o8 o9 o11 : Option OV) (hx : ∀ x ∈ xs, NameOk x) (hy : ∀ y ∈ ys, NameOk y) (hl : xs.length ≤ 1000) (hl2 : ys.length ≤ 1000) (hf : ∃ y ∈ ys, y ∉ xs) :
    ∃ x, appS 3 (op2 (.ex (frzD lc__law_names_3)) (.ex (cD (.int 0))) semAt) (envN bs m xs o5 o6 o7 o8 o9 (some (.sh (.lst (ys.map D.str)))) o11)
      = .nx (envN bs m (xs ++ [x]) o5 o6 o7 o8 o9 (some (.sh (.lst (ys.map D.str)))) none) ∧ x ∈ ys ∧ x ∉ xs := by
  have em := lcD_map (it := it__law_names_3) (vs := [11]) (h := gN 11) (t := ts__law_names_1) (elt := el__law_names_3) (r := envN bs m xs o5 o6 o7 o8 o9 (some (.sh (.lst (ys.map D.str)))) o11) (envN bs m xs o5 o6 o7 o8 o9 (some (.sh (.lst (ys.map D.str)))) none) ys D.str (fun y => decide (y ∉ xs)) D.str rfl (by omega) rfl rfl (fun y hyy => by
    refine ⟨envN bs m xs o5 o6 o7 o8 o9 (some (.sh (.lst (ys.map D.str)))) (some (.sh (.str y))), envN bs m xs o5 o6 o7 o8 o9 (some (.sh (.lst (ys.map D.str)))) (some (.sh (.str y))), rfl, ?_, rfl, fun _ => ⟨_, rfl, rfl⟩⟩
    have hin := notIn_strs (hy y hyy) hx
    simp only [ts__law_names_1, toB, op2, Opd.run, fill, envN, Rs.bind, look, lookV, ofO, OV.d, hin, D.asB, Rs.noE, List.map_cons, List.map_nil, List.length_cons, List.length_nil, List.length_map, List.replicate, List.cons_append, List.nil_append, List.append_nil, List.getElem?_cons_zero, List.getElem?_cons_succ, List.set_cons_zero, List.set_cons_succ, Option.bind_some, Option.bind_none, Option.map_some, Option.map_none, Nat.zero_add, Nat.add_zero, Nat.reduceAdd, Nat.reduceSub, Nat.sub_self, Nat.reduceLeDiff, Nat.reduceEqDiff, Nat.le_refl, Nat.add_sub_cancel, if_true, if_false, Bool.false_eq_true, Bool.not_true, Bool.not_false, Bool.not_not, reduceIte, reduceCtorEq, and_self, and_true, true_and, decide_true, decide_false, semEq_str, semNe_str, semEq_int, semNe_int, semEq_bl, semNe_bl, atI0, atI1, atI2, atI3, atI4, OkS_nx, post_ok, items_lst, items_tup, semAt_lst, semAt_tup, semAt_str, semAt_dic])
  obtain ⟨y0, hy0, hn0⟩ := hf
  cases hfl : ys.filter fun y => decide (y ∉ xs) with
  | nil =>
    have : y0 ∈ ys.filter fun y => decide (y ∉ xs) := List.mem_filter.mpr ⟨hy0, decide_eq_true hn0⟩
    rw [hfl] at this
    cases this
  | cons x r =>
    have hx2 : x ∈ ys.filter fun y => decide (y ∉ xs) := by rw [hfl]; exact List.mem_cons_self ..
    obtain ⟨h1, h2⟩ := List.mem_filter.mp hx2
    have h2 := of_decide_eq_true h2
    refine ⟨x, ?_, h1, h2⟩
    rw [hfl] at em
    have em : lc__law_names_3 (envN bs m xs o5 o6 o7 o8 o9 (some (.sh (.lst (ys.map D.str)))) o11) = _ := em
    have hat : atI ((x :: r).map D.str) 0 = some (.str x) := atI_nat (j := 0) rfl
    have hla : (xs.map D.str).length ≤ 1000000 := by rw [List.length_map]; omega
    unfold appS
    have hfw : fillW (envN bs m xs o5 o6 o7 o8 o9 (some (.sh (.lst (ys.map D.str)))) o11) 3 = .ok () (envN bs m xs o5 o6 o7 o8 o9 (some (.sh (.lst (ys.map D.str)))) o11) := rfl
    rw [hfw]
    simp only [thenS]
    rw [op2_ee]
    simp only [frzD, em, Rs.map, OV.d, Rs.bind, cD, semAt, semIx, hat, ofO]
    simp only [chgS, envN, lookV, List.getElem?_cons_zero, List.getElem?_cons_succ, Option.bind_some, OV.lst?, appF, hla, if_true, List.set_cons_succ, List.set_cons_zero, List.map_append, List.map_cons, List.map_nil]
/-- the state between two turns of names -/
def NInv (m : Int) (k : Nat) (r : En) : Prop := ∃ bs xs o5 o6 o7 o8 o9 o10 o11, r = envN bs m xs o5 o6 o7 o8 o9 o10 o11 ∧ BagOk bs ∧ xs.length = k ∧ xs.Nodup ∧ ∀ x ∈ xs, NameOk x ∧ x ≠ ("zzzzz" : Str)
theorem cands_len (w : Bool) {k : Nat} (hk : k < 26) (rest : Str) : (cands w k rest).length ≤ 1000 := by
  obtain ⟨rn, rl, rc, rz⟩ := rot_ok ⟨k, hk⟩
  unfold cands
  rw [List.length_append, List.length_map, ← len_codes, show (rot k).length = 26 from rl]
  have := cutL_len WRD (some (k : Int)) none
  have h20 : WRD.length = 20 := rfl
  split
  · omega
  · simp
set_option maxHeartbeats 4000000 in
theorem names_okZ {bs : List D} (hb : BagOk bs) (m : Nat) (hm : m ≤ 12) : ∃ (xs : List Str) (bs' : List D), f__law_names bs [.int m] = some (.ow (xs.map D.str), bs') ∧ xs.length = m ∧ xs.Nodup ∧ (∀ x ∈ xs, NameOk x ∧ x ≠ ("zzzzz" : Str)) ∧ BagOk bs' := by
  have st : ∀ (i : Nat) (d : D), (rangeD 0 m)[i]? = some d → ∀ r, NInv m i r → ∃ r1 r2, gN 5 d r = some r1 ∧ bd__law_names_1 r1 = .nx r2 ∧ NInv m (i + 1) r2 := by
    rintro i d hd r ⟨bs, xs, o5, o6, o7, o8, o9, o10, o11, rfl, hb, hl, hnd, hok⟩
    obtain ⟨hi, rfl⟩ := rangeD_get hd
    obtain ⟨cs, b1, e1, c1, c2, c5, c3, hb1⟩ := signs_ok hb m xs (some (.sh (.int (0 + i)))) o6 o7 o8 o9 o10 o11
    cases cs with
    | nil => cases c1
    | cons c cs =>
      have hc := c3 c (List.mem_cons_self ..)
      have hcs : ∀ x ∈ cs, 97 ≤ x ∧ x ≤ 122 := fun x hx => c3 x (List.mem_cons_of_mem _ hx)
      rw [List.length_cons] at c2 c5
      have e2 := par_ok (bs := b1) m xs (some (.sh (.int (0 + i)))) none o8 o9 o10 o11 c cs hc.1 hc.2 (by omega)
      have hjl : (Txt.join "" (cs.map one)).length ≤ 7 := by rw [len_codes, join_codes]; omega
      have hj4 : (Txt.join "" (cs.map one)).length ≠ 4 := by rw [len_codes, join_codes]; omega
      have hjc : ∀ x ∈ (Txt.join "" (cs.map one)).cps.toList, 97 ≤ x ∧ x ≤ 122 := by rw [join_codes]; exact hcs
      have hk : c - 97 < 26 := by omega
      obtain ⟨w, b2, e3, hb2⟩ := cands_ok hb1 m xs (some (.sh (.int (0 + i)))) (some (.sh (.lst ((c :: cs).map fun c => D.str (one c))))) none o10 o11 (c - 97) hk _ hjl
      obtain ⟨x, e4, x1, x2⟩ := app_ok (bs := b2) m xs (cands w (c - 97) (Txt.join "" (cs.map one))) (some (.sh (.int (0 + i)))) (some (.sh (.lst ((c :: cs).map fun c => D.str (one c))))) none (some (.sh (.int ((c - 97 : Nat) : Int)))) (some (.sh (.str (Txt.join "" (cs.map one))))) none (fun x hx => (hok x hx).1) (rest_name hk hjl hjc) (by omega) (cands_len w hk _) (fresh_cand hk (by omega))
      refine ⟨envN bs m xs (some (.sh (.int (0 + i)))) o6 o7 o8 o9 o10 o11, envN b2 m (xs ++ [x]) (some (.sh (.int (0 + i)))) (some (.sh (.lst ((c :: cs).map fun c => D.str (one c))))) none (some (.sh (.int ((c - 97 : Nat) : Int)))) (some (.sh (.str (Txt.join "" (cs.map one))))) (some (.sh (.lst ((cands w (c - 97) (Txt.join "" (cs.map one))).map D.str)))) none, rfl, ?_, b2, xs ++ [x], _, _, _, _, _, _, _, rfl, hb2, by rw [List.length_append, hl]; rfl, ?_, fun y hy => ?_⟩
      · have es : setS 6 (shD (frzD lc__law_names_1)) (envN bs m xs (some (.sh (.int (0 + i)))) o6 o7 o8 o9 o10 o11) = .nx (envN b1 m xs (some (.sh (.int (0 + i)))) (some (.sh (.lst ((c :: cs).map fun c => D.str (one c))))) none o8 o9 o10 o11) := by
          unfold setS shD frzD
          rw [e1]
          rfl
        unfold bd__law_names_1
        unfold step10 at e3
        rw [seqS_nx es, seqS_nx e2, seqS_nx e3]
        exact e4
      · rw [List.nodup_append]
        refine ⟨hnd, List.nodup_cons.mpr ⟨List.not_mem_nil, List.nodup_nil⟩, fun a ha b hb => ?_⟩
        rw [List.mem_singleton.mp hb]
        exact fun e => x2 (e ▸ ha)
      · rcases List.mem_append.mp hy with hy | hy
        · exact hok y hy
        · rw [List.mem_singleton.mp hy]
          exact ⟨rest_name hk hjl hjc x x1, rest_z hk hj4 x x1⟩
  have h0 : NInv m 0 (envN bs m [] none none none none none none none) := ⟨bs, [], none, none, none, none, none, none, none, rfl, hb, rfl, List.nodup_nil, fun _ z => absurd z List.not_mem_nil⟩
  obtain ⟨r', e, bs', xs, o5, o6, o7, o8, o9, o10, o11, rfl, hb', hl, hnd, hok⟩ := forS_inv (rangeD 0 m) (NInv m) st _ h0
  rw [rangeD_len] at hl
  refine ⟨xs, bs', ?_, hl, hnd, hok, hb'⟩
  have hm1 : -1000000 ≤ (m : Int) ∧ (m : Int) ≤ 1000000 := by omega
  have ep : par2 2 3 (cD (.str LET)) (lstD []) [some (.ow bs), some (.sh (.int m)), none, none, none, none, none, none, none, none, none, none] = .nx [some (.ow bs), some (.sh (.int m)), some (.sh (.str LET)), some (.ow []), none, none, none, none, none, none, none, none] := rfl
  have ew : setS 4 (shD (m1D (.ex (cD (.str WST))) (.ex (cD (.str " "))) semSplit)) [some (.ow bs), some (.sh (.int m)), some (.sh (.str LET)), some (.ow []), none, none, none, none, none, none, none, none] = .nx (envN bs m [] none none none none none none none) := by
    have h1 : (Str.ofString " ").length ≠ 0 ∧ WST.length ≤ 1000000 := ⟨by decide +kernel, wst_len⟩
    simp only [setS, shD, m1D, Opd.run, cD, Rs.map, Rs.bind, look, semSplit, h1, if_true, wst_split, ofO, thenS, Option.bind_some, ne_eq, not_false_eq_true, and_self]
    rfl
  have ef : it__law_names_4 (envN bs m [] none none none none none none none) = .ok (rangeD 0 m) (envN bs m [] none none none none none none none) := by
    simp only [it__law_names_4, rg1, vD, envN, List.getElem?_cons_zero, List.getElem?_cons_succ, Rs.bind, D.asI, ofO, hm1, and_self, if_true, Int.toNat_natCast]
  have es : startE 12 (.ow bs :: [D.int m].map OV.sh) = [some (.ow bs), some (.sh (.int m)), none, none, none, none, none, none, none, none, none, none] := rfl
  unfold f__law_names fnB
  rw [es]
  unfold m__law_names
  rw [seqS_nx ep, seqS_nx ew]
  unfold fr__law_names_1
  rw [seqS_nx (forD_of ef e)]
  rfl
theorem names_ok {bs : List D} (hb : BagOk bs) (m : Nat) (hm : m ≤ 12) : ∃ (xs : List Str) (bs' : List D), f__law_names bs [.int m] = some (.ow (xs.map D.str), bs') ∧ xs.length = m ∧ xs.Nodup ∧ (∀ x ∈ xs, NameOk x) ∧ BagOk bs' := by
  obtain ⟨xs, b, e, h1, h2, h3, h4⟩ := names_okZ hb m hm
  exact ⟨xs, b, e, h1, h2, fun x hx => (h3 x hx).1, h4⟩
end T

-- needs: _law_names
namespace T
open PySem L2 DL
/-- an atom, a pattern: relation, left, right -/
abbrev At := Str × Str × Str
def atD (x : At) : D := .tup [.str x.1, .str x.2.1, .str x.2.2]
theorem cl_at (k : Bool) (x : At) : (atD x).cl k = true := rfl
def isRel (r : Str) : Prop := r = "eq" ∨ r = "lt" ∨ r = "gt"
structure AtOk (x : At) : Prop where
  rel : isRel x.1
  l : NameOk x.2.1
  r : NameOk x.2.2
structure PtOk (x : At) : Prop where
  rel : isRel x.1 ∨ x.1 = ""
  l : NameOk x.2.1 ∨ x.2.1 = ""
  r : NameOk x.2.2 ∨ x.2.2 = ""
theorem AtOk.pt {x : At} (h : AtOk x) : PtOk x := ⟨.inl h.rel, .inl h.l, .inl h.r⟩
theorem sm_empty : Sm 0 2 (.str "") := ⟨by decide +kernel, rfl, Nat.zero_le _, by decide +kernel⟩
theorem sm_rel {r : Str} (h : isRel r ∨ r = "") : Sm 0 22 (.str r) := by
  rcases h with (rfl | rfl | rfl) | rfl <;> exact ⟨by decide +kernel, rfl, Nat.zero_le _, by decide +kernel⟩
theorem sm_part {x : Str} (h : NameOk x ∨ x = "") : Sm 0 82 (.str x) := by
  rcases h with h | rfl
  · exact sm_str h
  · exact sm_empty.mono (Nat.le_refl _) (by decide)
theorem sm_at {x : At} (h : PtOk x) : Sm 1 255 (atD x) := (Sm.tup (n := 0) (w := 82) (m := 3) (fun d hd => by
  simp only [List.mem_cons, List.not_mem_nil, or_false] at hd
  rcases hd with rfl | rfl | rfl
  · exact (sm_rel h.rel).mono (Nat.le_refl _) (by decide)
  · exact sm_part h.l
  · exact sm_part h.r) (Nat.le_refl _))
/-- an atom over some names -/
structure AtIn (xs : List Str) (x : At) : Prop where
  rel : isRel x.1
  l : x.2.1 ∈ xs
  r : x.2.2 ∈ xs
theorem AtIn.ok {xs : List Str} {x : At} (h : AtIn xs x) (hx : ∀ x ∈ xs, NameOk x) : AtOk x := ⟨h.rel, hx _ h.l, hx _ h.r⟩
/-! ### patterns -/
/-- a pattern over some names -/
structure PtIn (xs : List Str) (x : At) : Prop where
  rel : isRel x.1 ∨ x.1 = ""
  l : x.2.1 ∈ xs ∨ x.2.1 = ""
  r : x.2.2 ∈ xs ∨ x.2.2 = ""
theorem PtIn.ok {xs : List Str} {x : At} (h : PtIn xs x) (hx : ∀ x ∈ xs, NameOk x) : PtOk x := ⟨h.rel, h.l.imp_left (hx _), h.r.imp_left (hx _)⟩
/-! ### facts -/
def ftD (fs : List At) : D := .tup (fs.map atD)
structure FtIn (xs : List Str) (fs : List At) : Prop where
  all : ∀ x ∈ fs, AtIn xs x
  len : fs.length = 1 ∨ fs.length = 2
structure FtOk (fs : List At) : Prop where
  all : ∀ x ∈ fs, AtOk x
  len : fs.length = 1 ∨ fs.length = 2
theorem FtIn.ok {xs : List Str} {fs : List At} (h : FtIn xs fs) (hx : ∀ x ∈ xs, NameOk x) : FtOk fs := ⟨fun x hm => (h.all x hm).ok hx, h.len⟩
theorem sm_ft {fs : List At} (h : FtOk fs) : Sm 2 517 (ftD fs) := (Sm.tup (n := 1) (w := 255) (m := 2) (fun d hd => by
  obtain ⟨x, hx, rfl⟩ := List.mem_map.mp hd
  exact sm_at (h.all x hx).pt) (by rw [List.length_map]; have := h.len; omega))
theorem map_of {α : Type} {enc : α → D} {P : α → Prop} : ∀ {ys : List D}, (∀ y ∈ ys, ∃ x, y = enc x ∧ P x) → ∃ xs : List α, ys = xs.map enc ∧ ∀ x ∈ xs, P x
  | [], _ => ⟨[], rfl, fun _ z => absurd z List.not_mem_nil⟩
  | y :: ys, h => by
    obtain ⟨x, rfl, hx⟩ := h y (List.mem_cons_self ..)
    obtain ⟨xs, rfl, hxs⟩ := map_of fun y hy => h y (List.mem_cons_of_mem _ hy)
    refine ⟨x :: xs, rfl, fun z hz => ?_⟩
    rcases List.mem_cons.mp hz with rfl | hz
    · exact hx
    · exact hxs z hz
/-! ### turned, fits -/
/-- the turned relation -/
def bk (r : Str) : Str := if r = "lt" then "gt" else if r = "gt" then "lt" else r
def turn (x : At) : At := (bk x.1, x.2.2, x.2.1)
theorem bk_rel {r : Str} (h : isRel r) : isRel (bk r) := by
  rcases h with rfl | rfl | rfl
  · exact .inl (by decide +kernel)
  · exact .inr (.inr (by decide +kernel))
  · exact .inr (.inl (by decide +kernel))
theorem bk_0 : bk "" = "" := by decide +kernel
theorem AtOk.turn {x : At} (h : AtOk x) : AtOk (turn x) := ⟨bk_rel h.rel, h.r, h.l⟩
theorem PtOk.turn {x : At} (h : PtOk x) : PtOk (turn x) := ⟨h.rel.elim (fun z => .inl (bk_rel z)) fun z => .inr (by show bk x.1 = ""; rw [z, bk_0]), h.r, h.l⟩
theorem AtIn.turn {xs : List Str} {x : At} (h : AtIn xs x) : AtIn xs (turn x) := ⟨bk_rel h.rel, h.r, h.l⟩
theorem FtOk.turn {fs : List At} (h : FtOk fs) : FtOk (fs.map turn) := ⟨fun x hx => by
  obtain ⟨y, hy, rfl⟩ := List.mem_map.mp hx
  exact (h.all y hy).turn, by rw [List.length_map]; exact h.len⟩
def ft (p q : Str) : Bool := decide (p = "") || decide (p = q)
end T

-- needs: _law_some
namespace T
open PySem L2 DL
/-! ### drawing: some, atoms -/
set_option maxHeartbeats 2000000 in
theorem some_ok {bs : List D} (hb : BagOk bs) (ds : List D) (h0 : ds ≠ []) (hl : ds.length ≤ 1000) : ∃ d bs', f__law_some bs [.lst ds] = some (.sh d, bs') ∧ d ∈ ds ∧ BagOk bs' := by
  have hp : 0 < ds.length := List.length_pos_iff.mpr h0
  obtain ⟨v, b1, e, v0, v1, hb1⟩ := take_ok hb (n := (ds.length : Int)) (by omega) (by omega)
  obtain ⟨d, e1, hd⟩ := atI_mem v0 v1
  refine ⟨d, b1, ?_, hd, hb1⟩
  simp only [f__law_some, m__law_some, fnB, fnP, Rs.noE, startE, seqS, ifS, thenS, toB, op2, opN, op1, Opd.run, fill, lookV, look, Rs.bind, Rs.map, ofO, cD, vD, D.asB, semGt, semGe, semLt, semLe, setS, putS, DL.putF, shD, frzD, mvD, rtS, chgS, fillW, OV.lst?, OV.d, nxS, runs, looks, semInt, semMod, semFdiv, semAdd, semSub, semMul, semAbs, semLen, semTuple, semList, lstD, tupD, evs, callP, callB, slD, poN, poS, semSl, D.asI, appS, appF, extS, extF, augS, augF, exS, ifD, andT, orT, notT, notD, andD, orD, par2, par3, asgS, gN, gT, gsCons, gsNil, forD, rg1, rg2, itA, zpD, zip2, zipD, lcD, yesT, wipeE, m1D, tabD, semIs, semIsNot, D.isN, toT, orV, andV, notV, D.tru, chD, isiD, D.key, evPs, dicD, semDict, pairD, semRepr, callL, op2O, slO, opNO, lrgO, OV.flt, D.flt, semAddL, semMulL, semListL, mLD, popF, popS, insF, insS, clrS, revO, Rs.noE, List.map_cons, List.map_nil, List.length_cons, List.length_nil, List.length_map, List.replicate, List.cons_append, List.nil_append, List.append_nil, List.getElem?_cons_zero, List.getElem?_cons_succ, List.set_cons_zero, List.set_cons_succ, Option.bind_some, Option.bind_none, Option.map_some, Option.map_none, Nat.zero_add, Nat.add_zero, Nat.reduceAdd, Nat.reduceSub, Nat.sub_self, Nat.reduceLeDiff, Nat.reduceEqDiff, Nat.le_refl, Nat.add_sub_cancel, if_true, if_false, Bool.false_eq_true, Bool.not_true, Bool.not_false, Bool.not_not, reduceIte, reduceCtorEq, and_self, and_true, true_and, decide_true, decide_false, semEq_str, semNe_str, semEq_int, semNe_int, semEq_bl, semNe_bl, atI0, atI1, atI2, atI3, atI4, OkS_nx, post_ok, items_lst, items_tup, semAt_lst, semAt_tup, semAt_str, semAt_dic, e, e1]
theorem someS_ok {bs : List D} (hb : BagOk bs) (xs : List Str) (h0 : xs ≠ []) (hl : xs.length ≤ 1000) : ∃ x bs', f__law_some bs [.lst (xs.map D.str)] = some (.sh (.str x), bs') ∧ x ∈ xs ∧ BagOk bs' := by
  obtain ⟨d, b, e, hd, hb'⟩ := some_ok hb (xs.map D.str) (fun z => h0 (List.map_eq_nil_iff.mp z)) (by rw [List.length_map]; exact hl)
  obtain ⟨x, hx, rfl⟩ := List.mem_map.mp hd
  exact ⟨x, b, e, hx, hb'⟩
end T

-- needs: _law_some _law_atom
namespace T
open PySem L2 DL
set_option maxHeartbeats 2000000 in
theorem atom_ok {bs : List D} (hb : BagOk bs) (xs : List Str) (h0 : xs ≠ []) (hl : xs.length ≤ 1000) : ∃ x bs', f__law_atom bs [.lst (xs.map D.str)] = some (.sh (atD x), bs') ∧ AtIn xs x ∧ BagOk bs' := by
  obtain ⟨v, b1, e1, v0, v1, hb1⟩ := take_ok hb (n := 4) (by decide) (by decide)
  obtain ⟨a, b2, e2, ha, hb2⟩ := someS_ok hb1 xs h0 hl
  obtain ⟨b, b3, e3, hbm, hb3⟩ := someS_ok hb2 xs h0 hl
  obtain ⟨r, er, hr⟩ : ∃ r : Str, atI [D.str "eq", D.str "lt", D.str "gt", D.str "lt"] v = some (.str r) ∧ isRel r := by
    have : v = 0 ∨ v = 1 ∨ v = 2 ∨ v = 3 := by omega
    rcases this with rfl | rfl | rfl | rfl
    · exact ⟨_, rfl, .inl rfl⟩
    · exact ⟨_, rfl, .inr (.inl rfl)⟩
    · exact ⟨_, rfl, .inr (.inr rfl)⟩
    · exact ⟨_, rfl, .inr (.inl rfl)⟩
  refine ⟨(r, a, b), b3, ?_, ⟨hr, ha, hbm⟩, hb3⟩
  simp only [f__law_atom, m__law_atom, fnB, fnP, Rs.noE, startE, seqS, ifS, thenS, toB, op2, opN, op1, Opd.run, fill, lookV, look, Rs.bind, Rs.map, ofO, cD, vD, D.asB, semGt, semGe, semLt, semLe, setS, putS, DL.putF, shD, frzD, mvD, rtS, chgS, fillW, OV.lst?, OV.d, nxS, runs, looks, semInt, semMod, semFdiv, semAdd, semSub, semMul, semAbs, semLen, semTuple, semList, lstD, tupD, evs, callP, callB, slD, poN, poS, semSl, D.asI, appS, appF, extS, extF, augS, augF, exS, ifD, andT, orT, notT, notD, andD, orD, par2, par3, asgS, gN, gT, gsCons, gsNil, forD, rg1, rg2, itA, zpD, zip2, zipD, lcD, yesT, wipeE, m1D, tabD, semIs, semIsNot, D.isN, toT, orV, andV, notV, D.tru, chD, isiD, D.key, evPs, dicD, semDict, pairD, semRepr, callL, op2O, slO, opNO, lrgO, OV.flt, D.flt, semAddL, semMulL, semListL, mLD, popF, popS, insF, insS, clrS, revO, Rs.noE, List.map_cons, List.map_nil, List.length_cons, List.length_nil, List.length_map, List.replicate, List.cons_append, List.nil_append, List.append_nil, List.getElem?_cons_zero, List.getElem?_cons_succ, List.set_cons_zero, List.set_cons_succ, Option.bind_some, Option.bind_none, Option.map_some, Option.map_none, Nat.zero_add, Nat.add_zero, Nat.reduceAdd, Nat.reduceSub, Nat.sub_self, Nat.reduceLeDiff, Nat.reduceEqDiff, Nat.le_refl, Nat.add_sub_cancel, if_true, if_false, Bool.false_eq_true, Bool.not_true, Bool.not_false, Bool.not_not, reduceIte, reduceCtorEq, and_self, and_true, true_and, decide_true, decide_false, semEq_str, semNe_str, semEq_int, semNe_int, semEq_bl, semNe_bl, atI0, atI1, atI2, atI3, atI4, OkS_nx, post_ok, items_lst, items_tup, semAt_lst, semAt_tup, semAt_str, semAt_dic, e1, e2, e3, er, atD]
end T

-- needs: _law_some _law_atom _law_fact
namespace T
open PySem L2 DL
set_option maxHeartbeats 4000000 in
theorem fact_ok {bs : List D} (hb : BagOk bs) (xs : List Str) (h0 : xs ≠ []) (hl : xs.length ≤ 1000) : ∃ fs bs', f__law_fact bs [.lst (xs.map D.str)] = some (.sh (ftD fs), bs') ∧ FtIn xs fs ∧ BagOk bs' := by
  obtain ⟨v, b1, e1, v0, v1, hb1⟩ := take_ok hb (n := 3) (by decide) (by decide)
  have ei : it__law_fact_1 [some (.ow bs), some (.sh (.lst (xs.map D.str))), none] = .ok (rangeD 0 (1 + v / 2).toNat) [some (.ow b1), some (.sh (.lst (xs.map D.str))), none] := by
    have h : -1000000 ≤ 1 + v / 2 ∧ 1 + v / 2 ≤ 1000000 := by omega
    simp [it__law_fact_1, fnB, fnP, Rs.noE, startE, seqS, ifS, thenS, toB, op2, opN, op1, Opd.run, fill, lookV, look, Rs.bind, Rs.map, ofO, cD, vD, semIx, semEq, semNe, eqB, D.sc, D.asB, atI, ixN, semGt, semGe, semLt, semLe, setS, putS, DL.putF, shD, frzD, mvD, rtS, chgS, fillW, OV.lst?, OV.d, nxS, runs, looks, semInt, semMod, semFdiv, semAdd, semSub, semMul, semAbs, semLen, semTuple, semList, lstD, tupD, evs, callP, callB, slD, poN, poS, semSl, D.asI, appS, appF, extS, extF, augS, augF, exS, ifD, andT, orT, notT, notD, andD, orD, par2, par3, asgS, gN, gT, gsCons, gsNil, forD, rg1, rg2, itA, D.items, zpD, zip2, zipD, lcD, yesT, wipeE, m1D, tabD, semIs, semIsNot, D.isN, semAt, semIn2, semNotIn2, inB2, toT, orV, andV, notV, D.tru, chD, isiD, D.isi, D.ty, isTy, D.key, evPs, dicD, semDict, pairD, mergeD, putD, valD, semRepr, callL, op2O, slO, opNO, lrgO, OV.flt, D.flt, semAddL, semMulL, semListL, mLD, popF, popS, insF, insS, clrS, revO, e1, h]
  obtain ⟨ys, r', q1, q2, q3, q4⟩ := lcD_inv (vs := [2]) (h := gN 2) (elt := el__law_fact_1) (fun r => ∃ b, r = [some (.ow b), some (.sh (.lst (xs.map D.str))), none] ∧ BagOk b) (fun y => ∃ x, y = atD x ∧ AtIn xs x) ei (by rw [rangeD_len]; omega) ⟨b1, rfl, hb1⟩ (by rintro r ⟨b, rfl, _⟩; rfl) (by
    rintro d _ r ⟨b, rfl, hb⟩
    obtain ⟨x, b', e, hx, hb'⟩ := atom_ok hb xs h0 hl
    refine ⟨[some (.ow b), some (.sh (.lst (xs.map D.str))), some (.sh d)], atD x, [some (.ow b'), some (.sh (.lst (xs.map D.str))), some (.sh d)], rfl, ?_, ⟨x, rfl, hx⟩, b', rfl, hb'⟩
    simp only [el__law_fact_1, fnB, fnP, Rs.noE, startE, seqS, ifS, thenS, toB, op2, opN, op1, Opd.run, fill, lookV, look, Rs.bind, Rs.map, ofO, cD, vD, D.asB, semGt, semGe, semLt, semLe, setS, putS, DL.putF, shD, frzD, mvD, rtS, chgS, fillW, OV.lst?, OV.d, nxS, runs, looks, semInt, semMod, semFdiv, semAdd, semSub, semMul, semAbs, semLen, semTuple, semList, lstD, tupD, evs, callP, callB, slD, poN, poS, semSl, D.asI, appS, appF, extS, extF, augS, augF, exS, ifD, andT, orT, notT, notD, andD, orD, par2, par3, asgS, gN, gT, gsCons, gsNil, forD, rg1, rg2, itA, zpD, zip2, zipD, lcD, yesT, wipeE, m1D, tabD, semIs, semIsNot, D.isN, toT, orV, andV, notV, D.tru, chD, isiD, D.key, evPs, dicD, semDict, pairD, semRepr, callL, op2O, slO, opNO, lrgO, OV.flt, D.flt, semAddL, semMulL, semListL, mLD, popF, popS, insF, insS, clrS, revO, Rs.noE, List.map_cons, List.map_nil, List.length_cons, List.length_nil, List.length_map, List.replicate, List.cons_append, List.nil_append, List.append_nil, List.getElem?_cons_zero, List.getElem?_cons_succ, List.set_cons_zero, List.set_cons_succ, Option.bind_some, Option.bind_none, Option.map_some, Option.map_none, Nat.zero_add, Nat.add_zero, Nat.reduceAdd, Nat.reduceSub, Nat.sub_self, Nat.reduceLeDiff, Nat.reduceEqDiff, Nat.le_refl, Nat.add_sub_cancel, if_true, if_false, Bool.false_eq_true, Bool.not_true, Bool.not_false, Bool.not_not, reduceIte, reduceCtorEq, and_self, and_true, true_and, decide_true, decide_false, semEq_str, semNe_str, semEq_int, semNe_int, semEq_bl, semNe_bl, atI0, atI1, atI2, atI3, atI4, OkS_nx, post_ok, items_lst, items_tup, semAt_lst, semAt_tup, semAt_str, semAt_dic, e])
  obtain ⟨b', rfl, hb'⟩ := q4
  obtain ⟨fs, rfl, hfs⟩ := map_of q3
  rw [List.length_map, rangeD_len] at q2
  have q1 : lc__law_fact_1 [some (.ow bs), some (.sh (.lst (xs.map D.str))), none] = _ := q1
  refine ⟨fs, b', ?_, ⟨hfs, by omega⟩, hb'⟩
  simp only [f__law_fact, m__law_fact, fnB, fnP, Rs.noE, startE, seqS, ifS, thenS, toB, op2, opN, op1, Opd.run, fill, lookV, look, Rs.bind, Rs.map, ofO, cD, vD, D.asB, semGt, semGe, semLt, semLe, setS, putS, DL.putF, shD, frzD, mvD, rtS, chgS, fillW, OV.lst?, OV.d, nxS, runs, looks, semInt, semMod, semFdiv, semAdd, semSub, semMul, semAbs, semLen, semTuple, semList, lstD, tupD, evs, callP, callB, slD, poN, poS, semSl, D.asI, appS, appF, extS, extF, augS, augF, exS, ifD, andT, orT, notT, notD, andD, orD, par2, par3, asgS, gN, gT, gsCons, gsNil, forD, rg1, rg2, itA, zpD, zip2, zipD, lcD, yesT, wipeE, m1D, tabD, semIs, semIsNot, D.isN, toT, orV, andV, notV, D.tru, chD, isiD, D.key, evPs, dicD, semDict, pairD, semRepr, callL, op2O, slO, opNO, lrgO, OV.flt, D.flt, semAddL, semMulL, semListL, mLD, popF, popS, insF, insS, clrS, revO, Rs.noE, List.map_cons, List.map_nil, List.length_cons, List.length_nil, List.length_map, List.replicate, List.cons_append, List.nil_append, List.append_nil, List.getElem?_cons_zero, List.getElem?_cons_succ, List.set_cons_zero, List.set_cons_succ, Option.bind_some, Option.bind_none, Option.map_some, Option.map_none, Nat.zero_add, Nat.add_zero, Nat.reduceAdd, Nat.reduceSub, Nat.sub_self, Nat.reduceLeDiff, Nat.reduceEqDiff, Nat.le_refl, Nat.add_sub_cancel, if_true, if_false, Bool.false_eq_true, Bool.not_true, Bool.not_false, Bool.not_not, reduceIte, reduceCtorEq, and_self, and_true, true_and, decide_true, decide_false, semEq_str, semNe_str, semEq_int, semNe_int, semEq_bl, semNe_bl, atI0, atI1, atI2, atI3, atI4, OkS_nx, post_ok, items_lst, items_tup, semAt_lst, semAt_tup, semAt_str, semAt_dic, q1, ftD]
end T

-- needs: _law_alike
namespace T
open PySem L2 DL
theorem semEqX_str (x y : Str) : semEqX (.str x) (.str y) = some (.bl (decide (x = y))) := semEqX_of (semEq_str x y)
theorem alike_gen {d : D} {t : Str} (h1 : semEqX d d = some (.bl true)) (h2 : semRepr [d] = some (.str t)) : f__law_alike [d, d] = some (.sh (.bl true)) := by
  unfold f__law_alike
  refine fnP_w ?_
  unfold m__law_alike
  (repeat (first | (with_reducible refine Gi.of h1 ?_) | (with_reducible refine Gi.of h2 ?_) | (with_reducible refine Gi.of (semEqX_str _ _) ?_) | walk_at "go1"))
  show OV.sh (.bl (decide (t = t))) = _
  rw [decide_eq_true rfl]
theorem alike_ok {d : D} (h : d.shw = true) (hf : d.fit = true) : f__law_alike [d, d] = some (.sh (.bl true)) :=
  alike_gen (semEqX_of (semEq_self hf)) (t := d.py.shown) (by show (if d.shw = true then _ else _) = _; rw [if_pos h])
end T

-- needs: _law_world _law_names
namespace T
open PySem L2 DL
/-! ### worlds -/
/-- a world: three names for rows, two to four for things -/
def wdD (xs ys : List Str) : D := .dic [(.inr "names", .lst (xs.map D.str)), (.inr "things", .lst (ys.map D.str))]
structure WorldOk (xs ys : List Str) : Prop where
  x3 : xs.length = 3
  y2 : 2 ≤ ys.length ∧ ys.length ≤ 4
  xn : xs.Nodup
  yn : ys.Nodup
  x : ∀ x ∈ xs, NameOk x
  y : ∀ y ∈ ys, NameOk y
  yz : ∀ y ∈ ys, y ≠ ("zzzzz" : Str)
/-- as much as the drawing of rows needs -/
structure WorldQ (xs ys : List Str) : Prop where
  x3 : xs.length = 3
  y0 : ys ≠ []
  yl : ys.length ≤ 1000
  x : ∀ x ∈ xs, NameOk x
  y : ∀ y ∈ ys, NameOk y
theorem WorldQ.x0 {xs ys : List Str} (w : WorldQ xs ys) : xs ≠ [] := fun z => by have := w.x3; rw [z] at this; cases this
theorem WorldOk.x0 {xs ys : List Str} (w : WorldOk xs ys) : xs ≠ [] := fun z => by have := w.x3; rw [z] at this; cases this
theorem WorldOk.y0 {xs ys : List Str} (w : WorldOk xs ys) : ys ≠ [] := fun z => by have := w.y2; rw [z] at this; simp at this
theorem WorldOk.q {xs ys : List Str} (w : WorldOk xs ys) : WorldQ xs ys := ⟨w.x3, w.y0, by have := w.y2; omega, w.x, w.y⟩
theorem wd_names (xs ys : List Str) : semAt (wdD xs ys) (.str "names") = some (.lst (xs.map D.str)) := rfl
theorem n_ne_t : ((Sum.inr ("names" : Str) : Key) = (Sum.inr ("things" : Str) : Key)) = False := eq_false fun h => by
  have : ("names" : Str) = "things" := Sum.inr.inj h
  exact absurd this (by decide +kernel)
theorem wd_things (xs ys : List Str) : semAt (wdD xs ys) (.str "things") = some (.lst (ys.map D.str)) := by
  have hk : ¬ ((Sum.inr ("names" : Str) : Key) = (Sum.inr ("things" : Str) : Key)) := fun h => by rw [n_ne_t] at h; exact h
  show valD [((Sum.inr ("names" : Str) : Key), .lst (xs.map D.str)), ((Sum.inr ("things" : Str) : Key), .lst (ys.map D.str))] (Sum.inr ("things" : Str) : Key) = _
  unfold valD
  simp only [List.find?_cons, hk, decide_false, decide_true, Option.map_some]
end T

-- needs: _law_world _law_names
namespace T
open PySem L2 DL
set_option maxHeartbeats 4000000 in
theorem world_ok {bs : List D} (hb : BagOk bs) : ∃ xs ys bs', f__law_world bs [] = some (.sh (wdD xs ys), bs') ∧ WorldOk xs ys ∧ BagOk bs' := by
  obtain ⟨xs, b1, e1, h1, n1, o1, hb1⟩ := names_ok hb 3 (by decide)
  obtain ⟨v, b2, e2, v0, v1, hb2⟩ := take_ok hb1 (n := 3) (by decide) (by decide)
  obtain ⟨m, hm, hm2⟩ : ∃ m : Nat, 2 + v = (m : Int) ∧ 2 ≤ m ∧ m ≤ 4 := ⟨(2 + v).toNat, by omega, by omega, by omega⟩
  obtain ⟨ys, b3, e3, h3, n3, o3, hb3⟩ := names_okZ hb2 m (by omega)
  have e1 : f__law_names bs [.int 3] = some (.ow (xs.map D.str), b1) := e1
  refine ⟨xs, ys, b3, ?_, ⟨h1, by omega, n1, n3, o1, fun y hy => (o3 y hy).1, fun y hy => (o3 y hy).2⟩, hb3⟩
  have hmg : mergeD [] [((Sum.inr "names" : Key), D.lst (xs.map D.str)), (Sum.inr "things", .lst (ys.map D.str))] = [((Sum.inr "names" : Key), D.lst (xs.map D.str)), (Sum.inr "things", .lst (ys.map D.str))] := by
    have hk : ¬ ((Sum.inr ("names" : Str) : Key) = (Sum.inr ("things" : Str) : Key)) := fun h => by rw [n_ne_t] at h; exact h
    simp only [mergeD, List.foldl_cons, List.foldl_nil, putD, List.any_nil, Bool.false_eq_true, if_false, List.nil_append, List.any_cons, hk, decide_false, Bool.or_false, List.cons_append]
  simp only [f__law_world, m__law_world, fnB, fnP, Rs.noE, startE, seqS, ifS, thenS, toB, op2, opN, op1, Opd.run, fill, lookV, look, Rs.bind, Rs.map, ofO, cD, vD, D.asB, semGt, semGe, semLt, semLe, setS, putS, DL.putF, shD, frzD, mvD, rtS, chgS, fillW, OV.lst?, OV.d, nxS, runs, looks, semInt, semMod, semFdiv, semAdd, semSub, semMul, semAbs, semLen, semTuple, semList, lstD, tupD, evs, callP, callB, slD, poN, poS, semSl, D.asI, appS, appF, extS, extF, augS, augF, exS, ifD, andT, orT, notT, notD, andD, orD, par2, par3, asgS, gN, gT, gsCons, gsNil, forD, rg1, rg2, itA, zpD, zip2, zipD, lcD, yesT, wipeE, m1D, tabD, semIs, semIsNot, D.isN, toT, orV, andV, notV, D.tru, chD, isiD, D.key, evPs, dicD, semDict, pairD, semRepr, callL, op2O, slO, opNO, lrgO, OV.flt, D.flt, semAddL, semMulL, semListL, mLD, popF, popS, insF, insS, clrS, revO, Rs.noE, List.map_cons, List.map_nil, List.length_cons, List.length_nil, List.length_map, List.replicate, List.cons_append, List.nil_append, List.append_nil, List.getElem?_cons_zero, List.getElem?_cons_succ, List.set_cons_zero, List.set_cons_succ, Option.bind_some, Option.bind_none, Option.map_some, Option.map_none, Nat.zero_add, Nat.add_zero, Nat.reduceAdd, Nat.reduceSub, Nat.sub_self, Nat.reduceLeDiff, Nat.reduceEqDiff, Nat.le_refl, Nat.add_sub_cancel, if_true, if_false, Bool.false_eq_true, Bool.not_true, Bool.not_false, Bool.not_not, reduceIte, reduceCtorEq, and_self, and_true, true_and, decide_true, decide_false, semEq_str, semNe_str, semEq_int, semNe_int, semEq_bl, semNe_bl, atI0, atI1, atI2, atI3, atI4, OkS_nx, post_ok, items_lst, items_tup, semAt_lst, semAt_tup, semAt_str, semAt_dic, e1, e2, hm, e3, hmg, wdD]
end T

-- needs: _law_world _law_row _law_fact
namespace T
open PySem L2 DL
/-! ### rows, worlds -/
abbrev Row := Str × List At
def rwD (r : Row) : D := .tup [.str r.1, ftD r.2]
def rwsD (rs : List Row) : D := .lst (rs.map rwD)
structure RowOk (r : Row) : Prop where
  nm : NameOk r.1
  ft : FtOk r.2
structure RowIn (xs ys : List Str) (r : Row) : Prop where
  nm : r.1 ∈ xs
  ft : FtIn ys r.2
theorem RowIn.ok {xs ys : List Str} {r : Row} (h : RowIn xs ys r) (hx : ∀ x ∈ xs, NameOk x) (hy : ∀ y ∈ ys, NameOk y) : RowOk r := ⟨hx _ h.nm, h.ft.ok hy⟩
theorem sm_row {r : Row} (h : RowOk r) : Sm 3 1041 (rwD r) := (Sm.tup (n := 2) (w := 517) (m := 2) (fun d hd => by
  simp only [List.mem_cons, List.not_mem_nil, or_false] at hd
  rcases hd with rfl | rfl
  · exact (sm_str h.nm).mono (by decide) (by decide)
  · exact sm_ft h.ft) (Nat.le_refl _))
theorem sm_rows {rs : List Row} {m : Nat} (h : ∀ r ∈ rs, RowOk r) (hm : rs.length ≤ m) : Sm 4 (m * 1043 + 3) (rwsD rs) := Sm.lst (n := 3) (w := 1041) (fun d hd => by
  obtain ⟨r, hr, rfl⟩ := List.mem_map.mp hd
  exact sm_row (h r hr)) (by rw [List.length_map]; exact hm)
theorem cl_row (k : Bool) (r : Row) : (rwD r).cl k = true := by
  have : clAll k (r.2.map atD) = true := clAll_iff.mpr fun e he => by
    obtain ⟨x, _, rfl⟩ := List.mem_map.mp he
    rfl
  show (true && ((clAll k (r.2.map atD)) && true)) = true
  rw [this]; rfl
set_option maxHeartbeats 4000000 in
theorem row_okQ {bs : List D} (hb : BagOk bs) {xs ys : List Str} (w : WorldQ xs ys) : ∃ r bs', f__law_row bs [wdD xs ys] = some (.sh (rwD r), bs') ∧ RowIn xs ys r ∧ BagOk bs' := by
  obtain ⟨n, b1, e1, h1, hb1⟩ := someS_ok hb xs w.x0 (by have := w.x3; omega)
  obtain ⟨fs, b2, e2, h2, hb2⟩ := fact_ok hb1 ys w.y0 w.yl
  refine ⟨(n, fs), b2, ?_, ⟨h1, h2⟩, hb2⟩
  simp only [f__law_row, m__law_row, fnB, startE, rtS, shD, tupD, evs, frzD, callB, op2, Opd.run, fill, cD, lookV, look, Rs.bind, Rs.map, ofO, OV.d, OV.lst?, thenS, wd_names, wd_things, Rs.noE, List.map_cons, List.map_nil, List.length_cons, List.length_nil, List.length_map, List.replicate, List.cons_append, List.nil_append, List.append_nil, List.getElem?_cons_zero, List.getElem?_cons_succ, List.set_cons_zero, List.set_cons_succ, Option.bind_some, Option.bind_none, Option.map_some, Option.map_none, Nat.zero_add, Nat.add_zero, Nat.reduceAdd, Nat.reduceSub, Nat.sub_self, Nat.reduceLeDiff, Nat.reduceEqDiff, Nat.le_refl, Nat.add_sub_cancel, if_true, if_false, Bool.false_eq_true, Bool.not_true, Bool.not_false, Bool.not_not, reduceIte, reduceCtorEq, and_self, and_true, true_and, decide_true, decide_false, semEq_str, semNe_str, semEq_int, semNe_int, semEq_bl, semNe_bl, atI0, atI1, atI2, atI3, atI4, OkS_nx, post_ok, items_lst, items_tup, semAt_lst, semAt_tup, semAt_str, semAt_dic, e1, e2, rwD]
theorem row_ok {bs : List D} (hb : BagOk bs) {xs ys : List Str} (w : WorldOk xs ys) : ∃ r bs', f__law_row bs [wdD xs ys] = some (.sh (rwD r), bs') ∧ RowIn xs ys r ∧ BagOk bs' := row_okQ hb w.q
end T

-- needs: _law_world _law_row _law_rows _law_fact
namespace T
open PySem L2 DL
set_option maxHeartbeats 4000000 in
theorem rows_okQ {bs : List D} (hb : BagOk bs) {xs ys : List Str} (w : WorldQ xs ys) (m : Nat) (hm : m ≤ 100) : ∃ (rs : List Row) (bs' : List D), f__law_rows bs [wdD xs ys, .int m] = some (.ow (rs.map rwD), bs') ∧ rs.length ≤ m ∧ (∀ r ∈ rs, RowIn xs ys r) ∧ BagOk bs' := by
  obtain ⟨v, b1, e1, v0, v1, hb1⟩ := take_ok hb (n := (m : Int) + 1) (by omega) (by omega)
  have ei : it__law_rows_1 [some (.ow bs), some (.sh (wdD xs ys)), some (.sh (.int m)), none] = .ok (rangeD 0 v.toNat) [some (.ow b1), some (.sh (wdD xs ys)), some (.sh (.int m)), none] := by
    have h : -1000000 ≤ v ∧ v ≤ 1000000 := by omega
    simp only [it__law_rows_1, fnB, fnP, Rs.noE, startE, seqS, ifS, thenS, toB, op2, opN, op1, Opd.run, fill, lookV, look, Rs.bind, Rs.map, ofO, cD, vD, D.asB, semGt, semGe, semLt, semLe, setS, putS, DL.putF, shD, frzD, mvD, rtS, chgS, fillW, OV.lst?, OV.d, nxS, runs, looks, semInt, semMod, semFdiv, semAdd, semSub, semMul, semAbs, semLen, semTuple, semList, lstD, tupD, evs, callP, callB, slD, poN, poS, semSl, D.asI, appS, appF, extS, extF, augS, augF, exS, ifD, andT, orT, notT, notD, andD, orD, par2, par3, asgS, gN, gT, gsCons, gsNil, forD, rg1, rg2, itA, zpD, zip2, zipD, lcD, yesT, wipeE, m1D, tabD, semIs, semIsNot, D.isN, toT, orV, andV, notV, D.tru, chD, isiD, D.key, evPs, dicD, semDict, pairD, semRepr, callL, op2O, slO, opNO, lrgO, OV.flt, D.flt, semAddL, semMulL, semListL, mLD, popF, popS, insF, insS, clrS, revO, Rs.noE, List.map_cons, List.map_nil, List.length_cons, List.length_nil, List.length_map, List.replicate, List.cons_append, List.nil_append, List.append_nil, List.getElem?_cons_zero, List.getElem?_cons_succ, List.set_cons_zero, List.set_cons_succ, Option.bind_some, Option.bind_none, Option.map_some, Option.map_none, Nat.zero_add, Nat.add_zero, Nat.reduceAdd, Nat.reduceSub, Nat.sub_self, Nat.reduceLeDiff, Nat.reduceEqDiff, Nat.le_refl, Nat.add_sub_cancel, if_true, if_false, Bool.false_eq_true, Bool.not_true, Bool.not_false, Bool.not_not, reduceIte, reduceCtorEq, and_self, and_true, true_and, decide_true, decide_false, semEq_str, semNe_str, semEq_int, semNe_int, semEq_bl, semNe_bl, atI0, atI1, atI2, atI3, atI4, OkS_nx, post_ok, items_lst, items_tup, semAt_lst, semAt_tup, semAt_str, semAt_dic, e1, h]
  obtain ⟨zs, r', q1, q2, q3, q4⟩ := lcD_ok (vs := [3]) (h := gN 3) (elt := el__law_rows_1) (fun r => ∃ b, r = [some (.ow b), some (.sh (wdD xs ys)), some (.sh (.int m)), none] ∧ BagOk b) (fun y => ∃ x, y = rwD x ∧ RowIn xs ys x) ei (by rw [rangeD_len]; omega) ⟨b1, rfl, hb1⟩ (by rintro r ⟨b, rfl, _⟩; rfl) (by
    rintro d _ r ⟨b, rfl, hb⟩
    obtain ⟨x, b', e, hx, hb'⟩ := row_okQ hb w
    refine ⟨_, rfl, ?_⟩
    simp only [el__law_rows_1, gN, fnB, fnP, Rs.noE, startE, seqS, ifS, thenS, toB, op2, opN, op1, Opd.run, fill, lookV, look, Rs.bind, Rs.map, ofO, cD, vD, D.asB, semGt, semGe, semLt, semLe, setS, putS, DL.putF, shD, frzD, mvD, rtS, chgS, fillW, OV.lst?, OV.d, nxS, runs, looks, semInt, semMod, semFdiv, semAdd, semSub, semMul, semAbs, semLen, semTuple, semList, lstD, tupD, evs, callP, callB, slD, poN, poS, semSl, D.asI, appS, appF, extS, extF, augS, augF, exS, ifD, andT, orT, notT, notD, andD, orD, par2, par3, asgS, gN, gT, gsCons, gsNil, forD, rg1, rg2, itA, zpD, zip2, zipD, lcD, yesT, wipeE, m1D, tabD, semIs, semIsNot, D.isN, toT, orV, andV, notV, D.tru, chD, isiD, D.key, evPs, dicD, semDict, pairD, semRepr, callL, op2O, slO, opNO, lrgO, OV.flt, D.flt, semAddL, semMulL, semListL, mLD, popF, popS, insF, insS, clrS, revO, Rs.noE, List.map_cons, List.map_nil, List.length_cons, List.length_nil, List.length_map, List.replicate, List.cons_append, List.nil_append, List.append_nil, List.getElem?_cons_zero, List.getElem?_cons_succ, List.set_cons_zero, List.set_cons_succ, Option.bind_some, Option.bind_none, Option.map_some, Option.map_none, Nat.zero_add, Nat.add_zero, Nat.reduceAdd, Nat.reduceSub, Nat.sub_self, Nat.reduceLeDiff, Nat.reduceEqDiff, Nat.le_refl, Nat.add_sub_cancel, if_true, if_false, Bool.false_eq_true, Bool.not_true, Bool.not_false, Bool.not_not, reduceIte, reduceCtorEq, and_self, and_true, true_and, decide_true, decide_false, semEq_str, semNe_str, semEq_int, semNe_int, semEq_bl, semNe_bl, atI0, atI1, atI2, atI3, atI4, OkS_nx, post_ok, items_lst, items_tup, semAt_lst, semAt_tup, semAt_str, semAt_dic, e]
    exact ⟨⟨x, rfl, hx⟩, b', rfl, hb'⟩)
  obtain ⟨b', rfl, hb'⟩ := q4
  obtain ⟨rs, rfl, hrs⟩ := map_of q3
  rw [List.length_map, rangeD_len] at q2
  have q1 : lc__law_rows_1 _ = _ := q1
  refine ⟨rs, b', ?_, by omega, hrs, hb'⟩
  simp only [f__law_rows, m__law_rows, fnB, fnP, Rs.noE, startE, seqS, ifS, thenS, toB, op2, opN, op1, Opd.run, fill, lookV, look, Rs.bind, Rs.map, ofO, cD, vD, D.asB, semGt, semGe, semLt, semLe, setS, putS, DL.putF, shD, frzD, mvD, rtS, chgS, fillW, OV.lst?, OV.d, nxS, runs, looks, semInt, semMod, semFdiv, semAdd, semSub, semMul, semAbs, semLen, semTuple, semList, lstD, tupD, evs, callP, callB, slD, poN, poS, semSl, D.asI, appS, appF, extS, extF, augS, augF, exS, ifD, andT, orT, notT, notD, andD, orD, par2, par3, asgS, gN, gT, gsCons, gsNil, forD, rg1, rg2, itA, zpD, zip2, zipD, lcD, yesT, wipeE, m1D, tabD, semIs, semIsNot, D.isN, toT, orV, andV, notV, D.tru, chD, isiD, D.key, evPs, dicD, semDict, pairD, semRepr, callL, op2O, slO, opNO, lrgO, OV.flt, D.flt, semAddL, semMulL, semListL, mLD, popF, popS, insF, insS, clrS, revO, Rs.noE, List.map_cons, List.map_nil, List.length_cons, List.length_nil, List.length_map, List.replicate, List.cons_append, List.nil_append, List.append_nil, List.getElem?_cons_zero, List.getElem?_cons_succ, List.set_cons_zero, List.set_cons_succ, Option.bind_some, Option.bind_none, Option.map_some, Option.map_none, Nat.zero_add, Nat.add_zero, Nat.reduceAdd, Nat.reduceSub, Nat.sub_self, Nat.reduceLeDiff, Nat.reduceEqDiff, Nat.le_refl, Nat.add_sub_cancel, if_true, if_false, Bool.false_eq_true, Bool.not_true, Bool.not_false, Bool.not_not, reduceIte, reduceCtorEq, and_self, and_true, true_and, decide_true, decide_false, semEq_str, semNe_str, semEq_int, semNe_int, semEq_bl, semNe_bl, atI0, atI1, atI2, atI3, atI4, OkS_nx, post_ok, items_lst, items_tup, semAt_lst, semAt_tup, semAt_str, semAt_dic, q1]
theorem rows_ok {bs : List D} (hb : BagOk bs) {xs ys : List Str} (w : WorldOk xs ys) (m : Nat) (hm : m ≤ 100) : ∃ (rs : List Row) (bs' : List D), f__law_rows bs [wdD xs ys, .int m] = some (.ow (rs.map rwD), bs') ∧ rs.length ≤ m ∧ (∀ r ∈ rs, RowIn xs ys r) ∧ BagOk bs' := rows_okQ hb w.q m hm
end T

-- needs: _law_world
namespace T
open PySem L2 DL
/-! ### picks that look at the goal -/
inductive Pk where
  | name (x : Str)
  | idx (i : Int)
  | last
  | like (p : At)
  | all (p : At)
def Pk.Ok : Pk → Prop
  | .name x => NameOk x
  | .idx i => 0 ≤ i
  | .last => True
  | .like p => PtOk p
  | .all p => PtOk p
end T

-- needs: _law_world _law_rows
namespace T
open PySem L2 DL
/-! ### the rows that a pick picks -/
end T

-- needs: is_name is_relation _law_names
namespace T
open PySem L2 DL
/-! ### any values: names, relations -/
/-- any value: it can be shown, of a depth and a weight -/
structure Gd (n w : Nat) (d : D) : Prop where
  rp : d.rp = true
  dq : d.dq ≤ n
  wq : d.wq ≤ w
theorem Gd.mono {n w n' w' : Nat} {d : D} (h : Gd n w d) (h1 : n ≤ n') (h2 : w ≤ w') : Gd n' w' d := ⟨h.rp, Nat.le_trans h.dq h1, Nat.le_trans h.wq h2⟩
theorem Gd.shx {n w : Nat} {d : D} (h : Gd n w d) (hn : n ≤ 64 := by decide) (hw : w ≤ 1000000 := by decide) : d.shx = true := by
  unfold D.shx
  rw [h.rp, decide_eq_true (Nat.le_trans h.dq hn), decide_eq_true (Nat.le_trans h.wq hw)]; rfl
def nmB : D → Bool
  | .str x => nameB x
  | _ => false
def relB : D → Bool
  | .str x => decide (x = "eq") || (decide (x = "lt") || decide (x = "gt"))
  | _ => false
theorem isi_str (d : D) : d.isi ["str"] = match d with | .str _ => true | _ => false := by cases d <;> rfl
theorem isi_tup (d : D) : d.isi ["tuple"] = match d with | .tup _ => true | _ => false := by cases d <;> rfl
theorem in_let (c : Nat) : semIn2 (.str (one c)) (.str LET) = some (.bl (decide (97 ≤ c) && decide (c ≤ 122))) := by
  have h := StrLaws.found_one LET c
  have hm : decide (c ∈ LET.cps.toList) = (decide (97 ≤ c) && decide (c ≤ 122)) := by
    rw [let_codes, Bool.eq_iff_iff, decide_eq_true_eq, Bool.and_eq_true, decide_eq_true_eq, decide_eq_true_eq, List.mem_map]
    constructor
    · rintro ⟨k, hk, rfl⟩
      have := List.mem_range.mp hk
      omega
    · intro ⟨h1, h2⟩
      exact ⟨c - 97, List.mem_range.mpr (by omega), by omega⟩
  show some (D.bl (!(Builtin.Str.occurrences LET (one c) 0 LET.length 1).isEmpty)) = _
  rw [← hm]
  exact congrArg (fun b => some (D.bl b)) h
theorem str_wq {x : Str} {w : Nat} (h : (D.str x).wq ≤ w) : 10 * x.length + 2 ≤ w := h
set_option maxHeartbeats 4000000 in
theorem isName_eq {n w : Nat} {d : D} (h : Gd n w d) (hw : w ≤ 1000000) : f_is_name [d] = some (.sh (.bl (nmB d))) := by
  cases d with
  | str x =>
    have hl : x.length ≤ 1000000 := by have := str_wq h.wq; omega
    by_cases c1 : 1 ≤ x.length ∧ x.length ≤ 8
    · have e : lc_is_name_1 [some (.sh (.str x)), none] = .ok (.ow (x.cps.toList.map fun c => .bl (decide (97 ≤ c) && decide (c ≤ 122)))) [some (.sh (.str x)), none] :=
        lcD_mp1 (it := it_is_name_1) (vs := [1]) (h := gN 1) (elt := el_is_name_1) (r := [some (.sh (.str x)), none]) _ x.cps.toList (fun c => D.str (one c)) _ (by
          have hi : (D.str x).items = some (signs x) := if_pos hl
          simp only [it_is_name_1, itA, vD, Rs.bind, ofO, Rs.noE, List.map_cons, List.map_nil, List.length_cons, List.length_nil, List.length_map, List.replicate, List.cons_append, List.nil_append, List.append_nil, List.getElem?_cons_zero, List.getElem?_cons_succ, List.set_cons_zero, List.set_cons_succ, Option.bind_some, Option.bind_none, Option.map_some, Option.map_none, Nat.zero_add, Nat.add_zero, Nat.reduceAdd, Nat.reduceSub, Nat.sub_self, Nat.reduceLeDiff, Nat.reduceEqDiff, Nat.le_refl, Nat.add_sub_cancel, if_true, if_false, Bool.false_eq_true, Bool.not_true, Bool.not_false, Bool.not_not, reduceIte, reduceCtorEq, and_self, and_true, true_and, decide_true, decide_false, semEq_str, semNe_str, semEq_int, semNe_int, semEq_bl, semNe_bl, atI0, atI1, atI2, atI3, atI4, OkS_nx, post_ok, items_lst, items_tup, semAt_lst, semAt_tup, semAt_str, semAt_dic, hi]
          rfl) (by rw [← len_codes]; exact hl) rfl rfl (fun c _ => ⟨_, rfl, rfl, by
            have := in_let c
            simp only [el_is_name_1, gN, c_LETTERS, fnB, fnP, Rs.noE, startE, seqS, ifS, thenS, toB, op2, opN, op1, Opd.run, fill, lookV, look, Rs.bind, Rs.map, ofO, cD, vD, D.asB, semGt, semGe, semLt, semLe, setS, putS, DL.putF, shD, frzD, mvD, rtS, chgS, fillW, OV.lst?, OV.d, nxS, runs, looks, semInt, semMod, semFdiv, semAdd, semSub, semMul, semAbs, semLen, semTuple, semList, lstD, tupD, evs, callP, callB, slD, poN, poS, semSl, D.asI, appS, appF, extS, extF, augS, augF, exS, ifD, andT, orT, notT, notD, andD, orD, par2, par3, asgS, gN, gT, gsCons, gsNil, forD, rg1, rg2, itA, zpD, zip2, zipD, lcD, yesT, wipeE, m1D, tabD, semIs, semIsNot, D.isN, toT, orV, andV, notV, D.tru, chD, isiD, D.key, evPs, dicD, semDict, pairD, semRepr, callL, op2O, slO, opNO, lrgO, OV.flt, D.flt, semAddL, semMulL, semListL, mLD, popF, popS, insF, insS, clrS, revO, Rs.noE, List.map_cons, List.map_nil, List.length_cons, List.length_nil, List.length_map, List.replicate, List.cons_append, List.nil_append, List.append_nil, List.getElem?_cons_zero, List.getElem?_cons_succ, List.set_cons_zero, List.set_cons_succ, Option.bind_some, Option.bind_none, Option.map_some, Option.map_none, Nat.zero_add, Nat.add_zero, Nat.reduceAdd, Nat.reduceSub, Nat.sub_self, Nat.reduceLeDiff, Nat.reduceEqDiff, Nat.le_refl, Nat.add_sub_cancel, if_true, if_false, Bool.false_eq_true, Bool.not_true, Bool.not_false, Bool.not_not, reduceIte, reduceCtorEq, and_self, and_true, true_and, decide_true, decide_false, semEq_str, semNe_str, semEq_int, semNe_int, semEq_bl, semNe_bl, atI0, atI1, atI2, atI3, atI4, OkS_nx, post_ok, items_lst, items_tup, semAt_lst, semAt_tup, semAt_str, semAt_dic, this]⟩)
      have h1 : (1 : Int) ≤ (x.length : Int) := by omega
      have h2 : (x.length : Int) ≤ 8 := by omega
      have hb : bools (x.cps.toList.map fun c => D.bl (decide (97 ≤ c) && decide (c ≤ 122))) = some (x.cps.toList.map fun c => decide (97 ≤ c) && decide (c ≤ 122)) := bools_map _ _
      have hfin : (x.cps.toList.map fun c => decide (97 ≤ c) && decide (c ≤ 122)).all id = nmB (.str x) := by
        show _ = (decide (0 < x.length) && decide (x.length ≤ 8) && x.cps.toList.all fun c => decide (97 ≤ c) && decide (c ≤ 122))
        rw [List.all_map, decide_eq_true (show 0 < x.length by omega), decide_eq_true c1.2]
        rfl
      simp only [f_is_name, m_is_name, c_MOST_LETTERS, fnB, fnP, Rs.noE, startE, seqS, ifS, thenS, toB, op2, opN, op1, Opd.run, fill, lookV, look, Rs.bind, Rs.map, ofO, cD, vD, D.asB, semGt, semGe, semLt, semLe, setS, putS, DL.putF, shD, frzD, mvD, rtS, chgS, fillW, OV.lst?, OV.d, nxS, runs, looks, semInt, semMod, semFdiv, semAdd, semSub, semMul, semAbs, semLen, semTuple, semList, lstD, tupD, evs, callP, callB, slD, poN, poS, semSl, D.asI, appS, appF, extS, extF, augS, augF, exS, ifD, andT, orT, notT, notD, andD, orD, par2, par3, asgS, gN, gT, gsCons, gsNil, forD, rg1, rg2, itA, zpD, zip2, zipD, lcD, yesT, wipeE, m1D, tabD, semIs, semIsNot, D.isN, toT, orV, andV, notV, D.tru, chD, isiD, D.key, evPs, dicD, semDict, pairD, semRepr, callL, op2O, slO, opNO, lrgO, OV.flt, D.flt, semAddL, semMulL, semListL, mLD, popF, popS, insF, insS, clrS, revO, Rs.noE, List.map_cons, List.map_nil, List.length_cons, List.length_nil, List.length_map, List.replicate, List.cons_append, List.nil_append, List.append_nil, List.getElem?_cons_zero, List.getElem?_cons_succ, List.set_cons_zero, List.set_cons_succ, Option.bind_some, Option.bind_none, Option.map_some, Option.map_none, Nat.zero_add, Nat.add_zero, Nat.reduceAdd, Nat.reduceSub, Nat.sub_self, Nat.reduceLeDiff, Nat.reduceEqDiff, Nat.le_refl, Nat.add_sub_cancel, if_true, if_false, Bool.false_eq_true, Bool.not_true, Bool.not_false, Bool.not_not, reduceIte, reduceCtorEq, and_self, and_true, true_and, decide_true, decide_false, semEq_str, semNe_str, semEq_int, semNe_int, semEq_bl, semNe_bl, atI0, atI1, atI2, atI3, atI4, OkS_nx, post_ok, items_lst, items_tup, semAt_lst, semAt_tup, semAt_str, semAt_dic, isi_str, hl, h1, h2, e, semAll, hb, hfin]
    · have hn : nmB (.str x) = false := by
        unfold nmB nameB
        by_cases c2 : 0 < x.length
        · have : ¬ x.length ≤ 8 := fun z => c1 ⟨c2, z⟩
          simp [this]
        · simp [c2]
      rw [hn]
      by_cases h1 : (1 : Int) ≤ (x.length : Int)
      · have h2 : ¬ (x.length : Int) ≤ 8 := fun z => c1 ⟨by omega, by omega⟩
        simp only [f_is_name, m_is_name, c_MOST_LETTERS, fnB, fnP, Rs.noE, startE, seqS, ifS, thenS, toB, op2, opN, op1, Opd.run, fill, lookV, look, Rs.bind, Rs.map, ofO, cD, vD, D.asB, semGt, semGe, semLt, semLe, setS, putS, DL.putF, shD, frzD, mvD, rtS, chgS, fillW, OV.lst?, OV.d, nxS, runs, looks, semInt, semMod, semFdiv, semAdd, semSub, semMul, semAbs, semLen, semTuple, semList, lstD, tupD, evs, callP, callB, slD, poN, poS, semSl, D.asI, appS, appF, extS, extF, augS, augF, exS, ifD, andT, orT, notT, notD, andD, orD, par2, par3, asgS, gN, gT, gsCons, gsNil, forD, rg1, rg2, itA, zpD, zip2, zipD, lcD, yesT, wipeE, m1D, tabD, semIs, semIsNot, D.isN, toT, orV, andV, notV, D.tru, chD, isiD, D.key, evPs, dicD, semDict, pairD, semRepr, callL, op2O, slO, opNO, lrgO, OV.flt, D.flt, semAddL, semMulL, semListL, mLD, popF, popS, insF, insS, clrS, revO, Rs.noE, List.map_cons, List.map_nil, List.length_cons, List.length_nil, List.length_map, List.replicate, List.cons_append, List.nil_append, List.append_nil, List.getElem?_cons_zero, List.getElem?_cons_succ, List.set_cons_zero, List.set_cons_succ, Option.bind_some, Option.bind_none, Option.map_some, Option.map_none, Nat.zero_add, Nat.add_zero, Nat.reduceAdd, Nat.reduceSub, Nat.sub_self, Nat.reduceLeDiff, Nat.reduceEqDiff, Nat.le_refl, Nat.add_sub_cancel, if_true, if_false, Bool.false_eq_true, Bool.not_true, Bool.not_false, Bool.not_not, reduceIte, reduceCtorEq, and_self, and_true, true_and, decide_true, decide_false, semEq_str, semNe_str, semEq_int, semNe_int, semEq_bl, semNe_bl, atI0, atI1, atI2, atI3, atI4, OkS_nx, post_ok, items_lst, items_tup, semAt_lst, semAt_tup, semAt_str, semAt_dic, isi_str, hl, h1, h2]
      · simp only [f_is_name, m_is_name, c_MOST_LETTERS, fnB, fnP, Rs.noE, startE, seqS, ifS, thenS, toB, op2, opN, op1, Opd.run, fill, lookV, look, Rs.bind, Rs.map, ofO, cD, vD, D.asB, semGt, semGe, semLt, semLe, setS, putS, DL.putF, shD, frzD, mvD, rtS, chgS, fillW, OV.lst?, OV.d, nxS, runs, looks, semInt, semMod, semFdiv, semAdd, semSub, semMul, semAbs, semLen, semTuple, semList, lstD, tupD, evs, callP, callB, slD, poN, poS, semSl, D.asI, appS, appF, extS, extF, augS, augF, exS, ifD, andT, orT, notT, notD, andD, orD, par2, par3, asgS, gN, gT, gsCons, gsNil, forD, rg1, rg2, itA, zpD, zip2, zipD, lcD, yesT, wipeE, m1D, tabD, semIs, semIsNot, D.isN, toT, orV, andV, notV, D.tru, chD, isiD, D.key, evPs, dicD, semDict, pairD, semRepr, callL, op2O, slO, opNO, lrgO, OV.flt, D.flt, semAddL, semMulL, semListL, mLD, popF, popS, insF, insS, clrS, revO, Rs.noE, List.map_cons, List.map_nil, List.length_cons, List.length_nil, List.length_map, List.replicate, List.cons_append, List.nil_append, List.append_nil, List.getElem?_cons_zero, List.getElem?_cons_succ, List.set_cons_zero, List.set_cons_succ, Option.bind_some, Option.bind_none, Option.map_some, Option.map_none, Nat.zero_add, Nat.add_zero, Nat.reduceAdd, Nat.reduceSub, Nat.sub_self, Nat.reduceLeDiff, Nat.reduceEqDiff, Nat.le_refl, Nat.add_sub_cancel, if_true, if_false, Bool.false_eq_true, Bool.not_true, Bool.not_false, Bool.not_not, reduceIte, reduceCtorEq, and_self, and_true, true_and, decide_true, decide_false, semEq_str, semNe_str, semEq_int, semNe_int, semEq_bl, semNe_bl, atI0, atI1, atI2, atI3, atI4, OkS_nx, post_ok, items_lst, items_tup, semAt_lst, semAt_tup, semAt_str, semAt_dic, isi_str, hl, h1]
  | scr _ => exact absurd h.rp Bool.false_ne_true
  | obj _ _ => exact absurd h.rp Bool.false_ne_true
  | _ => simp only [f_is_name, m_is_name, fnP, startE, seqS, ifS, orT, notT, toB, isiD, Opd.run, fill, lookV, look, Rs.bind, Rs.map, ofO, OV.d, thenS, rtS, shD, cD, D.asB, Rs.noE, List.map_cons, List.map_nil, List.length_cons, List.length_nil, List.length_map, List.replicate, List.cons_append, List.nil_append, List.append_nil, List.getElem?_cons_zero, List.getElem?_cons_succ, List.set_cons_zero, List.set_cons_succ, Option.bind_some, Option.bind_none, Option.map_some, Option.map_none, Nat.zero_add, Nat.add_zero, Nat.reduceAdd, Nat.reduceSub, Nat.sub_self, Nat.reduceLeDiff, Nat.reduceEqDiff, Nat.le_refl, Nat.add_sub_cancel, if_true, if_false, Bool.false_eq_true, Bool.not_true, Bool.not_false, Bool.not_not, reduceIte, reduceCtorEq, and_self, and_true, true_and, decide_true, decide_false, semEq_str, semNe_str, semEq_int, semNe_int, semEq_bl, semNe_bl, atI0, atI1, atI2, atI3, atI4, OkS_nx, post_ok, items_lst, items_tup, semAt_lst, semAt_tup, semAt_str, semAt_dic, isi_str, nmB]
theorem in_rel {x : Str} {w : Nat} (h : Gd 0 w (.str x)) : semIn2 (.str x) (.tup [.str "eq", .str "lt", .str "gt"]) = some (.bl (relB (.str x))) := by
  have hf : (D.str x).fit = true := by
    unfold D.fit
    rw [show (D.str x).pl = true from h.rp]; rfl
  have he : (D.tup [.str "eq", .str "lt", .str "gt"]).fit = true := by decide +kernel
  rw [semIn_tup true hf he rfl (fun e he => by
    simp only [List.mem_cons, List.not_mem_nil, or_false] at he
    rcases he with rfl | rfl | rfl <;> rfl)]
  simp [relB]
set_option maxHeartbeats 4000000 in
theorem isRel_eq {n w : Nat} {d : D} (h : Gd n w d) : f_is_relation [d] = some (.sh (.bl (relB d))) := by
  cases d with
  | str x =>
    have := in_rel (w := w) ⟨h.rp, Nat.le_refl _, h.wq⟩
    simp only [f_is_relation, m_is_relation, c_RELATIONS, fnB, fnP, Rs.noE, startE, seqS, ifS, thenS, toB, op2, opN, op1, Opd.run, fill, lookV, look, Rs.bind, Rs.map, ofO, cD, vD, D.asB, semGt, semGe, semLt, semLe, setS, putS, DL.putF, shD, frzD, mvD, rtS, chgS, fillW, OV.lst?, OV.d, nxS, runs, looks, semInt, semMod, semFdiv, semAdd, semSub, semMul, semAbs, semLen, semTuple, semList, lstD, tupD, evs, callP, callB, slD, poN, poS, semSl, D.asI, appS, appF, extS, extF, augS, augF, exS, ifD, andT, orT, notT, notD, andD, orD, par2, par3, asgS, gN, gT, gsCons, gsNil, forD, rg1, rg2, itA, zpD, zip2, zipD, lcD, yesT, wipeE, m1D, tabD, semIs, semIsNot, D.isN, toT, orV, andV, notV, D.tru, chD, isiD, D.key, evPs, dicD, semDict, pairD, semRepr, callL, op2O, slO, opNO, lrgO, OV.flt, D.flt, semAddL, semMulL, semListL, mLD, popF, popS, insF, insS, clrS, revO, Rs.noE, List.map_cons, List.map_nil, List.length_cons, List.length_nil, List.length_map, List.replicate, List.cons_append, List.nil_append, List.append_nil, List.getElem?_cons_zero, List.getElem?_cons_succ, List.set_cons_zero, List.set_cons_succ, Option.bind_some, Option.bind_none, Option.map_some, Option.map_none, Nat.zero_add, Nat.add_zero, Nat.reduceAdd, Nat.reduceSub, Nat.sub_self, Nat.reduceLeDiff, Nat.reduceEqDiff, Nat.le_refl, Nat.add_sub_cancel, if_true, if_false, Bool.false_eq_true, Bool.not_true, Bool.not_false, Bool.not_not, reduceIte, reduceCtorEq, and_self, and_true, true_and, decide_true, decide_false, semEq_str, semNe_str, semEq_int, semNe_int, semEq_bl, semNe_bl, atI0, atI1, atI2, atI3, atI4, OkS_nx, post_ok, items_lst, items_tup, semAt_lst, semAt_tup, semAt_str, semAt_dic, isi_str, this]
  | scr _ => exact absurd h.rp Bool.false_ne_true
  | obj _ _ => exact absurd h.rp Bool.false_ne_true
  | _ => simp only [f_is_relation, m_is_relation, fnP, startE, andD, isiD, Opd.run, fill, lookV, look, Rs.bind, Rs.map, ofO, OV.d, thenS, rtS, shD, cD, D.asB, Rs.noE, List.map_cons, List.map_nil, List.length_cons, List.length_nil, List.length_map, List.replicate, List.cons_append, List.nil_append, List.append_nil, List.getElem?_cons_zero, List.getElem?_cons_succ, List.set_cons_zero, List.set_cons_succ, Option.bind_some, Option.bind_none, Option.map_some, Option.map_none, Nat.zero_add, Nat.add_zero, Nat.reduceAdd, Nat.reduceSub, Nat.sub_self, Nat.reduceLeDiff, Nat.reduceEqDiff, Nat.le_refl, Nat.add_sub_cancel, if_true, if_false, Bool.false_eq_true, Bool.not_true, Bool.not_false, Bool.not_not, reduceIte, reduceCtorEq, and_self, and_true, true_and, decide_true, decide_false, semEq_str, semNe_str, semEq_int, semNe_int, semEq_bl, semNe_bl, atI0, atI1, atI2, atI3, atI4, OkS_nx, post_ok, items_lst, items_tup, semAt_lst, semAt_tup, semAt_str, semAt_dic, isi_str, relB]
end T

-- needs: is_name is_relation _law_names
namespace T
open PySem L2 DL
/-! ### any values: atoms, facts, patterns, rows -/
def atB : D → Bool
  | .tup [a, b, c] => relB a && (nmB b && nmB c)
  | _ => false
def ftB : D → Bool
  | .tup [a] => atB a
  | .tup [a, b] => atB a && atB b
  | _ => false
def rwB : D → Bool
  | .tup [a, b] => nmB a && ftB b
  | _ => false
theorem rpAll_iff {ds : List D} : rpAll ds = true ↔ ∀ d ∈ ds, d.rp = true := by
  induction ds with
  | nil => simp [rpAll]
  | cons d ds ih => simp [rpAll, ih]
theorem dqAll_le {ds : List D} {d : D} (h : d ∈ ds) : d.dq ≤ dqAll ds := by
  induction ds with
  | nil => cases h
  | cons e es ih =>
    show _ ≤ max e.dq (dqAll es)
    rcases List.mem_cons.mp h with rfl | h
    · omega
    · have := ih h; omega
theorem wqAll_mem {ds : List D} {d : D} (h : d ∈ ds) : d.wq + 2 ≤ wqAll ds := by
  induction ds with
  | nil => cases h
  | cons e es ih =>
    show _ ≤ e.wq + 2 + wqAll es
    rcases List.mem_cons.mp h with rfl | h
    · omega
    · have := ih h; omega
theorem Gd.tupm {n w : Nat} {xs : List D} (h : Gd n w (.tup xs)) {d : D} (hd : d ∈ xs) : Gd n w d :=
  ⟨rpAll_iff.mp h.rp d hd, by have := dqAll_le hd; have : dqAll xs + 1 ≤ n := h.dq; omega, by have := wqAll_mem hd; have : wqAll xs + 3 ≤ w := h.wq; omega⟩
theorem Gd.lstm {n w : Nat} {xs : List D} (h : Gd n w (.lst xs)) {d : D} (hd : d ∈ xs) : Gd n w d :=
  ⟨rpAll_iff.mp h.rp d hd, by have := dqAll_le hd; have : dqAll xs + 1 ≤ n := h.dq; omega, by have := wqAll_mem hd; have : wqAll xs + 3 ≤ w := h.wq; omega⟩
theorem len_ne3 {xs : List D} (h : ∀ a b c, xs ≠ [a, b, c]) : ¬ ((xs.length : Nat) : Int) = 3 := fun z => by
  have : xs.length = 3 := by omega
  match xs, this with
  | [a, b, c], _ => exact h a b c rfl
end T

-- needs: is_name is_relation _law_names
namespace T
open PySem L2 DL
theorem sm_gd {n w : Nat} {d : D} (h : Sm n w d) : Gd n w d := ⟨pl_rp d h.pl h.six, by rw [pl_dq d h.pl]; exact h.dp, by rw [pl_wq d h.pl]; exact h.wt⟩
end T

-- needs: is_name is_relation _law_names
namespace T
open PySem L2 DL
/-! ### any values: further looks -/
end T

-- needs: is_name is_relation _law_names is_atom is_fact is_row
namespace T
open PySem L2 DL
set_option maxHeartbeats 4000000 in
theorem isAtom_eq {n w : Nat} {d : D} (h : Gd n w d) (hw : w ≤ 1000000) : f_is_atom [d] = some (.sh (.bl (atB d))) := by
  cases d with
  | tup xs =>
    by_cases h3 : ∃ a b c, xs = [a, b, c]
    · obtain ⟨a, b, c, rfl⟩ := h3
      have e1 := isRel_eq (h.tupm (d := a) (by simp))
      have e2 := isName_eq (h.tupm (d := b) (by simp)) hw
      have e3 := isName_eq (h.tupm (d := c) (by simp)) hw
      have hl : ((3 : Nat) : Int) = 3 := rfl
      show _ = some (OV.sh (D.bl (relB a && (nmB b && nmB c))))
      simp only [f_is_atom, m_is_atom, fnB, fnP, Rs.noE, startE, seqS, ifS, thenS, toB, op2, opN, op1, Opd.run, fill, lookV, look, Rs.bind, Rs.map, ofO, cD, vD, D.asB, semGt, semGe, semLt, semLe, setS, putS, DL.putF, shD, frzD, mvD, rtS, chgS, fillW, OV.lst?, OV.d, nxS, runs, looks, semInt, semMod, semFdiv, semAdd, semSub, semMul, semAbs, semLen, semTuple, semList, lstD, tupD, evs, callP, callB, slD, poN, poS, semSl, D.asI, appS, appF, extS, extF, augS, augF, exS, ifD, andT, orT, notT, notD, andD, orD, par2, par3, asgS, gN, gT, gsCons, gsNil, forD, rg1, rg2, itA, zpD, zip2, zipD, lcD, yesT, wipeE, m1D, tabD, semIs, semIsNot, D.isN, toT, orV, andV, notV, D.tru, chD, isiD, D.key, evPs, dicD, semDict, pairD, semRepr, callL, op2O, slO, opNO, lrgO, OV.flt, D.flt, semAddL, semMulL, semListL, mLD, popF, popS, insF, insS, clrS, revO, Rs.noE, List.map_cons, List.map_nil, List.length_cons, List.length_nil, List.length_map, List.replicate, List.cons_append, List.nil_append, List.append_nil, List.getElem?_cons_zero, List.getElem?_cons_succ, List.set_cons_zero, List.set_cons_succ, Option.bind_some, Option.bind_none, Option.map_some, Option.map_none, Nat.zero_add, Nat.add_zero, Nat.reduceAdd, Nat.reduceSub, Nat.sub_self, Nat.reduceLeDiff, Nat.reduceEqDiff, Nat.le_refl, Nat.add_sub_cancel, if_true, if_false, Bool.false_eq_true, Bool.not_true, Bool.not_false, Bool.not_not, reduceIte, reduceCtorEq, and_self, and_true, true_and, decide_true, decide_false, semEq_str, semNe_str, semEq_int, semNe_int, semEq_bl, semNe_bl, atI0, atI1, atI2, atI3, atI4, OkS_nx, post_ok, items_lst, items_tup, semAt_lst, semAt_tup, semAt_str, semAt_dic, isi_tup, hl, e1]
      cases relB a with
      | false => simp only [Rs.noE, List.map_cons, List.map_nil, List.length_cons, List.length_nil, List.length_map, List.replicate, List.cons_append, List.nil_append, List.append_nil, List.getElem?_cons_zero, List.getElem?_cons_succ, List.set_cons_zero, List.set_cons_succ, Option.bind_some, Option.bind_none, Option.map_some, Option.map_none, Nat.zero_add, Nat.add_zero, Nat.reduceAdd, Nat.reduceSub, Nat.sub_self, Nat.reduceLeDiff, Nat.reduceEqDiff, Nat.le_refl, Nat.add_sub_cancel, if_true, if_false, Bool.false_eq_true, Bool.not_true, Bool.not_false, Bool.not_not, reduceIte, reduceCtorEq, and_self, and_true, true_and, decide_true, decide_false, semEq_str, semNe_str, semEq_int, semNe_int, semEq_bl, semNe_bl, atI0, atI1, atI2, atI3, atI4, OkS_nx, post_ok, items_lst, items_tup, semAt_lst, semAt_tup, semAt_str, semAt_dic, Bool.false_and]
      | true =>
        simp only [Rs.noE, List.map_cons, List.map_nil, List.length_cons, List.length_nil, List.length_map, List.replicate, List.cons_append, List.nil_append, List.append_nil, List.getElem?_cons_zero, List.getElem?_cons_succ, List.set_cons_zero, List.set_cons_succ, Option.bind_some, Option.bind_none, Option.map_some, Option.map_none, Nat.zero_add, Nat.add_zero, Nat.reduceAdd, Nat.reduceSub, Nat.sub_self, Nat.reduceLeDiff, Nat.reduceEqDiff, Nat.le_refl, Nat.add_sub_cancel, if_true, if_false, Bool.false_eq_true, Bool.not_true, Bool.not_false, Bool.not_not, reduceIte, reduceCtorEq, and_self, and_true, true_and, decide_true, decide_false, semEq_str, semNe_str, semEq_int, semNe_int, semEq_bl, semNe_bl, atI0, atI1, atI2, atI3, atI4, OkS_nx, post_ok, items_lst, items_tup, semAt_lst, semAt_tup, semAt_str, semAt_dic, Bool.true_and, e2, Rs.map, Rs.bind, OV.d, ofO, D.asB]
        cases nmB b with
        | false => simp only [Rs.noE, List.map_cons, List.map_nil, List.length_cons, List.length_nil, List.length_map, List.replicate, List.cons_append, List.nil_append, List.append_nil, List.getElem?_cons_zero, List.getElem?_cons_succ, List.set_cons_zero, List.set_cons_succ, Option.bind_some, Option.bind_none, Option.map_some, Option.map_none, Nat.zero_add, Nat.add_zero, Nat.reduceAdd, Nat.reduceSub, Nat.sub_self, Nat.reduceLeDiff, Nat.reduceEqDiff, Nat.le_refl, Nat.add_sub_cancel, if_true, if_false, Bool.false_eq_true, Bool.not_true, Bool.not_false, Bool.not_not, reduceIte, reduceCtorEq, and_self, and_true, true_and, decide_true, decide_false, semEq_str, semNe_str, semEq_int, semNe_int, semEq_bl, semNe_bl, atI0, atI1, atI2, atI3, atI4, OkS_nx, post_ok, items_lst, items_tup, semAt_lst, semAt_tup, semAt_str, semAt_dic, Bool.false_and]
        | true => simp only [Rs.noE, List.map_cons, List.map_nil, List.length_cons, List.length_nil, List.length_map, List.replicate, List.cons_append, List.nil_append, List.append_nil, List.getElem?_cons_zero, List.getElem?_cons_succ, List.set_cons_zero, List.set_cons_succ, Option.bind_some, Option.bind_none, Option.map_some, Option.map_none, Nat.zero_add, Nat.add_zero, Nat.reduceAdd, Nat.reduceSub, Nat.sub_self, Nat.reduceLeDiff, Nat.reduceEqDiff, Nat.le_refl, Nat.add_sub_cancel, if_true, if_false, Bool.false_eq_true, Bool.not_true, Bool.not_false, Bool.not_not, reduceIte, reduceCtorEq, and_self, and_true, true_and, decide_true, decide_false, semEq_str, semNe_str, semEq_int, semNe_int, semEq_bl, semNe_bl, atI0, atI1, atI2, atI3, atI4, OkS_nx, post_ok, items_lst, items_tup, semAt_lst, semAt_tup, semAt_str, semAt_dic, Bool.true_and, e3, Rs.map, Rs.bind, OV.d, ofO, D.asB]
    · have hb : atB (.tup xs) = false := by
        unfold atB
        split
        · next a b c heq => cases heq; exact absurd ⟨a, b, c, rfl⟩ h3
        · rfl
      have hl := len_ne3 (xs := xs) fun a b c z => h3 ⟨a, b, c, z⟩
      rw [hb]
      simp only [f_is_atom, m_is_atom, fnB, fnP, Rs.noE, startE, seqS, ifS, thenS, toB, op2, opN, op1, Opd.run, fill, lookV, look, Rs.bind, Rs.map, ofO, cD, vD, D.asB, semGt, semGe, semLt, semLe, setS, putS, DL.putF, shD, frzD, mvD, rtS, chgS, fillW, OV.lst?, OV.d, nxS, runs, looks, semInt, semMod, semFdiv, semAdd, semSub, semMul, semAbs, semLen, semTuple, semList, lstD, tupD, evs, callP, callB, slD, poN, poS, semSl, D.asI, appS, appF, extS, extF, augS, augF, exS, ifD, andT, orT, notT, notD, andD, orD, par2, par3, asgS, gN, gT, gsCons, gsNil, forD, rg1, rg2, itA, zpD, zip2, zipD, lcD, yesT, wipeE, m1D, tabD, semIs, semIsNot, D.isN, toT, orV, andV, notV, D.tru, chD, isiD, D.key, evPs, dicD, semDict, pairD, semRepr, callL, op2O, slO, opNO, lrgO, OV.flt, D.flt, semAddL, semMulL, semListL, mLD, popF, popS, insF, insS, clrS, revO, Rs.noE, List.map_cons, List.map_nil, List.length_cons, List.length_nil, List.length_map, List.replicate, List.cons_append, List.nil_append, List.append_nil, List.getElem?_cons_zero, List.getElem?_cons_succ, List.set_cons_zero, List.set_cons_succ, Option.bind_some, Option.bind_none, Option.map_some, Option.map_none, Nat.zero_add, Nat.add_zero, Nat.reduceAdd, Nat.reduceSub, Nat.sub_self, Nat.reduceLeDiff, Nat.reduceEqDiff, Nat.le_refl, Nat.add_sub_cancel, if_true, if_false, Bool.false_eq_true, Bool.not_true, Bool.not_false, Bool.not_not, reduceIte, reduceCtorEq, and_self, and_true, true_and, decide_true, decide_false, semEq_str, semNe_str, semEq_int, semNe_int, semEq_bl, semNe_bl, atI0, atI1, atI2, atI3, atI4, OkS_nx, post_ok, items_lst, items_tup, semAt_lst, semAt_tup, semAt_str, semAt_dic, isi_tup, hl]
  | scr _ => exact absurd h.rp Bool.false_ne_true
  | obj _ _ => exact absurd h.rp Bool.false_ne_true
  | _ => simp only [f_is_atom, m_is_atom, fnP, startE, seqS, ifS, orT, notT, toB, isiD, Opd.run, fill, lookV, look, Rs.bind, Rs.map, ofO, OV.d, thenS, rtS, shD, cD, D.asB, Rs.noE, List.map_cons, List.map_nil, List.length_cons, List.length_nil, List.length_map, List.replicate, List.cons_append, List.nil_append, List.append_nil, List.getElem?_cons_zero, List.getElem?_cons_succ, List.set_cons_zero, List.set_cons_succ, Option.bind_some, Option.bind_none, Option.map_some, Option.map_none, Nat.zero_add, Nat.add_zero, Nat.reduceAdd, Nat.reduceSub, Nat.sub_self, Nat.reduceLeDiff, Nat.reduceEqDiff, Nat.le_refl, Nat.add_sub_cancel, if_true, if_false, Bool.false_eq_true, Bool.not_true, Bool.not_false, Bool.not_not, reduceIte, reduceCtorEq, and_self, and_true, true_and, decide_true, decide_false, semEq_str, semNe_str, semEq_int, semNe_int, semEq_bl, semNe_bl, atI0, atI1, atI2, atI3, atI4, OkS_nx, post_ok, items_lst, items_tup, semAt_lst, semAt_tup, semAt_str, semAt_dic, isi_tup, atB]
set_option maxHeartbeats 4000000 in
theorem isFact_eq {n w : Nat} {d : D} (h : Gd n w d) (hw : w ≤ 1000000) : f_is_fact [d] = some (.sh (.bl (ftB d))) := by
  cases d with
  | tup xs =>
    by_cases hl : 1 ≤ xs.length ∧ xs.length ≤ 2
    · have e : lc_is_fact_1 [some (.sh (.tup xs)), none] = .ok (.ow (xs.map fun x => .bl (atB x))) [some (.sh (.tup xs)), none] := by
        have := lcD_mp1 (it := it_is_fact_1) (vs := [1]) (h := gN 1) (elt := el_is_fact_1) (r := [some (.sh (.tup xs)), none]) [some (.sh (.tup xs)), none] xs id (fun x => .bl (atB x)) (by rw [List.map_id]; rfl) (by omega) rfl rfl (fun x hx => ⟨_, rfl, rfl, by
          have := isAtom_eq (h.tupm hx) hw
          simp only [el_is_fact_1, gN, id, fnB, fnP, Rs.noE, startE, seqS, ifS, thenS, toB, op2, opN, op1, Opd.run, fill, lookV, look, Rs.bind, Rs.map, ofO, cD, vD, D.asB, semGt, semGe, semLt, semLe, setS, putS, DL.putF, shD, frzD, mvD, rtS, chgS, fillW, OV.lst?, OV.d, nxS, runs, looks, semInt, semMod, semFdiv, semAdd, semSub, semMul, semAbs, semLen, semTuple, semList, lstD, tupD, evs, callP, callB, slD, poN, poS, semSl, D.asI, appS, appF, extS, extF, augS, augF, exS, ifD, andT, orT, notT, notD, andD, orD, par2, par3, asgS, gN, gT, gsCons, gsNil, forD, rg1, rg2, itA, zpD, zip2, zipD, lcD, yesT, wipeE, m1D, tabD, semIs, semIsNot, D.isN, toT, orV, andV, notV, D.tru, chD, isiD, D.key, evPs, dicD, semDict, pairD, semRepr, callL, op2O, slO, opNO, lrgO, OV.flt, D.flt, semAddL, semMulL, semListL, mLD, popF, popS, insF, insS, clrS, revO, Rs.noE, List.map_cons, List.map_nil, List.length_cons, List.length_nil, List.length_map, List.replicate, List.cons_append, List.nil_append, List.append_nil, List.getElem?_cons_zero, List.getElem?_cons_succ, List.set_cons_zero, List.set_cons_succ, Option.bind_some, Option.bind_none, Option.map_some, Option.map_none, Nat.zero_add, Nat.add_zero, Nat.reduceAdd, Nat.reduceSub, Nat.sub_self, Nat.reduceLeDiff, Nat.reduceEqDiff, Nat.le_refl, Nat.add_sub_cancel, if_true, if_false, Bool.false_eq_true, Bool.not_true, Bool.not_false, Bool.not_not, reduceIte, reduceCtorEq, and_self, and_true, true_and, decide_true, decide_false, semEq_str, semNe_str, semEq_int, semNe_int, semEq_bl, semNe_bl, atI0, atI1, atI2, atI3, atI4, OkS_nx, post_ok, items_lst, items_tup, semAt_lst, semAt_tup, semAt_str, semAt_dic, this]⟩)
        exact this
      have h1 : (1 : Int) ≤ (xs.length : Int) := by omega
      have h2 : (xs.length : Int) ≤ 2 := by omega
      have hb : bools (xs.map fun x => D.bl (atB x)) = some (xs.map atB) := bools_map _ _
      have hfin : (xs.map atB).all id = ftB (.tup xs) := by
        match xs, hl with
        | [a], _ => simp [ftB]
        | [a, b], _ => simp [ftB]
      simp only [f_is_fact, m_is_fact, fnB, fnP, Rs.noE, startE, seqS, ifS, thenS, toB, op2, opN, op1, Opd.run, fill, lookV, look, Rs.bind, Rs.map, ofO, cD, vD, D.asB, semGt, semGe, semLt, semLe, setS, putS, DL.putF, shD, frzD, mvD, rtS, chgS, fillW, OV.lst?, OV.d, nxS, runs, looks, semInt, semMod, semFdiv, semAdd, semSub, semMul, semAbs, semLen, semTuple, semList, lstD, tupD, evs, callP, callB, slD, poN, poS, semSl, D.asI, appS, appF, extS, extF, augS, augF, exS, ifD, andT, orT, notT, notD, andD, orD, par2, par3, asgS, gN, gT, gsCons, gsNil, forD, rg1, rg2, itA, zpD, zip2, zipD, lcD, yesT, wipeE, m1D, tabD, semIs, semIsNot, D.isN, toT, orV, andV, notV, D.tru, chD, isiD, D.key, evPs, dicD, semDict, pairD, semRepr, callL, op2O, slO, opNO, lrgO, OV.flt, D.flt, semAddL, semMulL, semListL, mLD, popF, popS, insF, insS, clrS, revO, Rs.noE, List.map_cons, List.map_nil, List.length_cons, List.length_nil, List.length_map, List.replicate, List.cons_append, List.nil_append, List.append_nil, List.getElem?_cons_zero, List.getElem?_cons_succ, List.set_cons_zero, List.set_cons_succ, Option.bind_some, Option.bind_none, Option.map_some, Option.map_none, Nat.zero_add, Nat.add_zero, Nat.reduceAdd, Nat.reduceSub, Nat.sub_self, Nat.reduceLeDiff, Nat.reduceEqDiff, Nat.le_refl, Nat.add_sub_cancel, if_true, if_false, Bool.false_eq_true, Bool.not_true, Bool.not_false, Bool.not_not, reduceIte, reduceCtorEq, and_self, and_true, true_and, decide_true, decide_false, semEq_str, semNe_str, semEq_int, semNe_int, semEq_bl, semNe_bl, atI0, atI1, atI2, atI3, atI4, OkS_nx, post_ok, items_lst, items_tup, semAt_lst, semAt_tup, semAt_str, semAt_dic, isi_tup, h1, h2, e, semAll, hb, hfin]
    · have hb : ftB (.tup xs) = false := by
        unfold ftB
        split
        · next a heq => cases heq; exact absurd ⟨by simp, by simp⟩ hl
        · next a b heq => cases heq; exact absurd ⟨by simp, by simp⟩ hl
        · rfl
      rw [hb]
      by_cases h1 : (1 : Int) ≤ (xs.length : Int)
      · have h2 : ¬ (xs.length : Int) ≤ 2 := fun z => hl ⟨by omega, by omega⟩
        simp only [f_is_fact, m_is_fact, fnB, fnP, Rs.noE, startE, seqS, ifS, thenS, toB, op2, opN, op1, Opd.run, fill, lookV, look, Rs.bind, Rs.map, ofO, cD, vD, D.asB, semGt, semGe, semLt, semLe, setS, putS, DL.putF, shD, frzD, mvD, rtS, chgS, fillW, OV.lst?, OV.d, nxS, runs, looks, semInt, semMod, semFdiv, semAdd, semSub, semMul, semAbs, semLen, semTuple, semList, lstD, tupD, evs, callP, callB, slD, poN, poS, semSl, D.asI, appS, appF, extS, extF, augS, augF, exS, ifD, andT, orT, notT, notD, andD, orD, par2, par3, asgS, gN, gT, gsCons, gsNil, forD, rg1, rg2, itA, zpD, zip2, zipD, lcD, yesT, wipeE, m1D, tabD, semIs, semIsNot, D.isN, toT, orV, andV, notV, D.tru, chD, isiD, D.key, evPs, dicD, semDict, pairD, semRepr, callL, op2O, slO, opNO, lrgO, OV.flt, D.flt, semAddL, semMulL, semListL, mLD, popF, popS, insF, insS, clrS, revO, Rs.noE, List.map_cons, List.map_nil, List.length_cons, List.length_nil, List.length_map, List.replicate, List.cons_append, List.nil_append, List.append_nil, List.getElem?_cons_zero, List.getElem?_cons_succ, List.set_cons_zero, List.set_cons_succ, Option.bind_some, Option.bind_none, Option.map_some, Option.map_none, Nat.zero_add, Nat.add_zero, Nat.reduceAdd, Nat.reduceSub, Nat.sub_self, Nat.reduceLeDiff, Nat.reduceEqDiff, Nat.le_refl, Nat.add_sub_cancel, if_true, if_false, Bool.false_eq_true, Bool.not_true, Bool.not_false, Bool.not_not, reduceIte, reduceCtorEq, and_self, and_true, true_and, decide_true, decide_false, semEq_str, semNe_str, semEq_int, semNe_int, semEq_bl, semNe_bl, atI0, atI1, atI2, atI3, atI4, OkS_nx, post_ok, items_lst, items_tup, semAt_lst, semAt_tup, semAt_str, semAt_dic, isi_tup, h1, h2]
      · simp only [f_is_fact, m_is_fact, fnB, fnP, Rs.noE, startE, seqS, ifS, thenS, toB, op2, opN, op1, Opd.run, fill, lookV, look, Rs.bind, Rs.map, ofO, cD, vD, D.asB, semGt, semGe, semLt, semLe, setS, putS, DL.putF, shD, frzD, mvD, rtS, chgS, fillW, OV.lst?, OV.d, nxS, runs, looks, semInt, semMod, semFdiv, semAdd, semSub, semMul, semAbs, semLen, semTuple, semList, lstD, tupD, evs, callP, callB, slD, poN, poS, semSl, D.asI, appS, appF, extS, extF, augS, augF, exS, ifD, andT, orT, notT, notD, andD, orD, par2, par3, asgS, gN, gT, gsCons, gsNil, forD, rg1, rg2, itA, zpD, zip2, zipD, lcD, yesT, wipeE, m1D, tabD, semIs, semIsNot, D.isN, toT, orV, andV, notV, D.tru, chD, isiD, D.key, evPs, dicD, semDict, pairD, semRepr, callL, op2O, slO, opNO, lrgO, OV.flt, D.flt, semAddL, semMulL, semListL, mLD, popF, popS, insF, insS, clrS, revO, Rs.noE, List.map_cons, List.map_nil, List.length_cons, List.length_nil, List.length_map, List.replicate, List.cons_append, List.nil_append, List.append_nil, List.getElem?_cons_zero, List.getElem?_cons_succ, List.set_cons_zero, List.set_cons_succ, Option.bind_some, Option.bind_none, Option.map_some, Option.map_none, Nat.zero_add, Nat.add_zero, Nat.reduceAdd, Nat.reduceSub, Nat.sub_self, Nat.reduceLeDiff, Nat.reduceEqDiff, Nat.le_refl, Nat.add_sub_cancel, if_true, if_false, Bool.false_eq_true, Bool.not_true, Bool.not_false, Bool.not_not, reduceIte, reduceCtorEq, and_self, and_true, true_and, decide_true, decide_false, semEq_str, semNe_str, semEq_int, semNe_int, semEq_bl, semNe_bl, atI0, atI1, atI2, atI3, atI4, OkS_nx, post_ok, items_lst, items_tup, semAt_lst, semAt_tup, semAt_str, semAt_dic, isi_tup, h1]
  | scr _ => exact absurd h.rp Bool.false_ne_true
  | obj _ _ => exact absurd h.rp Bool.false_ne_true
  | _ => simp only [f_is_fact, m_is_fact, fnP, startE, andD, isiD, Opd.run, fill, lookV, look, Rs.bind, Rs.map, ofO, OV.d, thenS, rtS, shD, cD, D.asB, Rs.noE, List.map_cons, List.map_nil, List.length_cons, List.length_nil, List.length_map, List.replicate, List.cons_append, List.nil_append, List.append_nil, List.getElem?_cons_zero, List.getElem?_cons_succ, List.set_cons_zero, List.set_cons_succ, Option.bind_some, Option.bind_none, Option.map_some, Option.map_none, Nat.zero_add, Nat.add_zero, Nat.reduceAdd, Nat.reduceSub, Nat.sub_self, Nat.reduceLeDiff, Nat.reduceEqDiff, Nat.le_refl, Nat.add_sub_cancel, if_true, if_false, Bool.false_eq_true, Bool.not_true, Bool.not_false, Bool.not_not, reduceIte, reduceCtorEq, and_self, and_true, true_and, decide_true, decide_false, semEq_str, semNe_str, semEq_int, semNe_int, semEq_bl, semNe_bl, atI0, atI1, atI2, atI3, atI4, OkS_nx, post_ok, items_lst, items_tup, semAt_lst, semAt_tup, semAt_str, semAt_dic, isi_tup, ftB]
set_option maxHeartbeats 4000000 in
theorem isRow_eq {n w : Nat} {d : D} (h : Gd n w d) (hw : w ≤ 1000000) : f_is_row [d] = some (.sh (.bl (rwB d))) := by
  cases d with
  | tup xs =>
    by_cases h2 : ∃ a b, xs = [a, b]
    · obtain ⟨a, b, rfl⟩ := h2
      have e1 := isName_eq (h.tupm (d := a) (by simp)) hw
      have e2 := isFact_eq (h.tupm (d := b) (by simp)) hw
      have hl : ((2 : Nat) : Int) = 2 := rfl
      show _ = some (OV.sh (D.bl (nmB a && ftB b)))
      simp only [f_is_row, m_is_row, fnB, fnP, Rs.noE, startE, seqS, ifS, thenS, toB, op2, opN, op1, Opd.run, fill, lookV, look, Rs.bind, Rs.map, ofO, cD, vD, D.asB, semGt, semGe, semLt, semLe, setS, putS, DL.putF, shD, frzD, mvD, rtS, chgS, fillW, OV.lst?, OV.d, nxS, runs, looks, semInt, semMod, semFdiv, semAdd, semSub, semMul, semAbs, semLen, semTuple, semList, lstD, tupD, evs, callP, callB, slD, poN, poS, semSl, D.asI, appS, appF, extS, extF, augS, augF, exS, ifD, andT, orT, notT, notD, andD, orD, par2, par3, asgS, gN, gT, gsCons, gsNil, forD, rg1, rg2, itA, zpD, zip2, zipD, lcD, yesT, wipeE, m1D, tabD, semIs, semIsNot, D.isN, toT, orV, andV, notV, D.tru, chD, isiD, D.key, evPs, dicD, semDict, pairD, semRepr, callL, op2O, slO, opNO, lrgO, OV.flt, D.flt, semAddL, semMulL, semListL, mLD, popF, popS, insF, insS, clrS, revO, Rs.noE, List.map_cons, List.map_nil, List.length_cons, List.length_nil, List.length_map, List.replicate, List.cons_append, List.nil_append, List.append_nil, List.getElem?_cons_zero, List.getElem?_cons_succ, List.set_cons_zero, List.set_cons_succ, Option.bind_some, Option.bind_none, Option.map_some, Option.map_none, Nat.zero_add, Nat.add_zero, Nat.reduceAdd, Nat.reduceSub, Nat.sub_self, Nat.reduceLeDiff, Nat.reduceEqDiff, Nat.le_refl, Nat.add_sub_cancel, if_true, if_false, Bool.false_eq_true, Bool.not_true, Bool.not_false, Bool.not_not, reduceIte, reduceCtorEq, and_self, and_true, true_and, decide_true, decide_false, semEq_str, semNe_str, semEq_int, semNe_int, semEq_bl, semNe_bl, atI0, atI1, atI2, atI3, atI4, OkS_nx, post_ok, items_lst, items_tup, semAt_lst, semAt_tup, semAt_str, semAt_dic, isi_tup, hl, e1]
      cases nmB a with
      | false => simp only [Rs.noE, List.map_cons, List.map_nil, List.length_cons, List.length_nil, List.length_map, List.replicate, List.cons_append, List.nil_append, List.append_nil, List.getElem?_cons_zero, List.getElem?_cons_succ, List.set_cons_zero, List.set_cons_succ, Option.bind_some, Option.bind_none, Option.map_some, Option.map_none, Nat.zero_add, Nat.add_zero, Nat.reduceAdd, Nat.reduceSub, Nat.sub_self, Nat.reduceLeDiff, Nat.reduceEqDiff, Nat.le_refl, Nat.add_sub_cancel, if_true, if_false, Bool.false_eq_true, Bool.not_true, Bool.not_false, Bool.not_not, reduceIte, reduceCtorEq, and_self, and_true, true_and, decide_true, decide_false, semEq_str, semNe_str, semEq_int, semNe_int, semEq_bl, semNe_bl, atI0, atI1, atI2, atI3, atI4, OkS_nx, post_ok, items_lst, items_tup, semAt_lst, semAt_tup, semAt_str, semAt_dic, Bool.false_and]
      | true => simp only [Rs.noE, List.map_cons, List.map_nil, List.length_cons, List.length_nil, List.length_map, List.replicate, List.cons_append, List.nil_append, List.append_nil, List.getElem?_cons_zero, List.getElem?_cons_succ, List.set_cons_zero, List.set_cons_succ, Option.bind_some, Option.bind_none, Option.map_some, Option.map_none, Nat.zero_add, Nat.add_zero, Nat.reduceAdd, Nat.reduceSub, Nat.sub_self, Nat.reduceLeDiff, Nat.reduceEqDiff, Nat.le_refl, Nat.add_sub_cancel, if_true, if_false, Bool.false_eq_true, Bool.not_true, Bool.not_false, Bool.not_not, reduceIte, reduceCtorEq, and_self, and_true, true_and, decide_true, decide_false, semEq_str, semNe_str, semEq_int, semNe_int, semEq_bl, semNe_bl, atI0, atI1, atI2, atI3, atI4, OkS_nx, post_ok, items_lst, items_tup, semAt_lst, semAt_tup, semAt_str, semAt_dic, Bool.true_and, e2, Rs.map, Rs.bind, OV.d, ofO, D.asB]
    · have hb : rwB (.tup xs) = false := by
        unfold rwB
        split
        · next a b heq => cases heq; exact absurd ⟨a, b, rfl⟩ h2
        · rfl
      have hl : ¬ ((xs.length : Nat) : Int) = 2 := fun z => by
        have : xs.length = 2 := by omega
        match xs, this with
        | [a, b], _ => exact h2 ⟨a, b, rfl⟩
      rw [hb]
      simp only [f_is_row, m_is_row, fnB, fnP, Rs.noE, startE, seqS, ifS, thenS, toB, op2, opN, op1, Opd.run, fill, lookV, look, Rs.bind, Rs.map, ofO, cD, vD, D.asB, semGt, semGe, semLt, semLe, setS, putS, DL.putF, shD, frzD, mvD, rtS, chgS, fillW, OV.lst?, OV.d, nxS, runs, looks, semInt, semMod, semFdiv, semAdd, semSub, semMul, semAbs, semLen, semTuple, semList, lstD, tupD, evs, callP, callB, slD, poN, poS, semSl, D.asI, appS, appF, extS, extF, augS, augF, exS, ifD, andT, orT, notT, notD, andD, orD, par2, par3, asgS, gN, gT, gsCons, gsNil, forD, rg1, rg2, itA, zpD, zip2, zipD, lcD, yesT, wipeE, m1D, tabD, semIs, semIsNot, D.isN, toT, orV, andV, notV, D.tru, chD, isiD, D.key, evPs, dicD, semDict, pairD, semRepr, callL, op2O, slO, opNO, lrgO, OV.flt, D.flt, semAddL, semMulL, semListL, mLD, popF, popS, insF, insS, clrS, revO, Rs.noE, List.map_cons, List.map_nil, List.length_cons, List.length_nil, List.length_map, List.replicate, List.cons_append, List.nil_append, List.append_nil, List.getElem?_cons_zero, List.getElem?_cons_succ, List.set_cons_zero, List.set_cons_succ, Option.bind_some, Option.bind_none, Option.map_some, Option.map_none, Nat.zero_add, Nat.add_zero, Nat.reduceAdd, Nat.reduceSub, Nat.sub_self, Nat.reduceLeDiff, Nat.reduceEqDiff, Nat.le_refl, Nat.add_sub_cancel, if_true, if_false, Bool.false_eq_true, Bool.not_true, Bool.not_false, Bool.not_not, reduceIte, reduceCtorEq, and_self, and_true, true_and, decide_true, decide_false, semEq_str, semNe_str, semEq_int, semNe_int, semEq_bl, semNe_bl, atI0, atI1, atI2, atI3, atI4, OkS_nx, post_ok, items_lst, items_tup, semAt_lst, semAt_tup, semAt_str, semAt_dic, isi_tup, hl]
  | scr _ => exact absurd h.rp Bool.false_ne_true
  | obj _ _ => exact absurd h.rp Bool.false_ne_true
  | _ => simp only [f_is_row, m_is_row, fnP, startE, andD, isiD, Opd.run, fill, lookV, look, Rs.bind, Rs.map, ofO, OV.d, thenS, rtS, shD, cD, D.asB, Rs.noE, List.map_cons, List.map_nil, List.length_cons, List.length_nil, List.length_map, List.replicate, List.cons_append, List.nil_append, List.append_nil, List.getElem?_cons_zero, List.getElem?_cons_succ, List.set_cons_zero, List.set_cons_succ, Option.bind_some, Option.bind_none, Option.map_some, Option.map_none, Nat.zero_add, Nat.add_zero, Nat.reduceAdd, Nat.reduceSub, Nat.sub_self, Nat.reduceLeDiff, Nat.reduceEqDiff, Nat.le_refl, Nat.add_sub_cancel, if_true, if_false, Bool.false_eq_true, Bool.not_true, Bool.not_false, Bool.not_not, reduceIte, reduceCtorEq, and_self, and_true, true_and, decide_true, decide_false, semEq_str, semNe_str, semEq_int, semNe_int, semEq_bl, semNe_bl, atI0, atI1, atI2, atI3, atI4, OkS_nx, post_ok, items_lst, items_tup, semAt_lst, semAt_tup, semAt_str, semAt_dic, isi_tup, rwB]
end T

-- needs: is_name is_relation _law_world _law_row _law_fact _law_names
namespace T
open PySem L2 DL
/-! ### what is drawn is right -/
theorem nmB_str {x : Str} (h : NameOk x) : nmB (.str x) = true := by
  show (decide (0 < x.length) && decide (x.length ≤ 8) && x.cps.toList.all fun c => decide (97 ≤ c) && decide (c ≤ 122)) = true
  rw [decide_eq_true h.pos, decide_eq_true h.most, Bool.true_and, Bool.true_and, List.all_eq_true]
  intro c hc
  have := h.low c hc
  rw [decide_eq_true this.1, decide_eq_true this.2]; rfl
theorem relB_str {x : Str} (h : isRel x) : relB (.str x) = true := by
  rcases h with rfl | rfl | rfl <;> decide +kernel
theorem atB_at {a : At} (h : AtOk a) : atB (atD a) = true := by
  obtain ⟨r, x, y⟩ := a
  show (relB (.str r) && (nmB (.str x) && nmB (.str y))) = true
  rw [relB_str h.rel, nmB_str h.l, nmB_str h.r]; rfl
theorem ftB_ft {f : List At} (h : FtOk f) : ftB (ftD f) = true := by
  have hl := h.len
  match f, h, hl with
  | [a], h, _ => exact atB_at (h.all a (by simp))
  | [a, b], h, _ =>
    show (atB (atD a) && atB (atD b)) = true
    rw [atB_at (h.all a (by simp)), atB_at (h.all b (by simp))]; rfl
theorem rwB_row {r : Row} (h : RowOk r) : rwB (rwD r) = true := by
  show (nmB (.str r.1) && ftB (ftD r.2)) = true
  rw [nmB_str h.nm, ftB_ft h.ft]; rfl
end T

-- needs: is_name is_relation _law_world _law_row _law_fact _law_names
namespace T
open PySem L2 DL
/-! ### what is right is of that form -/
end T

-- needs: _law_names
namespace T
open PySem L2 DL
/-! ### atoms and patterns in their order -/
end T

-- needs: are_rows is_row is_fact is_atom is_name is_relation _law_names
namespace T
open PySem L2 DL
/-! ### lists and tuples of rows -/
def itmD : D → List D
  | .lst xs => xs
  | .tup xs => xs
  | _ => []
def seqB : D → Bool
  | .lst _ => true
  | .tup _ => true
  | _ => false
def arB (d : D) : Bool := seqB d && (itmD d).all rwB
theorem isi_seq (d : D) (h : d.rp = true) : d.isi ["list", "tuple"] = seqB d := by
  cases d with
  | scr _ => exact absurd h Bool.false_ne_true
  | obj _ _ => exact absurd h Bool.false_ne_true
  | _ => rfl
theorem gd_itm {n w : Nat} {d : D} (h : Gd n w d) : ∀ x ∈ itmD d, Gd n w x := by
  cases d with
  | lst xs => exact fun x hx => h.lstm hx
  | tup xs => exact fun x hx => h.tupm hx
  | _ => exact fun x hx => by cases hx
theorem itm_items {d : D} (h : seqB d = true) : d.items = some (itmD d) := by
  cases d with
  | lst xs => rfl
  | tup xs => rfl
  | _ => cases h
theorem isiD_gd {d : D} (h : d.rp = true) (T : List String) (r : En) (i : Nat) (e : lookV r i = some (.sh d)) (hf : fill r i = .ok () r) : isiD (.va i) T r = .ok (.bl (d.isi T)) r := by
  unfold isiD
  simp only [Opd.run, hf, Rs.bind, look, e, Option.map_some, OV.d, Option.bind_some]
  cases d with
  | scr _ => exact absurd h Bool.false_ne_true
  | obj _ _ => exact absurd h Bool.false_ne_true
  | _ => rfl
set_option maxHeartbeats 2000000 in
theorem areRows_eq {n w : Nat} {d : D} (h : Gd n w d) (hw : w ≤ 1000000) (hl : (itmD d).length ≤ 100000) : f_are_rows [d] = some (.sh (.bl (arB d))) := by
  have e1 : isiD (.va 0) ["list", "tuple"] [some (.sh d), none] = .ok (.bl (seqB d)) [some (.sh d), none] := by
    rw [isiD_gd h.rp _ _ _ rfl rfl, isi_seq _ h.rp]
  have h0 : startE 2 ([d].map OV.sh) = [some (.sh d), none] := rfl
  unfold f_are_rows fnP m_are_rows
  rw [h0]
  cases hs : seqB d with
  | false =>
    rw [hs] at e1
    have : andD (isiD (.va 0) ["list", "tuple"]) (opN [(.ex (frzD lc_are_rows_1))] semAll) [some (.sh d), none] = .ok (.bl false) [some (.sh d), none] := by
      unfold andD
      rw [e1]
      rfl
    rw [rtS_d this]
    unfold arB
    rw [hs]
    rfl
  | true =>
    rw [hs] at e1
    have e2 : lc_are_rows_1 [some (.sh d), none] = .ok (.ow ((itmD d).map fun x => .bl (rwB x))) [some (.sh d), none] := by
      have := lcD_mp1 (it := it_are_rows_1) (vs := [1]) (h := gN 1) (elt := el_are_rows_1) (r := [some (.sh d), none]) (r1 := [some (.sh d), none]) [some (.sh d), none] (itmD d) id (fun x => .bl (rwB x)) (by
        rw [List.map_id]
        show (Rs.ok d [some (.sh d), none]).bind (fun d r1 => ofO d.items r1) = _
        simp only [Rs.bind, itm_items hs, ofO]) (by omega) rfl rfl (fun x hx => ⟨[some (.sh d), some (.sh x)], rfl, rfl, by
          have e := isRow_eq (gd_itm h x hx) hw
          simp only [el_are_rows_1, frzD, callP, evs, vD, Rs.bind, Rs.map, ofO, OV.d, id, Rs.noE, List.map_cons, List.map_nil, List.length_cons, List.length_nil, List.length_map, List.replicate, List.cons_append, List.nil_append, List.append_nil, List.getElem?_cons_zero, List.getElem?_cons_succ, List.set_cons_zero, List.set_cons_succ, Option.bind_some, Option.bind_none, Option.map_some, Option.map_none, Nat.zero_add, Nat.add_zero, Nat.reduceAdd, Nat.reduceSub, Nat.sub_self, Nat.reduceLeDiff, Nat.reduceEqDiff, Nat.le_refl, Nat.add_sub_cancel, if_true, if_false, Bool.false_eq_true, Bool.not_true, Bool.not_false, Bool.not_not, reduceIte, reduceCtorEq, and_self, and_true, true_and, decide_true, decide_false, semEq_str, semNe_str, semEq_int, semNe_int, semEq_bl, semNe_bl, atI0, atI1, atI2, atI3, atI4, OkS_nx, post_ok, items_lst, items_tup, semAt_lst, semAt_tup, semAt_str, semAt_dic, e]
          first | rfl | exact ⟨rfl, rfl⟩⟩)
      exact this
    have hb : bools ((itmD d).map fun x => D.bl (rwB x)) = some ((itmD d).map rwB) := bools_map _ _
    have e3 : opN [(.ex (frzD lc_are_rows_1))] semAll [some (.sh d), none] = .ok (.bl ((itmD d).all rwB)) [some (.sh d), none] := by
      refine opN1_of (ex_run (frz_o e2)) rfl ?_
      show (bools ((itmD d).map fun x => D.bl (rwB x))).map (fun bs => D.bl (bs.all id)) = _
      rw [hb, Option.map_some, List.all_map]
      rfl
    have : andD (isiD (.va 0) ["list", "tuple"]) (opN [(.ex (frzD lc_are_rows_1))] semAll) [some (.sh d), none] = .ok (.bl ((itmD d).all rwB)) [some (.sh d), none] := by
      unfold andD
      rw [e1]
      simp only [Rs.bind, D.asB, ofO, if_true]
      exact e3
    rw [rtS_d this]
    unfold arB
    rw [hs]
    rfl
end T

-- needs: Start are_rows is_row is_fact is_atom is_name is_relation _law_names
namespace T
open PySem L2 DL
/-! ### Start(goal, book, aim) -/
abbrev wrongX (i : Int) : Exn := ⟨"Wrong", [("place", .int i)]⟩
def startF (gs bs : List D) (a : D) : List (Str × D) := [("its_rows", .dic [(Sum.inr "goal", .lst gs), (Sum.inr "book", .lst bs)]), ("its_aim", a)]
def startD (gs bs : List D) (a : D) : D := .obj "Start" (startF gs bs a)
def initR (g b a : D) : FI := if arB g = false then .ex (wrongX 0) else if arB b = false then .ex (wrongX 1) else if atB a = false then .ex (wrongX 2) else .ok (startF (itmD g) (itmD b) a)
theorem semList_seq {d : D} (h : seqB d = true) : semList [d] = some (.lst (itmD d)) := by
  cases d with
  | lst xs => rfl
  | tup xs => rfl
  | _ => cases h
set_option maxHeartbeats 2000000 in
theorem startInit_eq {n w : Nat} {g b a : D} (hg : Gd n w g) (hb : Gd n w b) (ha : Gd n w a) (hw : w ≤ 1000000) (lg : (itmD g).length ≤ 100000) (lb : (itmD b).length ≤ 100000) : f_Start____init__ [g, b, a] = initR g b a := by
  have h0 : startE 4 (.oi "Start" [] :: [g, b, a].map OV.sh) = [some (.oi "Start" []), some (.sh g), some (.sh b), some (.sh a)] := rfl
  have t1 : notT (toB (frzD (callP 1 f_are_rows [(vD 1)]))) [some (.oi "Start" []), some (.sh g), some (.sh b), some (.sh a)] = .ok (!arB g) [some (.oi "Start" []), some (.sh g), some (.sh b), some (.sh a)] := notT_of (toB_of (frz_o (callP_of (evs_cons rfl evs_nil) rfl (areRows_eq hg hw lg))))
  have t2 : notT (toB (frzD (callP 1 f_are_rows [(vD 2)]))) [some (.oi "Start" []), some (.sh g), some (.sh b), some (.sh a)] = .ok (!arB b) [some (.oi "Start" []), some (.sh g), some (.sh b), some (.sh a)] := notT_of (toB_of (frz_o (callP_of (evs_cons rfl evs_nil) rfl (areRows_eq hb hw lb))))
  have t3 : notT (toB (frzD (callP 1 f_is_atom [(vD 3)]))) [some (.oi "Start" []), some (.sh g), some (.sh b), some (.sh a)] = .ok (!atB a) [some (.oi "Start" []), some (.sh g), some (.sh b), some (.sh a)] := notT_of (toB_of (frz_o (callP_of (evs_cons rfl evs_nil) rfl (isAtom_eq ha hw))))
  unfold f_Start____init__ fnI m_Start____init__ initR
  rw [h0]
  cases e1 : arB g with
  | false =>
    rw [e1] at t1
    rw [seqS_ex (x := wrongX 0) (by rw [ifS_yes t1]; rfl)]
    rfl
  | true =>
    rw [e1] at t1
    rw [seqIf_no t1]
    cases e2 : arB b with
    | false =>
      rw [e2] at t2
      rw [seqS_ex (x := wrongX 1) (by rw [ifS_yes t2]; rfl)]
      rfl
    | true =>
      rw [e2] at t2
      rw [seqIf_no t2]
      cases e3 : atB a with
      | false =>
        rw [e3] at t3
        rw [seqS_ex (x := wrongX 2) (by rw [ifS_yes t3]; rfl)]
        rfl
      | true =>
        rw [e3] at t3
        rw [seqIf_no t3]
        have s1 : seqB g = true := by unfold arB at e1; exact (Bool.and_eq_true_iff.mp e1).1
        have s2 : seqB b = true := by unfold arB at e2; exact (Bool.and_eq_true_iff.mp e2).1
        have d1 : dicD [((cD (.str "goal")), (opN [(.va 1)] semList)), ((cD (.str "book")), (opN [(.va 2)] semList))] [some (.oi "Start" []), some (.sh g), some (.sh b), some (.sh a)] = .ok (.dic [(Sum.inr "goal", .lst (itmD g)), (Sum.inr "book", .lst (itmD b))]) [some (.oi "Start" []), some (.sh g), some (.sh b), some (.sh a)] := by
          have o1 : opN [(.va 1)] semList [some (.oi "Start" []), some (.sh g), some (.sh b), some (.sh a)] = .ok (.lst (itmD g)) [some (.oi "Start" []), some (.sh g), some (.sh b), some (.sh a)] := opN1_of (a := .inr 1) rfl rfl (semList_seq s1)
          have o2 : opN [(.va 2)] semList [some (.oi "Start" []), some (.sh g), some (.sh b), some (.sh a)] = .ok (.lst (itmD b)) [some (.oi "Start" []), some (.sh g), some (.sh b), some (.sh a)] := opN1_of (a := .inr 2) rfl rfl (semList_seq s2)
          simp only [dicD, evPs, cD, o1, o2, Rs.bind, D.key, ofO, Rs.noE, List.map_cons, List.map_nil, List.length_cons, List.length_nil, List.length_map, List.replicate, List.cons_append, List.nil_append, List.append_nil, List.getElem?_cons_zero, List.getElem?_cons_succ, List.set_cons_zero, List.set_cons_succ, Option.bind_some, Option.bind_none, Option.map_some, Option.map_none, Nat.zero_add, Nat.add_zero, Nat.reduceAdd, Nat.reduceSub, Nat.sub_self, Nat.reduceLeDiff, Nat.reduceEqDiff, Nat.le_refl, Nat.add_sub_cancel, if_true, if_false, Bool.false_eq_true, Bool.not_true, Bool.not_false, Bool.not_not, reduceIte, reduceCtorEq, and_self, and_true, true_and, decide_true, decide_false, semEq_str, semNe_str, semEq_int, semNe_int, semEq_bl, semNe_bl, atI0, atI1, atI2, atI3, atI4, OkS_nx, post_ok, items_lst, items_tup, semAt_lst, semAt_tup, semAt_str, semAt_dic]
          rfl
        have d2 : fldS 0 "Start" "its_rows" (dicD [((cD (.str "goal")), (opN [(.va 1)] semList)), ((cD (.str "book")), (opN [(.va 2)] semList))]) [some (.oi "Start" []), some (.sh g), some (.sh b), some (.sh a)] = .nx [some (.oi "Start" [("its_rows", .dic [(Sum.inr "goal", .lst (itmD g)), (Sum.inr "book", .lst (itmD b))])]), some (.sh g), some (.sh b), some (.sh a)] := by
          unfold fldS
          rw [d1]
          rfl
        have d3 : fldS 0 "Start" "its_aim" (vD 3) [some (.oi "Start" [("its_rows", .dic [(Sum.inr "goal", .lst (itmD g)), (Sum.inr "book", .lst (itmD b))])]), some (.sh g), some (.sh b), some (.sh a)] = .nx [some (.oi "Start" (startF (itmD g) (itmD b) a)), some (.sh g), some (.sh b), some (.sh a)] := rfl
        rw [seqS_nx d2, d3]
        rfl
end T

-- needs: nothing
namespace T
open PySem L2 DL
/-! ### k23: rows near others -/
abbrev e23 (b : List D) (A B : Addr) (ad : D) (xs ys : List Str) (mn hm : Int) (oi : D) (LA LB : List D) : En := [some (.ow b), some (.sh (.lst [itD A, itD B])), some (.sh ad), some (.sh (wdD xs ys)), some (.sh (.int mn)), some (.sh (.int hm)), some (.sh oi), none, none, none, some (.ow LA), some (.ow LB)]
def Fin23 (A B : Addr) (ad : D) (LA LB b : List D) (x : SRs) : Prop := ∃ r4, x = .rt (.sh (.tup [.lst [itD A, itD B], ad])) r4 ∧ r4[10]? = some (some (.ow LA)) ∧ r4[11]? = some (some (.ow LB)) ∧ r4[0]? = some (some (.ow b)) ∧ r4.length = 12
theorem emE_mid (pre post : List D) (x : D) : semEq (.lst (pre ++ x :: post)) (.lst []) = some (.bl false) := by rw [semEq_nil]; cases pre <;> rfl
theorem emN_mid (pre post : List D) (x : D) : semNe (.lst (pre ++ x :: post)) (.lst []) = some (.bl true) := by rw [semNe_nil]; cases pre <;> rfl
theorem emE_nil : semEq (.lst []) (.lst []) = some (.bl true) := by rw [semEq_nil]; rfl
theorem emN_nil : semNe (.lst []) (.lst []) = some (.bl false) := by rw [semNe_nil]; rfl
theorem len_int (l : List D) : semLen [.lst l] = some (.int (l.length : Int)) := rfl
theorem at_it0 (x y : D) : semAt (.lst [x, y]) (.int 0) = some x := rfl
theorem at_it1 (x y : D) : semAt (.lst [x, y]) (.int 1) = some y := rfl
set_option maxHeartbeats 4000000 in
theorem nr10_0 {b b1 b2 pre post ft M : List D} {A B : Addr} {ad : D} {xs ys : List Str} {nm : Str} {w : Row} (et : f__law_take b [.int ((pre ++ .tup [.str nm, .tup ft] :: post).length : Int)] = some (.sh (.int (pre.length : Int)), b1)) (hp : pre.length ≤ 500) (hq : post.length ≤ 500) (hM : M.length ≤ 500) (ew : f__law_row b1 [wdD xs ys] = some (.sh (rwD w), b2)) : wS (ra__law_near A B) (e23 b A B ad xs ys 0 0 (itD A) (pre ++ .tup [.str nm, .tup ft] :: post) (M)) (Rt (Fin23 A B ad (pre ++ rwD w :: .tup [.str nm, .tup ft] :: post) (M) b2)) := by
  unfold e23
  (repeat (first | (with_reducible refine w_popP ?_ ?_; · exact ⟨_, rfl⟩) | (with_reducible refine Gi.of (emE_mid _ _ _) ?_) | (with_reducible refine Gi.of (emN_mid _ _ _) ?_) | (with_reducible refine Gi.of emE_nil ?_) | (with_reducible refine Gi.of emN_nil ?_) | (with_reducible refine Gi.of (len_int _) ?_) | (with_reducible refine Gb.of et ?_) | (with_reducible refine Gi.of at_mid ?_) | (with_reducible refine Gi.of (wd_things _ _) ?_) | (with_reducible refine Gi.of (wd_names _ _) ?_) | (with_reducible refine rt_r ?_) | (with_reducible refine Gb.of ew ?_) | (with_reducible refine Gi.of (ins_mid (by simp only [List.length_append, List.length_cons]; omega) (by omega)) ?_) | (with_reducible refine And.intro ?_ ?_; · ((with_reducible show List.length _ ≤ _); walk_at "lenb")) | (with_reducible refine Ch.df (by decide) ?_) | (with_reducible refine Ch.dt (by decide) ?_) | walk_at "go1"))
  exact ⟨_, rfl, rfl, rfl, rfl, rfl⟩
set_option maxHeartbeats 4000000 in
theorem nr10_1 {b b1 b2 pre post ft M : List D} {A B : Addr} {aw : D} {ad : D} {xs ys : List Str} {nm : Str} (et : f__law_take b [.int ((pre ++ .tup [.str nm, .tup ft] :: post).length : Int)] = some (.sh (.int (pre.length : Int)), b1)) (hp : pre.length ≤ 500) (hq : post.length ≤ 500) (hM : M.length ≤ 500) (ew : f__law_atom b1 [.lst (ys.map D.str)] = some (.sh aw, b2)) : wS (ra__law_near A B) (e23 b A B ad xs ys 1 0 (itD A) (pre ++ .tup [.str nm, .tup ft] :: post) (M)) (Rt (Fin23 A B aw (pre ++ .tup [.str nm, .tup ft] :: post) (M) b2)) := by
  unfold e23
  (repeat (first | (with_reducible refine w_popP ?_ ?_; · exact ⟨_, rfl⟩) | (with_reducible refine Gi.of (emE_mid _ _ _) ?_) | (with_reducible refine Gi.of (emN_mid _ _ _) ?_) | (with_reducible refine Gi.of emE_nil ?_) | (with_reducible refine Gi.of emN_nil ?_) | (with_reducible refine Gi.of (len_int _) ?_) | (with_reducible refine Gb.of et ?_) | (with_reducible refine Gi.of at_mid ?_) | (with_reducible refine Gi.of (wd_things _ _) ?_) | (with_reducible refine Gi.of (wd_names _ _) ?_) | (with_reducible refine rt_r ?_) | (with_reducible refine Gb.of ew ?_) | (with_reducible refine And.intro ?_ ?_; · ((with_reducible show List.length _ ≤ _); walk_at "lenb")) | (with_reducible refine Ch.df (by decide) ?_) | (with_reducible refine Ch.dt (by decide) ?_) | walk_at "go1"))
  exact ⟨_, rfl, rfl, rfl, rfl, rfl⟩
set_option maxHeartbeats 4000000 in
theorem nr10_2 {b b1 pre post ft M : List D} {A B : Addr} {ad : D} {xs ys : List Str} {nm : Str} (et : f__law_take b [.int ((pre ++ .tup [.str nm, .tup ft] :: post).length : Int)] = some (.sh (.int (pre.length : Int)), b1)) (hp : pre.length ≤ 500) (hq : post.length ≤ 500) (hM : M.length ≤ 500) : wS (ra__law_near A B) (e23 b A B ad xs ys 2 0 (itD A) (pre ++ .tup [.str nm, .tup ft] :: post) (M)) (Rt (Fin23 A B ad (pre ++ post) (M) b1)) := by
  unfold e23
  (repeat (first | (with_reducible refine w_popP ?_ ?_; · exact ⟨_, rfl⟩) | (with_reducible refine Gi.of (emE_mid _ _ _) ?_) | (with_reducible refine Gi.of (emN_mid _ _ _) ?_) | (with_reducible refine Gi.of emE_nil ?_) | (with_reducible refine Gi.of emN_nil ?_) | (with_reducible refine Gi.of (len_int _) ?_) | (with_reducible refine Gb.of et ?_) | (with_reducible refine Gi.of at_mid ?_) | (with_reducible refine Gi.of (wd_things _ _) ?_) | (with_reducible refine Gi.of (wd_names _ _) ?_) | (with_reducible refine rt_r ?_) | (with_reducible refine Gi.of (pop_mid (by omega)) ?_) | (with_reducible refine And.intro ?_ ?_; · ((with_reducible show List.length _ ≤ _); walk_at "lenb")) | (with_reducible refine Ch.df (by decide) ?_) | (with_reducible refine Ch.dt (by decide) ?_) | walk_at "go1"))
  exact ⟨_, rfl, rfl, rfl, rfl, rfl⟩
set_option maxHeartbeats 4000000 in
theorem nr10_3 {b b1 pre post ft M : List D} {A B : Addr} {ad : D} {xs ys : List Str} {nm : Str} (et : f__law_take b [.int ((pre ++ .tup [.str nm, .tup ft] :: post).length : Int)] = some (.sh (.int (pre.length : Int)), b1)) (hp : pre.length ≤ 500) (hq : post.length ≤ 500) (hM : M.length ≤ 500) : wS (ra__law_near A B) (e23 b A B ad xs ys 3 0 (itD A) (pre ++ .tup [.str nm, .tup ft] :: post) (M)) (Rt (Fin23 A B ad (pre ++ post) (M ++ [.tup [.str nm, .tup ft]]) b1)) := by
  unfold e23
  (repeat (first | (with_reducible refine w_popP ?_ ?_; · exact ⟨_, rfl⟩) | (with_reducible refine s_appIt ?_) | (with_reducible refine and_it ?_) | (with_reducible refine Gi.of (emE_mid _ _ _) ?_) | (with_reducible refine Gi.of (emN_mid _ _ _) ?_) | (with_reducible refine Gi.of emE_nil ?_) | (with_reducible refine Gi.of emN_nil ?_) | (with_reducible refine Gi.of (len_int _) ?_) | (with_reducible refine Gb.of et ?_) | (with_reducible refine Gi.of at_mid ?_) | (with_reducible refine Gi.of (wd_things _ _) ?_) | (with_reducible refine Gi.of (wd_names _ _) ?_) | (with_reducible refine rt_r ?_) | (with_reducible refine gp_of (popP_mid (by omega)) ?_) | (with_reducible refine Gi.of (at_it1 _ _) ?_) | (with_reducible refine And.intro ?_ ?_; · ((with_reducible show List.length _ ≤ _); walk_at "lenb")) | (with_reducible refine Ch.df (by decide) ?_) | (with_reducible refine Ch.dt (by decide) ?_) | walk_at "go1"))
  exact ⟨_, rfl, rfl, rfl, rfl, rfl⟩
set_option maxHeartbeats 4000000 in
theorem nr10_4 {b b1 b2 pre post ft M : List D} {A B : Addr} {aw : D} {ad : D} {xs ys : List Str} {nm : Str} (et : f__law_take b [.int ((pre ++ .tup [.str nm, .tup ft] :: post).length : Int)] = some (.sh (.int (pre.length : Int)), b1)) (hp : pre.length ≤ 500) (hq : post.length ≤ 500) (hM : M.length ≤ 500) (ew : f__law_some b1 [.lst (xs.map D.str)] = some (.sh aw, b2)) : wS (ra__law_near A B) (e23 b A B ad xs ys 4 0 (itD A) (pre ++ .tup [.str nm, .tup ft] :: post) (M)) (Rt (Fin23 A B ad (pre ++ .tup [aw, .tup ft] :: post) (M) b2)) := by
  unfold e23
  (repeat (first | (with_reducible refine w_popP ?_ ?_; · exact ⟨_, rfl⟩) | (with_reducible refine Gi.of (emE_mid _ _ _) ?_) | (with_reducible refine Gi.of (emN_mid _ _ _) ?_) | (with_reducible refine Gi.of emE_nil ?_) | (with_reducible refine Gi.of emN_nil ?_) | (with_reducible refine Gi.of (len_int _) ?_) | (with_reducible refine Gb.of et ?_) | (with_reducible refine Gi.of at_mid ?_) | (with_reducible refine Gi.of (wd_things _ _) ?_) | (with_reducible refine Gi.of (wd_names _ _) ?_) | (with_reducible refine rt_r ?_) | (with_reducible refine Gb.of ew ?_) | (with_reducible refine Gi.of put_mid ?_) | (with_reducible refine And.intro ?_ ?_; · ((with_reducible show List.length _ ≤ _); walk_at "lenb")) | (with_reducible refine Ch.df (by decide) ?_) | (with_reducible refine Ch.dt (by decide) ?_) | walk_at "go1"))
  exact ⟨_, rfl, rfl, rfl, rfl, rfl⟩
set_option maxHeartbeats 4000000 in
theorem nr10_5 {b b1 pre post ft M : List D} {A B : Addr} {ad : D} {xs ys : List Str} {nm : Str} (et : f__law_take b [.int ((pre ++ .tup [.str nm, .tup ft] :: post).length : Int)] = some (.sh (.int (pre.length : Int)), b1)) (hp : pre.length ≤ 500) (hq : post.length ≤ 500) (hM : M.length ≤ 500) : wS (ra__law_near A B) (e23 b A B ad xs ys 5 0 (itD A) (pre ++ .tup [.str nm, .tup ft] :: post) (M)) (Rt (Fin23 A B ad (pre ++ .tup [.str nm, .tup ft.reverse] :: post) (M) b1)) := by
  unfold e23
  (repeat (first | (with_reducible refine w_popP ?_ ?_; · exact ⟨_, rfl⟩) | (with_reducible refine Gi.of (emE_mid _ _ _) ?_) | (with_reducible refine Gi.of (emN_mid _ _ _) ?_) | (with_reducible refine Gi.of emE_nil ?_) | (with_reducible refine Gi.of emN_nil ?_) | (with_reducible refine Gi.of (len_int _) ?_) | (with_reducible refine Gb.of et ?_) | (with_reducible refine Gi.of at_mid ?_) | (with_reducible refine Gi.of (wd_things _ _) ?_) | (with_reducible refine Gi.of (wd_names _ _) ?_) | (with_reducible refine rt_r ?_) | (with_reducible refine Gi.of put_mid ?_) | (with_reducible refine And.intro ?_ ?_; · ((with_reducible show List.length _ ≤ _); walk_at "lenb")) | (refine of_sh ?_) | (with_reducible refine Ch.df (by decide) ?_) | (with_reducible refine Ch.dt (by decide) ?_) | walk_at "go1"))
  exact ⟨_, rfl, rfl, rfl, rfl, rfl⟩
set_option maxHeartbeats 4000000 in
theorem nr10_6 {b b1 b2 pre post ft fc M : List D} {A B : Addr} {aw : D} {ad : D} {xs ys : List Str} {nm : Str} (et : f__law_take b [.int ((pre ++ .tup [.str nm, .tup ft] :: post).length : Int)] = some (.sh (.int (pre.length : Int)), b1)) (hp : pre.length ≤ 500) (hq : post.length ≤ 500) (hM : M.length ≤ 500) (ew : f__law_atom b1 [.lst (ys.map D.str)] = some (.sh aw, b2)) (ec : semSl (.tup ft) (some 1) none = some (.tup fc)) (hc : fc.length ≤ 10) : wS (ra__law_near A B) (e23 b A B ad xs ys 6 0 (itD A) (pre ++ .tup [.str nm, .tup ft] :: post) (M)) (Rt (Fin23 A B ad (pre ++ .tup [.str nm, .tup ([aw] ++ fc)] :: post) (M) b2)) := by
  unfold e23
  (repeat (first | (with_reducible refine w_popP ?_ ?_; · exact ⟨_, rfl⟩) | (with_reducible refine Gi.of (emE_mid _ _ _) ?_) | (with_reducible refine Gi.of (emN_mid _ _ _) ?_) | (with_reducible refine Gi.of emE_nil ?_) | (with_reducible refine Gi.of emN_nil ?_) | (with_reducible refine Gi.of (len_int _) ?_) | (with_reducible refine Gb.of et ?_) | (with_reducible refine Gi.of at_mid ?_) | (with_reducible refine Gi.of (wd_things _ _) ?_) | (with_reducible refine Gi.of (wd_names _ _) ?_) | (with_reducible refine rt_r ?_) | (with_reducible refine Gb.of ew ?_) | (with_reducible refine Gi.of put_mid ?_) | (with_reducible refine Gi.of ec ?_) | (with_reducible refine And.intro ?_ ?_; · ((with_reducible show List.length _ ≤ _); walk_at "lenb")) | (with_reducible refine Ch.df (by decide) ?_) | (with_reducible refine Ch.dt (by decide) ?_) | walk_at "go1"))
  exact ⟨_, rfl, rfl, rfl, rfl, rfl⟩
set_option maxHeartbeats 4000000 in
theorem nr10_7 {b b1 pre post ft fc M : List D} {A B : Addr} {ad : D} {xs ys : List Str} {nm : Str} (et : f__law_take b [.int ((pre ++ .tup [.str nm, .tup ft] :: post).length : Int)] = some (.sh (.int (pre.length : Int)), b1)) (hp : pre.length ≤ 500) (hq : post.length ≤ 500) (hM : M.length ≤ 500) (ec : semSl (.tup ft) none (some 1) = some (.tup fc)) : wS (ra__law_near A B) (e23 b A B ad xs ys 7 0 (itD A) (pre ++ .tup [.str nm, .tup ft] :: post) (M)) (Rt (Fin23 A B ad (pre ++ .tup [.str nm, .tup fc] :: post) (M) b1)) := by
  unfold e23
  (repeat (first | (with_reducible refine w_popP ?_ ?_; · exact ⟨_, rfl⟩) | (with_reducible refine Gi.of (emE_mid _ _ _) ?_) | (with_reducible refine Gi.of (emN_mid _ _ _) ?_) | (with_reducible refine Gi.of emE_nil ?_) | (with_reducible refine Gi.of emN_nil ?_) | (with_reducible refine Gi.of (len_int _) ?_) | (with_reducible refine Gb.of et ?_) | (with_reducible refine Gi.of at_mid ?_) | (with_reducible refine Gi.of (wd_things _ _) ?_) | (with_reducible refine Gi.of (wd_names _ _) ?_) | (with_reducible refine rt_r ?_) | (with_reducible refine Gi.of put_mid ?_) | (with_reducible refine Gi.of ec ?_) | (with_reducible refine And.intro ?_ ?_; · ((with_reducible show List.length _ ≤ _); walk_at "lenb")) | (with_reducible refine Ch.df (by decide) ?_) | (with_reducible refine Ch.dt (by decide) ?_) | walk_at "go1"))
  exact ⟨_, rfl, rfl, rfl, rfl, rfl⟩
set_option maxHeartbeats 4000000 in
theorem nr10_8 {b b1 pre post ft M : List D} {A B : Addr} {ad : D} {xs ys : List Str} {nm : Str} (et : f__law_take b [.int ((pre ++ .tup [.str nm, .tup ft] :: post).length : Int)] = some (.sh (.int (pre.length : Int)), b1)) (hp : pre.length ≤ 500) (hq : post.length ≤ 500) (hM : M.length ≤ 500) : wS (ra__law_near A B) (e23 b A B ad xs ys 8 0 (itD A) (pre ++ .tup [.str nm, .tup ft] :: post) (M)) (Rt (Fin23 A B ad ((pre ++ post) ++ [.tup [.str nm, .tup ft]]) (M) b1)) := by
  unfold e23
  (repeat (first | (with_reducible refine w_popP ?_ ?_; · exact ⟨_, rfl⟩) | (with_reducible refine Gi.of (emE_mid _ _ _) ?_) | (with_reducible refine Gi.of (emN_mid _ _ _) ?_) | (with_reducible refine Gi.of emE_nil ?_) | (with_reducible refine Gi.of emN_nil ?_) | (with_reducible refine Gi.of (len_int _) ?_) | (with_reducible refine Gb.of et ?_) | (with_reducible refine Gi.of at_mid ?_) | (with_reducible refine Gi.of (wd_things _ _) ?_) | (with_reducible refine Gi.of (wd_names _ _) ?_) | (with_reducible refine rt_r ?_) | (with_reducible refine gp_of (popP_mid (by omega)) ?_) | (with_reducible refine And.intro ?_ ?_; · ((with_reducible show List.length _ ≤ _); walk_at "lenb")) | (with_reducible refine Ch.df (by decide) ?_) | (with_reducible refine Ch.dt (by decide) ?_) | walk_at "go1"))
  exact ⟨_, rfl, rfl, rfl, rfl, rfl⟩
set_option maxHeartbeats 4000000 in
theorem nr10_0e {b b2 M : List D} {A B : Addr} {ad : D} {xs ys : List Str} {w : Row} (ew : f__law_row b [wdD xs ys] = some (.sh (rwD w), b2)) : wS (ra__law_near A B) (e23 b A B ad xs ys 0 0 (itD A) ([]) (M)) (Rt (Fin23 A B ad ([rwD w]) (M) b2)) := by
  unfold e23
  (repeat (first | (with_reducible refine w_popP ?_ ?_; · exact ⟨_, rfl⟩) | (with_reducible refine Gi.of (emE_mid [] [] (rwD w)) ?_) | (with_reducible refine Gi.of (at_mid (pre := []) (post := []) (x := rwD w)) ?_) | (with_reducible refine Gi.of (emN_mid _ _ _) ?_) | (with_reducible refine Gi.of emE_nil ?_) | (with_reducible refine Gi.of emN_nil ?_) | (with_reducible refine Gi.of (len_int _) ?_) | (with_reducible refine Gi.of at_mid ?_) | (with_reducible refine Gi.of (wd_things _ _) ?_) | (with_reducible refine Gi.of (wd_names _ _) ?_) | (with_reducible refine rt_r ?_) | (with_reducible refine Gb.of ew ?_) | (with_reducible refine Gi.of (ins_mid (pre := []) (post := []) (by decide) (by decide)) ?_) | (with_reducible refine And.intro ?_ ?_; · ((with_reducible show List.length _ ≤ _); walk_at "lenb")) | (with_reducible refine Ch.df (by decide) ?_) | (with_reducible refine Ch.dt (by decide) ?_) | walk_at "go1"))
  exact ⟨_, rfl, rfl, rfl, rfl, rfl⟩
set_option maxHeartbeats 4000000 in
theorem nr10_1e {b b2 M : List D} {A B : Addr} {aw : D} {ad : D} {xs ys : List Str} (ew : f__law_atom b [.lst (ys.map D.str)] = some (.sh aw, b2)) : wS (ra__law_near A B) (e23 b A B ad xs ys 1 0 (itD A) ([]) (M)) (Rt (Fin23 A B aw ([]) (M) b2)) := by
  unfold e23
  (repeat (first | (with_reducible refine w_popP ?_ ?_; · exact ⟨_, rfl⟩) | (with_reducible refine Gi.of (emE_mid _ _ _) ?_) | (with_reducible refine Gi.of (emN_mid _ _ _) ?_) | (with_reducible refine Gi.of emE_nil ?_) | (with_reducible refine Gi.of emN_nil ?_) | (with_reducible refine Gi.of (len_int _) ?_) | (with_reducible refine Gi.of at_mid ?_) | (with_reducible refine Gi.of (wd_things _ _) ?_) | (with_reducible refine Gi.of (wd_names _ _) ?_) | (with_reducible refine rt_r ?_) | (with_reducible refine Gb.of ew ?_) | (with_reducible refine And.intro ?_ ?_; · ((with_reducible show List.length _ ≤ _); walk_at "lenb")) | (with_reducible refine Ch.df (by decide) ?_) | (with_reducible refine Ch.dt (by decide) ?_) | walk_at "go1"))
  exact ⟨_, rfl, rfl, rfl, rfl, rfl⟩
set_option maxHeartbeats 4000000 in
theorem nr10_2e {b M : List D} {A B : Addr} {ad : D} {xs ys : List Str} {mn : Int} (h0 : ¬ mn = 0) (h1 : ¬ mn = 1) : wS (ra__law_near A B) (e23 b A B ad xs ys mn 0 (itD A) ([]) (M)) (Rt (Fin23 A B ad ([]) (M) b)) := by
  unfold e23
  (repeat (first | (with_reducible refine w_popP ?_ ?_; · exact ⟨_, rfl⟩) | (with_reducible refine Gi.of (emE_mid _ _ _) ?_) | (with_reducible refine Gi.of (emN_mid _ _ _) ?_) | (with_reducible refine Gi.of emE_nil ?_) | (with_reducible refine Gi.of emN_nil ?_) | (with_reducible refine Gi.of (len_int _) ?_) | (with_reducible refine Gi.of at_mid ?_) | (with_reducible refine Gi.of (wd_things _ _) ?_) | (with_reducible refine Gi.of (wd_names _ _) ?_) | (with_reducible refine rt_r ?_) | (with_reducible refine And.intro ?_ ?_; · ((with_reducible show List.length _ ≤ _); walk_at "lenb")) | (with_reducible refine Ch.df (by decide) ?_) | (with_reducible refine Ch.dt (by decide) ?_) | walk_at "go1"))
  exact ⟨_, rfl, rfl, rfl, rfl, rfl⟩
set_option maxHeartbeats 4000000 in
theorem nr11_0 {b b1 b2 pre post ft M : List D} {A B : Addr} {ad : D} {xs ys : List Str} {nm : Str} {w : Row} (et : f__law_take b [.int ((pre ++ .tup [.str nm, .tup ft] :: post).length : Int)] = some (.sh (.int (pre.length : Int)), b1)) (hp : pre.length ≤ 500) (hq : post.length ≤ 500) (hM : M.length ≤ 500) (ew : f__law_row b1 [wdD xs ys] = some (.sh (rwD w), b2)) : wS (rb__law_near A B) (e23 b A B ad xs ys 0 1 (itD B) (M) (pre ++ .tup [.str nm, .tup ft] :: post)) (Rt (Fin23 A B ad (M) (pre ++ rwD w :: .tup [.str nm, .tup ft] :: post) b2)) := by
  unfold e23
  (repeat (first | (with_reducible refine w_popP ?_ ?_; · exact ⟨_, rfl⟩) | (with_reducible refine Gi.of (emE_mid _ _ _) ?_) | (with_reducible refine Gi.of (emN_mid _ _ _) ?_) | (with_reducible refine Gi.of emE_nil ?_) | (with_reducible refine Gi.of emN_nil ?_) | (with_reducible refine Gi.of (len_int _) ?_) | (with_reducible refine Gb.of et ?_) | (with_reducible refine Gi.of at_mid ?_) | (with_reducible refine Gi.of (wd_things _ _) ?_) | (with_reducible refine Gi.of (wd_names _ _) ?_) | (with_reducible refine rt_r ?_) | (with_reducible refine Gb.of ew ?_) | (with_reducible refine Gi.of (ins_mid (by simp only [List.length_append, List.length_cons]; omega) (by omega)) ?_) | (with_reducible refine And.intro ?_ ?_; · ((with_reducible show List.length _ ≤ _); walk_at "lenb")) | (with_reducible refine Ch.df (by decide) ?_) | (with_reducible refine Ch.dt (by decide) ?_) | walk_at "go1"))
  exact ⟨_, rfl, rfl, rfl, rfl, rfl⟩
set_option maxHeartbeats 4000000 in
theorem nr11_1 {b b1 b2 pre post ft M : List D} {A B : Addr} {aw : D} {ad : D} {xs ys : List Str} {nm : Str} (et : f__law_take b [.int ((pre ++ .tup [.str nm, .tup ft] :: post).length : Int)] = some (.sh (.int (pre.length : Int)), b1)) (hp : pre.length ≤ 500) (hq : post.length ≤ 500) (hM : M.length ≤ 500) (ew : f__law_atom b1 [.lst (ys.map D.str)] = some (.sh aw, b2)) : wS (rb__law_near A B) (e23 b A B ad xs ys 1 1 (itD B) (M) (pre ++ .tup [.str nm, .tup ft] :: post)) (Rt (Fin23 A B aw (M) (pre ++ .tup [.str nm, .tup ft] :: post) b2)) := by
  unfold e23
  (repeat (first | (with_reducible refine w_popP ?_ ?_; · exact ⟨_, rfl⟩) | (with_reducible refine Gi.of (emE_mid _ _ _) ?_) | (with_reducible refine Gi.of (emN_mid _ _ _) ?_) | (with_reducible refine Gi.of emE_nil ?_) | (with_reducible refine Gi.of emN_nil ?_) | (with_reducible refine Gi.of (len_int _) ?_) | (with_reducible refine Gb.of et ?_) | (with_reducible refine Gi.of at_mid ?_) | (with_reducible refine Gi.of (wd_things _ _) ?_) | (with_reducible refine Gi.of (wd_names _ _) ?_) | (with_reducible refine rt_r ?_) | (with_reducible refine Gb.of ew ?_) | (with_reducible refine And.intro ?_ ?_; · ((with_reducible show List.length _ ≤ _); walk_at "lenb")) | (with_reducible refine Ch.df (by decide) ?_) | (with_reducible refine Ch.dt (by decide) ?_) | walk_at "go1"))
  exact ⟨_, rfl, rfl, rfl, rfl, rfl⟩
set_option maxHeartbeats 4000000 in
theorem nr11_2 {b b1 pre post ft M : List D} {A B : Addr} {ad : D} {xs ys : List Str} {nm : Str} (et : f__law_take b [.int ((pre ++ .tup [.str nm, .tup ft] :: post).length : Int)] = some (.sh (.int (pre.length : Int)), b1)) (hp : pre.length ≤ 500) (hq : post.length ≤ 500) (hM : M.length ≤ 500) : wS (rb__law_near A B) (e23 b A B ad xs ys 2 1 (itD B) (M) (pre ++ .tup [.str nm, .tup ft] :: post)) (Rt (Fin23 A B ad (M) (pre ++ post) b1)) := by
  unfold e23
  (repeat (first | (with_reducible refine w_popP ?_ ?_; · exact ⟨_, rfl⟩) | (with_reducible refine Gi.of (emE_mid _ _ _) ?_) | (with_reducible refine Gi.of (emN_mid _ _ _) ?_) | (with_reducible refine Gi.of emE_nil ?_) | (with_reducible refine Gi.of emN_nil ?_) | (with_reducible refine Gi.of (len_int _) ?_) | (with_reducible refine Gb.of et ?_) | (with_reducible refine Gi.of at_mid ?_) | (with_reducible refine Gi.of (wd_things _ _) ?_) | (with_reducible refine Gi.of (wd_names _ _) ?_) | (with_reducible refine rt_r ?_) | (with_reducible refine Gi.of (pop_mid (by omega)) ?_) | (with_reducible refine And.intro ?_ ?_; · ((with_reducible show List.length _ ≤ _); walk_at "lenb")) | (with_reducible refine Ch.df (by decide) ?_) | (with_reducible refine Ch.dt (by decide) ?_) | walk_at "go1"))
  exact ⟨_, rfl, rfl, rfl, rfl, rfl⟩
set_option maxHeartbeats 4000000 in
theorem nr11_3 {b b1 pre post ft M : List D} {A B : Addr} {ad : D} {xs ys : List Str} {nm : Str} (et : f__law_take b [.int ((pre ++ .tup [.str nm, .tup ft] :: post).length : Int)] = some (.sh (.int (pre.length : Int)), b1)) (hp : pre.length ≤ 500) (hq : post.length ≤ 500) (hM : M.length ≤ 500) : wS (rb__law_near A B) (e23 b A B ad xs ys 3 1 (itD B) (M) (pre ++ .tup [.str nm, .tup ft] :: post)) (Rt (Fin23 A B ad (M ++ [.tup [.str nm, .tup ft]]) (pre ++ post) b1)) := by
  unfold e23
  (repeat (first | (with_reducible refine w_popP ?_ ?_; · exact ⟨_, rfl⟩) | (with_reducible refine s_appIt ?_) | (with_reducible refine and_it ?_) | (with_reducible refine Gi.of (emE_mid _ _ _) ?_) | (with_reducible refine Gi.of (emN_mid _ _ _) ?_) | (with_reducible refine Gi.of emE_nil ?_) | (with_reducible refine Gi.of emN_nil ?_) | (with_reducible refine Gi.of (len_int _) ?_) | (with_reducible refine Gb.of et ?_) | (with_reducible refine Gi.of at_mid ?_) | (with_reducible refine Gi.of (wd_things _ _) ?_) | (with_reducible refine Gi.of (wd_names _ _) ?_) | (with_reducible refine rt_r ?_) | (with_reducible refine gp_of (popP_mid (by omega)) ?_) | (with_reducible refine Gi.of (at_it0 _ _) ?_) | (with_reducible refine And.intro ?_ ?_; · ((with_reducible show List.length _ ≤ _); walk_at "lenb")) | (with_reducible refine Ch.df (by decide) ?_) | (with_reducible refine Ch.dt (by decide) ?_) | walk_at "go1"))
  exact ⟨_, rfl, rfl, rfl, rfl, rfl⟩
set_option maxHeartbeats 4000000 in
theorem nr11_4 {b b1 b2 pre post ft M : List D} {A B : Addr} {aw : D} {ad : D} {xs ys : List Str} {nm : Str} (et : f__law_take b [.int ((pre ++ .tup [.str nm, .tup ft] :: post).length : Int)] = some (.sh (.int (pre.length : Int)), b1)) (hp : pre.length ≤ 500) (hq : post.length ≤ 500) (hM : M.length ≤ 500) (ew : f__law_some b1 [.lst (xs.map D.str)] = some (.sh aw, b2)) : wS (rb__law_near A B) (e23 b A B ad xs ys 4 1 (itD B) (M) (pre ++ .tup [.str nm, .tup ft] :: post)) (Rt (Fin23 A B ad (M) (pre ++ .tup [aw, .tup ft] :: post) b2)) := by
  unfold e23
  (repeat (first | (with_reducible refine w_popP ?_ ?_; · exact ⟨_, rfl⟩) | (with_reducible refine Gi.of (emE_mid _ _ _) ?_) | (with_reducible refine Gi.of (emN_mid _ _ _) ?_) | (with_reducible refine Gi.of emE_nil ?_) | (with_reducible refine Gi.of emN_nil ?_) | (with_reducible refine Gi.of (len_int _) ?_) | (with_reducible refine Gb.of et ?_) | (with_reducible refine Gi.of at_mid ?_) | (with_reducible refine Gi.of (wd_things _ _) ?_) | (with_reducible refine Gi.of (wd_names _ _) ?_) | (with_reducible refine rt_r ?_) | (with_reducible refine Gb.of ew ?_) | (with_reducible refine Gi.of put_mid ?_) | (with_reducible refine And.intro ?_ ?_; · ((with_reducible show List.length _ ≤ _); walk_at "lenb")) | (with_reducible refine Ch.df (by decide) ?_) | (with_reducible refine Ch.dt (by decide) ?_) | walk_at "go1"))
  exact ⟨_, rfl, rfl, rfl, rfl, rfl⟩
set_option maxHeartbeats 4000000 in
theorem nr11_5 {b b1 pre post ft M : List D} {A B : Addr} {ad : D} {xs ys : List Str} {nm : Str} (et : f__law_take b [.int ((pre ++ .tup [.str nm, .tup ft] :: post).length : Int)] = some (.sh (.int (pre.length : Int)), b1)) (hp : pre.length ≤ 500) (hq : post.length ≤ 500) (hM : M.length ≤ 500) : wS (rb__law_near A B) (e23 b A B ad xs ys 5 1 (itD B) (M) (pre ++ .tup [.str nm, .tup ft] :: post)) (Rt (Fin23 A B ad (M) (pre ++ .tup [.str nm, .tup ft.reverse] :: post) b1)) := by
  unfold e23
  (repeat (first | (with_reducible refine w_popP ?_ ?_; · exact ⟨_, rfl⟩) | (with_reducible refine Gi.of (emE_mid _ _ _) ?_) | (with_reducible refine Gi.of (emN_mid _ _ _) ?_) | (with_reducible refine Gi.of emE_nil ?_) | (with_reducible refine Gi.of emN_nil ?_) | (with_reducible refine Gi.of (len_int _) ?_) | (with_reducible refine Gb.of et ?_) | (with_reducible refine Gi.of at_mid ?_) | (with_reducible refine Gi.of (wd_things _ _) ?_) | (with_reducible refine Gi.of (wd_names _ _) ?_) | (with_reducible refine rt_r ?_) | (with_reducible refine Gi.of put_mid ?_) | (with_reducible refine And.intro ?_ ?_; · ((with_reducible show List.length _ ≤ _); walk_at "lenb")) | (refine of_sh ?_) | (with_reducible refine Ch.df (by decide) ?_) | (with_reducible refine Ch.dt (by decide) ?_) | walk_at "go1"))
  exact ⟨_, rfl, rfl, rfl, rfl, rfl⟩
set_option maxHeartbeats 4000000 in
theorem nr11_6 {b b1 b2 pre post ft fc M : List D} {A B : Addr} {aw : D} {ad : D} {xs ys : List Str} {nm : Str} (et : f__law_take b [.int ((pre ++ .tup [.str nm, .tup ft] :: post).length : Int)] = some (.sh (.int (pre.length : Int)), b1)) (hp : pre.length ≤ 500) (hq : post.length ≤ 500) (hM : M.length ≤ 500) (ew : f__law_atom b1 [.lst (ys.map D.str)] = some (.sh aw, b2)) (ec : semSl (.tup ft) (some 1) none = some (.tup fc)) (hc : fc.length ≤ 10) : wS (rb__law_near A B) (e23 b A B ad xs ys 6 1 (itD B) (M) (pre ++ .tup [.str nm, .tup ft] :: post)) (Rt (Fin23 A B ad (M) (pre ++ .tup [.str nm, .tup ([aw] ++ fc)] :: post) b2)) := by
  unfold e23
  (repeat (first | (with_reducible refine w_popP ?_ ?_; · exact ⟨_, rfl⟩) | (with_reducible refine Gi.of (emE_mid _ _ _) ?_) | (with_reducible refine Gi.of (emN_mid _ _ _) ?_) | (with_reducible refine Gi.of emE_nil ?_) | (with_reducible refine Gi.of emN_nil ?_) | (with_reducible refine Gi.of (len_int _) ?_) | (with_reducible refine Gb.of et ?_) | (with_reducible refine Gi.of at_mid ?_) | (with_reducible refine Gi.of (wd_things _ _) ?_) | (with_reducible refine Gi.of (wd_names _ _) ?_) | (with_reducible refine rt_r ?_) | (with_reducible refine Gb.of ew ?_) | (with_reducible refine Gi.of put_mid ?_) | (with_reducible refine Gi.of ec ?_) | (with_reducible refine And.intro ?_ ?_; · ((with_reducible show List.length _ ≤ _); walk_at "lenb")) | (with_reducible refine Ch.df (by decide) ?_) | (with_reducible refine Ch.dt (by decide) ?_) | walk_at "go1"))
  exact ⟨_, rfl, rfl, rfl, rfl, rfl⟩
set_option maxHeartbeats 4000000 in
theorem nr11_7 {b b1 pre post ft fc M : List D} {A B : Addr} {ad : D} {xs ys : List Str} {nm : Str} (et : f__law_take b [.int ((pre ++ .tup [.str nm, .tup ft] :: post).length : Int)] = some (.sh (.int (pre.length : Int)), b1)) (hp : pre.length ≤ 500) (hq : post.length ≤ 500) (hM : M.length ≤ 500) (ec : semSl (.tup ft) none (some 1) = some (.tup fc)) : wS (rb__law_near A B) (e23 b A B ad xs ys 7 1 (itD B) (M) (pre ++ .tup [.str nm, .tup ft] :: post)) (Rt (Fin23 A B ad (M) (pre ++ .tup [.str nm, .tup fc] :: post) b1)) := by
  unfold e23
  (repeat (first | (with_reducible refine w_popP ?_ ?_; · exact ⟨_, rfl⟩) | (with_reducible refine Gi.of (emE_mid _ _ _) ?_) | (with_reducible refine Gi.of (emN_mid _ _ _) ?_) | (with_reducible refine Gi.of emE_nil ?_) | (with_reducible refine Gi.of emN_nil ?_) | (with_reducible refine Gi.of (len_int _) ?_) | (with_reducible refine Gb.of et ?_) | (with_reducible refine Gi.of at_mid ?_) | (with_reducible refine Gi.of (wd_things _ _) ?_) | (with_reducible refine Gi.of (wd_names _ _) ?_) | (with_reducible refine rt_r ?_) | (with_reducible refine Gi.of put_mid ?_) | (with_reducible refine Gi.of ec ?_) | (with_reducible refine And.intro ?_ ?_; · ((with_reducible show List.length _ ≤ _); walk_at "lenb")) | (with_reducible refine Ch.df (by decide) ?_) | (with_reducible refine Ch.dt (by decide) ?_) | walk_at "go1"))
  exact ⟨_, rfl, rfl, rfl, rfl, rfl⟩
set_option maxHeartbeats 4000000 in
theorem nr11_8 {b b1 pre post ft M : List D} {A B : Addr} {ad : D} {xs ys : List Str} {nm : Str} (et : f__law_take b [.int ((pre ++ .tup [.str nm, .tup ft] :: post).length : Int)] = some (.sh (.int (pre.length : Int)), b1)) (hp : pre.length ≤ 500) (hq : post.length ≤ 500) (hM : M.length ≤ 500) : wS (rb__law_near A B) (e23 b A B ad xs ys 8 1 (itD B) (M) (pre ++ .tup [.str nm, .tup ft] :: post)) (Rt (Fin23 A B ad (M) ((pre ++ post) ++ [.tup [.str nm, .tup ft]]) b1)) := by
  unfold e23
  (repeat (first | (with_reducible refine w_popP ?_ ?_; · exact ⟨_, rfl⟩) | (with_reducible refine Gi.of (emE_mid _ _ _) ?_) | (with_reducible refine Gi.of (emN_mid _ _ _) ?_) | (with_reducible refine Gi.of emE_nil ?_) | (with_reducible refine Gi.of emN_nil ?_) | (with_reducible refine Gi.of (len_int _) ?_) | (with_reducible refine Gb.of et ?_) | (with_reducible refine Gi.of at_mid ?_) | (with_reducible refine Gi.of (wd_things _ _) ?_) | (with_reducible refine Gi.of (wd_names _ _) ?_) | (with_reducible refine rt_r ?_) | (with_reducible refine gp_of (popP_mid (by omega)) ?_) | (with_reducible refine And.intro ?_ ?_; · ((with_reducible show List.length _ ≤ _); walk_at "lenb")) | (with_reducible refine Ch.df (by decide) ?_) | (with_reducible refine Ch.dt (by decide) ?_) | walk_at "go1"))
  exact ⟨_, rfl, rfl, rfl, rfl, rfl⟩
set_option maxHeartbeats 4000000 in
theorem nr11_0e {b b2 M : List D} {A B : Addr} {ad : D} {xs ys : List Str} {w : Row} (ew : f__law_row b [wdD xs ys] = some (.sh (rwD w), b2)) : wS (rb__law_near A B) (e23 b A B ad xs ys 0 1 (itD B) (M) ([])) (Rt (Fin23 A B ad (M) ([rwD w]) b2)) := by
  unfold e23
  (repeat (first | (with_reducible refine w_popP ?_ ?_; · exact ⟨_, rfl⟩) | (with_reducible refine Gi.of (emE_mid [] [] (rwD w)) ?_) | (with_reducible refine Gi.of (at_mid (pre := []) (post := []) (x := rwD w)) ?_) | (with_reducible refine Gi.of (emN_mid _ _ _) ?_) | (with_reducible refine Gi.of emE_nil ?_) | (with_reducible refine Gi.of emN_nil ?_) | (with_reducible refine Gi.of (len_int _) ?_) | (with_reducible refine Gi.of at_mid ?_) | (with_reducible refine Gi.of (wd_things _ _) ?_) | (with_reducible refine Gi.of (wd_names _ _) ?_) | (with_reducible refine rt_r ?_) | (with_reducible refine Gb.of ew ?_) | (with_reducible refine Gi.of (ins_mid (pre := []) (post := []) (by decide) (by decide)) ?_) | (with_reducible refine And.intro ?_ ?_; · ((with_reducible show List.length _ ≤ _); walk_at "lenb")) | (with_reducible refine Ch.df (by decide) ?_) | (with_reducible refine Ch.dt (by decide) ?_) | walk_at "go1"))
  exact ⟨_, rfl, rfl, rfl, rfl, rfl⟩
set_option maxHeartbeats 4000000 in
theorem nr11_1e {b b2 M : List D} {A B : Addr} {aw : D} {ad : D} {xs ys : List Str} (ew : f__law_atom b [.lst (ys.map D.str)] = some (.sh aw, b2)) : wS (rb__law_near A B) (e23 b A B ad xs ys 1 1 (itD B) (M) ([])) (Rt (Fin23 A B aw (M) ([]) b2)) := by
  unfold e23
  (repeat (first | (with_reducible refine w_popP ?_ ?_; · exact ⟨_, rfl⟩) | (with_reducible refine Gi.of (emE_mid _ _ _) ?_) | (with_reducible refine Gi.of (emN_mid _ _ _) ?_) | (with_reducible refine Gi.of emE_nil ?_) | (with_reducible refine Gi.of emN_nil ?_) | (with_reducible refine Gi.of (len_int _) ?_) | (with_reducible refine Gi.of at_mid ?_) | (with_reducible refine Gi.of (wd_things _ _) ?_) | (with_reducible refine Gi.of (wd_names _ _) ?_) | (with_reducible refine rt_r ?_) | (with_reducible refine Gb.of ew ?_) | (with_reducible refine And.intro ?_ ?_; · ((with_reducible show List.length _ ≤ _); walk_at "lenb")) | (with_reducible refine Ch.df (by decide) ?_) | (with_reducible refine Ch.dt (by decide) ?_) | walk_at "go1"))
  exact ⟨_, rfl, rfl, rfl, rfl, rfl⟩
set_option maxHeartbeats 4000000 in
theorem nr11_2e {b M : List D} {A B : Addr} {ad : D} {xs ys : List Str} {mn : Int} (h0 : ¬ mn = 0) (h1 : ¬ mn = 1) : wS (rb__law_near A B) (e23 b A B ad xs ys mn 1 (itD B) (M) ([])) (Rt (Fin23 A B ad (M) ([]) b)) := by
  unfold e23
  (repeat (first | (with_reducible refine w_popP ?_ ?_; · exact ⟨_, rfl⟩) | (with_reducible refine Gi.of (emE_mid _ _ _) ?_) | (with_reducible refine Gi.of (emN_mid _ _ _) ?_) | (with_reducible refine Gi.of emE_nil ?_) | (with_reducible refine Gi.of emN_nil ?_) | (with_reducible refine Gi.of (len_int _) ?_) | (with_reducible refine Gi.of at_mid ?_) | (with_reducible refine Gi.of (wd_things _ _) ?_) | (with_reducible refine Gi.of (wd_names _ _) ?_) | (with_reducible refine rt_r ?_) | (with_reducible refine And.intro ?_ ?_; · ((with_reducible show List.length _ ≤ _); walk_at "lenb")) | (with_reducible refine Ch.df (by decide) ?_) | (with_reducible refine Ch.dt (by decide) ?_) | walk_at "go1"))
  exact ⟨_, rfl, rfl, rfl, rfl, rfl⟩
end T

-- needs: nothing
namespace T
open PySem L2 DL
/-! ### k23: what is near -/
theorem tfl_ats : ∀ f : List At, tflAll (f.map atD) = true
  | [] => rfl
  | a :: f => by
    show ((atD a).tfl && tflAll (f.map atD)) = true
    rw [tfl_ats f]
    rfl
theorem tfl_rows : ∀ rs : List Row, tflAll (rs.map rwD) = true
  | [] => rfl
  | r :: rs => by
    show ((rwD r).tfl && tflAll (rs.map rwD)) = true
    rw [tfl_rows rs, Bool.and_true]
    show ((D.str r.1).tfl && ((ftD r.2).tfl && true)) = true
    rw [Bool.and_true]
    exact tfl_ats r.2
theorem split_row {rs : List Row} {v : Int} (h0 : 0 ≤ v) (h1 : v < (rs.length : Int)) : ∃ pre r post, rs = pre ++ r :: post ∧ v = (pre.length : Int) := by
  obtain ⟨n, rfl⟩ := Int.eq_ofNat_of_zero_le h0
  have h1 : n < rs.length := by omega
  refine ⟨rs.take n, rs[n], rs.drop (n + 1), ?_, ?_⟩
  · rw [← List.drop_eq_getElem_cons h1, List.take_append_drop]
  · rw [List.length_take, Nat.min_eq_left (Nat.le_of_lt h1)]
/-- rows of a start -/
def RL (m : Nat) (L : List D) : Prop := ∃ rs : List Row, L = rs.map rwD ∧ (∀ r ∈ rs, RowOk r) ∧ rs.length ≤ m
theorem RL.of {m : Nat} {rs : List Row} (h : ∀ r ∈ rs, RowOk r) (hl : rs.length ≤ m) : RL m (rs.map rwD) := ⟨rs, rfl, h, hl⟩
theorem RL.mono {m n : Nat} {L : List D} (h : RL m L) (hn : m ≤ n) : RL n L := let ⟨rs, h1, h2, h3⟩ := h; ⟨rs, h1, h2, Nat.le_trans h3 hn⟩
theorem RL.app {m n : Nat} {L M : List D} (h : RL m L) (h' : RL n M) : RL (m + n) (L ++ M) := by
  obtain ⟨rs, rfl, h2, h3⟩ := h
  obtain ⟨qs, rfl, h2', h3'⟩ := h'
  exact ⟨rs ++ qs, by rw [List.map_append], fun r hr => (List.mem_append.mp hr).elim (h2 r) (h2' r), by rw [List.length_append]; omega⟩
theorem RL.one {r : Row} (h : RowOk r) : RL 1 [rwD r] := ⟨[r], rfl, fun x hx => by rw [List.mem_singleton.mp hx]; exact h, Nat.le_refl _⟩
theorem RL.mid {m n : Nat} {L M : List D} {r : Row} (h : RL m L) (h' : RL n M) (hr : RowOk r) : RL (m + n + 1) (L ++ rwD r :: M) := (h.app ((RL.one hr).app h')).mono (by omega)
def PNear (o : OV) (b : List D) : Prop := ∃ L M x, o = .sh (.tup [.lst [.lst L, .lst M], atD x]) ∧ RL 7 L ∧ RL 7 M ∧ AtOk x ∧ BagOk b
theorem cl_near {bs : List D} {rs qs : List Row} {x w : D} : cl__law_near_1 [some (.ow bs), some (.sh (.lst [.lst (rs.map rwD), .lst (qs.map rwD)])), some (.sh x), some (.sh w), none, none, none, none, none, none, none, none] = .ok [rs.map rwD, qs.map rwD] [some (.ow bs), some (.sh (.lst [.lst (rs.map rwD), .lst (qs.map rwD)])), some (.sh x), some (.sh w), none, none, none, none, none, none, none, none] := by
  have e1 : el__law_near_1 [some (.ow bs), some (.sh (.lst [.lst (rs.map rwD), .lst (qs.map rwD)])), some (.sh x), some (.sh w), none, none, some (.sh (.lst (rs.map rwD))), none, none, none, none, none] = .ok (.ow (rs.map rwD)) [some (.ow bs), some (.sh (.lst [.lst (rs.map rwD), .lst (qs.map rwD)])), some (.sh x), some (.sh w), none, none, some (.sh (.lst (rs.map rwD))), none, none, none, none, none] := rfl
  have e2 : el__law_near_1 [some (.ow bs), some (.sh (.lst [.lst (rs.map rwD), .lst (qs.map rwD)])), some (.sh x), some (.sh w), none, none, some (.sh (.lst (qs.map rwD))), none, none, none, none, none] = .ok (.ow (qs.map rwD)) [some (.ow bs), some (.sh (.lst [.lst (rs.map rwD), .lst (qs.map rwD)])), some (.sh x), some (.sh w), none, none, some (.sh (.lst (qs.map rwD))), none, none, none, none, none] := rfl
  have t : lcTS [6] (gN 6) el__law_near_1 [.lst (rs.map rwD), .lst (qs.map rwD)] [some (.ow bs), some (.sh (.lst [.lst (rs.map rwD), .lst (qs.map rwD)])), some (.sh x), some (.sh w), none, none, none, none, none, none, none, none] = .ok [rs.map rwD, qs.map rwD] [some (.ow bs), some (.sh (.lst [.lst (rs.map rwD), .lst (qs.map rwD)])), some (.sh x), some (.sh w), none, none, none, none, none, none, none, none] :=
    lcTS_one rfl e1 (tfl_rows rs) (lcTS_one rfl e2 (tfl_rows qs) rfl)
  show Rs.bind (lcTS [6] (gN 6) el__law_near_1 [.lst (rs.map rwD), .lst (qs.map rwD)] _).noE _ = _
  rw [t]
  rfl
theorem take_near {bs b1 : List D} {n v : Int} {o1 o2 o3 : Option OV} (e : f__law_take bs [.int n] = some (.sh (.int v), b1)) : frzD (callB 1 f__law_take 0 [cD (.int n)]) [some (.ow bs), o1, o2, o3, none, none, none, none, none, none, none, none] = .ok (.int v) [some (.ow b1), o1, o2, o3, none, none, none, none, none, none, none, none] := by
  have w : wE (frzD (callB 1 f__law_take 0 [cD (.int n)])) [some (.ow bs), o1, o2, o3, none, none, none, none, none, none, none, none] (fun d r1 => d = .int v ∧ r1 = [some (.ow b1), o1, o2, o3, none, none, none, none, none, none, none, none]) nE := by
    (repeat (first | (with_reducible refine Gb.of e ?_) | walk_at "go1"))
  obtain ⟨a, r1, e, rfl, rfl⟩ := wE_get w
  exact e
theorem near_go0 {bs b1 b2 b' : List D} {rs qs : List Row} {x ad : D} {xs ys : List Str} {mn : Int} {L M : List D} (e1 : f__law_take bs [.int 9] = some (.sh (.int mn), b1)) (e2 : f__law_take b1 [.int 2] = some (.sh (.int 0), b2))
    (hrun : ∀ A B : Addr, A ≠ B → wS (ra__law_near A B) (e23 b2 A B x xs ys mn 0 (itD A) (rs.map rwD) (qs.map rwD)) (Rt (Fin23 A B ad L M b'))) (p : PNear (.sh (.tup [.lst [.lst L, .lst M], ad])) b') :
    ∃ o b', f__law_near bs [.lst [.lst (rs.map rwD), .lst (qs.map rwD)], x, wdD xs ys] = some (o, b') ∧ PNear o b' := by
  unfold f__law_near
  refine fnB_w fun r hr => ?_
  have hr : [some (.ow bs), some (.sh (.lst [.lst (rs.map rwD), .lst (qs.map rwD)])), some (.sh x), some (.sh (wdD xs ys)), none, none, none, none, none, none, none, none] = r := hr
  subst hr
  unfold m__law_near
  refine s_cells (xs' := L) (ys' := M) (b' := b') (ad := ad) (n := 12) cl_near (take_near e1) (take_near e2) ⟨by show 10 < 12; decide, by show 11 < 12; decide⟩ (fun A B hab => ?_) (fun r5 e5 => ⟨b', e5, p⟩)
  simp only [List.set_cons_succ, List.set_cons_zero]
  (repeat (first | (with_reducible refine Gi.of (at_it0 _ _) ?_) | walk_at "go1"))
  refine s_aliA rfl ?_
  exact hrun A B hab
theorem near_go1 {bs b1 b2 b' : List D} {rs qs : List Row} {x ad : D} {xs ys : List Str} {mn : Int} {L M : List D} (e1 : f__law_take bs [.int 9] = some (.sh (.int mn), b1)) (e2 : f__law_take b1 [.int 2] = some (.sh (.int 1), b2))
    (hrun : ∀ A B : Addr, A ≠ B → wS (rb__law_near A B) (e23 b2 A B x xs ys mn 1 (itD B) (rs.map rwD) (qs.map rwD)) (Rt (Fin23 A B ad L M b'))) (p : PNear (.sh (.tup [.lst [.lst L, .lst M], ad])) b') :
    ∃ o b', f__law_near bs [.lst [.lst (rs.map rwD), .lst (qs.map rwD)], x, wdD xs ys] = some (o, b') ∧ PNear o b' := by
  unfold f__law_near
  refine fnB_w fun r hr => ?_
  have hr : [some (.ow bs), some (.sh (.lst [.lst (rs.map rwD), .lst (qs.map rwD)])), some (.sh x), some (.sh (wdD xs ys)), none, none, none, none, none, none, none, none] = r := hr
  subst hr
  unfold m__law_near
  refine s_cells (xs' := L) (ys' := M) (b' := b') (ad := ad) (n := 12) cl_near (take_near e1) (take_near e2) ⟨by show 10 < 12; decide, by show 11 < 12; decide⟩ (fun A B hab => ?_) (fun r5 e5 => ⟨b', e5, p⟩)
  simp only [List.set_cons_succ, List.set_cons_zero]
  (repeat (first | (with_reducible refine Gi.of (at_it1 _ _) ?_) | walk_at "go1"))
  refine s_aliB hab rfl ?_
  exact hrun A B hab
theorem sl_from1 (a : D) (l : List D) (h : l.length ≤ 1) : semSl (.tup (a :: l)) (some 1) none = some (.tup l) := by
  match l, h with
  | [], _ => rfl
  | [b], _ => rfl
theorem sl_to1 (a : D) (l : List D) (h : l.length ≤ 1) : semSl (.tup (a :: l)) none (some 1) = some (.tup [a]) := by
  match l, h with
  | [], _ => rfl
  | [b], _ => rfl
theorem FtOk.head {f : List At} (h : FtOk f) : ∃ a l, f = a :: l ∧ l.length ≤ 1 := by
  match f, h.len with
  | [a], _ => exact ⟨a, [], rfl, by decide⟩
  | [a, b], _ => exact ⟨a, [b], rfl, Nat.le_refl _⟩
theorem FtOk.one {a : At} (h : AtOk a) : FtOk [a] := ⟨fun x hx => by rw [List.mem_singleton.mp hx]; exact h, .inl rfl⟩
set_option maxHeartbeats 2000000 in
theorem near_ok0 {bs b1 b2 : List D} {rs qs : List Row} {x : At} {xs ys : List Str} {mn : Int} (w : WorldOk xs ys) (hr : ∀ r ∈ rs, RowOk r) (hq : ∀ r ∈ qs, RowOk r) (hx : AtOk x) (lr : rs.length ≤ 4) (lq : qs.length ≤ 4)
    (e1 : f__law_take bs [.int 9] = some (.sh (.int mn), b1)) (e2 : f__law_take b1 [.int 2] = some (.sh (.int 0), b2)) (m0 : 0 ≤ mn) (m9 : mn < 9) (hb2 : BagOk b2) :
    ∃ o b', f__law_near bs [.lst [.lst (rs.map rwD), .lst (qs.map rwD)], atD x, wdD xs ys] = some (o, b') ∧ PNear o b' := by
  have lM : (qs.map rwD).length ≤ 500 := by rw [List.length_map]; omega
  have RM : RL 6 (qs.map rwD) := (RL.of hq lq).mono (by decide)
  have RMy : RL 4 (qs.map rwD) := RL.of hq lq
  cases hc : rs with
  | nil =>
    subst hc
    have R0 : RL 7 [] := ⟨[], rfl, fun r h => absurd h List.not_mem_nil, Nat.zero_le _⟩
    by_cases h0 : mn = 0
    · subst h0
      obtain ⟨w', b3, e3, hw, hb3⟩ := row_ok hb2 w
      exact near_go0 e1 e2 (fun A B hab => nr10_0e e3) ⟨_, _, x, rfl, ((RL.one (hw.ok w.x w.y)).mono (by decide)), (RM.mono (by decide)), hx, hb3⟩
    · by_cases h1 : mn = 1
      · subst h1
        obtain ⟨x', b3, e3, hx', hb3⟩ := atom_ok hb2 ys w.y0 (by have := w.y2; omega)
        exact near_go0 e1 e2 (fun A B hab => nr10_1e e3) ⟨_, _, x', rfl, R0, (RM.mono (by decide)), hx'.ok w.y, hb3⟩
      · exact near_go0 e1 e2 (fun A B hab => nr10_2e h0 h1) ⟨_, _, x, rfl, R0, (RM.mono (by decide)), hx, hb2⟩
  | cons c0 cs0 =>
    have hlen : 0 < rs.length := by rw [hc]; exact Nat.succ_pos _
    rw [← hc]
    clear hc
    obtain ⟨v, b3, e3, v0, v1, hb3⟩ := take_ok hb2 (n := (rs.length : Int)) (by omega) (by omega)
    obtain ⟨pre, ⟨nm, ft⟩, post, hs, rfl⟩ := split_row v0 v1
    subst hs
    rw [List.length_append, List.length_cons] at lr
    have hP : RL pre.length (pre.map rwD) := RL.of (fun r h => hr r (List.mem_append_left _ h)) (Nat.le_refl _)
    have hQ : RL post.length (post.map rwD) := RL.of (fun r h => hr r (List.mem_append_right _ (List.mem_cons_of_mem _ h))) (Nat.le_refl _)
    have hR : RowOk (nm, ft) := hr (nm, ft) (List.mem_append_right _ List.mem_cons_self)
    obtain ⟨a, l, rfl, hl1⟩ := hR.ft.head
    have em : (pre ++ (nm, a :: l) :: post).map rwD = pre.map rwD ++ .tup [.str nm, .tup ((a :: l).map atD)] :: post.map rwD := by rw [List.map_append]; rfl
    have lp : (pre.map rwD).length ≤ 500 := by rw [List.length_map]; omega
    have lq' : (post.map rwD).length ≤ 500 := by rw [List.length_map]; omega
    have ep : ((pre.map rwD).length : Int) = (pre.length : Int) := by rw [List.length_map]
    have et : f__law_take b2 [.int ((pre.map rwD ++ .tup [.str nm, .tup ((a :: l).map atD)] :: post.map rwD).length : Int)] = some (.sh (.int ((pre.map rwD).length : Int)), b3) := by
      rw [← em, List.length_map, ep]
      exact e3
    have RL7 : RL 7 ((pre ++ (nm, a :: l) :: post).map rwD) := (RL.of hr (Nat.le_refl _)).mono (by rw [List.length_append, List.length_cons]; omega)
    have cs : mn = 0 ∨ mn = 1 ∨ mn = 2 ∨ mn = 3 ∨ mn = 4 ∨ mn = 5 ∨ mn = 6 ∨ mn = 7 ∨ mn = 8 := by omega
    rcases cs with rfl | rfl | rfl | rfl | rfl | rfl | rfl | rfl | rfl
    · obtain ⟨w', b4, e4, hw, hb4⟩ := row_ok hb3 w
      refine near_go0 e1 e2 (fun A B hab => by rw [em]; exact nr10_0 et lp lq' lM e4) ⟨_, _, x, rfl, ((hP.mid ((RL.one hR).app hQ) (hw.ok w.x w.y)).mono (by omega)), (RM.mono (by decide)), hx, hb4⟩
    · obtain ⟨x', b4, e4, hx', hb4⟩ := atom_ok hb3 ys w.y0 (by have := w.y2; omega)
      refine near_go0 e1 e2 (fun A B hab => by rw [em]; exact nr10_1 et lp lq' lM e4) ⟨_, _, x', rfl, (em ▸ RL7), (RM.mono (by decide)), hx'.ok w.y, hb4⟩
    · skip
      refine near_go0 e1 e2 (fun A B hab => by rw [em]; exact nr10_2 et lp lq' lM) ⟨_, _, x, rfl, ((hP.app hQ).mono (by omega)), (RM.mono (by decide)), hx, hb3⟩
    · skip
      refine near_go0 e1 e2 (fun A B hab => by rw [em]; exact nr10_3 et lp lq' lM) ⟨_, _, x, rfl, ((hP.app hQ).mono (by omega)), ((RMy.app (RL.one hR)).mono (by decide)), hx, hb3⟩
    · obtain ⟨d, b4, e4, hd, hb4⟩ := some_ok hb3 (xs.map D.str) (by intro z; exact w.x0 (List.map_eq_nil_iff.mp z)) (by rw [List.length_map]; have := w.x3; omega)
      obtain ⟨nm', hn, rfl⟩ := List.mem_map.mp hd
      refine near_go0 e1 e2 (fun A B hab => by rw [em]; exact nr10_4 et lp lq' lM e4) ⟨_, _, x, rfl, ((hP.mid hQ (r := (nm', a :: l)) ⟨w.x _ hn, hR.ft⟩).mono (by omega)), (RM.mono (by decide)), hx, hb4⟩
    · have er : (D.tup [.str nm, .tup ((a :: l).map atD).reverse]) = rwD (nm, (a :: l).reverse) := by rw [← List.map_reverse]; rfl
      refine near_go0 e1 e2 (fun A B hab => by rw [em]; exact nr10_5 et lp lq' lM) ⟨_, _, x, rfl, (er ▸ (hP.mid hQ (r := (nm, (a :: l).reverse)) ⟨hR.nm, ⟨fun z hz => hR.ft.all z (List.mem_reverse.mp hz), by rw [List.length_reverse]; exact hR.ft.len⟩⟩).mono (by omega)), (RM.mono (by decide)), hx, hb3⟩
    · obtain ⟨x', b4, e4, hx', hb4⟩ := atom_ok hb3 ys w.y0 (by have := w.y2; omega)
      refine near_go0 e1 e2 (fun A B hab => by rw [em]; exact nr10_6 et lp lq' lM e4 (sl_from1 (atD a) (l.map atD) (by rw [List.length_map]; exact hl1)) (by rw [List.length_map]; omega)) ⟨_, _, x, rfl, ((hP.mid hQ (r := (nm, x' :: l)) ⟨hR.nm, ⟨fun z hz => (List.mem_cons.mp hz).elim (fun e => by rw [e]; exact hx'.ok w.y) fun h => hR.ft.all z (List.mem_cons_of_mem _ h), by have := hR.ft.len; simpa using this⟩⟩).mono (by omega)), (RM.mono (by decide)), hx, hb4⟩
    · skip
      refine near_go0 e1 e2 (fun A B hab => by rw [em]; exact nr10_7 et lp lq' lM (sl_to1 (atD a) (l.map atD) (by rw [List.length_map]; exact hl1))) ⟨_, _, x, rfl, ((hP.mid hQ (r := (nm, [a])) ⟨hR.nm, FtOk.one (hR.ft.all a List.mem_cons_self)⟩).mono (by omega)), (RM.mono (by decide)), hx, hb3⟩
    · skip
      refine near_go0 e1 e2 (fun A B hab => by rw [em]; exact nr10_8 et lp lq' lM) ⟨_, _, x, rfl, (((hP.app hQ).app (RL.one hR)).mono (by omega)), (RM.mono (by decide)), hx, hb3⟩
set_option maxHeartbeats 2000000 in
theorem near_ok1 {bs b1 b2 : List D} {rs qs : List Row} {x : At} {xs ys : List Str} {mn : Int} (w : WorldOk xs ys) (hr : ∀ r ∈ rs, RowOk r) (hq : ∀ r ∈ qs, RowOk r) (hx : AtOk x) (lr : rs.length ≤ 4) (lq : qs.length ≤ 4)
    (e1 : f__law_take bs [.int 9] = some (.sh (.int mn), b1)) (e2 : f__law_take b1 [.int 2] = some (.sh (.int 1), b2)) (m0 : 0 ≤ mn) (m9 : mn < 9) (hb2 : BagOk b2) :
    ∃ o b', f__law_near bs [.lst [.lst (rs.map rwD), .lst (qs.map rwD)], atD x, wdD xs ys] = some (o, b') ∧ PNear o b' := by
  have lM : (rs.map rwD).length ≤ 500 := by rw [List.length_map]; omega
  have RM : RL 6 (rs.map rwD) := (RL.of hr lr).mono (by decide)
  have RMy : RL 4 (rs.map rwD) := RL.of hr lr
  cases hc : qs with
  | nil =>
    subst hc
    have R0 : RL 7 [] := ⟨[], rfl, fun r h => absurd h List.not_mem_nil, Nat.zero_le _⟩
    by_cases h0 : mn = 0
    · subst h0
      obtain ⟨w', b3, e3, hw, hb3⟩ := row_ok hb2 w
      exact near_go1 e1 e2 (fun A B hab => nr11_0e e3) ⟨_, _, x, rfl, (RM.mono (by decide)), ((RL.one (hw.ok w.x w.y)).mono (by decide)), hx, hb3⟩
    · by_cases h1 : mn = 1
      · subst h1
        obtain ⟨x', b3, e3, hx', hb3⟩ := atom_ok hb2 ys w.y0 (by have := w.y2; omega)
        exact near_go1 e1 e2 (fun A B hab => nr11_1e e3) ⟨_, _, x', rfl, (RM.mono (by decide)), R0, hx'.ok w.y, hb3⟩
      · exact near_go1 e1 e2 (fun A B hab => nr11_2e h0 h1) ⟨_, _, x, rfl, (RM.mono (by decide)), R0, hx, hb2⟩
  | cons c0 cs0 =>
    have hlen : 0 < qs.length := by rw [hc]; exact Nat.succ_pos _
    rw [← hc]
    clear hc
    obtain ⟨v, b3, e3, v0, v1, hb3⟩ := take_ok hb2 (n := (qs.length : Int)) (by omega) (by omega)
    obtain ⟨pre, ⟨nm, ft⟩, post, hs, rfl⟩ := split_row v0 v1
    subst hs
    rw [List.length_append, List.length_cons] at lq
    have hP : RL pre.length (pre.map rwD) := RL.of (fun r h => hq r (List.mem_append_left _ h)) (Nat.le_refl _)
    have hQ : RL post.length (post.map rwD) := RL.of (fun r h => hq r (List.mem_append_right _ (List.mem_cons_of_mem _ h))) (Nat.le_refl _)
    have hR : RowOk (nm, ft) := hq (nm, ft) (List.mem_append_right _ List.mem_cons_self)
    obtain ⟨a, l, rfl, hl1⟩ := hR.ft.head
    have em : (pre ++ (nm, a :: l) :: post).map rwD = pre.map rwD ++ .tup [.str nm, .tup ((a :: l).map atD)] :: post.map rwD := by rw [List.map_append]; rfl
    have lp : (pre.map rwD).length ≤ 500 := by rw [List.length_map]; omega
    have lq' : (post.map rwD).length ≤ 500 := by rw [List.length_map]; omega
    have ep : ((pre.map rwD).length : Int) = (pre.length : Int) := by rw [List.length_map]
    have et : f__law_take b2 [.int ((pre.map rwD ++ .tup [.str nm, .tup ((a :: l).map atD)] :: post.map rwD).length : Int)] = some (.sh (.int ((pre.map rwD).length : Int)), b3) := by
      rw [← em, List.length_map, ep]
      exact e3
    have RL7 : RL 7 ((pre ++ (nm, a :: l) :: post).map rwD) := (RL.of hq (Nat.le_refl _)).mono (by rw [List.length_append, List.length_cons]; omega)
    have cs : mn = 0 ∨ mn = 1 ∨ mn = 2 ∨ mn = 3 ∨ mn = 4 ∨ mn = 5 ∨ mn = 6 ∨ mn = 7 ∨ mn = 8 := by omega
    rcases cs with rfl | rfl | rfl | rfl | rfl | rfl | rfl | rfl | rfl
    · obtain ⟨w', b4, e4, hw, hb4⟩ := row_ok hb3 w
      refine near_go1 e1 e2 (fun A B hab => by rw [em]; exact nr11_0 et lp lq' lM e4) ⟨_, _, x, rfl, (RM.mono (by decide)), ((hP.mid ((RL.one hR).app hQ) (hw.ok w.x w.y)).mono (by omega)), hx, hb4⟩
    · obtain ⟨x', b4, e4, hx', hb4⟩ := atom_ok hb3 ys w.y0 (by have := w.y2; omega)
      refine near_go1 e1 e2 (fun A B hab => by rw [em]; exact nr11_1 et lp lq' lM e4) ⟨_, _, x', rfl, (RM.mono (by decide)), (em ▸ RL7), hx'.ok w.y, hb4⟩
    · skip
      refine near_go1 e1 e2 (fun A B hab => by rw [em]; exact nr11_2 et lp lq' lM) ⟨_, _, x, rfl, (RM.mono (by decide)), ((hP.app hQ).mono (by omega)), hx, hb3⟩
    · skip
      refine near_go1 e1 e2 (fun A B hab => by rw [em]; exact nr11_3 et lp lq' lM) ⟨_, _, x, rfl, ((RMy.app (RL.one hR)).mono (by decide)), ((hP.app hQ).mono (by omega)), hx, hb3⟩
    · obtain ⟨d, b4, e4, hd, hb4⟩ := some_ok hb3 (xs.map D.str) (by intro z; exact w.x0 (List.map_eq_nil_iff.mp z)) (by rw [List.length_map]; have := w.x3; omega)
      obtain ⟨nm', hn, rfl⟩ := List.mem_map.mp hd
      refine near_go1 e1 e2 (fun A B hab => by rw [em]; exact nr11_4 et lp lq' lM e4) ⟨_, _, x, rfl, (RM.mono (by decide)), ((hP.mid hQ (r := (nm', a :: l)) ⟨w.x _ hn, hR.ft⟩).mono (by omega)), hx, hb4⟩
    · have er : (D.tup [.str nm, .tup ((a :: l).map atD).reverse]) = rwD (nm, (a :: l).reverse) := by rw [← List.map_reverse]; rfl
      refine near_go1 e1 e2 (fun A B hab => by rw [em]; exact nr11_5 et lp lq' lM) ⟨_, _, x, rfl, (RM.mono (by decide)), (er ▸ (hP.mid hQ (r := (nm, (a :: l).reverse)) ⟨hR.nm, ⟨fun z hz => hR.ft.all z (List.mem_reverse.mp hz), by rw [List.length_reverse]; exact hR.ft.len⟩⟩).mono (by omega)), hx, hb3⟩
    · obtain ⟨x', b4, e4, hx', hb4⟩ := atom_ok hb3 ys w.y0 (by have := w.y2; omega)
      refine near_go1 e1 e2 (fun A B hab => by rw [em]; exact nr11_6 et lp lq' lM e4 (sl_from1 (atD a) (l.map atD) (by rw [List.length_map]; exact hl1)) (by rw [List.length_map]; omega)) ⟨_, _, x, rfl, (RM.mono (by decide)), ((hP.mid hQ (r := (nm, x' :: l)) ⟨hR.nm, ⟨fun z hz => (List.mem_cons.mp hz).elim (fun e => by rw [e]; exact hx'.ok w.y) fun h => hR.ft.all z (List.mem_cons_of_mem _ h), by have := hR.ft.len; simpa using this⟩⟩).mono (by omega)), hx, hb4⟩
    · skip
      refine near_go1 e1 e2 (fun A B hab => by rw [em]; exact nr11_7 et lp lq' lM (sl_to1 (atD a) (l.map atD) (by rw [List.length_map]; exact hl1))) ⟨_, _, x, rfl, (RM.mono (by decide)), ((hP.mid hQ (r := (nm, [a])) ⟨hR.nm, FtOk.one (hR.ft.all a List.mem_cons_self)⟩).mono (by omega)), hx, hb3⟩
    · skip
      refine near_go1 e1 e2 (fun A B hab => by rw [em]; exact nr11_8 et lp lq' lM) ⟨_, _, x, rfl, (RM.mono (by decide)), (((hP.app hQ).app (RL.one hR)).mono (by omega)), hx, hb3⟩
theorem near_ok {bs : List D} {rs qs : List Row} {x : At} {xs ys : List Str} (hb : BagOk bs) (w : WorldOk xs ys) (hr : ∀ r ∈ rs, RowOk r) (hq : ∀ r ∈ qs, RowOk r) (hx : AtOk x) (lr : rs.length ≤ 4) (lq : qs.length ≤ 4) :
    ∃ o b', f__law_near bs [.lst [.lst (rs.map rwD), .lst (qs.map rwD)], atD x, wdD xs ys] = some (o, b') ∧ PNear o b' := by
  obtain ⟨mn, b1, e1, m0, m9, hb1⟩ := take_ok hb (n := 9) (by decide) (by decide)
  obtain ⟨hm, b2, e2, h0, h2, hb2⟩ := take_ok hb1 (n := 2) (by decide) (by decide)
  have : hm = 0 ∨ hm = 1 := by omega
  rcases this with rfl | rfl
  · exact near_ok0 w hr hq hx lr lq e1 e2 m0 m9 hb2
  · exact near_ok1 w hr hq hx lr lq e1 e2 m0 m9 hb2
end T

-- needs: nothing
namespace T
open PySem L2 DL
/-! ### k23: starts compared -/
abbrev rowsDic (gs bs : List D) : D := .dic [(Sum.inr "goal", .lst gs), (Sum.inr "book", .lst bs)]
theorem sf_rows (gs bs : List D) (a : D) : semFld "Start" "its_rows" (startD gs bs a) = some (rowsDic gs bs) := by
  show (if ("Start" : Str) = "Start" then (startF gs bs a).lookup ("its_rows" : Str) else none) = _
  rw [if_pos rfl]
  unfold startF
  rw [List.lookup_cons_self]
theorem sf_aim (gs bs : List D) (a : D) : semFld "Start" "its_aim" (startD gs bs a) = some a := by
  show (if ("Start" : Str) = "Start" then (startF gs bs a).lookup ("its_aim" : Str) else none) = _
  rw [if_pos rfl]
  have h1 : (("its_aim" : Str) == "its_rows") = false := by decide +kernel
  unfold startF
  rw [List.lookup_cons, h1, List.lookup_cons_self]
structure FC (d : D) : Prop where
  fit : d.fit = true
  cl : d.cl true = true
theorem RL.fc {m : Nat} {L : List D} (h : RL m L) : FC (.lst L) := by
  obtain ⟨rs, rfl, h1, h2⟩ := h
  exact ⟨(sm_rows h1 (Nat.le_refl _)).fit, clAll_iff.mpr fun d hd => by
    obtain ⟨r, _, rfl⟩ := List.mem_map.mp hd
    exact cl_row true r⟩
theorem at_fc {x : At} (h : AtOk x) : FC (atD x) := ⟨(sm_at h.pt).fit, cl_at true x⟩
theorem eqv_fc {d e : D} (hs : D.sc d e = none) (hd : FC d) (he : FC e) : d.eqv e = decide (d = e) := by
  have h := semEq_of true hd.fit he.fit hd.cl he.cl
  unfold semEq eqB at h
  rw [hs] at h
  dsimp only at h
  rw [hd.fit, he.fit] at h
  have h : some (D.bl (d.eqv e)) = some (D.bl (decide (d = e))) := h
  injection h with h
  injection h
/-- the same start -/
noncomputable def sameB (L M : List D) (x : D) (L' M' : List D) (x' : D) : Bool := decide (D.lst L = .lst L') && decide (D.lst M = .lst M') && decide (x = x')
theorem sameB_symm (L M : List D) (x : D) (L' M' : List D) (x' : D) : sameB L M x L' M' x' = sameB L' M' x' L M x := by
  unfold sameB
  rw [decide_eq_decide.mpr (eq_comm (a := D.lst L) (b := .lst L')), decide_eq_decide.mpr (eq_comm (a := D.lst M) (b := .lst M')), decide_eq_decide.mpr (eq_comm (a := x) (b := x'))]
theorem sameB_self (L M : List D) (x : D) : sameB L M x L M x = true := by
  unfold sameB
  rw [decide_eq_true rfl, decide_eq_true rfl, decide_eq_true rfl]
  rfl
theorem dicK {L M L' M' : List D} (h1 : FC (.lst L)) (h2 : FC (.lst M)) (h3 : FC (.lst L')) (h4 : FC (.lst M')) : semEqK (rowsDic L M) (rowsDic L' M') = some (.bl (decide (D.lst L = .lst L') && decide (D.lst M = .lst M'))) := by
  have e1 : valD [((Sum.inr "goal" : Key), D.lst L'), (Sum.inr "book", .lst M')] (Sum.inr "goal") = some (.lst L') := rfl
  have e2 : valD [((Sum.inr "goal" : Key), D.lst L'), (Sum.inr "book", .lst M')] (Sum.inr "book") = some (.lst M') := rfl
  have e : dicB (rowsDic L M) (rowsDic L' M') = some (decide (D.lst L = .lst L') && decide (D.lst M = .lst M')) := by
    show hitsB _ _ = _
    unfold hitsB
    rw [e1]
    dsimp only
    rw [h1.fit, h3.fit]
    unfold hitsB
    rw [e2]
    dsimp only
    rw [h2.fit, h4.fit, eqv_fc rfl h1 h3, eqv_fc rfl h2 h4]
    show some (_ && (_ && true)) = _
    rw [Bool.and_true]
  unfold semEqK
  rw [e]
theorem aimK {x y : At} (hx : AtOk x) (hy : AtOk y) : semEqK (atD x) (atD y) = some (.bl (decide (atD x = atD y))) := by
  show semEq _ _ = _
  exact semEq_of true (at_fc hx).fit (at_fc hy).fit (at_fc hx).cl (at_fc hy).cl
theorem startEq {L M L' M' : List D} {x y : At} (h1 : FC (.lst L)) (h2 : FC (.lst M)) (h3 : FC (.lst L')) (h4 : FC (.lst M')) (hx : AtOk x) (hy : AtOk y) : f_Start____eq__ [startD L M (atD x), startD L' M' (atD y)] = some (.sh (.bl (sameB L M (atD x) L' M' (atD y)))) := by
  have hI : isoB "Start" (startD L' M' (atD y)) = some true := rfl
  have k1 := dicK h1 h2 h3 h4
  have k2 := aimK hx hy
  have f1 := sf_rows L M (atD x)
  have f2 := sf_rows L' M' (atD y)
  have f3 := sf_aim L M (atD x)
  have f4 := sf_aim L' M' (atD y)
  have ew : sameB L M (atD x) L' M' (atD y) = ((decide (D.lst L = .lst L') && decide (D.lst M = .lst M')) && decide (atD x = atD y)) := rfl
  rw [ew]
  generalize (decide (D.lst L = .lst L') && decide (D.lst M = .lst M')) = B1 at *
  generalize decide (atD x = atD y) = B2 at *
  generalize startD L M (atD x) = C at *
  generalize startD L' M' (atD y) = E at *
  unfold f_Start____eq__
  refine fnP_w ?_
  unfold m_Start____eq__
  cases B1 <;> ((repeat (first | (with_reducible refine Gi.of hI ?_) | (with_reducible refine Gi.of f1 ?_) | (with_reducible refine Gi.of f2 ?_) | (with_reducible refine Gi.of f3 ?_) | (with_reducible refine Gi.of f4 ?_) | (with_reducible refine Gi.of k1 ?_) | (with_reducible refine Gi.of k2 ?_) | walk_at "go1"))) <;> exact rfl
theorem startNo {s d : D} (h : isoB "Start" d = some false) : f_Start____eq__ [s, d] = some (.sh (.bl false)) := by
  unfold f_Start____eq__
  refine fnP_w ?_
  unfold m_Start____eq__
  (repeat (first | (with_reducible refine Gi.of h ?_) | walk_at "go1"))
  exact rfl
theorem start_made {g : D} {L M : List D} {x : At} (hL : RL 7 L) (hM : RL 7 M) (hx : AtOk x) (hg : g = .lst L ∨ g = .tup L) : f_Start____init__ [g, .lst M, atD x] = .ok (startF L M (atD x)) := by
  obtain ⟨rs, rfl, h1, h2⟩ := hL
  obtain ⟨qs, rfl, h3, h4⟩ := hM
  have ga : ∀ {rs : List Row}, (∀ r ∈ rs, RowOk r) → (rs.map rwD).all rwB = true := fun {rs} h => by
    rw [List.all_eq_true]
    intro d hd
    obtain ⟨r, hr, rfl⟩ := List.mem_map.mp hd
    exact rwB_row (h r hr)
  have gl : ∀ {rs : List Row}, (∀ r ∈ rs, RowOk r) → rs.length ≤ 7 → Gd 6 23000 (.lst (rs.map rwD)) := fun h l => (sm_gd (sm_rows h l)).mono (by decide) (by decide)
  have gt : ∀ {rs : List Row}, (∀ r ∈ rs, RowOk r) → rs.length ≤ 7 → Gd 6 23000 (.tup (rs.map rwD)) := fun {rs} h l => (sm_gd (Sm.tup (n := 3) (w := 1041) (m := 7) (fun d hd => by
    obtain ⟨r, hr, rfl⟩ := List.mem_map.mp hd
    exact sm_row (h r hr)) (by rw [List.length_map]; exact l))).mono (by decide) (by decide)
  have gx : Gd 6 23000 (atD x) := (sm_gd (sm_at hx.pt)).mono (by decide) (by decide)
  have lg : (rs.map rwD).length ≤ 100000 := by rw [List.length_map]; omega
  have lq : (qs.map rwD).length ≤ 100000 := by rw [List.length_map]; omega
  have aq : arB (.lst (qs.map rwD)) = true := by show (true && (qs.map rwD).all rwB) = true; rw [ga h3]; rfl
  rcases hg with rfl | rfl
  · rw [startInit_eq (gl h1 h2) (gl h3 h4) gx (by decide) lg lq]
    unfold initR
    rw [show arB (.lst (rs.map rwD)) = true by show (true && (rs.map rwD).all rwB) = true; rw [ga h1]; rfl, aq, atB_at hx]
    rfl
  · rw [startInit_eq (gt h1 h2) (gl h3 h4) gx (by decide) lg lq]
    unfold initR
    rw [show arB (.tup (rs.map rwD)) = true by show (true && (rs.map rwD).all rwB) = true; rw [ga h1]; rfl, aq, atB_at hx]
    rfl
theorem pairEq {L M L' M' : List D} {x y : At} (hL : RL 7 L) (hM : RL 7 M) (hL' : RL 7 L') (hM' : RL 7 M') (hx : AtOk x) (hy : AtOk y) : semEq (.tup [.lst [.lst L, .lst M], atD x]) (.tup [.lst [.lst L', .lst M'], atD y]) = some (.bl (sameB L M (atD x) L' M' (atD y))) := by
  have fc : ∀ {L M : List D} {x : At}, RL 7 L → RL 7 M → AtOk x → FC (.tup [.lst [.lst L, .lst M], atD x]) := fun {L M x} hL hM hx => by
    obtain ⟨rs, rfl, h1, h2⟩ := hL
    obtain ⟨qs, rfl, h3, h4⟩ := hM
    have s1 : Sm 5 14615 (.lst [.lst (rs.map rwD), .lst (qs.map rwD)]) := (Sm.lst (n := 4) (w := 7304) (m := 2) (fun d hd => by
      simp only [List.mem_cons, List.not_mem_nil, or_false] at hd
      rcases hd with rfl | rfl
      · exact (sm_rows h1 h2).mono (by decide) (by decide)
      · exact (sm_rows h3 h4).mono (by decide) (by decide)) (by simp)).mono (by decide) (by decide)
    refine ⟨(Sm.tup (n := 5) (w := 14615) (m := 2) (fun d hd => by
      simp only [List.mem_cons, List.not_mem_nil, or_false] at hd
      rcases hd with rfl | rfl
      · exact s1
      · exact (sm_at hx.pt).mono (by decide) (by decide)) (by simp)).fit, ?_⟩
    refine clAll_iff.mpr fun d hd => ?_
    simp only [List.mem_cons, List.not_mem_nil, or_false] at hd
    rcases hd with rfl | rfl
    · refine clAll_iff.mpr fun d hd => ?_
      simp only [List.mem_cons, List.not_mem_nil, or_false] at hd
      rcases hd with rfl | rfl
      · exact (RL.of h1 h2).fc.cl
      · exact (RL.of h3 h4).fc.cl
    · exact cl_at true x
  have a := fc hL hM hx
  have b := fc hL' hM' hy
  rw [semEq_of true a.fit b.fit a.cl b.cl]
  refine congrArg (fun b => some (D.bl b)) ?_
  unfold sameB
  rw [Bool.eq_iff_iff]
  simp only [Bool.and_eq_true, decide_eq_true_eq]
  constructor
  · intro h
    injection h with h
    injection h with h1 h2
    injection h1 with h1
    injection h1 with h3 h4
    injection h4 with h4 _
    injection h2 with h2 _
    exact ⟨⟨h3, h4⟩, h2⟩
  · rintro ⟨⟨h1, h2⟩, h3⟩
    rw [h1, h2, h3]
end T

-- needs: nothing
namespace T
open PySem L2 DL
/-! ### k23: the law -/
abbrev l23 (ns : List Int) (bs : List D) (o2 : Option OV) (xs ys : List Str) (A B : List D) (x : At) (o7 o8 o9 o10 o11 o12 : Option OV) : En := [some (.sh (.scr ns)), some (.ow bs), o2, some (.sh (wdD xs ys)), some (.sh (.lst [.lst A, .lst B])), some (.sh (atD x)), some (.sh (.obj "Start" (startF A B (atD x)))), o7, o8, o9, o10, o11, o12, none]
theorem semTuple_l (L : List D) : semTuple [.lst L] = some (.tup L) := rfl
theorem eqOk (f g : List (Str × D)) : (isC "Start" (.obj "Start" f) && eqArg "Start" (.obj "Start" g)) = true := rfl
theorem alike_four (b : Bool) : f__law_alike [.lst [.bl b, .bl b, .bl !b, .bl true], .lst [.bl b, .bl b, .bl !b, .bl true]] = some (.sh (.bl true)) := by
  refine alike_ok ?_ ?_ <;> cases b <;> decide +kernel
set_option maxHeartbeats 4000000 in
theorem turn23 {ns : List Int} {bs : List D} {o2 : Option OV} {xs ys : List Str} {rs qs : List Row} {x : At} {o7 o8 o9 o10 o11 o12 : Option OV} (hb : BagOk bs) (w : WorldOk xs ys) (hr : ∀ r ∈ rs, RowOk r) (hq : ∀ r ∈ qs, RowOk r) (hx : AtOk x) (lr : rs.length ≤ 4) (lq : qs.length ≤ 4) :
    wS bd_law_1 (l23 ns bs o2 xs ys (rs.map rwD) (qs.map rwD) x o7 o8 o9 o10 o11 o12) (fun y => ∃ b' o8 o9 o10 o11 o12, y = .nx (l23 ns b' o2 xs ys (rs.map rwD) (qs.map rwD) x o7 o8 o9 o10 o11 o12) ∧ BagOk b') := by
  obtain ⟨o, b1, e1, L, M, x', rfl, hL, hM, hx', hb1⟩ := near_ok hb w hr hq hx lr lq
  have hA : RL 7 (rs.map rwD) := RL.of hr (by omega)
  have hB : RL 7 (qs.map rwD) := RL.of hq (by omega)
  generalize rs.map rwD = A at *
  generalize qs.map rwD = B at *
  have i1 := start_made (g := .tup L) hL hM hx' (.inr rfl)
  have i2 := start_made (g := .tup A) hA hB hx (.inr rfl)
  have p1 := pairEq hL hM hA hB hx' hx
  have q1 := startEq hA.fc hB.fc hL.fc hM.fc hx hx'
  have q2 := startEq hL.fc hM.fc hA.fc hB.fc hx' hx
  have q3 := startEq hA.fc hB.fc hA.fc hB.fc hx hx
  rw [sameB_self] at q3
  rw [sameB_symm] at q1
  have al := alike_four (sameB L M (atD x') A B (atD x))
  generalize sameB L M (atD x') A B (atD x) = S at *
  have r1 : toFR (f_Start____eq__ [.obj "Start" (startF A B (atD x)), .obj "Start" (startF L M (atD x'))]) = .ok (.sh (.bl S)) := congrArg toFR q1
  have r2 : toFR (f_Start____eq__ [.obj "Start" (startF L M (atD x')), .obj "Start" (startF A B (atD x))]) = .ok (.sh (.bl S)) := congrArg toFR q2
  have r3 : toFR (f_Start____eq__ [.obj "Start" (startF A B (atD x)), .obj "Start" (startF A B (atD x))]) = .ok (.sh (.bl true)) := congrArg toFR q3
  have r4 : f_Start____eq__ [.obj "Start" (startF A B (atD x)), .obj "Start" (startF L M (atD x'))] = some (.sh (.bl S)) := q1
  (repeat (first | (with_reducible refine Gb.of e1 ?_) | (with_reducible refine Gi.of (at_it0 _ _) ?_) | (with_reducible refine Gi.of (at_it1 _ _) ?_) | (with_reducible refine Gi.of (semTuple_l _) ?_) | (with_reducible refine Gy.o i1 ?_) | (with_reducible refine Gy.o i2 ?_) | (with_reducible refine Gi.of p1 ?_) | (with_reducible refine And.intro (eqOk _ _) ?_) | (with_reducible refine Gx.o r1 ?_) | (with_reducible refine Gx.o r2 ?_) | (with_reducible refine Gx.o r3 ?_) | (with_reducible refine Exists.intro _ (And.intro r4 ?_)) | (with_reducible refine Gi.of al ?_) | walk_at "go1"))
  exact ⟨_, _, _, _, _, _, rfl, hb1⟩
theorem noStart {A B : List D} {x : At} {f : List (Str × D)} {y : D} (h : y ∈ [D.non, .lst [.lst A, .lst B], .lst A, atD x, .int 0, .lst [.obj "Start" f]]) : isoB "Start" y = some false ∧ eqArg "Start" y = true := by
  have h : y = .non ∨ y = .lst [.lst A, .lst B] ∨ y = .lst A ∨ y = atD x ∨ y = .int 0 ∨ y = .lst [.obj "Start" f] := by simpa using h
  rcases h with rfl | rfl | rfl | rfl | rfl | rfl <;> exact ⟨rfl, rfl⟩
set_option maxHeartbeats 400000 in
theorem end23 {ns : List Int} {bs : List D} {o2 : Option OV} {xs ys : List Str} {A B : List D} {x : At} {o7 o8 o9 o10 o11 o12 : Option OV} :
    wS (ifS (toB (op2 (.ex (cD (.bl true))) (.ex (frzD lc_law_1)) semIn2)) (rtS (shD (cD (.bl false)))) nxS) (l23 ns bs o2 xs ys A B x o7 o8 o9 o10 o11 o12) (fun y => y = .nx (l23 ns bs o2 xs ys A B x o7 o8 o9 o10 o11 o12)) := by
  (repeat walk_at "go1")
  with_reducible refine w_lc1 [D.non, .lst [.lst A, .lst B], .lst A, atD x, .int 0, .lst [.obj "Start" (startF A B (atD x))]] (fun d => d) (fun _ => .bl false) ?_
  (repeat (first | (with_reducible refine Gi.of (at_it0 _ _) ?_) | walk_at "go1"))
  refine ⟨rfl, by simp, ?_⟩
  rintro r2 rfl
  refine ⟨rfl, fun y hy => ?_, ?_⟩
  · obtain ⟨h1, h2⟩ := noStart hy
    have q : toFR (f_Start____eq__ [.obj "Start" (startF A B (atD x)), y]) = .ok (.sh (.bl false)) := congrArg toFR (startNo h1)
    have n : (isC "Start" (.obj "Start" (startF A B (atD x))) && eqArg "Start" y) = true := h2
    refine Gi.of (z := [some (.sh (.scr ns)), some (.ow bs), o2, some (.sh (wdD xs ys)), some (.sh (.lst [.lst A, .lst B])), some (.sh (atD x)), some (.sh (.obj "Start" (startF A B (atD x)))), o7, o8, o9, o10, o11, o12, some (.sh y)]) rfl ?_
    rintro r3 rfl
    refine ⟨rfl, ?_⟩
    (repeat (first | (with_reducible refine And.intro n ?_) | (with_reducible refine Gx.o q ?_) | walk_at "go1"))
  · (repeat walk_at "go1")
    refine Gi.of (z := .bl false) rfl ?_
    with_reducible refine Gi.of (z := false) rfl ?_
    exact rfl
end T

-- needs: nothing
namespace T
open PySem L2 DL

set_option maxHeartbeats 4000000 in
theorem plain (ns : List Int) (_ : ns.length ≤ 63) : f_law [.scr ns] = some (.sh (.bl true)) := by
  obtain ⟨bs, eb, hb⟩ := bag_ok ns
  unfold f_law
  refine fnP_w ?_
  unfold m_law
  (repeat (first | (with_reducible refine Gi.of eb ?_) | walk_at "go1"))
  with_reducible refine ⟨6, rfl, by decide, ?_⟩
  with_reducible refine wS_for _ (fun _ r => ∃ bs o2 o3 o4 o5 o6 o7 o8 o9 o10 o11 o12, r = [some (.sh (.scr ns)), some (.ow bs), o2, o3, o4, o5, o6, o7, o8, o9, o10, o11, o12, none] ∧ BagOk bs) ?_ (fun r hr => ?_) ⟨_, _, _, _, _, _, _, _, _, _, _, _, rfl, hb⟩
  · rintro i d hd r ⟨bs, o2, o3, o4, o5, o6, o7, o8, o9, o10, o11, o12, rfl, hb⟩
    (repeat walk_at "go1")
    obtain ⟨xs, ys, b1, e1, hw, hb1⟩ := world_ok hb
    with_reducible refine Gb.of e1 ?_
    (repeat walk_at "go1")
    obtain ⟨rs, b3, e3, lr, hr, hb3⟩ := rows_ok hb1 hw 4 (by decide)
    with_reducible refine Gb.of e3 ?_
    (repeat walk_at "go1")
    obtain ⟨qs, b4, e4, lq, hq, hb4⟩ := rows_ok hb3 hw 3 (by decide)
    with_reducible refine Gb.of e4 ?_
    (repeat (first | (with_reducible refine Gi.of (wd_things _ _) ?_) | walk_at "go1"))
    obtain ⟨x, b2, e2, hx, hb2⟩ := atom_ok hb4 ys hw.y0 (by have := hw.y2.2; omega)
    with_reducible refine Gb.of e2 ?_
    have hx := hx.ok hw.y
    have hr : ∀ r ∈ rs, RowOk r := fun r h => (hr r h).ok hw.x hw.y
    have hq : ∀ r ∈ qs, RowOk r := fun r h => (hq r h).ok hw.x hw.y
    have i1 := start_made (g := .lst (rs.map rwD)) (L := rs.map rwD) (M := qs.map rwD) (RL.of hr (by omega)) (RL.of hq (by omega)) hx (.inl rfl)
    (repeat (first | (with_reducible refine Gi.of (at_it0 _ _) ?_) | (with_reducible refine Gi.of (at_it1 _ _) ?_) | (with_reducible refine Gy.o i1 ?_) | walk_at "go1"))
    with_reducible refine ⟨4, rfl, by decide, ?_⟩
    with_reducible refine wS_for _ (fun _ r => ∃ b' o7 o8 o9 o10 o11 o12, r = l23 ns b' (some (.sh d)) xs ys (rs.map rwD) (qs.map rwD) x o7 o8 o9 o10 o11 o12 ∧ BagOk b') ?_ (fun r hr => ?_) ⟨_, _, _, _, _, _, _, rfl, hb2⟩
    · rintro j d2 hd2 r ⟨b', o7, o8, o9, o10, o11, o12, rfl, hb'⟩
      refine Gi.of (z := l23 ns b' (some (.sh d)) xs ys (rs.map rwD) (qs.map rwD) x (some (.sh d2)) o8 o9 o10 o11 o12) rfl ?_
      rintro r2 rfl
      with_reducible refine wS_mono (turn23 hb' hw hr hq hx lr (by omega)) ?_
      rintro y ⟨b2, p8, p9, p10, p11, p12, rfl, h1⟩
      exact ⟨b2, _, p8, p9, p10, p11, p12, rfl, h1⟩
    · obtain ⟨b', o7, o8, o9, o10, o11, o12, rfl, hb'⟩ := hr
      with_reducible refine Th.n ?_
      with_reducible refine wS_mono (end23 (ns := ns) (bs := b') (o2 := some (.sh d)) (xs := xs) (ys := ys) (A := rs.map rwD) (B := qs.map rwD) (x := x) (o7 := o7) (o8 := o8) (o9 := o9) (o10 := o10) (o11 := o11) (o12 := o12)) ?_
      rintro y rfl
      exact ⟨_, _, _, _, _, _, _, _, _, _, _, _, rfl, hb'⟩
  · obtain ⟨bs, o2, o3, o4, o5, o6, o7, o8, o9, o10, o11, o12, rfl, hb⟩ := hr
    (repeat walk_at "go1")
    exact rfl
end T

open PySem PySem.W PyProof.Rows
set_option maxHeartbeats 0 in
theorem PySem.Challenge.cw_scriptpicks_k23_starts_equal_holds : PySem.Challenge.rw_scriptpicks_k23_starts_equal.Holds := by
  w_on; o_law; k_head; (case hw => w_witness2)
  k_fill
  refine DL.walkG (l := PySem.Challenge.rw_scriptpicks_k23_starts_equal) (n := 63) (k := 8) (x := "_law_script") (f := T.f_law) rfl rfl (by decide) rfl ⟨rfl, by decide, by decide⟩ (fun w h Y => PySem.W.kIn_of Y) ?F T.plain
  case F =>
    intro w mg fz h inK ns hmg
    refine' T.all_mk inK ns hmg ?ea_Wrong ?ea_Start ?a1 ?l1 ?c1 ?k1 ?a2 ?l2 ?c2 ?k2 ?a3 ?l3 ?c3 ?k3 ?a4 ?l4 ?c4 ?k4 ?a5 ?l5 ?c5 ?k5 ?a6 ?l6 ?c6 ?k6 ?a7 ?l7 ?c7 ?k7 ?a8 ?l8 ?c8 ?k8 ?a9 ?l9 ?c9 ?k9 ?a10 ?l10 ?c10 ?k10 ?a11 ?i11 ?l11 ?c11 ?k11 ?a12 ?l12 ?c12 ?k12 ?a13 ?l13 ?c13 ?k13 ?a14 ?l14 ?c14 ?k14 ?a15 ?l15 ?c15 ?k15 ?a16 ?l16 ?c16 ?k16 ?a17 ?l17 ?c17 ?k17 ?a18 ?i18 ?l18 ?c18 ?k18 ?a19 ?l19 ?c19 ?k19 ?a20 ?l20 ?c20 ?k20 ?fv_LETTERS ?fv_MOST_LETTERS ?fv_RELATIONS ?fl_RELATIONS ?pg_Start ?hd_Start ?po_Start ?sa_Start ?mk_Start ?kc_Start ?na_Start_its_aim ?na_Start_its_rows ?xl_Wrong ?es_Wrong ?ec_Wrong ?et_Wrong ?ek_Wrong ?en_Wrong ?ia_Wrong ?it_Wrong ?il_Wrong ?ic_Wrong ?ik_Wrong ?ia_i_Start ?im_i_Start ?iy_i_Start ?ks_i_Start ?kt_i_Start_NoneType ?kt_i_Start_bool ?kt_i_Start_int ?kt_i_Start_str ?kt_i_Start_list ?kt_i_Start_tuple ?kt_i_Start_dict ?ne_o_Start ?sg ?tg ?nz ?z_abs ?z_all ?z_int ?z_isinstance ?z_len ?z_list ?z_range ?z_repr ?z_str ?z_tuple
    (case ea_Wrong => k_is); (case ea_Start => k_is); (case a1 => k_is); (case l1 => k_is); (case c1 => k_is); (case k1 => k_is); (case a2 => k_is); (case l2 => k_is); (case c2 => k_is); (case k2 => k_is); (case a3 => k_is); (case l3 => k_is); (case c3 => k_is); (case k3 => k_is); (case a4 => k_is); (case l4 => k_is); (case c4 => k_is); (case k4 => k_is); (case a5 => k_is); (case l5 => k_is); (case c5 => k_is); (case k5 => k_is); (case a6 => k_is); (case l6 => k_is); (case c6 => k_is); (case k6 => k_is); (case a7 => k_is); (case l7 => k_is); (case c7 => k_is); (case k7 => k_is); (case a8 => k_is); (case l8 => k_is); (case c8 => k_is); (case k8 => k_is); (case a9 => k_is); (case l9 => k_is); (case c9 => k_is); (case k9 => k_is); (case a10 => k_is); (case l10 => k_is); (case c10 => k_is); (case k10 => k_is); (case a11 => k_is); (case i11 => k_is); (case l11 => k_is); (case c11 => k_is); (case k11 => k_is); (case a12 => k_is); (case l12 => k_is); (case c12 => k_is); (case k12 => k_is); (case a13 => k_is); (case l13 => k_is); (case c13 => k_is); (case k13 => k_is); (case a14 => k_is); (case l14 => k_is); (case c14 => k_is); (case k14 => k_is); (case a15 => k_is); (case l15 => k_is); (case c15 => k_is); (case k15 => k_is); (case a16 => k_is); (case l16 => k_is); (case c16 => k_is); (case k16 => k_is); (case a17 => k_is); (case l17 => k_is); (case c17 => k_is); (case k17 => k_is); (case a18 => k_is); (case i18 => k_is); (case l18 => k_is); (case c18 => k_is); (case k18 => k_is); (case a19 => k_is); (case l19 => k_is); (case c19 => k_is); (case k19 => k_is); (case a20 => k_is); (case l20 => k_is); (case c20 => k_is); (case k20 => k_is); (case fv_LETTERS => k_is); (case fv_MOST_LETTERS => k_is); (case fv_RELATIONS => k_is); (case fl_RELATIONS => k_is); (case pg_Start => k_is); (case hd_Start => k_is); (case po_Start => k_is); (case sa_Start => k_is); (case mk_Start => k_is); (case kc_Start => k_is); (case na_Start_its_aim => k_is); (case na_Start_its_rows => k_is); (case xl_Wrong => k_is); (case es_Wrong => k_is); (case ec_Wrong => k_is); (case et_Wrong => k_is); (case ek_Wrong => k_is); (case en_Wrong => k_is); (case ia_Wrong => k_is); (case it_Wrong => k_is); (case il_Wrong => k_is); (case ic_Wrong => k_is); (case ik_Wrong => k_is); (case ia_i_Start => k_is); (case im_i_Start => k_is); (case iy_i_Start => k_is); (case ks_i_Start => first | rfl | k_is); (case kt_i_Start_NoneType => first | rfl | k_is); (case kt_i_Start_bool => first | rfl | k_is); (case kt_i_Start_int => first | rfl | k_is); (case kt_i_Start_str => first | rfl | k_is); (case kt_i_Start_list => first | rfl | k_is); (case kt_i_Start_tuple => first | rfl | k_is); (case kt_i_Start_dict => first | rfl | k_is); (case ne_o_Start => k_is); (case sg => k_is); (case tg => k_is); (case nz => first | rfl | k_is); (case z_abs => k_is); (case z_all => k_is); (case z_int => k_is); (case z_isinstance => k_is); (case z_len => k_is); (case z_list => k_is); (case z_range => k_is); (case z_repr => k_is); (case z_str => k_is); (case z_tuple => k_is)
