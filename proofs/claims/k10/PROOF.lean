import PyProof.Rows.All
import Wide.All
import OpenK.AllK
import Wide.FinOn
import HandS.ForMost
import KE.KeyNested
import HandS.TupSets
import HandS.Set
import HandS.Exc
import HandS.Lambda
import HandS.Flow
import HandS.Style
import HandS.NoneIn
import HandS.Zip
import HandS.Deep
import HandS.TupAny
import HandS.TupMul
import HandS.Replace
import HandS.IsInst
import HandS.Codes
import PyProof.ReprRoads
import HandS.More
import KE.SortData
import HandS.Conv
import HandS.SetTxt0
import HandS.SetFor
import HandS.SetBool
import PyProof.SumAny
import PyProof.ListStr
import HandS.Star
import HandS.ExcOwn
import HandS.WordsExc
import HandS.CallSlots
import HandS.ExcInit
import HandS.ExcField
import HandS.ExcIs
import KE.KExcIs
import HandS.Property
import HandS.Iter
import HandS.ListItems
import PyProof.DictUpdate
import PyProof.FactsLen
import PyProof.Methods
import HandS.DeepEq
import HandS.DictEq
import KE.KDictZip
import HandS.DictComp
import HandS.Small
import HandS.Defaults
import HandS.TupLe
import KE.KDictDisplayH
import KE.GoesEnum
import HandS.HotCalls
import HandS.TryOnly
import HandS.EndTab
import HandS.Finally
import KE.KDictList
import PyProof.AutoSeq1
import PyProof.Gen
import PySem.Challenge.RW_scriptpicks_k10_errors_kept
set_option Elab.async false
set_option linter.all false
set_option maxRecDepth 100000
set_option maxHeartbeats 4000000
/-! Data layer, part 0: sets of tuples of any data that can be a key: a member more. -/
namespace DL
open PySem L2 PyProof.Rows
/-- the tuple at a is the key k -/
def IsN (h : Heap) (k : NestedKey) (a : Addr) : Prop := NestedIs h k (.ref a) ∧ k.depth ≤ 8
theorem IsN.knd {P : Program} {w : World} {h : Heap} {k : NestedKey} {a : Addr} (z : IsN h k a) : (nestedKind P w).is h k a := z
theorem IsN.up {h h' : Heap} {k : NestedKey} {a : Addr} (z : IsN h k a) (kp : ∀ b o, h.get? b = some o → h'.get? b = some o) : IsN h' k a :=
  ⟨NestedIs.at (fun b o _ _ e _ => kp b o e) k _ z.1, z.2⟩
section
variable {P : Program} {w : World} {A : Around} {E : Value → Shared → Prop} {s : Shared}
/-- of no class statement, n levels down -/
def PlainAt (P : Program) (w : World) (n : Nat) (s : Shared) (v : Value) : Prop := ∀ (A : Around) (E : Value → Shared → Prop) (Q : Bool → Shared → Prop), Q false s → wpAny (model P w) A (ofAClassStatement n v) Q E s
/-- whether the hash goes by value: one of both -/
def ByVal (P : Program) (w : World) (n : Nat) (s : Shared) (v : Value) : Prop := ∀ (A : Around) (E : Value → Shared → Prop) (Q : Bool → Shared → Prop), (∀ b, Q b s) → wpAny (model P w) A (hashByValue n v) Q E s
theorem PlainAt.of {n : Nat} {v : Value} (e : ofAClassStatement n v = pure false) : PlainAt P w n s v := fun A E Q q => by
  rw [e]; exact wpAny_pure q
theorem ByVal.of {n : Nat} {v : Value} {b : Bool} (e : hashByValue n v = pure b) : ByVal P w n s v := fun A E Q q => by
  rw [e]; exact wpAny_pure (q b)
theorem PlainAt.tup {n m : Nat} {a : Addr} {o : Obj} {vs : Array Value} (oa : s.heap.get? a = some o) (oc : o.cls = .type "tuple") (od : o.data = .seq vs m) (all : ∀ v ∈ vs.toList, PlainAt P w n s v) : PlainAt P w (n + 1) s (.ref a) := fun A E Q q => by
  have ty : s.TypeIs (.ref a) "tuple" := ⟨o, oa, oc⟩
  unfold ofAClassStatement
  refine wpAny_bind (wpAny_typeOf ty ?_)
  dsimp only
  have e : (("tuple" : String) == "tuple") = true := by decide
  simp only [e, if_true, Bool.not_true, Bool.false_eq_true, if_false]
  show wpAny _ _ (seqItems? (.ref a) >>= _) _ _ s
  refine wpAny_bind (wpAny_seqItems oa od (wpAny_bind ?_))
  show wpAny _ _ (forIn vs _ _) _ _ s
  rw [← Array.forIn_toList]
  refine wpAny_forIn_list _ (fun rest r s' => (r.1 = none ∧ s' = s) ∧ ∀ v ∈ rest, PlainAt P w n s v) _ ?_ ?_ _ _ ⟨⟨rfl, rfl⟩, all⟩
  · rintro v rest r s' ⟨⟨_, rfl⟩, al⟩
    refine wpAny_bind (al v List.mem_cons_self _ _ _ ?_)
    simp only [Bool.false_eq_true, if_false]
    exact wpAny_pure ⟨⟨rfl, rfl⟩, fun u hu => al u (List.mem_cons_of_mem _ hu)⟩
  · rintro ⟨r1, r2⟩ s' ⟨⟨hr, rfl⟩, _⟩
    simp only at hr
    subst hr
    exact wpAny_pure q
theorem ByVal.tup {n m : Nat} {a : Addr} {o : Obj} {vs : Array Value} (oa : s.heap.get? a = some o) (oc : o.cls = .type "tuple") (od : o.data = .seq vs m) (all : ∀ v ∈ vs.toList, ByVal P w n s v) : ByVal P w (n + 1) s (.ref a) := fun A E Q q => by
  have ty : s.TypeIs (.ref a) "tuple" := ⟨o, oa, oc⟩
  unfold hashByValue
  refine wpAny_bind (wpAny_specialOf ty F.slot_tuple_hash.lookup ?_)
  show wpAny _ _ (seqItems? (.ref a) >>= _) _ _ s
  refine wpAny_bind (wpAny_seqItems oa od (wpAny_bind ?_))
  show wpAny _ _ (forIn vs _ _) _ _ s
  rw [← Array.forIn_toList]
  refine wpAny_forIn_list _ (fun rest r s' => ((r.1 = none ∨ r.1 = some false) ∧ s' = s) ∧ ∀ v ∈ rest, ByVal P w n s v) _ ?_ ?_ _ _ ⟨⟨.inl rfl, rfl⟩, all⟩
  · rintro v rest r s' ⟨⟨_, rfl⟩, al⟩
    refine wpAny_bind (al v List.mem_cons_self _ _ _ fun b => ?_)
    cases b with
    | true =>
      simp only [Bool.not_true, Bool.false_eq_true, if_false]
      exact wpAny_pure ⟨⟨.inl rfl, rfl⟩, fun u hu => al u (List.mem_cons_of_mem _ hu)⟩
    | false =>
      simp only [Bool.not_false, if_true]
      exact wpAny_pure (wpAny_pure (q _))
  · rintro ⟨r1, r2⟩ s' ⟨⟨hr, rfl⟩, _⟩
    simp only at hr
    rcases hr with rfl | rfl
    · exact wpAny_pure (q _)
    · exact wpAny_pure (q _)
end
abbrev KA : Type := Addr × NestedKey
def hN (w : World) (L : List KA) : List Int := L.map fun p => p.2.hash w
def rwN (w : World) (L : List KA) : List (Int × Value) := L.map fun p => (p.2.hash w, Value.ref p.1)
/-- the set at a has the keys L, at their addresses -/
structure SetN (w : World) (h : Heap) (a : Addr) (L : List KA) (es : Array (Int × Value)) (ep : Nat) (t : SetTable) : Prop where
  ob : ∃ o, h.get? a = some o ∧ o.ExactSet ∧ o.data = .set es ep t
  rows : es.toList = rwN w L
  tab : TabOk t (hN w L)
  nd : (L.map (·.2)).Nodup
  tup : ∀ p ∈ L, IsN h p.2 p.1
  led : w.params.followText "set-order" = true ∨ t.led = true
  room : L.length * 5 < t.mask * 3
  few : L.length < 64
/-- what the set has of the first i -/
structure GotN (ks : List KA) (i : Nat) (L : List KA) : Prop where
  sub : ∀ p ∈ L, p ∈ ks.take i
  all : ∀ p ∈ ks.take i, p.2 ∈ L.map (·.2)
  len : L.length ≤ i
/-- the same but for the members' own objects -/
def SetN0 (w : World) (h : Heap) (a : Addr) (L : List KA) : Prop := ∃ es ep t, (∃ o, h.get? a = some o ∧ o.ExactSet ∧ o.data = .set es ep t) ∧ es.toList = rwN w L ∧ TabOk t (hN w L) ∧ (L.map (·.2)).Nodup ∧ (w.params.followText "set-order" = true ∨ t.led = true) ∧ L.length * 5 < t.mask * 3 ∧ L.length < 64
theorem SetN.t0 {w : World} {h : Heap} {a : Addr} {L : List KA} {es : Array (Int × Value)} {ep : Nat} {t : SetTable} (R : SetN w h a L es ep t) : SetN0 w h a L := ⟨es, ep, t, R.ob, R.rows, R.tab, R.nd, R.led, R.room, R.few⟩
section
variable {P : Program} {w : World} {A : Around} {E : Value → Shared → Prop} {s : Shared} {a : Addr} {L : List KA} {es : Array (Int × Value)} {ep : Nat} {t : SetTable}
theorem rwN_len (w : World) (L : List KA) : (rwN w L).length = L.length := List.length_map _
theorem hN_len (w : World) (L : List KA) : (hN w L).length = L.length := List.length_map _
theorem size_rw (hr : es.toList = rwN w L) : es.size = L.length := by
  have z := congrArg List.length hr
  rw [rwN_len] at z
  exact z
theorem fits_rw (hr : es.toList = rwN w L) (T : TabOk t (hN w L)) (r : L.length ≤ t.mask) : t.fits es.size = true := by
  have z1 := T.sz
  have z2 := size_rw hr
  rw [hN_len] at z1
  unfold SetTable.fits SetTable.fill
  rw [T.dm, Bool.and_eq_true, beq_iff_eq, decide_eq_true_eq]
  exact ⟨by rw [z1, z2], by
    show t.place.size + 0 ≤ t.mask
    omega⟩
theorem SetN.fits {h : Heap} (R : SetN w h a L es ep t) : t.fits es.size = true := fits_rw R.rows R.tab (by have := R.room; omega)
end
end DL

/-! Data layer, part 1: plain data, reading of data in a heap, environments, the relation of a state to an environment. -/
namespace DL
open PySem L2

inductive D where
  | non
  | bl (b : Bool)
  | int (i : Int)
  | str (x : Str)
  | lst (xs : List D)
  | tup (xs : List D)
  | dic (kvs : List (Key × D))
  | scr (ns : List Int)
  /-- an instance of a class of the program's own that nobody changes any more: the class's name, its attributes -/
  | obj (c : Str) (fs : List (Str × D))

/-- the name that stands for the very thing at an address: no class has it -/
def itS (a : Addr) : Str := ⟨#[0, a]⟩
/-- the class of that name of the module -/
def ClsAt (K : PySem.W.Frag) (c : Str) (C : Addr) : Prop := PySem.W.nsIn K mainGlobals c = some (some (.ref C))

mutual
inductive RD (K : PySem.W.Frag) (F : Hp) : V → D → Prop
  | non : RD K F .non .non
  | bl (b : Bool) : RD K F (.bl b) (.bl b)
  | int (i : Int) : RD K F (.int i) (.int i)
  | str (x : Str) : RD K F (.str x) (.str x)
  | lst {a : Addr} {xs : List V} {ds : List D} : F a = some (.lst xs) → RDs K F xs ds → RD K F (.ref a) (.lst ds)
  | scr {a : Addr} (ns : List Int) : SqL K F a (ns.map V.int) → RD K F (.ref a) (.scr ns)
  | tup {a : Addr} {xs : List V} {ds : List D} : SqT K F a xs → RDs K F xs ds → RD K F (.ref a) (.tup ds)
  | dic {a : Addr} {o : Obj} {kvs : List (Key × V)} {ds : List (Key × D)} : F a = some (.frz o (.dK kvs)) → RDk K F kvs ds → RD K F (.ref a) (.dic ds)
  | obj {a C dx : Addr} {c : Str} {vs : List (Str × V)} {ds : List (Str × D)} : ClsAt K c C → F a = some (.ins C dx vs) → RDf K F vs ds → RD K F (.ref a) (.obj c ds)
  | it {a : Addr} : (∀ C, ¬ ClsAt K (itS a) C) → RD K F (.ref a) (.obj (itS a) [])
inductive RDs (K : PySem.W.Frag) (F : Hp) : List V → List D → Prop
  | nil : RDs K F [] []
  | cons {v : V} {vs : List V} {d : D} {ds : List D} : RD K F v d → RDs K F vs ds → RDs K F (v :: vs) (d :: ds)
inductive RDk (K : PySem.W.Frag) (F : Hp) : List (Key × V) → List (Key × D) → Prop
  | nil : RDk K F [] []
  | cons {k : Key} {v : V} {vs : List (Key × V)} {d : D} {ds : List (Key × D)} : RD K F v d → RDk K F vs ds → RDk K F ((k, v) :: vs) ((k, d) :: ds)
inductive RDf (K : PySem.W.Frag) (F : Hp) : List (Str × V) → List (Str × D) → Prop
  | nil : RDf K F [] []
  | cons {k : Str} {v : V} {vs : List (Str × V)} {d : D} {ds : List (Str × D)} : RD K F v d → RDf K F vs ds → RDf K F ((k, v) :: vs) ((k, d) :: ds)
end

theorem same_rd {F F' : Hp} {a : Addr} {u : HO} (e : Same F F') (h : Rd F a u) : Rd F' a u := by
  rcases h with h | ⟨o, h⟩
  · exact .inl (e _ _ h)
  · exact .inr ⟨o, e _ _ h⟩
theorem same_sqT {K : PySem.W.Frag} {F F' : Hp} {a : Addr} {xs : List V} (e : Same F F') (h : SqT K F a xs) : SqT K F' a xs := by
  rcases h with h | h
  · exact .inl (same_rd e h)
  · exact .inr h

mutual
theorem RD.mono {K : PySem.W.Frag} {F F' : Hp} (e : Same F F') : ∀ (d : D) {v : V}, RD K F v d → RD K F' v d
  | .non, _, h => by cases h; exact .non
  | .bl b, _, h => by cases h; exact .bl b
  | .int i, _, h => by cases h; exact .int i
  | .str x, _, h => by cases h; exact .str x
  | .lst ds, _, h => by
    cases h with
    | lst h1 h2 => exact .lst (e _ _ h1) (RDs.mono e ds h2)
  | .tup ds, _, h => by
    cases h with
    | tup h1 h2 => exact .tup (same_sqT e h1) (RDs.mono e ds h2)
  | .dic ds, _, h => by
    cases h with
    | dic h1 h2 => exact .dic (e _ _ h1) (RDk.mono e ds h2)
  | .scr ns, _, h => by
    cases h with
    | scr _ h1 => exact .scr ns (e.seq h1)
  | .obj c ds, _, h => by
    cases h with
    | obj h1 h2 h3 => exact .obj h1 (e _ _ h2) (RDf.mono e ds h3)
    | it h1 => exact .it h1
theorem RDs.mono {K : PySem.W.Frag} {F F' : Hp} (e : Same F F') : ∀ (ds : List D) {vs : List V}, RDs K F vs ds → RDs K F' vs ds
  | [], _, h => by cases h; exact .nil
  | d :: ds, _, h => by
    cases h with
    | cons h1 h2 => exact .cons (RD.mono e d h1) (RDs.mono e ds h2)
theorem RDk.mono {K : PySem.W.Frag} {F F' : Hp} (e : Same F F') : ∀ (ds : List (Key × D)) {vs : List (Key × V)}, RDk K F vs ds → RDk K F' vs ds
  | [], _, h => by cases h; exact .nil
  | (k, d) :: ds, _, h => by
    cases h with
    | cons h1 h2 => exact .cons (RD.mono e d h1) (RDk.mono e ds h2)
theorem RDf.mono {K : PySem.W.Frag} {F F' : Hp} (e : Same F F') : ∀ (ds : List (Str × D)) {vs : List (Str × V)}, RDf K F vs ds → RDf K F' vs ds
  | [], _, h => by cases h; exact .nil
  | (k, d) :: ds, _, h => by
    cases h with
    | cons h1 h2 => exact .cons (RD.mono e d h1) (RDf.mono e ds h2)
end

section
variable {K : PySem.W.Frag} {F : Hp}
theorem RDs.length : ∀ {vs : List V} {ds : List D}, RDs K F vs ds → vs.length = ds.length
  | _, [], h => by cases h; rfl
  | _, d :: ds, h => by
    cases h with
    | cons h1 h2 => rw [List.length_cons, List.length_cons, RDs.length h2]
theorem RDs.get : ∀ {vs : List V} {ds : List D} {i : Nat} {d : D}, RDs K F vs ds → ds[i]? = some d → ∃ v, vs[i]? = some v ∧ RD K F v d
  | _, [], _, _, h, e => by simp at e
  | _, x :: ds, 0, d, h, e => by
    cases h with
    | cons h1 h2 =>
      have q : x = d := Option.some.inj e
      subst q
      exact ⟨_, rfl, h1⟩
  | _, x :: ds, i + 1, d, h, e => by
    cases h with
    | cons h1 h2 => exact RDs.get (i := i) h2 e
theorem RDs.app : ∀ {vs ws : List V} {ds es : List D}, RDs K F vs ds → RDs K F ws es → RDs K F (vs ++ ws) (ds ++ es)
  | _, _, [], _, h, h' => by cases h; exact h'
  | _, _, d :: ds, _, h, h' => by
    cases h with
    | cons h1 h2 => exact .cons h1 (RDs.app h2 h')
theorem RDs.tk : ∀ {vs : List V} {ds : List D} (n : Nat), RDs K F vs ds → RDs K F (vs.take n) (ds.take n)
  | _, [], n, h => by cases h; simp; exact .nil
  | _, d :: ds, 0, h => by simp; exact .nil
  | _, d :: ds, n + 1, h => by
    cases h with
    | cons h1 h2 => exact .cons h1 (RDs.tk n h2)
theorem RDs.dp : ∀ {vs : List V} {ds : List D} (n : Nat), RDs K F vs ds → RDs K F (vs.drop n) (ds.drop n)
  | _, [], n, h => by cases h; simp; exact .nil
  | _, d :: ds, 0, h => h
  | _, d :: ds, n + 1, h => by
    cases h with
    | cons h1 h2 => exact RDs.dp n h2
theorem RDs.upd {x : V} {e : D} (r : RD K F x e) : ∀ {vs : List V} {ds : List D} (n : Nat), RDs K F vs ds → RDs K F (vs.set n x) (ds.set n e)
  | _, [], n, h => by cases h; exact .nil
  | _, d :: ds, 0, h => by
    cases h with
    | cons h1 h2 => exact .cons r h2
  | _, d :: ds, n + 1, h => by
    cases h with
    | cons h1 h2 => exact .cons h1 (RDs.upd r n h2)
theorem RDs.ints : ∀ (ns : List Int), RDs K F (ns.map V.int) (ns.map D.int)
  | [] => .nil
  | n :: ns => .cons (.int n) (RDs.ints ns)
end

/-! ### environments -/
/-- an error: its class's name, its attributes -/
structure Exn where
  c : Str
  fs : List (Str × D)
/-- further things that a name may own: a set of tuples, a dict with texts as keys -/
inductive Tg where
  | st (ds : List D)
  | dk (kvs : List (Key × D))
/-- what a slot holds: shared data that nobody changes any more, or a list that this name owns -/
inductive OV where
  | sh (d : D)
  | ow (xs : List D)
  /-- a dict with tuples as keys that this name owns -/
  | od (kvs : List (D × D))
  /-- an instance that this name owns (self in __init__) -/
  | oi (c : Str) (fs : List (Str × D))
  | th (t : Tg)
  /-- the error of an except clause -/
  | exc (x : Exn)
def OV.own : OV → Bool
  | .ow _ => true
  | .od _ => true
  | .oi _ _ => true
  | .th _ => true
  | .exc _ => false
  | .sh _ => false
/-- frozen: as plain data (a dict of the third kind is never frozen) -/
def OV.d : OV → D
  | .sh d => d
  | .ow xs => .lst xs
  | .od _ => .non
  | .oi _ _ => .non
  | .th _ => .non
  | .exc _ => .non
abbrev En := List (Option OV)
inductive Rs (α : Type) where
  | ok (a : α) (r : En)
  | bad
  | ex (x : Exn) (r : En)
@[inline] def Rs.bind {α β : Type} (x : Rs α) (k : α → En → Rs β) : Rs β :=
  match x with
  | .ok a r => k a r
  | .bad => .bad
  | .ex x r => .ex x r
def Rs.map {α β : Type} (f : α → β) (x : Rs α) : Rs β :=
  match x with
  | .ok a r => .ok (f a) r
  | .bad => .bad
  | .ex x r => .ex x r
/-- an error in it is as bad as anything -/
def Rs.noE {α : Type} (x : Rs α) : Rs α :=
  match x with
  | .ok a r => .ok a r
  | _ => .bad
def ofO {α : Type} (o : Option α) (r : En) : Rs α :=
  match o with
  | some a => .ok a r
  | none => .bad

/-- at a def's entry: the frozen heap, the heap, the slots of the parameters by reference and their addresses; X: further objects that stay as they are -/
structure G where
  F0 : Hp
  H0 : Hp
  B : List (Nat × Addr)
  X : List (Addr × HO)
  w : World
  /-- the wish about errors, the error that is handled -/
  W : Option WX
  xc : Option (Addr × Value × Option Addr)
  /-- the tables of code objects, with the name of all that they hold -/
  T : List (Addr × Str)

/-! data as a dict key -/
mutual
def D.nk : D → Option NestedKey
  | .non => some .none
  | .bl b => some (.num (if b = true then 1 else 0))
  | .int i => some (.num i)
  | .str x => some (.text x)
  | .tup ds => (nks ds).map NestedKey.tup
  | _ => none
def nks : List D → Option (List NestedKey)
  | [] => some []
  | d :: ds => d.nk.bind fun k => (nks ds).map fun ks => k :: ks
end
/-- the dict's object at a: its entries (key, the key's address, the value) -/
def OdO (w : World) (a : Addr) (xs : List (NestedKey × Addr × V)) : HO := .ext fun h => (a == sysModules) = false ∧ (xs.map (·.1)).Nodup ∧ ∃ us ep, Vals (xs.map (·.2.2)) us ∧ h.get? a = some { cls := .type "dict", data := .dict (List.zipWith (fun (x : NestedKey × Addr × V) (u : Value) => (⟨x.1.hash w, .ref x.2.1, u⟩ : DictEntry)) xs us).toArray ep }
inductive RDm (K : PySem.W.Frag) (F : Hp) : List (NestedKey × Addr × V) → List (D × D) → Prop
  | nil : RDm K F [] []
  | cons {k : NestedKey} {a : Addr} {v : V} {xs : List (NestedKey × Addr × V)} {kd d : D} {ds : List (D × D)} : RD K F (.ref a) kd → kd.nk = some k ∧ k.depth ≤ 8 → RD K F v d → RDm K F xs ds → RDm K F ((k, a, v) :: xs) ((kd, d) :: ds)
theorem RDm.mono {K : PySem.W.Frag} {F F' : Hp} (e : Same F F') : ∀ (ds : List (D × D)) {xs : List (NestedKey × Addr × V)}, RDm K F xs ds → RDm K F' xs ds
  | [], _, h => by cases h; exact .nil
  | (kd, d) :: ds, _, h => by
    cases h with
    | cons h1 h2 h3 h4 => exact .cons (RD.mono e kd h1) h2 (RD.mono e d h3) (RDm.mono e ds h4)
/-- the instance's object: class, dict, attributes -/
def OiO (x : Addr × Addr × List (Str × V)) : HO := .ins x.1 x.2.1 x.2.2
def RDi (K : PySem.W.Frag) (c : Str) (F : Hp) (x : Addr × Addr × List (Str × V)) (fs : List (Str × D)) : Prop := ClsAt K c x.1 ∧ RDf K F x.2.2 fs
theorem RDi.mono {K : PySem.W.Frag} {c : Str} {F F' : Hp} (e : Same F F') (fs : List (Str × D)) {x : Addr × Addr × List (Str × V)} (h : RDi K c F x fs) : RDi K c F' x fs := ⟨h.1, RDf.mono e fs h.2⟩
/-- the members of a set, each at its address -/
inductive RDn (K : PySem.W.Frag) (F : Hp) : List KA → List D → Prop
  | nil : RDn K F [] []
  | cons {a : Addr} {k : NestedKey} {d : D} {L : List KA} {ds : List D} : RD K F (.ref a) d → d.nk = some k ∧ k.depth ≤ 8 → RDn K F L ds → RDn K F ((a, k) :: L) (d :: ds)
theorem RDn.mono {K : PySem.W.Frag} {F F' : Hp} (e : Same F F') : ∀ (ds : List D) {L : List KA}, RDn K F L ds → RDn K F' L ds
  | [], _, h => by cases h; exact .nil
  | d :: ds, _, h => by
    cases h with
    | cons h1 h2 h3 => exact .cons (RD.mono e d h1) h2 (RDn.mono e ds h3)
/-- the set's object: what was put in, in its order -/
def StO (w : World) (a : Addr) (ks : List KA) : HO := .ext fun h => ∃ L, SetN0 w h a L ∧ GotN ks ks.length L
def RT (K : PySem.W.Frag) (w : World) (F : Hp) (a : Addr) (o : HO) : Tg → Prop
  | .st ds => ∃ L, o = StO w a L ∧ RDn K F L ds
  | .dk kvs => ∃ vs, o = .dK vs ∧ RDk K F vs kvs
theorem RT.mono {K : PySem.W.Frag} {w : World} {a : Addr} {o : HO} {F F' : Hp} (e : Same F F') : ∀ (t : Tg), RT K w F a o t → RT K w F' a o t
  | .st ds, ⟨L, h1, h2⟩ => ⟨L, h1, RDn.mono e ds h2⟩
  | .dk kvs, ⟨vs, h1, h2⟩ => ⟨vs, h1, RDk.mono e kvs h2⟩
/-- an error of that class and with that dict is read as x -/
def RX (K : PySem.W.Frag) (F : Hp) (cls : Value) (d : Option Addr) (x : Exn) : Prop := ∃ C, cls = .ref C ∧ ClsAt K x.c C ∧ ((d = none ∧ x.fs = []) ∨ ∃ dd vs, d = some dd ∧ F dd = some (.xd vs) ∧ RDf K F vs x.fs)
theorem RX.mono {K : PySem.W.Frag} {F F' : Hp} {cls : Value} {d : Option Addr} {x : Exn} (e : Same F F') (h : RX K F cls d x) : RX K F' cls d x := by
  obtain ⟨C, h1, h2, h3 | ⟨dd, vs, h3, h4, h5⟩⟩ := h
  · exact ⟨C, h1, h2, .inl h3⟩
  · exact ⟨C, h1, h2, .inr ⟨dd, vs, h3, e _ _ h4, RDf.mono e _ h5⟩⟩
def RE (K : PySem.W.Frag) (xc : Option (Addr × Value × Option Addr)) (F : Hp) (v : V) (x : Exn) : Prop := ∃ a cls d, v = .ref a ∧ xc = some (a, cls, d) ∧ RX K F cls d x
theorem RE.mono {K : PySem.W.Frag} {xc : Option (Addr × Value × Option Addr)} {F F' : Hp} {v : V} {x : Exn} (e : Same F F') (h : RE K xc F v x) : RE K xc F' v x := by
  obtain ⟨a, cls, d, h1, h2, h3⟩ := h
  exact ⟨a, cls, d, h1, h2, h3.mono e⟩
def RO (K : PySem.W.Frag) (w : World) (xc : Option (Addr × Value × Option Addr)) (F H : Hp) (v : V) : OV → Prop
  | .sh d => RD K F v d
  | .ow xs => ∃ a vs, v = .ref a ∧ F a = none ∧ H a = some (.lst vs) ∧ RDs K F vs xs
  | .od kvs => ∃ a xs, v = .ref a ∧ F a = none ∧ H a = some (OdO w a xs) ∧ RDm K F xs kvs
  | .oi c fs => ∃ a xs, v = .ref a ∧ F a = none ∧ H a = some (OiO xs) ∧ RDi K c F xs fs
  | .th t => ∃ a o, v = .ref a ∧ F a = none ∧ H a = some o ∧ RT K w F a o t
  | .exc x => RE K xc F v x

/-- the table at P holds code objects of the name q alone -/
def TabF (F H : Hp) (P : Addr) (q : Str) : Prop := ∃ ps : Array Value, H P = some (.tbl ps) ∧ TriplesOk ps.toList ∧ ∀ (pos : Pos) (cv : Value), codeAmong pos ps.toList = some cv → ∃ c, cv = .ref c ∧ F c = some (LamX.CodeO c q)
def Tbs (g : G) (F H : Hp) : Prop := ∀ p ∈ g.T, F p.1 = none ∧ g.H0 p.1 ≠ none ∧ (∀ q ∈ g.B, q.2 ≠ p.1) ∧ TabF F H p.1 p.2
section
variable {g : G} {F F' H H' : Hp} {a : Addr} {o : HO}
theorem Tbs.go (h : Tbs g F H) (sF : Same F F') (nF : ∀ p ∈ g.T, F' p.1 = none) (sH : ∀ p ∈ g.T, ∀ ps, H p.1 = some (.tbl ps) → H' p.1 = some (.tbl ps)) : Tbs g F' H' := fun p hp => by
  obtain ⟨_, h2, h3, ps, h4, h5, h6⟩ := h p hp
  refine ⟨nF p hp, h2, h3, ps, sH p hp ps h4, h5, fun pos cv e => ?_⟩
  obtain ⟨c, e1, e2⟩ := h6 pos cv e
  exact ⟨c, e1, sF _ _ e2⟩
theorem Tbs.tn (h : Tbs g F H) (h0 : g.H0 a = none) : ∀ p ∈ g.T, p.1 ≠ a := fun p hp z => (h p hp).2.1 (by rw [z]; exact h0)
theorem Tbs.tno (h : Tbs g F H) {i : Nat} (ao : g.H0 a = none ∨ (i, a) ∈ g.B) : ∀ p ∈ g.T, p.1 ≠ a := fun p hp z => by
  rcases ao with q | q
  · exact h.tn q p hp z
  · exact (h p hp).2.2.1 _ q z.symm
theorem Tbs.fresh (h : Tbs g F H) (hp : H a = none) : ∀ p ∈ g.T, p.1 ≠ a := fun p hm z => by
  obtain ⟨_, _, _, ps, h4, _⟩ := h p hm
  rw [z, hp] at h4
  cases h4
theorem Tbs.at (h : Tbs g F H) (n : ∀ p ∈ g.T, p.1 ≠ a) : Tbs g F (L2.upd H a o) := h.go (fun _ _ e => e) (fun p hp => (h p hp).1) fun p hp ps e => by rw [upd_ne (n p hp)]; exact e
theorem Tbs.atF (h : Tbs g F H) (n : ∀ p ∈ g.T, p.1 ≠ a) (hF : F a = none) : Tbs g (L2.upd F a o) H := h.go (fun b x e => by
  rw [upd_ne (ne_of_none e hF)]
  exact e) (fun p hp => by rw [upd_ne (n p hp)]; exact (h p hp).1) fun p hp ps e => e
theorem Tbs.atFH {u : HO} (h : Tbs g F H) (n : ∀ p ∈ g.T, p.1 ≠ a) (hF : F a = none) : Tbs g (L2.upd F a o) (L2.upd H a u) := (h.atF n hF).at n
theorem Tbs.up (h : Tbs g F H) (e : Same H H') : Tbs g F H' := h.go (fun _ _ e => e) (fun p hp => (h p hp).1) fun p hp ps z => e _ _ z
theorem Tbs.call (h : Tbs g F H) (s1 : Same F F') (s3 : Same H H') (fr : ∀ b o, F' b = some o → F b = none → H b = none) : Tbs g F' H' := h.go s1 (fun p hp => by
  cases z : F' p.1 with
  | none => rfl
  | some u =>
    obtain ⟨h1, _, _, ps, h4, _⟩ := h p hp
    rw [fr _ _ z h1] at h4
    cases h4) fun p hp ps z => s3 _ _ z
theorem Tbs.callA (h : Tbs g F H) (s1 : Same F F') (s3 : ∀ b o, H b = some o → b ≠ a → H' b = some o) (fr : ∀ b o, F' b = some o → F b = none → H b = none) (n : ∀ p ∈ g.T, p.1 ≠ a) : Tbs g F' H' := h.go s1 (fun p hp => by
  cases z : F' p.1 with
  | none => rfl
  | some u =>
    obtain ⟨h1, _, _, ps, h4, _⟩ := h p hp
    rw [fr _ _ z h1] at h4
    cases h4) fun p hp ps z => s3 _ _ z (n p hp)
end
structure Rel (K : PySem.W.Frag) (g : G) (F H : Hp) (s : St) (r : En) : Prop where
  sub : Same F H
  f0 : Same g.F0 F
  fnew : ∀ b o, F b = some o → g.F0 b = none → g.H0 b = none
  keep : ∀ b o, g.H0 b = some o → (∀ p ∈ g.B, p.2 ≠ b) → (∀ p ∈ g.T, p.1 ≠ b) → H b = some o
  slot : ∀ (i : Nat) (o : OV), r[i]? = some (some o) → ∃ v, s[i]? = some (some v) ∧ RO K g.w g.xc F H v o
  own : ∀ (i : Nat) (o : OV) (a : Addr), r[i]? = some (some o) → o.own = true → s[i]? = some (some (.ref a)) → g.H0 a = none ∨ (i, a) ∈ g.B
  dist : ∀ (i j : Nat) (o u : OV) (a : Addr), i ≠ j → r[i]? = some (some o) → o.own = true → r[j]? = some (some u) → u.own = true → s[i]? = some (some (.ref a)) → s[j]? = some (some (.ref a)) → False
  pin : ∀ p ∈ g.B, s[p.1]? = some (some (.ref p.2)) ∧ ∃ o, r[p.1]? = some (some o) ∧ o.own = true
  len : r.length = s.length
  tb : Tbs g F H
  ext : ∀ p ∈ g.X, H p.1 = some p.2 ∧ F p.1 = none ∧ ∀ (j : Nat) (o : OV), r[j]? = some (some o) → o.own = true → s[j]? ≠ some (some (.ref p.1))

/-- what is wanted of an error that is let out -/
def exW (K : PySem.W.Frag) (g : G) (x : Exn) (r : En) : Prop := match g.W with
  | none => False
  | some W => ∀ F' H' s' cls d, Rel K g F' H' s' r → RX K F' cls d x → W cls d s' H'
/-- what is wanted of a result -/
def post {α : Type} (K : PySem.W.Frag) (g : G) (P : α → En → Prop) : Rs α → Prop
  | .ok a r => P a r
  | .bad => False
  | .ex x r => exW K g x r
section
variable {K : PySem.W.Frag} {g : G}
theorem post_bind {α β : Type} {P : β → En → Prop} {x : Rs α} {k : α → En → Rs β} (h : post K g P (x.bind k)) : post K g (fun a r => post K g P (k a r)) x := by
  cases x with
  | ok a r => exact h
  | bad => exact h
  | ex x r => exact h
theorem post_map {α β : Type} {P : β → En → Prop} {x : Rs α} {f : α → β} (h : post K g P (x.map f)) : post K g (fun a r => P (f a) r) x := by
  cases x with
  | ok a r => exact h
  | bad => exact h
  | ex x r => exact h
theorem post_mono {α : Type} {P P' : α → En → Prop} {x : Rs α} (h : post K g P x) (i : ∀ a r, P a r → P' a r) : post K g P' x := by
  cases x with
  | ok a r => exact i a r h
  | bad => exact h
  | ex x r => exact h
theorem post_ofO {α : Type} {P : α → En → Prop} {o : Option α} {r : En} (h : post K g P (ofO o r)) : ∃ a, o = some a ∧ P a r := by
  cases o with
  | none => exact h.elim
  | some a => exact ⟨a, rfl, h⟩
/-- no error: then the wish does not matter -/
theorem post_noE {α : Type} {P : α → En → Prop} {x : Rs α} {g' : G} (h : post K g P x.noE) : post K g' P x := by
  cases x with
  | ok a r => exact h
  | bad => exact h
  | ex x r => exact h.elim
end

section
variable {K : PySem.W.Frag} {g : G} {F F' H H' : Hp} {s : St} {r : En}
theorem Rel.live (R : Rel K g F H s r) {b : Addr} (h : H b = none) : g.H0 b = none := by
  cases e : g.H0 b with
  | none => rfl
  | some o =>
    by_cases hb : ∀ p ∈ g.B, p.2 ≠ b
    · by_cases ht : ∀ p ∈ g.T, p.1 ≠ b
      · rw [R.keep b o e hb ht] at h; cases h
      · exact (ht (R.tb.fresh h)).elim
    · have : ∃ p ∈ g.B, p.2 = b := Classical.byContradiction fun hn => hb fun p hp q => hn ⟨p, hp, q⟩
      obtain ⟨p, hp, q⟩ := this
      obtain ⟨h1, o', h2, h3⟩ := R.pin p hp
      obtain ⟨v, h4, h5⟩ := R.slot _ _ h2
      rw [h1] at h4
      cases h4
      cases o' with
      | sh d => cases h3
      | ow xs =>
        obtain ⟨a, vs, e1, _, e2, _⟩ := h5
        cases e1
        rw [q, h] at e2; cases e2
      | od xs =>
        obtain ⟨a, vs, e1, _, e2, _⟩ := h5
        cases e1
        rw [q, h] at e2; cases e2
      | oi c xs =>
        obtain ⟨a, vs, e1, _, e2, _⟩ := h5
        cases e1
        rw [q, h] at e2; cases e2
      | th xs =>
        obtain ⟨a, vs, e1, _, e2, _⟩ := h5
        cases e1
        rw [q, h] at e2; cases e2
      | exc c => cases h3
theorem Rel.ff (R : Rel K g F H s r) {b : Addr} (h : H b = none) : F b = none := R.sub.free h
theorem RO.mono {w : World} {xc : Option (Addr × Value × Option Addr)} {v : V} {o : OV} (e : Same F F') (eh : ∀ a vs, v = .ref a → F a = none → H a = some vs → F' a = none ∧ H' a = some vs) (h : RO K w xc F H v o) : RO K w xc F' H' v o := by
  cases o with
  | sh d => exact RD.mono e d h
  | ow xs =>
    obtain ⟨a, vs, e1, e2, e3, e4⟩ := h
    obtain ⟨e5, e6⟩ := eh a _ e1 e2 e3
    exact ⟨a, vs, e1, e5, e6, RDs.mono e xs e4⟩
  | od xs =>
    obtain ⟨a, vs, e1, e2, e3, e4⟩ := h
    obtain ⟨e5, e6⟩ := eh a _ e1 e2 e3
    exact ⟨a, vs, e1, e5, e6, RDm.mono e xs e4⟩
  | oi c xs =>
    obtain ⟨a, vs, e1, e2, e3, e4⟩ := h
    obtain ⟨e5, e6⟩ := eh a _ e1 e2 e3
    exact ⟨a, vs, e1, e5, e6, RDi.mono e xs e4⟩
  | th xs =>
    obtain ⟨a, vs, e1, e2, e3, e4⟩ := h
    obtain ⟨e5, e6⟩ := eh a _ e1 e2 e3
    exact ⟨a, vs, e1, e5, e6, RT.mono e xs e4⟩
  | exc c => exact RE.mono e h
theorem same_upd {H : Hp} {p : Addr} {o : HO} (h : H p = none) : Same H (L2.upd H p o) := fun b x e => by
  rw [upd_ne (ne_of_none e h)]
  exact e
/-- a new object, frozen at once -/
theorem Rel.alloc (R : Rel K g F H s r) {p : Addr} {o : HO} (h : H p = none) : Rel K g (L2.upd F p o) (L2.upd H p o) s r := by
  have hF := R.ff h
  refine ⟨fun b u e => ?_, R.f0.trans (same_upd hF), fun b u e e0 => ?_, fun b u e hb ht => ?_, fun i u e => ?_, R.own, R.dist, R.pin, R.len, R.tb.atFH (R.tb.fresh h) hF, fun q hq => ?_⟩
  · by_cases hb : b = p
    · subst hb; rw [upd_same] at e ⊢; exact e
    · rw [upd_ne hb] at e ⊢; exact R.sub b u e
  · by_cases hb : b = p
    · subst hb; exact R.live h
    · rw [upd_ne hb] at e; exact R.fnew b u e e0
  · have q := R.keep b u e hb ht
    rw [upd_ne (ne_of_none q h)]; exact q
  · obtain ⟨v, h1, h2⟩ := R.slot i u e
    refine ⟨v, h1, h2.mono (same_upd hF) fun a vs e1 e2 e3 => ?_⟩
    have hn := ne_of_none e3 h
    rw [upd_ne hn, upd_ne hn]
    exact ⟨e2, e3⟩
  · obtain ⟨x1, x2, x3⟩ := R.ext q hq
    have hn := ne_of_none x1 h
    rw [upd_ne hn, upd_ne hn]
    exact ⟨x1, x2, x3⟩
/-- a new object, not frozen -/
theorem Rel.laid (R : Rel K g F H s r) {p : Addr} {o : HO} (h : H p = none) : Rel K g F (L2.upd H p o) s r := by
  refine ⟨R.sub.trans (same_upd h), R.f0, R.fnew, fun b u e hb ht => same_upd h b u (R.keep b u e hb ht), fun i u e => ?_, R.own, R.dist, R.pin, R.len, R.tb.at (R.tb.fresh h), fun q hq => ⟨same_upd h _ _ (R.ext q hq).1, (R.ext q hq).2⟩⟩
  obtain ⟨v, h1, h2⟩ := R.slot i u e
  exact ⟨v, h1, h2.mono (Same.refl F) fun a vs e1 e2 e3 => ⟨e2, same_upd h _ _ e3⟩⟩
end

/-- a value that an expression gives: an owned list is new and no slot's -/
def RV (K : PySem.W.Frag) (g : G) (F H : Hp) (s : St) (r : En) (v : V) : OV → Prop
  | .sh d => RD K F v d
  | .ow xs => ∃ a vs, v = .ref a ∧ F a = none ∧ H a = some (.lst vs) ∧ RDs K F vs xs ∧ g.H0 a = none ∧ (∀ (j : Nat) (o : OV), r[j]? = some (some o) → o.own = true → s[j]? ≠ some (some (.ref a))) ∧ ∀ p ∈ g.X, p.1 ≠ a
  | .od _ => False
  | .oi _ _ => False
  | .th _ => False
  | .exc _ => False

/-! ### readings by data -/
def PO (K : PySem.W.Frag) (g : G) (F : Hp) (s : St) (Q : VK) (o : OV) (r' : En) : Prop := ∀ F' H' v, Same F F' → Rel K g F' H' s r' → RV K g F' H' s r' v o → Q v H'
def PD (K : PySem.W.Frag) (g : G) (F : Hp) (s : St) (Q : VK) (d : D) (r' : En) : Prop := ∀ F' H' v, Same F F' → Rel K g F' H' s r' → RD K F' v d → Q v H'
def tO (K : PySem.W.Frag) (g : G) (f : En → Rs OV) : TE := fun s H Q => ∃ F r, Rel K g F H s r ∧ post K g (PO K g F s Q) (f r)
def tD (K : PySem.W.Frag) (g : G) (f : En → Rs D) : TE := fun s H Q => ∃ F r, Rel K g F H s r ∧ post K g (PD K g F s Q) (f r)
/-- the expression e computes f, by data -/
def DE (X : Cx) (g : G) (e : Expr) (f : En → Rs D) : Prop := PE X e (tD X.K g f)
def DO (X : Cx) (g : G) (e : Expr) (f : En → Rs OV) : Prop := PE X e (tO X.K g f)

theorem PE.imp {X : Cx} {e : Expr} {t t' : TE} (h : PE X e t) (i : ∀ s H Q, t' s H Q → t s H Q) : PE X e t' :=
  ⟨fun pins s σ H Q I q => h.run pins s σ H Q I (i σ H Q q)⟩
theorem PT.imp {X : Cx} {e : Expr} {t t' : TT} (h : PT X e t) (i : ∀ s H Q, t' s H Q → t s H Q) : PT X e t' :=
  ⟨fun pins s σ H Q I q => h.run pins s σ H Q I (i σ H Q q)⟩
theorem PS.imp {X : Cx} {e : Stmt} {t t' : TS} (h : PS X e t) (i : ∀ D s H, t' D s H → t D s H) : PS X e t' :=
  ⟨fun pins s σ H Q I q => h.run pins s σ H Q I (i Q σ H q)⟩
theorem PSs.imp {X : Cx} {e : List Stmt} {t t' : TS} (h : PSs X e t) (i : ∀ D s H, t' D s H → t D s H) : PSs X e t' :=
  ⟨fun pins s σ H Q I q => h.run pins s σ H Q I (i Q σ H q)⟩
theorem PI.imp {X : Cx} {tg e : Expr} {t t' : TI} (h : PI X tg e t) (i : ∀ s H R, t' s H R → t s H R) : PI X tg e t' :=
  ⟨fun pins s σ H Q I q => h.run pins s σ H Q I (i σ H Q q)⟩
theorem PA.imp {X : Cx} {e : List Expr} {t t' : TA} (h : PA X e t) (i : ∀ s H Q, t' s H Q → t s H Q) : PA X e t' :=
  ⟨fun pos pins s σ H Q I q => h.run pos pins s σ H Q I (i σ H Q q)⟩

section
variable {X : Cx} {g : G} {e a b : Expr} {pos : Pos}
/-- freeze what an expression gives -/
theorem RV.frz {K : PySem.W.Frag} {F H : Hp} {s : St} {r : En} {v : V} {o : OV} (R : Rel K g F H s r) (hv : RV K g F H s r v o) : ∃ F', Same F F' ∧ Rel K g F' H s r ∧ RD K F' v o.d := by
  cases o with
  | sh d => exact ⟨F, Same.refl _, R, hv⟩
  | ow xs =>
    obtain ⟨a, vs, rfl, e2, e3, e4, e5, e6, e7⟩ := hv
    have sF : Same F (L2.upd F a (.lst vs)) := same_upd e2
    refine ⟨L2.upd F a (.lst vs), sF, ⟨fun b u e => ?_, R.f0.trans sF, fun b u e e0 => ?_, R.keep, fun i u e => ?_, R.own, R.dist, R.pin, R.len, R.tb.atF (R.tb.tn e5) e2, fun q hq => ⟨(R.ext q hq).1, by rw [upd_ne (e7 q hq)]; exact (R.ext q hq).2.1, (R.ext q hq).2.2⟩⟩, .lst upd_same (RDs.mono sF xs e4)⟩
    · by_cases hb : b = a
      · subst hb; rw [L2.upd_same] at e; cases e; exact e3
      · rw [upd_ne hb] at e; exact R.sub b u e
    · by_cases hb : b = a
      · subst hb; exact e5
      · rw [upd_ne hb] at e; exact R.fnew b u e e0
    · obtain ⟨v, h1, h2⟩ := R.slot i u e
      refine ⟨v, h1, ?_⟩
      cases u with
      | sh d => exact RD.mono sF d h2
      | ow ys =>
        obtain ⟨b, ws, rfl, f2, f3, f4⟩ := h2
        have hb : b ≠ a := fun z => e6 i _ e rfl (by rw [h1, z])
        exact ⟨b, ws, rfl, by rw [upd_ne hb]; exact f2, f3, RDs.mono sF ys f4⟩
      | od ys =>
        obtain ⟨b, ws, rfl, f2, f3, f4⟩ := h2
        have hb : b ≠ a := fun z => e6 i _ e rfl (by rw [h1, z])
        exact ⟨b, ws, rfl, by rw [upd_ne hb]; exact f2, f3, RDm.mono sF ys f4⟩
      | oi c ys =>
        obtain ⟨b, ws, rfl, f2, f3, f4⟩ := h2
        have hb : b ≠ a := fun z => e6 i _ e rfl (by rw [h1, z])
        exact ⟨b, ws, rfl, by rw [upd_ne hb]; exact f2, f3, RDi.mono sF ys f4⟩
      | th ys =>
        obtain ⟨b, ws, rfl, f2, f3, f4⟩ := h2
        have hb : b ≠ a := fun z => e6 i _ e rfl (by rw [h1, z])
        exact ⟨b, ws, rfl, by rw [upd_ne hb]; exact f2, f3, RT.mono sF ys f4⟩
      | exc c => exact RE.mono sF h2
  | od xs => exact hv.elim
  | oi c xs => exact hv.elim
  | th xs => exact hv.elim
  | exc c => exact hv.elim
theorem DO.frz {f : En → Rs OV} (h : DO X g e f) : DE X g e (fun r => (f r).map OV.d) :=
  PE.imp h fun s H Q ⟨F, r, R, q⟩ => ⟨F, r, R, post_mono (post_map q) fun o r' q F' H' v sm R' hv => by
    obtain ⟨F2, s2, R2, h2⟩ := RV.frz R' hv
    exact q F2 H' v (sm.trans s2) R2 h2⟩
theorem DE.sh {f : En → Rs D} (h : DE X g e f) : DO X g e (fun r => (f r).map OV.sh) :=
  PE.imp h fun s H Q ⟨F, r, R, q⟩ => ⟨F, r, R, post_mono (post_map q) fun o r' q F' H' v sm R' hv => q F' H' v sm R' hv⟩

/-! ### constants and names -/
def cD (d : D) : En → Rs D := fun r => .ok d r
theorem de_int {i : Int} {j : Nat} : DE X g (.Constant (.int i) j pos) (cD (.int i)) :=
  PE.imp pe_int fun s H Q ⟨F, r, R, q⟩ => q F H _ (Same.refl _) R (.int i)
theorem de_bl {i : Bool} {j : Nat} : DE X g (.Constant (.bool i) j pos) (cD (.bl i)) :=
  PE.imp pe_bl fun s H Q ⟨F, r, R, q⟩ => q F H _ (Same.refl _) R (.bl i)
theorem de_str {i : Str} {j : Nat} : DE X g (.Constant (.str i) j pos) (cD (.str i)) :=
  PE.imp pe_str fun s H Q ⟨F, r, R, q⟩ => q F H _ (Same.refl _) R (.str i)
theorem de_non {j : Nat} : DE X g (.Constant .none j pos) (cD .non) :=
  PE.imp pe_non fun s H Q ⟨F, r, R, q⟩ => q F H _ (Same.refl _) R .non
/-- a name's value: what is owned is frozen (not a parameter by reference) -/
def vD (i : Nat) : En → Rs D := fun r =>
  match r[i]? with
  | some (some (.sh d)) => .ok d r
  | some (some (.ow xs)) => .ok (.lst xs) (r.set i (some (.sh (.lst xs))))
  | _ => .bad
theorem de_var (i : Nat) {x : Str} (hb : ∀ p ∈ g.B, p.1 ≠ i) (h : PE X (.Name x pos) (tVar i)) : DE X g (.Name x pos) (vD i) := by
  refine PE.imp h fun s H Q ⟨F, r, R, q⟩ => ?_
  unfold vD at q
  revert q
  cases e : r[i]? with
  | none => exact fun q => q.elim
  | some w =>
    cases w with
    | none => exact fun q => q.elim
    | some o =>
      obtain ⟨v, h1, h2⟩ := R.slot i o e
      cases o with
      | sh d => exact fun q => ⟨v, h1, q F H v (Same.refl _) R h2⟩
      | ow xs =>
        intro q
        obtain ⟨a, vs, rfl, e2, e3, e4⟩ := h2
        have sF : Same F (L2.upd F a (.lst vs)) := same_upd e2
        have hi : i < r.length := by
          have := (List.getElem?_eq_some_iff.mp e).1
          exact this
        have ne : ∀ j u, (r.set i (some (.sh (.lst xs))))[j]? = some (some u) → u.own = true → j ≠ i ∧ r[j]? = some (some u) := fun j u z zo => by
          by_cases hj : i = j
          · subst hj
            rw [List.getElem?_set_self hi] at z
            cases z
            cases zo
          · rw [List.getElem?_set_ne hj] at z
            exact ⟨fun z => hj z.symm, z⟩
        have h0 : g.H0 a = none := by
          rcases R.own i _ a e rfl h1 with z | z
          · exact z
          · exact absurd rfl (hb _ z)
        refine ⟨_, h1, q (L2.upd F a (.lst vs)) H (.ref a) sF ⟨fun b u e => ?_, R.f0.trans sF, fun b u e e0 => ?_, R.keep, fun j u z => ?_, fun j u b z zo => ?_, fun j k u w b hjk z zo y yo => ?_, fun p hp => ?_, ?_, R.tb.atF (R.tb.tn h0) e2, fun p hp => ?_⟩ (.lst upd_same (RDs.mono sF xs e4))⟩
        · by_cases hb : b = a
          · subst hb; rw [upd_same] at e; cases e; exact e3
          · rw [upd_ne hb] at e; exact R.sub b u e
        · by_cases hb : b = a
          · subst hb; exact h0
          · rw [upd_ne hb] at e; exact R.fnew b u e e0
        · by_cases hj : i = j
          · subst hj
            rw [List.getElem?_set_self hi] at z
            cases z
            exact ⟨_, h1, .lst upd_same (RDs.mono sF xs e4)⟩
          · rw [List.getElem?_set_ne hj] at z
            obtain ⟨w, g1, g2⟩ := R.slot j u z
            refine ⟨w, g1, ?_⟩
            cases u with
            | sh d => exact RD.mono sF d g2
            | ow ys =>
              obtain ⟨b, ws, rfl, f2, f3, f4⟩ := g2
              have hb : b ≠ a := fun zz => R.dist i j _ _ a hj e rfl z rfl h1 (by rw [g1, zz])
              exact ⟨b, ws, rfl, by rw [upd_ne hb]; exact f2, f3, RDs.mono sF ys f4⟩
            | od ys =>
              obtain ⟨b, ws, rfl, f2, f3, f4⟩ := g2
              have hb : b ≠ a := fun zz => R.dist i j _ _ a hj e rfl z rfl h1 (by rw [g1, zz])
              exact ⟨b, ws, rfl, by rw [upd_ne hb]; exact f2, f3, RDm.mono sF ys f4⟩
            | oi c ys =>
              obtain ⟨b, ws, rfl, f2, f3, f4⟩ := g2
              have hb : b ≠ a := fun zz => R.dist i j _ _ a hj e rfl z rfl h1 (by rw [g1, zz])
              exact ⟨b, ws, rfl, by rw [upd_ne hb]; exact f2, f3, RDi.mono sF ys f4⟩
            | th ys =>
              obtain ⟨b, ws, rfl, f2, f3, f4⟩ := g2
              have hb : b ≠ a := fun zz => R.dist i j _ _ a hj e rfl z rfl h1 (by rw [g1, zz])
              exact ⟨b, ws, rfl, by rw [upd_ne hb]; exact f2, f3, RT.mono sF ys f4⟩
            | exc c => exact RE.mono sF g2
        · obtain ⟨_, z'⟩ := ne j u z zo
          exact R.own j u b z' zo
        · obtain ⟨_, z'⟩ := ne j u z zo
          obtain ⟨_, y'⟩ := ne k w y yo
          exact R.dist j k u w b hjk z' zo y' yo
        · obtain ⟨p1, o, p2, p3⟩ := R.pin p hp
          refine ⟨p1, o, ?_, p3⟩
          rw [List.getElem?_set_ne fun z => hb p hp z.symm]
          exact p2
        · rw [List.length_set]; exact R.len
        · obtain ⟨x1, x2, x3⟩ := R.ext p hp
          refine ⟨x1, ?_, fun j u z zo => x3 j u (ne j u z zo).2 zo⟩
          have hn : p.1 ≠ a := fun zz => x3 i _ e rfl (by rw [h1, zz])
          rw [upd_ne hn]; exact x2
      | od xs => exact fun q => q.elim
      | oi c xs => exact fun q => q.elim
      | th xs => exact fun q => q.elim
      | exc c => exact fun q => q.elim
/-- a further object that stays -/
def G.more (g : G) (a : Addr) (o : HO) : G := { g with X := (a, o) :: g.X }
theorem Rel.more {K : PySem.W.Frag} {F H : Hp} {s : St} {r : En} {a : Addr} {o : HO} (R : Rel K g F H s r) (h1 : H a = some o) (h2 : F a = none) (h3 : ∀ (j : Nat) (o : OV), r[j]? = some (some o) → o.own = true → s[j]? ≠ some (some (.ref a))) : Rel K (g.more a o) F H s r :=
  ⟨R.sub, R.f0, R.fnew, R.keep, R.slot, R.own, R.dist, R.pin, R.len, R.tb, fun p hp => by
    rcases List.mem_cons.mp hp with e | hp
    · subst e; exact ⟨h1, h2, h3⟩
    · exact R.ext p hp⟩
theorem Rel.less {K : PySem.W.Frag} {F H : Hp} {s : St} {r : En} {a : Addr} {o : HO} (R : Rel K (g.more a o) F H s r) : Rel K g F H s r ∧ H a = some o ∧ F a = none ∧ ∀ (j : Nat) (o : OV), r[j]? = some (some o) → o.own = true → s[j]? ≠ some (some (.ref a)) :=
  ⟨⟨R.sub, R.f0, R.fnew, R.keep, R.slot, R.own, R.dist, R.pin, R.len, R.tb, fun p hp => R.ext p (List.mem_cons_of_mem _ hp)⟩, R.ext (a, o) (List.mem_cons_self ..)⟩
end
end DL

/-! Data layer, part 2: operands, operators, tests, displays, statements. -/
namespace DL
open PySem L2

/-! ### operands: an expression, or a name that is only looked at -/
inductive Opd where
  | ex (f : En → Rs D)
  | va (i : Nat)
/-- is the slot filled -/
def fill (r : En) (i : Nat) : Rs Unit :=
  match r[i]? with
  | some (some _) => .ok () r
  | _ => .bad
theorem post_fill {K : PySem.W.Frag} {g : G} {P : Unit → En → Prop} {r : En} {i : Nat} (h : post K g P (fill r i)) : (∃ o, r[i]? = some (some o)) ∧ P () r := by
  unfold fill at h
  split at h
  · next o e => exact ⟨⟨o, e⟩, h⟩
  · exact h.elim
def Opd.run : Opd → En → Rs (Sum D Nat)
  | .ex f, r => (f r).map Sum.inl
  | .va i, r => (fill r i).bind fun _ r => .ok (.inr i) r
def lookV (r : En) (i : Nat) : Option OV :=
  match r[i]? with
  | some (some (.sh d)) => some (.sh d)
  | some (some (.ow xs)) => some (.ow xs)
  | _ => none
theorem lookV_some {r : En} {i : Nat} {o : OV} (h : lookV r i = some o) : r[i]? = some (some o) := by
  unfold lookV at h
  split at h
  · next x e => rw [e, h]
  · next x e => rw [e, h]
  · cases h
theorem lookV_noi {r : En} {i : Nat} {c : Str} {kvs : List (Str × D)} (h : lookV r i = some (.oi c kvs)) : False := by
  unfold lookV at h
  split at h
  · cases h
  · cases h
  · cases h
theorem lookV_noth {r : En} {i : Nat} {t : Tg} (h : lookV r i = some (.th t)) : False := by
  unfold lookV at h
  split at h
  · cases h
  · cases h
  · cases h
theorem lookV_nox {r : En} {i : Nat} {x : Exn} (h : lookV r i = some (.exc x)) : False := by
  unfold lookV at h
  split at h
  · cases h
  · cases h
  · cases h
theorem lookV_nod {r : En} {i : Nat} {kvs : List (D × D)} (h : lookV r i = some (.od kvs)) : False := by
  unfold lookV at h
  split at h
  · cases h
  · cases h
  · cases h
def look (r : En) : Sum D Nat → Option D
  | .inl d => some d
  | .inr i => (lookV r i).map OV.d
/-- read as data: frozen, or a list whose items are frozen -/
def RB (K : PySem.W.Frag) (F H : Hp) (v : V) (d : D) : Prop :=
  RD K F v d ∨ ∃ a vs xs, v = .ref a ∧ d = .lst xs ∧ H a = some (.lst vs) ∧ RDs K F vs xs
def OpdOk (K : PySem.W.Frag) (F : Hp) (s : St) (v : V) : Sum D Nat → Prop
  | .inl d => RD K F v d
  | .inr i => s[i]? = some (some v)
def PB (K : PySem.W.Frag) (g : G) (F : Hp) (s : St) (Q : VK) (z : Sum D Nat) (r' : En) : Prop := ∀ F' H' v, Same F F' → Rel K g F' H' s r' → OpdOk K F' s v z → Q v H'
def tB (K : PySem.W.Frag) (g : G) (p : Opd) : TE := fun s H Q => ∃ F r, Rel K g F H s r ∧ post K g (PB K g F s Q) (p.run r)
def DB (X : Cx) (g : G) (e : Expr) (p : Opd) : Prop := PE X e (tB X.K g p)

section
variable {K : PySem.W.Frag} {g : G} {F F' H H' : Hp} {s : St} {r : En} {v : V} {d : D}
theorem RB.rd (sub : Same F H) (h : RB K F H v d) : RD K H v d := by
  rcases h with h | ⟨a, vs, xs, rfl, rfl, h1, h2⟩
  · exact RD.mono sub d h
  · exact .lst h1 (RDs.mono sub xs h2)
theorem RB.lst {ds : List D} (sub : Same F H) (h : RB K F H v (.lst ds)) : ∃ a vs, v = .ref a ∧ H a = some (.lst vs) ∧ RDs K F vs ds := by
  rcases h with h | ⟨a, vs, xs, rfl, e, h1, h2⟩
  · cases h with
    | lst h1 h2 => exact ⟨_, _, rfl, sub _ _ h1, h2⟩
  · cases e
    exact ⟨a, vs, rfl, h1, h2⟩
theorem RB.flat (h : RB K F H v d) (hd : ∀ xs, d ≠ .lst xs) : RD K F v d := by
  rcases h with h | ⟨a, vs, xs, rfl, e, h1, h2⟩
  · exact h
  · exact absurd e (hd xs)
theorem look_ok {z : Sum D Nat} (R : Rel K g F H s r) (h : OpdOk K F s v z) (e : look r z = some d) : RB K F H v d := by
  cases z with
  | inl x => cases e; exact .inl h
  | inr i =>
    obtain ⟨o, q, rfl⟩ := Option.map_eq_some_iff.mp e
    obtain ⟨w, h1, h2⟩ := R.slot i o (lookV_some q)
    have hv : s[i]? = some (some v) := h
    rw [hv] at h1
    cases h1
    cases o with
    | sh d => exact .inl h2
    | ow xs =>
      obtain ⟨a, vs, e1, _, e3, e4⟩ := h2
      exact .inr ⟨a, vs, xs, e1, rfl, e3, e4⟩
    | od xs => exact (lookV_nod q).elim
    | oi c xs => exact (lookV_noi q).elim
    | th xs => exact (lookV_noth q).elim
    | exc c => exact (lookV_nox q).elim
theorem OpdOk.mono {z : Sum D Nat} (e : Same F F') (h : OpdOk K F s v z) : OpdOk K F' s v z := by
  cases z with
  | inl x => exact RD.mono e x h
  | inr i => exact h
end

section
variable {X : Cx} {g : G} {e a b c : Expr} {pos : Pos} {p q : Opd}
theorem DE.opd {f : En → Rs D} (h : DE X g e f) : DB X g e (.ex f) := PE.imp h fun s H Q ⟨F, r, R, q⟩ => ⟨F, r, R, post_map (f := Sum.inl) q⟩
theorem db_var (i : Nat) {x : Str} (h : PE X (.Name x pos) (tVar i)) : DB X g (.Name x pos) (.va i) :=
  PE.imp h fun s H Q ⟨F, r, R, q⟩ => by
    obtain ⟨⟨o, e⟩, q⟩ := post_fill (post_bind q)
    obtain ⟨v, h1, h2⟩ := R.slot i o e
    exact ⟨v, h1, q F H v (Same.refl _) R h1⟩

/-! ### operators -/
def op1 (p : Opd) (sem : D → Option D) : En → Rs D := fun r => (p.run r).bind fun x r1 => ofO ((look r1 x).bind sem) r1
def op2 (p q : Opd) (sem : D → D → Option D) : En → Rs D := fun r => (p.run r).bind fun x r1 => (q.run r1).bind fun y r2 => ofO ((look r2 x).bind fun dx => (look r2 y).bind fun dy => sem dx dy) r2
/-- an operation on values that computes sem -/
def rD1 (K : PySem.W.Frag) (g : G) (sem : D → Option D) : V → Hp → VK → Prop := fun x H Q => ∃ F s r dx d, Rel K g F H s r ∧ RB K F H x dx ∧ sem dx = some d ∧ PD K g F s Q d r
def rD2 (K : PySem.W.Frag) (g : G) (sem : D → D → Option D) : R2 := fun x y H Q => ∃ F s r dx dy d, Rel K g F H s r ∧ RB K F H x dx ∧ RB K F H y dy ∧ sem dx dy = some d ∧ PD K g F s Q d r

theorem tD_op1 {K : PySem.W.Frag} {sem : D → Option D} {s : St} {H : Hp} {Q : VK} (h : tD K g (op1 p sem) s H Q) : tB K g p s H fun x H1 => rD1 K g sem x H1 Q := by
  obtain ⟨F, r, R, h⟩ := h
  refine ⟨F, r, R, post_mono (post_bind h) fun z r1 q F1 H1 v sm R1 hv => ?_⟩
  obtain ⟨d, e, q⟩ := post_ofO q
  obtain ⟨dx, e1, e2⟩ := Option.bind_eq_some_iff.mp e
  exact ⟨F1, s, r1, dx, d, R1, look_ok R1 hv e1, e2, fun F2 H2 v2 s2 R2 h2 => q F2 H2 v2 (sm.trans s2) R2 h2⟩
theorem tD_op2 {K : PySem.W.Frag} {sem : D → D → Option D} {s : St} {H : Hp} {Q : VK} (h : tD K g (op2 p q sem) s H Q) :
    tB K g p s H fun x H1 => tB K g q s H1 fun y H2 => rD2 K g sem x y H2 Q := by
  obtain ⟨F, r, R, h⟩ := h
  refine ⟨F, r, R, post_mono (post_bind h) fun z r1 q1 F1 H1 v sm R1 hv => ⟨F1, r1, R1, post_mono (post_bind q1) fun y r2 q2 F2 H2 w s2 R2 hw => ?_⟩⟩
  obtain ⟨d, e, q2⟩ := post_ofO q2
  obtain ⟨dx, e1, e⟩ := Option.bind_eq_some_iff.mp e
  obtain ⟨dy, e2, e3⟩ := Option.bind_eq_some_iff.mp e
  exact ⟨F2, s, r2, dx, dy, d, R2, look_ok R2 (hv.mono s2) e1, look_ok R2 hw e2, e3, fun F3 H3 v3 s3 R3 h3 => q2 F3 H3 v3 ((sm.trans s2).trans s3) R3 h3⟩
theorem de_op {op : Operator} {sem : D → D → Option D} (ho : OpR X (binaryOp op) (rD2 X.K g sem)) (ha : DB X g a p) (hb : DB X g b q) : DE X g (.BinOp a op b pos) (op2 p q sem) :=
  PE.imp (pe_op ho ha hb) fun s H Q h => tD_op2 h
theorem de_un {op : UnaryOp} {sem : D → Option D} (ho : UnR X (unaryOp op) (rD1 X.K g sem)) (ha : DB X g a p) : DE X g (.UnaryOp op a pos) (op1 p sem) :=
  PE.imp (pe_un ho ha) fun s H Q h => tD_op1 h
theorem de_cmp {op : CmpOp} {sem : D → D → Option D} (ho : OpR X (compareOp op) (rD2 X.K g sem)) (ha : DB X g a p) (hb : DB X g b q) (hm : behindInMarks op b = false) : DE X g (.Compare a [op] [b] pos) (op2 p q sem) :=
  PE.imp (pe_cmpR ho ha hb hm) fun s H Q h => tD_op2 h
theorem de_ix {sem : D → D → Option D} (ho : IxR X (rD2 X.K g sem)) (ha : DB X g a p) (hb : DB X g b q) (hs : PlainIx b) : DE X g (.Subscript a b pos) (op2 p q sem) :=
  PE.imp (pe_ix ho ha hb hs) fun s H Q h => tD_op2 h

/-! ### tests -/
def PT' (K : PySem.W.Frag) (g : G) (F : Hp) (s : St) (Q : Bool → Hp → Prop) (b : Bool) (r' : En) : Prop := ∀ F' H', Same F F' → Rel K g F' H' s r' → Q b H'
def tTD (K : PySem.W.Frag) (g : G) (f : En → Rs Bool) : TT := fun s H Q => ∃ F r, Rel K g F H s r ∧ post K g (PT' K g F s Q) (f r)
def DT (X : Cx) (g : G) (e : Expr) (f : En → Rs Bool) : Prop := PT X e (tTD X.K g f)
def D.asB : D → Option Bool
  | .bl b => some b
  | _ => none
def toB (f : En → Rs D) : En → Rs Bool := fun r => (f r).bind fun d r1 => ofO d.asB r1
theorem asB_some {d : D} {b : Bool} (h : d.asB = some b) : d = .bl b := by
  cases d <;> first | (cases h; rfl) | cases h
/-- a comparison as a test -/
theorem dt_cmp {op : CmpOp} {sem : D → D → Option D} (ho : OpR X (compareOp op) (rD2 X.K g sem)) (ha : DB X g a p) (hb : DB X g b q) (hm : behindInMarks op b = false) : DT X g (.Compare a [op] [b] pos) (toB (op2 p q sem)) :=
  PT.imp (pt_cmpR ho ha hb hm) fun s H Q ⟨F, r, R, h⟩ => by
    refine tD_op2 ⟨F, r, R, post_mono (post_bind h) fun d r1 q F1 H1 v sm R1 hv => ?_⟩
    obtain ⟨b, e, q⟩ := post_ofO q
    have e := asB_some e
    subst e
    cases hv
    exact ⟨b, rfl, q F1 H1 sm R1⟩
/-- a plain bool expression as a test -/
theorem dt_val {f : En → Rs D} (h : DE X g e f) (he : ∀ whole, isTrue e X.env whole = (do let v ← whole; standAt e.pos; holding [v] (truthy v)) := by intro _; rfl) : DT X g e (toB f) :=
  PT.imp (pt_val h he) fun s H Q ⟨F, r, R, h⟩ => by
    refine ⟨F, r, R, post_mono (post_bind h) fun d r1 q F1 H1 v sm R1 hv => ?_⟩
    obtain ⟨b, e, q⟩ := post_ofO q
    have e := asB_some e
    subst e
    cases hv
    exact ⟨b, rfl, q F1 H1 sm R1⟩
def notT (f : En → Rs Bool) : En → Rs Bool := fun r => (f r).map (!·)
theorem dt_not {f : En → Rs Bool} (h : DT X g a f) : DT X g (.UnaryOp .Not a pos) (notT f) :=
  PT.imp (pt_not h) fun s H Q ⟨F, r, R, h⟩ => ⟨F, r, R, post_mono (post_map (f := fun b : Bool => !b) h) fun c r1 q => q⟩
/-- and, or as tests -/
def DW (X : Cx) (g : G) (e : Expr) (f : En → Rs Bool) : Prop := PW X e (tTD X.K g f)
def andT (f h : En → Rs Bool) : En → Rs Bool := fun r => (f r).bind fun b r1 => if b = true then h r1 else .ok false r1
def orT (f h : En → Rs Bool) : En → Rs Bool := fun r => (f r).bind fun b r1 => if b = true then .ok true r1 else h r1
theorem PW.imp {X : Cx} {e : Expr} {t t' : TT} (h : PW X e t) (i : ∀ s H Q, t' s H Q → t s H Q) : PW X e t' :=
  ⟨fun wh pins s σ H Q I q => h.run wh pins s σ H Q I (i σ H Q q)⟩
theorem dw_or1 {f : En → Rs Bool} (h : DT X g a f) : DW X g (.BoolOp .Or [a] pos) f := pw_or1 h
theorem dw_or {f h : En → Rs Bool} {rest : List Expr} (hf : DT X g a f) (hh : DW X g (.BoolOp .Or (b :: rest) pos) h) : DW X g (.BoolOp .Or (a :: b :: rest) pos) (orT f h) :=
  PW.imp (pw_or hf hh) fun s H Q ⟨F, r, R, q⟩ => ⟨F, r, R, post_mono (post_bind q) fun c r1 q F1 H1 sm R1 => by
    cases c with
    | false => exact ⟨F1, r1, R1, post_mono q fun c r2 q F2 H2 s2 R2 => q F2 H2 (sm.trans s2) R2⟩
    | true => exact q F1 H1 sm R1⟩
theorem DW.dt {f : En → Rs Bool} (h : DW X g e f) : DT X g e f := PW.pt h

/-! ### and, or, not, if as values; truth -/
def andD (f h : En → Rs D) : En → Rs D := fun r => (f r).bind fun d r1 => (ofO d.asB r1).bind fun c r1 => if c = true then h r1 else .ok (.bl false) r1
def orD (f h : En → Rs D) : En → Rs D := fun r => (f r).bind fun d r1 => (ofO d.asB r1).bind fun c r1 => if c = true then .ok (.bl true) r1 else h r1
theorem de_one {op : BoolOp} {f : En → Rs D} (h : DE X g a f) : DE X g (.BoolOp op [a] pos) f := pe_one h
theorem de_or {f h : En → Rs D} {rest : List Expr} (hf : DE X g a f) (hh : DE X g (.BoolOp .Or (b :: rest) pos) h) : DE X g (.BoolOp .Or (a :: b :: rest) pos) (orD f h) :=
  PE.imp (pe_or hf hh) fun s H Q ⟨F, r, R, q⟩ => ⟨F, r, R, post_mono (post_bind q) fun d r1 q F1 H1 v sm R1 hv => by
    obtain ⟨c, e, q⟩ := post_ofO (post_bind q)
    have e := asB_some e
    subst e
    cases hv
    refine ⟨c, rfl, ?_⟩
    cases c with
    | false => exact ⟨F1, r1, R1, post_mono q fun c r2 q F2 H2 v s2 R2 hv => q F2 H2 v (sm.trans s2) R2 hv⟩
    | true => exact q F1 H1 _ sm R1 (.bl true)⟩
def notD (f : En → Rs D) : En → Rs D := fun r => (f r).bind fun d r1 => (ofO d.asB r1).map fun c => .bl (!c)
def ifD {α : Type} (c : En → Rs Bool) (f h : En → Rs α) : En → Rs α := fun r => (c r).bind fun b r1 => if b = true then f r1 else h r1
theorem de_if {t : En → Rs Bool} {f h : En → Rs D} (hc : DT X g c t) (hf : DE X g a f) (hh : DE X g b h) : DE X g (.IfExp c a b pos) (ifD t f h) :=
  PE.imp (pe_ifExp hc hf hh) fun s H Q ⟨F, r, R, q⟩ => ⟨F, r, R, post_mono (post_bind q) fun c r1 q F1 H1 sm R1 => by
    cases c with
    | true => exact ⟨F1, r1, R1, post_mono q fun c r2 q F2 H2 v s2 R2 hv => q F2 H2 v (sm.trans s2) R2 hv⟩
    | false => exact ⟨F1, r1, R1, post_mono q fun c r2 q F2 H2 v s2 R2 hv => q F2 H2 v (sm.trans s2) R2 hv⟩⟩
/-! ### argument lists of data; displays -/
def evs : List (En → Rs D) → En → Rs (List D)
  | [], r => .ok [] r
  | f :: fs, r => (f r).bind fun d r1 => (evs fs r1).bind fun ds r2 => .ok (d :: ds) r2
def PA' (K : PySem.W.Frag) (g : G) (F : Hp) (s : St) (Q : List V → Hp → Prop) (ds : List D) (r' : En) : Prop := ∀ F' H' vs, Same F F' → Rel K g F' H' s r' → RDs K F' vs ds → Q vs H'
def tAD (K : PySem.W.Frag) (g : G) (f : En → Rs (List D)) : TA := fun s H Q => ∃ F r, Rel K g F H s r ∧ post K g (PA' K g F s Q) (f r)
def DA (X : Cx) (g : G) (es : List Expr) (fs : List (En → Rs D)) : Prop := PA X es (tAD X.K g (evs fs))
theorem da_nil : DA X g [] [] := PA.imp pa_nil fun s H Q ⟨F, r, R, q⟩ => q F H [] (Same.refl _) R .nil
theorem da_cons {es : List Expr} {f : En → Rs D} {fs : List (En → Rs D)} (h : DE X g e f) (hs : DA X g es fs) (hst : starEach (e :: es) X.env = (false, eval e X.env) :: starEach es X.env := by rfl) : DA X g (e :: es) (f :: fs) :=
  PA.imp (pa_cons h hs hst) fun s H Q ⟨F, r, R, q⟩ => ⟨F, r, R, post_mono (post_bind q) fun d r1 q F1 H1 v sm R1 hv => ⟨F1, r1, R1, post_mono (post_bind q) fun ds r2 q F2 H2 vs s2 R2 hvs =>
    q F2 H2 (v :: vs) (sm.trans s2) R2 (.cons (RD.mono s2 d hv) hvs)⟩⟩
def tupD (fs : List (En → Rs D)) : En → Rs D := fun r => (evs fs r).bind fun ds r1 => if ds.length ≤ 1000 then .ok (.tup ds) r1 else .bad
def lstD (fs : List (En → Rs D)) : En → Rs OV := fun r => (evs fs r).bind fun ds r1 => if ds.length ≤ 1000 then .ok (.ow ds) r1 else .bad
theorem le_line {n : Nat} (h : n ≤ 1000) : n ≤ sizeLine := Nat.le_of_lt (small1000 h)
theorem post_if {K : PySem.W.Frag} {g : G} {α : Type} {P : α → En → Prop} {c : Prop} [Decidable c] {x : Rs α} (h : post K g P (if c then x else .bad)) : c ∧ post K g P x := by
  by_cases hc : c
  · rw [if_pos hc] at h; exact ⟨hc, h⟩
  · rw [if_neg hc] at h; exact h.elim
theorem de_tup {es : List Expr} {fs : List (En → Rs D)} {k : Nat} (h : DA X g es fs) : DE X g (.Tuple es k pos) (tupD fs) :=
  PE.imp (pe_tup h) fun s H Q ⟨F, r, R, q⟩ => ⟨F, r, R, post_mono (post_bind q) fun ds r1 q F1 H1 vs sm R1 hvs => by
    obtain ⟨hl, q⟩ := post_if q
    refine ⟨le_line (by rw [hvs.length]; exact hl), fun p np => ?_⟩
    have sF := same_upd (o := .tup vs) (R1.ff np)
    exact q _ _ _ (sm.trans sF) (R1.alloc np) (.tup (.of upd_same) (RDs.mono sF ds hvs))⟩
/-- a list just made is nobody's -/
theorem RV.new {K : PySem.W.Frag} {F H : Hp} {s : St} {r : En} {p : Addr} {vs : List V} {ds : List D} (R : Rel K g F H s r) (np : H p = none) (hvs : RDs K F vs ds) : RV K g F (L2.upd H p (.lst vs)) s r (.ref p) (.ow ds) := by
  refine ⟨p, vs, rfl, R.ff np, upd_same, hvs, R.live np, fun j o e eo z => ?_, fun q hq z => by have := (R.ext q hq).1; rw [z, np] at this; cases this⟩
  obtain ⟨v, h1, h2⟩ := R.slot j o e
  rw [z] at h1
  cases h1
  cases o with
  | sh d => cases eo
  | ow xs =>
    obtain ⟨a, ws, e1, _, e3, _⟩ := h2
    cases e1
    rw [np] at e3; cases e3
  | od xs =>
    obtain ⟨a, ws, e1, _, e3, _⟩ := h2
    cases e1
    rw [np] at e3; cases e3
  | oi c xs =>
    obtain ⟨a, ws, e1, _, e3, _⟩ := h2
    cases e1
    rw [np] at e3; cases e3
  | th xs =>
    obtain ⟨a, ws, e1, _, e3, _⟩ := h2
    cases e1
    rw [np] at e3; cases e3
  | exc c => cases eo
theorem do_lst {es : List Expr} {fs : List (En → Rs D)} (h : DA X g es fs) : DO X g (.List es pos) (lstD fs) :=
  PE.imp (pe_lst h) fun s H Q ⟨F, r, R, q⟩ => ⟨F, r, R, post_mono (post_bind q) fun ds r1 q F1 H1 vs sm R1 hvs => by
    obtain ⟨hl, q⟩ := post_if q
    refine ⟨le_line (by rw [hvs.length]; exact hl), fun p np => ?_⟩
    exact q _ _ _ sm (R1.laid np) (RV.new R1 np hvs)⟩
end
end DL

/-! Data layer, part 3: statements, targets, what is walked, loops, comprehensions. -/
namespace DL
open PySem L2

inductive SRs where
  | nx (r : En)
  | rt (o : OV) (r : En)
  | bk (r : En)
  | ct (r : En)
  | bad
  | ex (x : Exn) (r : En)
def SPost (K : PySem.W.Frag) (g : G) (F : Hp) (E : Ends) : SRs → Prop
  | .nx r' => ∀ F' H' s', Same F F' → Rel K g F' H' s' r' → E.nx s' H'
  | .rt o r' => ∀ F' H' s' v, Same F F' → Rel K g F' H' s' r' → RV K g F' H' s' r' v o → E.rt v H'
  | .bk r' => ∀ F' H' s', Same F F' → Rel K g F' H' s' r' → E.bk s' H'
  | .ct r' => ∀ F' H' s', Same F F' → Rel K g F' H' s' r' → E.ct s' H'
  | .bad => False
  | .ex x r' => exW K g x r'
def tSD (K : PySem.W.Frag) (g : G) (f : En → SRs) : TS := fun E s H => ∃ F r, Rel K g F H s r ∧ SPost K g F E (f r)
def DS (X : Cx) (g : G) (st : Stmt) (f : En → SRs) : Prop := PS X st (tSD X.K g f)
def DSs (X : Cx) (g : G) (st : List Stmt) (f : En → SRs) : Prop := PSs X st (tSD X.K g f)

theorem SPost.mono {K : PySem.W.Frag} {g : G} {F F' : Hp} {E : Ends} {x : SRs} (h : SPost K g F E x) (e : Same F F') : SPost K g F' E x := by
  cases x with
  | nx r => exact fun F2 H2 s2 e2 R2 => h F2 H2 s2 (e.trans e2) R2
  | rt o r => exact fun F2 H2 s2 v e2 R2 => h F2 H2 s2 v (e.trans e2) R2
  | bk r => exact fun F2 H2 s2 e2 R2 => h F2 H2 s2 (e.trans e2) R2
  | ct r => exact fun F2 H2 s2 e2 R2 => h F2 H2 s2 (e.trans e2) R2
  | bad => exact h
  | ex x r => exact h

def seqS (f h : En → SRs) : En → SRs := fun r => match f r with
  | .nx r1 => h r1
  | x => x
def nxS : En → SRs := fun r => .nx r
/-- a result that goes on -/
def thenS {α : Type} (x : Rs α) (k : α → En → SRs) : SRs := match x with
  | .ok a r => k a r
  | .bad => .bad
  | .ex x r => .ex x r
theorem post_then {α : Type} {K : PySem.W.Frag} {g : G} {F : Hp} {E : Ends} {x : Rs α} {k : α → En → SRs} (h : SPost K g F E (thenS x k)) : post K g (fun a r => SPost K g F E (k a r)) x := by
  cases x with
  | ok a r => exact h
  | bad => exact h
  | ex x r => exact h

section
variable {X : Cx} {g : G} {e a b c : Expr} {pos : Pos} {st : Stmt} {sts : List Stmt}
theorem ds_nil : DSs X g [] nxS := PSs.imp pss_nil fun E s H ⟨F, r, R, q⟩ => q F H s (Same.refl _) R
theorem ds_cons {f h : En → SRs} (h1 : DS X g st f) (h2 : DSs X g sts h) : DSs X g (st :: sts) (seqS f h) :=
  PSs.imp (pss_cons h1 h2) fun E s H ⟨F, r, R, q⟩ => by
    refine ⟨F, r, R, ?_⟩
    unfold seqS at q
    revert q
    cases f r with
    | nx r1 => exact fun q F1 H1 s1 sm R1 => ⟨F1, r1, R1, q.mono sm⟩
    | rt o r1 => exact fun q => q
    | bk r1 => exact fun q => q
    | ct r1 => exact fun q => q
    | bad => exact fun q => q
    | ex x r1 => exact fun q => q
theorem ds_one {f : En → SRs} (h1 : DS X g st f) : DSs X g [st] f := pss_one h1
def bkS : En → SRs := fun r => .bk r
def ctS : En → SRs := fun r => .ct r
def rtS (f : En → Rs OV) : En → SRs := fun r => thenS (f r) fun o r1 => .rt o r1
theorem ds_ret {f : En → Rs OV} (h : DO X g e f) : DS X g (.Return (some e) pos) (rtS f) :=
  PS.imp (ps_ret h) fun E s H ⟨F, r, R, q⟩ => ⟨F, r, R, post_mono (post_then q) fun o r1 q F1 H1 v sm R1 hv => q F1 H1 s v sm R1 hv⟩
def rtN : En → SRs := fun r => .rt (.sh .non) r
def ifS (t : En → Rs Bool) (f h : En → SRs) : En → SRs := fun r => thenS (t r) fun b r1 => if b = true then f r1 else h r1
theorem ds_if {t : En → Rs Bool} {f h : En → SRs} {sa sb : List Stmt} (hc : DT X g c t) (hf : DSs X g sa f) (hh : DSs X g sb h) : DS X g (.If c sa sb pos) (ifS t f h) :=
  PS.imp (ps_if hc hf hh) fun E s H ⟨F, r, R, q⟩ => ⟨F, r, R, post_mono (post_then q) fun b r1 q F1 H1 sm R1 => by
    cases b with
    | true => exact ⟨F1, r1, R1, q.mono sm⟩
    | false => exact ⟨F1, r1, R1, q.mono sm⟩⟩
/-- an expression whose value is dropped -/
def exS (f : En → Rs D) : En → SRs := fun r => thenS (f r) fun _ r1 => .nx r1
theorem ds_expr {f : En → Rs D} (h : DE X g e f) (hs : swapsWith e none pos.line X.env = pure false := by rfl) : DS X g (.Expr e pos) (exS f) :=
  PS.imp (ps_expr h hs) fun E s H ⟨F, r, R, q⟩ => ⟨F, r, R, post_mono (post_then q) fun o r1 q F1 H1 v sm R1 hv => q F1 H1 s sm R1⟩

/-! ### stores -/
/-- a slot gets a value -/
theorem Rel.set {K : PySem.W.Frag} {F H : Hp} {s : St} {r : En} {i : Nat} {v : V} {o : OV} (R : Rel K g F H s r) (hb : ∀ p ∈ g.B, p.1 ≠ i) (hv : RV K g F H s r v o) : Rel K g F H (s.set i (some v)) (r.set i (some o)) := by
  have hl := R.len
  have cs : ∀ (j : Nat) (u : OV), (r.set i (some o))[j]? = some (some u) → (j = i ∧ u = o ∧ (s.set i (some v))[j]? = some (some v)) ∨ (j ≠ i ∧ r[j]? = some (some u) ∧ (s.set i (some v))[j]? = s[j]?) := fun j u z => by
    by_cases hj : i = j
    · subst hj
      have hi : i < r.length := by
        have := (List.getElem?_eq_some_iff.mp z).1
        rw [List.length_set] at this
        exact this
      rw [List.getElem?_set_self hi] at z
      cases z
      exact .inl ⟨rfl, rfl, List.getElem?_set_self (by rw [← hl]; exact hi)⟩
    · rw [List.getElem?_set_ne hj] at z
      exact .inr ⟨fun z => hj z.symm, z, List.getElem?_set_ne hj⟩
  refine ⟨R.sub, R.f0, R.fnew, R.keep, fun j u z => ?_, fun j u a z zo za => ?_, fun j k u w a hjk z zo y yo za ya => ?_, fun p hp => ?_, by rw [List.length_set, List.length_set]; exact hl, R.tb, fun p hp => ?_⟩
  · rcases cs j u z with ⟨rfl, rfl, e⟩ | ⟨hj, z', e⟩
    · refine ⟨v, e, ?_⟩
      cases u with
      | sh d => exact hv
      | ow xs =>
        obtain ⟨a, vs, e1, e2, e3, e4, _⟩ := hv
        exact ⟨a, vs, e1, e2, e3, e4⟩
      | od xs => exact hv.elim
      | oi c xs => exact hv.elim
      | th xs => exact hv.elim
      | exc c => exact hv.elim
    · rw [e]; exact R.slot j u z'
  · rcases cs j u z with ⟨rfl, rfl, e⟩ | ⟨hj, z', e⟩
    · rw [e] at za
      cases za
      cases u with
      | sh d => cases zo
      | ow xs =>
        obtain ⟨b, vs, e1, e2, e3, e4, e5, _⟩ := hv
        cases e1
        exact .inl e5
      | od xs => exact hv.elim
      | oi c xs => exact hv.elim
      | th xs => exact hv.elim
      | exc c => exact hv.elim
    · rw [e] at za; exact R.own j u a z' zo za
  · have key : ∀ (k : Nat) (w : OV), r[k]? = some (some w) → w.own = true → s[k]? = some (some (.ref a)) → v = .ref a → o.own = true → False := fun k2 w2 y2 yo2 ya2 hva ho => by
      cases o with
      | sh d => cases ho
      | ow xs =>
        obtain ⟨b, vs, e1, e2, e3, e4, e5, e6, e7⟩ := hv
        rw [hva] at e1
        cases e1
        exact e6 k2 w2 y2 yo2 ya2
      | od xs => exact hv.elim
      | oi c xs => exact hv.elim
      | th xs => exact hv.elim
      | exc c => exact hv.elim
    rcases cs j u z with ⟨ej, eu, e⟩ | ⟨hj, z', e⟩
    · rcases cs k w y with ⟨ek, _, _⟩ | ⟨hk, y', e'⟩
      · exact hjk (ej.trans ek.symm)
      · rw [e] at za
        rw [e'] at ya
        exact key k w y' yo ya (by cases za; rfl) (by rw [← eu]; exact zo)
    · rcases cs k w y with ⟨ek, ew, e'⟩ | ⟨hk, y', e'⟩
      · rw [e'] at ya
        rw [e] at za
        exact key j u z' zo za (by cases ya; rfl) (by rw [← ew]; exact yo)
      · rw [e] at za
        rw [e'] at ya
        exact R.dist j k u w a hjk z' zo y' yo za ya
  · obtain ⟨p1, u, p2, p3⟩ := R.pin p hp
    have h := hb p hp
    exact ⟨by rw [List.getElem?_set_ne fun z => h z.symm]; exact p1, u, by rw [List.getElem?_set_ne fun z => h z.symm]; exact p2, p3⟩
  · obtain ⟨x1, x2, x3⟩ := R.ext p hp
    refine ⟨x1, x2, fun j u z zo za => ?_⟩
    rcases cs j u z with ⟨rfl, rfl, e⟩ | ⟨hj, z', e⟩
    · rw [e] at za
      cases u with
      | sh d => cases zo
      | ow xs =>
        obtain ⟨b, vs, e1, e2, e3, e4, e5, e6, e7⟩ := hv
        cases za
        cases e1
        exact e7 p hp rfl
      | od xs => exact hv.elim
      | oi c xs => exact hv.elim
      | th xs => exact hv.elim
      | exc c => exact hv.elim
    · rw [e] at za; exact x3 j u z' zo za
def setS (i : Nat) (f : En → Rs OV) : En → SRs := fun r => thenS (f r) fun o r1 => .nx (r1.set i (some o))
theorem ds_set {i : Nat} {x : Str} {pos' : Pos} {f : En → Rs OV} (hb : ∀ p ∈ g.B, p.1 ≠ i) (hN : X.N.Nodup) (h : DO X g e f) (hi : X.N[i]? = some x := by rfl) (hx : Loc X.env.scope x := by first | exact Or.inl rfl | exact Or.inr rfl)
    (hs : swapsWith e (some (.Name x pos')) pos.line X.env = pure false := by rfl) (hf : X.fn x = true ∨ X.env.scope.names.lookup x = some .local := by first | exact .inl rfl | exact .inr rfl | assumption) : DS X g (.Assign [.Name x pos'] e pos) (setS i f) :=
  PS.imp (ps_set hN hi hx h hs hf) fun E s H ⟨F, r, R, q⟩ => ⟨F, r, R, post_mono (post_then q) fun o r1 q F1 H1 v sm R1 hv => q F1 H1 _ sm (R1.set hb hv)⟩

/-! ### targets (ks: the slots that are stored to) -/
def Agr (ks : List Nat) (s s' : St) : Prop := s'.length = s.length ∧ ∀ i : Nat, i ∉ ks → s'[i]? = s[i]?
theorem Agr.refl (ks : List Nat) (s : St) : Agr ks s s := ⟨rfl, fun _ _ => rfl⟩
theorem Agr.trans {k1 k2 : List Nat} {s s1 s2 : St} (a : Agr k1 s s1) (b : Agr k2 s1 s2) : Agr (k1 ++ k2) s s2 :=
  ⟨b.1.trans a.1, fun i hi => (b.2 i fun z => hi (List.mem_append_right _ z)).trans (a.2 i fun z => hi (List.mem_append_left _ z))⟩
def tGD (K : PySem.W.Frag) (g : G) (ks : List Nat) (h : D → En → Option En) : TG := fun v s H Q => ∃ F r d r', Rel K g F H s r ∧ RD K F v d ∧ h d r = some r' ∧ ∀ s', Agr ks s s' → Rel K g F H s' r' → Q s' H
def DG (X : Cx) (g : G) (e : Expr) (ks : List Nat) (h : D → En → Option En) : Prop := PG X e (tGD X.K g ks h)
theorem PG.imp {X : Cx} {e : Expr} {t t' : TG} (h : PG X e t) (i : ∀ v s H Q, t' v s H Q → t v s H Q) : PG X e t' :=
  ⟨fun pins s σ H v u Q I rv q => h.run pins s σ H v u Q I rv (i v σ H Q q)⟩
theorem PGs.imp {X : Cx} {e : List Expr} {t t' : TGs} (h : PGs X e t) (i : ∀ v s H Q, t' v s H Q → t v s H Q) : PGs X e t' :=
  ⟨fun pins s σ H v u Q I rv q => h.run pins s σ H v u Q I rv (i v σ H Q q)⟩
def gN (i : Nat) : D → En → Option En := fun d r => some (r.set i (some (.sh d)))
theorem dg_name {i : Nat} {x : Str} (hb : ∀ p ∈ g.B, p.1 ≠ i) (hN : X.N.Nodup) (hi : X.N[i]? = some x := by rfl) (hx : Loc X.env.scope x := by first | exact Or.inl rfl | exact Or.inr rfl)
    (hf : X.fn x = true ∨ X.env.scope.names.lookup x = some .local := by first | exact .inl rfl | exact .inr rfl | assumption) : DG X g (.Name x pos) [i] (gN i) :=
  PG.imp (pg_name hN hi hx hf) fun v s H Q ⟨F, r, d, r', R, hd, e, q⟩ => by
    cases e
    exact q _ ⟨List.length_set .., fun j hj => List.getElem?_set_ne fun z => hj (by rw [z]; exact List.mem_singleton.mpr rfl)⟩ (R.set hb (o := .sh d) hd)
def gsNil : List D → En → Option En
  | [], r => some r
  | _ :: _, _ => none
def gsCons (h : D → En → Option En) (hs : List D → En → Option En) : List D → En → Option En
  | [], _ => none
  | d :: ds, r => (h d r).bind fun r1 => hs ds r1
def gT (n : Nat) (hs : List D → En → Option En) : D → En → Option En
  | .tup ds, r => if ds.length = n then hs ds r else none
  | .lst ds, r => if ds.length = n then hs ds r else none
  | _, _ => none
def asgS (f : En → Rs D) (h : D → En → Option En) : En → SRs := fun r => thenS (f r) fun d r1 => match h d r1 with
  | some r2 => .nx r2
  | none => .bad
end
end DL

/-! Data layer, part 4: what is walked, for, list comprehensions. -/
namespace DL
open PySem L2

/-- the iterator J yields the data ds -/
def Wk (K : PySem.W.Frag) (B : List (Nat × Addr)) (F : Hp) (J : It) (ds : List D) : Prop :=
  ∀ (g : G) (F1 H1 : Hp) (s : St) (r : En), g.B = B → Same F F1 → Rel K g F1 H1 s r →
    (∀ (i : Nat) (d : D), ds[i]? = some d → J.go i H1 ∧ ∀ x H2, J.yld i H1 x H2 → ∃ F2, Same F1 F2 ∧ Rel K g F2 H2 s r ∧ RD K F2 x d) ∧ (∀ i, ds.length ≤ i → J.stop i H1)
theorem Wk.mono {K : PySem.W.Frag} {B : List (Nat × Addr)} {F F' : Hp} {J : It} {ds : List D} (h : Wk K B F J ds) (e : Same F F') : Wk K B F' J ds := fun g F1 H1 s r hB e1 R => h g F1 H1 s r hB (e.trans e1) R
def PI' (K : PySem.W.Frag) (g : G) (F : Hp) (s : St) (Q : It → Hp → Prop) (ds : List D) (r' : En) : Prop := ∀ F' H' J, Same F F' → Rel K g F' H' s r' → Wk K g.B F' J ds → Q J H'
def tID (K : PySem.W.Frag) (g : G) (f : En → Rs (List D)) : TI := fun s H Q => ∃ F r, Rel K g F H s r ∧ post K g (PI' K g F s Q) (f r)
def DI (X : Cx) (g : G) (tg e : Expr) (f : En → Rs (List D)) : Prop := PI X tg e (tID X.K g f)

/-- over a list; over a tuple -/
def D.asL : D → Option (List D)
  | .lst ds => some ds
  | _ => none
section
variable {X : Cx} {g : G} {e a b c tg : Expr} {pos : Pos}
theorem wk_list {K : PySem.W.Frag} {B : List (Nat × Addr)} {F : Hp} {p : Addr} {vs : List V} {ds : List D} (h1 : F p = some (.lst vs)) (h2 : RDs K F vs ds) : Wk K B F (Itl K p) ds := fun g F1 H1 s r _ sm R => by
  have h1' : SqL K H1 p vs := .of (R.sub _ _ (sm _ _ h1))
  refine ⟨fun i d e => ?_, fun i hi => ⟨vs, h1', by rw [h2.length]; exact hi⟩⟩
  obtain ⟨v, e1, e2⟩ := h2.get e
  refine ⟨⟨vs, v, h1', e1⟩, fun x H2 ⟨eh, ey⟩ => ?_⟩
  subst eh
  have := ey vs h1'
  rw [e1] at this
  cases this
  exact ⟨F1, Same.refl _, R, RD.mono sm d e2⟩
theorem wk_tup {K : PySem.W.Frag} {B : List (Nat × Addr)} {F : Hp} {p : Addr} {vs : List V} {ds : List D} (h1 : SqT K F p vs) (h2 : RDs K F vs ds) : Wk K B F (Itt K p) ds := fun g F1 H1 s r _ sm R => by
  have h1' := same_sqT R.sub (same_sqT sm h1)
  refine ⟨fun i d e => ?_, fun i hi => ⟨vs, h1', by rw [h2.length]; exact hi⟩⟩
  obtain ⟨v, e1, e2⟩ := h2.get e
  refine ⟨⟨vs, v, h1', e1⟩, fun x H2 ⟨eh, ey⟩ => ?_⟩
  subst eh
  have := ey vs h1'
  rw [e1] at this
  cases this
  exact ⟨F1, Same.refl _, R, RD.mono sm d e2⟩
def D.asI : D → Option Int
  | .int i => some i
  | _ => none
theorem asI_some {d : D} {i : Int} (h : d.asI = some i) : d = .int i := by
  cases d <;> first | (cases h; rfl) | cases h
/-- lo, lo + 1, .. : n of them -/
def rangeD (lo : Int) (n : Nat) : List D := (List.range n).map fun (k : Nat) => D.int (lo + (k : Int))
theorem rangeD_get {lo : Int} {n i : Nat} {d : D} (h : (rangeD lo n)[i]? = some d) : i < n ∧ d = .int (lo + i) := by
  unfold rangeD at h
  rw [List.getElem?_map] at h
  obtain ⟨k, h1, h2⟩ := Option.map_eq_some_iff.mp h
  obtain ⟨h3, h4⟩ := List.getElem?_eq_some_iff.mp h1
  rw [List.length_range] at h3
  rw [List.getElem_range] at h4
  exact ⟨h3, by rw [← h2, ← h4]⟩
theorem wk_range {K : PySem.W.Frag} {B : List (Nat × Addr)} {F : Hp} {lo : Int} {n : Nat} : Wk K B F (Itr lo n) (rangeD lo n) := fun g F1 H1 s r _ sm R => by
  refine ⟨fun i d e => ?_, fun i hi => ?_⟩
  · obtain ⟨h1, rfl⟩ := rangeD_get e
    refine ⟨h1, fun x H2 ⟨eh, ex⟩ => ?_⟩
    subst eh ex
    exact ⟨F1, Same.refl _, R, .int _⟩
  · unfold rangeD at hi
    rw [List.length_map, List.length_range] at hi
    exact hi
def rg1 (f : En → Rs D) : En → Rs (List D) := fun r => (f r).bind fun d r1 => (ofO d.asI r1).bind fun i r1 => if -1000000 ≤ i ∧ i ≤ 1000000 then .ok (rangeD 0 i.toNat) r1 else .bad
def rg2 (f h : En → Rs D) : En → Rs (List D) := fun r => (f r).bind fun d r1 => (h r1).bind fun d' r2 => (ofO d.asI r2).bind fun i r2 => (ofO d'.asI r2).bind fun j r2 => if (-1000000 ≤ i ∧ i ≤ 1000000) ∧ -1000000 ≤ j ∧ j ≤ 1000000 then .ok (rangeD i (j - i).toNat) r2 else .bad
theorem di_range1 {f : En → Rs D} {p : Pos} (hg : Gl X "range") (hm : X.mg "range" = none) (h : DE X g a f) (hs : starEach [a] X.env = [(false, eval a X.env)] := by rfl) : DI X g tg (.Call (.Name "range" p) [a] [] pos) (rg1 f) :=
  PI.imp (pi_range1 hg hm (pa_cons h pa_nil hs) hs) fun s H Q ⟨F, r, R, q⟩ => ⟨F, r, R, post_mono (post_bind q) fun d r1 q F1 H1 v sm R1 hv => by
    obtain ⟨i, ed, q⟩ := post_ofO (post_bind q)
    have ed := asI_some ed
    subst ed
    obtain ⟨hi, q⟩ := post_if q
    cases hv
    exact ⟨i, rfl, by omega, by omega, q F1 H1 _ sm R1 wk_range⟩⟩
/-! ### for -/
def forS (h : D → En → Option En) (body : En → SRs) : List D → En → SRs
  | [], r => .nx r
  | d :: ds, r =>
    match h d r with
    | none => .bad
    | some r1 =>
      match body r1 with
      | .nx r2 => forS h body ds r2
      | .ct r2 => forS h body ds r2
      | .bk r2 => .nx r2
      | .rt o r2 => .rt o r2
      | .bad => .bad
      | .ex x r2 => .ex x r2
def forD (f : En → Rs (List D)) (h : D → En → Option En) (body : En → SRs) : En → SRs := fun r => thenS (f r) fun ds r1 => forS h body ds r1
theorem ds_for {f : En → Rs (List D)} {ks : List Nat} {h : D → En → Option En} {bf : En → SRs} {body : List Stmt} {iter : Expr} (hp : PassesOwn (model X.prog X.w) X.A X.env X.xe) (hc : X.calm = true)
    (hi : DI X g tg iter f) (hg : DG X g tg ks h) (hb : DSs X g body bf) (hs : ∀ x, foldedSetIterable iter X.env x = pure x := by intro _; rfl) : DS X g (.For tg iter body [] pos) (forD f h bf) :=
  PS.imp (ps_for hp hc hi hg hb hs) fun E s H ⟨F, r, R, q⟩ => ⟨F, r, R, post_mono (post_then q) fun ds r1 q F1 H1 J sm R1 wk => by
    refine ⟨fun i m s2 H2 => m = ds.length - i ∧ i ≤ ds.length ∧ ∃ F2 r2, Same F1 F2 ∧ Rel X.K g F2 H2 s2 r2 ∧ SPost X.K g F1 E (forS h bf (ds.drop i) r2), ⟨ds.length, rfl, Nat.zero_le _, F1, r1, Same.refl _, R1, by rw [List.drop_zero]; exact q.mono sm⟩, ?_⟩
    rintro i m s2 H2 ⟨rfl, hi, F2, r2, sm2, R2, q2⟩
    obtain ⟨w1, w2⟩ := wk g F2 H2 s2 r2 rfl sm2 R2
    by_cases hlt : i < ds.length
    · have ed : ds[i]? = some ds[i] := List.getElem?_eq_getElem hlt
      obtain ⟨go, yl⟩ := w1 i _ ed
      rw [List.drop_eq_getElem_cons hlt] at q2
      refine .inr ⟨go, fun s3 H3 => ∃ F3 r3, Same F1 F3 ∧ Rel X.K g F3 H3 s3 r3 ∧ SPost X.K g F1 E (forS h bf (ds.drop (i + 1)) r3), fun s3 H3 ⟨F3, r3, a1, a2, a3⟩ => ⟨ds.length - (i + 1), by omega, rfl, hlt, F3, r3, a1, a2, a3⟩, fun x H3 hy => ?_⟩
      obtain ⟨F3, sm3, R3, hx⟩ := yl x H3 hy
      have q3 : SPost X.K g F1 E (match h ds[i] r2 with
        | none => .bad
        | some r1 => match bf r1 with
          | .nx r2 => forS h bf (ds.drop (i + 1)) r2
          | .ct r2 => forS h bf (ds.drop (i + 1)) r2
          | .bk r2 => .nx r2
          | .rt o r2 => .rt o r2
          | .bad => .bad
          | .ex x r2 => .ex x r2) := q2
      cases eh : h ds[i] r2 with
      | none => rw [eh] at q3; exact q3.elim
      | some r3 =>
        rw [eh] at q3
        refine ⟨F3, r2, ds[i], r3, R3, hx, eh, fun s4 _ R4 => ⟨F3, r3, R4, ?_⟩⟩
        have sm13 : Same F1 F3 := sm2.trans sm3
        revert q3
        show SPost X.K g F1 E (match bf r3 with
          | .nx r2 => forS h bf (ds.drop (i + 1)) r2
          | .ct r2 => forS h bf (ds.drop (i + 1)) r2
          | .bk r2 => .nx r2
          | .rt o r2 => .rt o r2
          | .bad => .bad
          | .ex x r2 => .ex x r2) → _
        cases bf r3 with
        | nx r4 => exact fun q3 F5 H5 s5 sm5 R5 => ⟨F5, r4, sm13.trans sm5, R5, q3⟩
        | ct r4 => exact fun q3 F5 H5 s5 sm5 R5 => ⟨F5, r4, sm13.trans sm5, R5, q3⟩
        | bk r4 => exact fun q3 F5 H5 s5 sm5 R5 => q3 F5 H5 s5 (sm13.trans sm5) R5
        | rt o r4 => exact fun q3 F5 H5 s5 v sm5 R5 hv => q3 F5 H5 s5 v (sm13.trans sm5) R5 hv
        | bad => exact fun q3 => q3
        | ex x r4 => exact fun q3 => q3
    · have ei : i = ds.length := by omega
      rw [List.drop_of_length_le (by omega)] at q2
      exact .inl ⟨w2 i (by omega), q2 F2 H2 s2 sm2 R2⟩⟩

/-! ### while -/
/-! ### list comprehensions -/
/-- without a wish about errors -/
def G.nw (g : G) : G := { g with W := none }
/-- a block's own: no error leaves it -/
structure Blk (g g' : G) : Prop where
  B : g'.B = g.B
  w : g'.w = g.w
  xc : g'.xc = g.xc
  W : g'.W = none
theorem Rel.nw {K : PySem.W.Frag} {g : G} {F H : Hp} {s : St} {r : En} (R : Rel K g F H s r) : Rel K g.nw F H s r := ⟨R.sub, R.f0, R.fnew, R.keep, R.slot, R.own, R.dist, R.pin, R.len, R.tb, R.ext⟩
theorem Rel.unw {K : PySem.W.Frag} {g : G} {F H : Hp} {s : St} {r : En} (R : Rel K g.nw F H s r) : Rel K g F H s r := ⟨R.sub, R.f0, R.fnew, R.keep, R.slot, R.own, R.dist, R.pin, R.len, R.tb, R.ext⟩
theorem post_w {α : Type} {K : PySem.W.Frag} {g g' : G} {P : α → En → Prop} {x : Rs α} (h : post K g P x) (hw : g.W = none := by rfl) : post K g' P x := by
  cases x with
  | ok a r => exact h
  | bad => exact h
  | ex x r =>
    have h : exW K g x r := h
    unfold exW at h
    rw [hw] at h
    exact h.elim
def wipeE (r : En) : List Nat → En
  | [] => r
  | v :: vs => (wipeE r vs).set v none
theorem wipeE_len (r : En) : ∀ vs, (wipeE r vs).length = r.length
  | [] => rfl
  | v :: vs => by unfold wipeE; rw [List.length_set, wipeE_len r vs]
theorem wipeE_some {r : En} {i : Nat} {o : OV} : ∀ {vs : List Nat}, (wipeE r vs)[i]? = some (some o) → r[i]? = some (some o) ∧ i ∉ vs
  | [], h => ⟨h, by simp⟩
  | v :: vs, h => by
    unfold wipeE at h
    by_cases hv : v = i
    · subst hv
      by_cases hl : v < (wipeE r vs).length
      · rw [List.getElem?_set_self hl] at h; cases h
      · rw [List.getElem?_eq_none (by simpa using hl)] at h; cases h
    · rw [List.getElem?_set_ne hv] at h
      obtain ⟨h1, h2⟩ := wipeE_some h
      exact ⟨h1, fun z => (List.mem_cons.mp z).elim (fun z => hv z.symm) h2⟩
theorem wipeE_keep {r : En} {i : Nat} : ∀ {vs : List Nat}, i ∉ vs → (wipeE r vs)[i]? = r[i]?
  | [], _ => rfl
  | v :: vs, h => by
    unfold wipeE
    rw [List.getElem?_set_ne fun z => h (by rw [z]; exact List.mem_cons_self ..)]
    exact wipeE_keep fun z => h (List.mem_cons_of_mem _ z)
theorem wipe_keep {s : St} {i : Nat} : ∀ {vs : List Nat}, i ∉ vs → (wipe s vs)[i]? = s[i]?
  | [], _ => rfl
  | v :: vs, h => by
    unfold wipe
    rw [List.getElem?_set_ne fun z => h (by rw [z]; exact List.mem_cons_self ..)]
    exact wipe_keep fun z => h (List.mem_cons_of_mem _ z)
/-- forget the slots vs -/
theorem Rel.forget {K : PySem.W.Frag} {F H : Hp} {s s' : St} {r : En} {vs : List Nat} (R : Rel K g F H s r) (hb : ∀ p ∈ g.B, p.1 ∉ vs) (hl : s'.length = s.length) (hs : ∀ i, i ∉ vs → s'[i]? = s[i]?) : Rel K g F H s' (wipeE r vs) := by
  refine ⟨R.sub, R.f0, R.fnew, R.keep, fun i o e => ?_, fun i o a e eo ea => ?_, fun i j o u a hij e eo e' eo' ea ea' => ?_, fun p hp => ?_, by rw [wipeE_len, hl]; exact R.len, R.tb, fun p hp => ?_⟩
  · obtain ⟨h1, h2⟩ := wipeE_some e
    obtain ⟨v, h3, h4⟩ := R.slot i o h1
    exact ⟨v, by rw [hs i h2]; exact h3, h4⟩
  · obtain ⟨h1, h2⟩ := wipeE_some e
    rw [hs i h2] at ea
    exact R.own i o a h1 eo ea
  · obtain ⟨h1, h2⟩ := wipeE_some e
    obtain ⟨h3, h4⟩ := wipeE_some e'
    rw [hs i h2] at ea
    rw [hs j h4] at ea'
    exact R.dist i j o u a hij h1 eo h3 eo' ea ea'
  · obtain ⟨p1, o, p2, p3⟩ := R.pin p hp
    exact ⟨by rw [hs _ (hb p hp)]; exact p1, o, by rw [wipeE_keep (hb p hp)]; exact p2, p3⟩
  · obtain ⟨x1, x2, x3⟩ := R.ext p hp
    refine ⟨x1, x2, fun j o e eo => ?_⟩
    obtain ⟨h1, h2⟩ := wipeE_some e
    rw [hs j h2]
    exact x3 j o h1 eo
theorem agr_wipe {ks vs : List Nat} {s s' : St} (a : Agr ks (wipe s vs) s') (h : ∀ i ∈ ks, i ∈ vs) : wipe s' vs = wipe s vs := by
  refine List.ext_getElem? fun i => ?_
  by_cases hi : i ∈ vs
  · have no : ∀ (t : St) (us : List Nat), i ∈ us → (wipe t us)[i]? = if i < t.length then some none else none := fun t us => by
      induction us with
      | nil => intro z; cases z
      | cons v us ih =>
        intro z
        unfold wipe
        by_cases hv : v = i
        · subst hv
          by_cases hl : v < (wipe t us).length
          · rw [List.getElem?_set_self hl, if_pos (by rw [wipe_length] at hl; exact hl)]
          · rw [List.getElem?_eq_none (by simpa using hl), if_neg (by rw [wipe_length] at hl; exact hl)]
        · rw [List.getElem?_set_ne hv]
          exact ih ((List.mem_cons.mp z).resolve_left fun z => hv z.symm)
    rw [no _ _ hi, no _ _ hi, a.1, wipe_length]
  · rw [wipe_keep hi, a.2 i fun z => hi (h i z)]
def lcS (vs : List Nat) (h : D → En → Option En) (t : En → Rs Bool) (elt : En → Rs D) : List D → En → Rs (List D)
  | [], r => .ok [] r
  | d :: ds, r =>
    match h d (wipeE r vs) with
    | none => .bad
    | some r1 => (t r1).bind fun b r2 => if b = true then (elt r2).bind fun y r3 => (lcS vs h t elt ds (wipeE r3 vs)).bind fun ys r4 => .ok (y :: ys) r4 else lcS vs h t elt ds (wipeE r2 vs)
def lcD (f : En → Rs (List D)) (vs : List Nat) (h : D → En → Option En) (t : En → Rs Bool) (elt : En → Rs D) : En → Rs OV := fun r => (f r).bind fun ds r1 => if ds.length ≤ 1000000 then (lcS vs h t elt ds r1).noE.bind fun ys r2 => .ok (.ow ys) (wipeE r2 vs) else .bad
theorem not_own {K : PySem.W.Frag} {F H : Hp} {s : St} {r : En} {p : Addr} (R : Rel K g F H s r) (np : H p = none) (j : Nat) (o : OV) (e : r[j]? = some (some o)) (eo : o.own = true) : s[j]? ≠ some (some (.ref p)) := fun z => by
  obtain ⟨v, h1, h2⟩ := R.slot j o e
  rw [z] at h1
  cases h1
  cases o with
  | sh d => cases eo
  | ow xs =>
    obtain ⟨a, ws, e1, _, e3, _⟩ := h2
    cases e1
    rw [np] at e3; cases e3
  | od xs =>
    obtain ⟨a, ws, e1, _, e3, _⟩ := h2
    cases e1
    rw [np] at e3; cases e3
  | oi c xs =>
    obtain ⟨a, ws, e1, _, e3, _⟩ := h2
    cases e1
    rw [np] at e3; cases e3
  | th xs =>
    obtain ⟨a, ws, e1, _, e3, _⟩ := h2
    cases e1
    rw [np] at e3; cases e3
  | exc c => cases eo
/-- between two turns of a comprehension: the list at A holds what was made so far -/
def LcI (K : PySem.W.Frag) (g : G) (F1 : Hp) (s : St) (Q : VK) (A : Addr) (vs : List Nat) (h : D → En → Option En) (t : En → Rs Bool) (fe : En → Rs D) (ds : List D) (i : Nat) (H2 : Hp) : Prop :=
  ∃ F2 r2 acc vacc, Same F1 F2 ∧ Rel K g F2 H2 s r2 ∧ H2 A = some (.lst vacc) ∧ F2 A = none ∧ (∀ (j : Nat) (o : OV), r2[j]? = some (some o) → o.own = true → s[j]? ≠ some (some (.ref A))) ∧ RDs K F2 vacc acc ∧ acc.length ≤ i ∧
    post K g.nw (fun ys r3 => PO K g F1 s Q (.ow (acc ++ ys)) (wipeE r3 vs)) (lcS vs h t fe (ds.drop i) r2)
/-- what is held still is changed (the list at A grows) -/
theorem Rel.grow {K : PySem.W.Frag} {F H : Hp} {s : St} {r : En} {A : Addr} {o o' : HO} (R : Rel K (g.more A o) F H s r) (h0 : g.H0 A = none) (hX : ∀ p ∈ g.X, p.1 ≠ A) : Rel K g F (L2.upd H A o') s r := by
  obtain ⟨R, h1, h2, h3⟩ := R.less
  refine ⟨fun b u e => ?_, R.f0, R.fnew, fun b u e hb ht => ?_, fun i u e => ?_, R.own, R.dist, R.pin, R.len, R.tb.at (R.tb.tn h0), fun p hp => ?_⟩
  · rw [upd_ne fun z => by rw [z, h2] at e; cases e]; exact R.sub b u e
  · rw [upd_ne fun z => by rw [z, h0] at e; cases e]; exact R.keep b u e hb ht
  · obtain ⟨v, a1, a2⟩ := R.slot i u e
    refine ⟨v, a1, ?_⟩
    cases u with
    | sh d => exact a2
    | ow xs =>
      obtain ⟨b, ws, e1, e2, e3, e4⟩ := a2
      refine ⟨b, ws, e1, e2, ?_, e4⟩
      rw [upd_ne fun z => h3 i _ e rfl (by rw [a1, e1, z])]
      exact e3
    | od xs =>
      obtain ⟨b, ws, e1, e2, e3, e4⟩ := a2
      refine ⟨b, ws, e1, e2, ?_, e4⟩
      rw [upd_ne fun z => h3 i _ e rfl (by rw [a1, e1, z])]
      exact e3
    | oi c xs =>
      obtain ⟨b, ws, e1, e2, e3, e4⟩ := a2
      refine ⟨b, ws, e1, e2, ?_, e4⟩
      rw [upd_ne fun z => h3 i _ e rfl (by rw [a1, e1, z])]
      exact e3
    | th xs =>
      obtain ⟨b, ws, e1, e2, e3, e4⟩ := a2
      refine ⟨b, ws, e1, e2, ?_, e4⟩
      rw [upd_ne fun z => h3 i _ e rfl (by rw [a1, e1, z])]
      exact e3
    | exc c => exact a2
  · obtain ⟨x1, x2, x3⟩ := R.ext p hp
    exact ⟨by rw [upd_ne (hX p hp)]; exact x1, x2, x3⟩
theorem lc_imp {K : PySem.W.Frag} {vs ks : List Nat} {f : En → Rs (List D)} {h : D → En → Option En} {t : En → Rs Bool} {fe : En → Rs D} {s : St} {H : Hp} {Q : VK} (hb : ∀ p ∈ g.B, p.1 ∉ vs) (hks : ∀ i ∈ ks, i ∈ vs) (h0 : tO K g (lcD f vs h t fe) s H Q) :
    tLc (tID K g f) (fun v s H Q => ∃ g' : G, Blk g g' ∧ tGD K g' ks h v s H Q) (fun s H Q => ∃ g' : G, Blk g g' ∧ tTD K g' t s H Q) (fun s H Q => ∃ g' : G, Blk g g' ∧ tD K g' fe s H Q) vs s H Q := by
  obtain ⟨F, r, R, q⟩ := h0
  refine ⟨F, r, R, post_mono (post_bind q) fun ds r1 q F1 H1 J sm R1 wk => ?_⟩
  obtain ⟨hl, q⟩ := post_if q
  have q : post K g.nw _ _ := post_noE (post_bind q)
  intro A nA
  have hA0 : g.H0 A = none := R1.live nA
  have hAX : ∀ p ∈ g.X, p.1 ≠ A := fun p hp z => by have := (R1.ext p hp).1; rw [z, nA] at this; cases this
  refine ⟨fun i m H2 => m = ds.length - i ∧ i ≤ ds.length ∧ LcI K g F1 s Q A vs h t fe ds i H2, ⟨ds.length, rfl, Nat.zero_le _, F1, r1, [], [], Same.refl _, R1.laid nA, upd_same, R1.ff nA, fun j o e eo => not_own R1 nA j o e eo, .nil, Nat.le_refl _, ?_⟩, ?_⟩
  · rw [List.drop_zero]
    exact post_mono q fun ys r3 q F3 H3 v sm3 R3 hv => q F3 H3 v (sm.trans sm3) R3 hv
  rintro i m H2 ⟨rfl, hi2, F2, r2, acc, vacc, sm2, R2, hA, hFA, hAo, hacc, hal, q2⟩
  obtain ⟨w1, w2⟩ := wk g F2 H2 s r2 rfl sm2 R2
  by_cases hlt : i < ds.length
  · have ed : ds[i]? = some ds[i] := List.getElem?_eq_getElem hlt
    obtain ⟨go, yl⟩ := w1 i _ ed
    rw [List.drop_eq_getElem_cons hlt] at q2
    refine .inr ⟨go, fun H3 => LcI K g F1 s Q A vs h t fe ds (i + 1) H3, fun H3 hh => ⟨ds.length - (i + 1), by omega, rfl, hlt, hh⟩, fun x H3 hy => ?_⟩
    -- the turn, with the list at A held still
    have R2m : Rel K (g.more A (.lst vacc)) F2 H2 s r2 := R2.more hA hFA hAo
    obtain ⟨w1m, _⟩ := wk (g.more A (.lst vacc)) F2 H2 s r2 rfl sm2 R2m
    obtain ⟨F3, sm3, R3, hx⟩ := (w1m i _ ed).2 x H3 hy
    have R3w : Rel K (g.more A (.lst vacc)) F3 H3 (wipe s vs) (wipeE r2 vs) := R3.forget hb (wipe_length _ _) fun i hi => wipe_keep hi
    have q3 : post K g.nw (fun ys r3 => PO K g F1 s Q (.ow (acc ++ ys)) (wipeE r3 vs)) (match h ds[i] (wipeE r2 vs) with
      | none => .bad
      | some r1 => (t r1).bind fun b r2 => if b = true then (fe r2).bind fun y r3 => (lcS vs h t fe (ds.drop (i + 1)) (wipeE r3 vs)).bind fun ys r4 => .ok (y :: ys) r4 else lcS vs h t fe (ds.drop (i + 1)) (wipeE r2 vs)) := q2
    cases eh : h ds[i] (wipeE r2 vs) with
    | none => rw [eh] at q3; exact q3.elim
    | some r3 =>
      rw [eh] at q3
      refine ⟨(g.more A (.lst vacc)).nw, ⟨rfl, rfl, rfl, rfl⟩, F3, _, ds[i], r3, R3w.nw, hx, eh, fun s4 ag R4 => ⟨agr_wipe ag hks, (g.more A (.lst vacc)).nw, ⟨rfl, rfl, rfl, rfl⟩, F3, r3, R4, post_mono (post_w (post_bind q3)) fun b r4 q4 F4 H4 sm4 R4' => ?_⟩⟩
      have wkeep : ∀ i, i ∉ vs → s[i]? = s4[i]? := fun i hi => by rw [ag.2 i fun z => hi (hks i z), wipe_keep hi]
      have hl4 : s.length = s4.length := by rw [ag.1, wipe_length]
      have sm14 : Same F1 F4 := (sm2.trans sm3).trans sm4
      cases b with
      | false =>
        obtain ⟨R5, a1, a2, a3⟩ := R4'.unw.less
        refine ⟨F4, wipeE r4 vs, acc, vacc, sm14, R5.forget hb hl4 wkeep, a1, a2, fun j o e eo => ?_, RDs.mono (sm3.trans sm4) acc hacc, by omega, q4⟩
        obtain ⟨e1, e2⟩ := wipeE_some e
        rw [wkeep j e2]
        exact a3 j o e1 eo
      | true =>
        refine ⟨(g.more A (.lst vacc)).nw, ⟨rfl, rfl, rfl, rfl⟩, F4, r4, R4', post_mono (post_w (post_bind q4)) fun y r5 q5 F5 H5 v sm5 R5' hv => ?_⟩
        have R5' := R5'.unw
        have a1 := R5'.less.2.1
        have a2 := R5'.less.2.2.1
        have a3 := R5'.less.2.2.2
        have sm15 : Same F1 F5 := sm14.trans sm5
        have hacc5 := RDs.mono ((sm3.trans sm4).trans sm5) acc hacc
        refine ⟨vacc, a1, ?_, F5, wipeE r5 vs, acc ++ [y], vacc ++ [v], sm15, (R5'.grow hA0 hAX).forget hb hl4 wkeep, upd_same, a2, fun j o e eo => ?_, hacc5.app (.cons hv .nil), by rw [List.length_append]; simp; omega, ?_⟩
        · rw [hacc.length]
          have : (1000000 : Nat) < sizeLine := by decide
          omega
        · obtain ⟨e1, e2⟩ := wipeE_some e
          rw [wkeep j e2]
          exact a3 j o e1 eo
        · refine post_mono (post_bind q5) fun ys r6 q6 => ?_
          have q6 : PO K g F1 s Q (.ow (acc ++ y :: ys)) (wipeE r6 vs) := q6
          rw [List.append_assoc]
          exact q6
  · rw [List.drop_of_length_le (by omega)] at q2
    have q2 : PO K g F1 s Q (.ow (acc ++ [])) (wipeE r2 vs) := q2
    rw [List.append_nil] at q2
    refine .inl ⟨w2 i (by omega), q2 F2 H2 (.ref A) sm2 (R2.forget hb rfl fun _ _ => rfl) ⟨A, vacc, rfl, hFA, hA, hacc, hA0, fun j o e eo => ?_, hAX⟩⟩
    obtain ⟨e1, e2⟩ := wipeE_some e
    exact hAo j o e1 eo
theorem do_lc {elt iter : Expr} {ifs : List Expr} {scope : Scope} {own : List (Str × Nat)} {vs ks : List Nat} {f : En → Rs (List D)} {h : D → En → Option En} {t : En → Rs Bool} {fe : En → Rs D} (hc : X.calm = true) (hN : X.N.Nodup) (hi : DI X g tg iter f) (ok : BlkOk X.N X.env.scope scope own)
    (hvs : own.map (·.2) = vs) (hb : ∀ p ∈ g.B, p.1 ∉ vs) (hks : ∀ i ∈ ks, i ∈ vs)
    (hg : ∀ (s : Shared) (H : Hp) (C : Addr) (cl : List (Str × Addr)) (fp : List Addr) (g' : G), Blk g g' → DG (X.blk s H scope (compEnvC scope cl C X.env) fp) g' tg ks h)
    (ht : ∀ (s : Shared) (H : Hp) (C : Addr) (cl : List (Str × Addr)) (fp : List Addr) (g' : G), Blk g g' → PTs (X.blk s H scope (compEnvC scope cl C X.env) fp) ifs (tTD X.K g' t))
    (he : ∀ (s : Shared) (H : Hp) (C : Addr) (cl : List (Str × Addr)) (fp : List Addr) (g' : G), Blk g g' → DE (X.blk s H scope (compEnvC scope cl C X.env) fp) g' elt fe) (hs : ∀ x, foldedSetIterable iter X.env x = pure x := by intro _; rfl) :
    DO X g (.ListComp elt [⟨tg, iter, ifs, 0⟩] scope pos) (lcD f vs h t fe) := by
  subst hvs
  exact PE.imp (pe_lc hc hN hi ok (g := fun v s H Q => ∃ g' : G, Blk g g' ∧ tGD X.K g' ks h v s H Q) (tt := fun s H Q => ∃ g' : G, Blk g g' ∧ tTD X.K g' t s H Q) (te := fun s H Q => ∃ g' : G, Blk g g' ∧ tD X.K g' fe s H Q)
    (fun s H C cl fp => ⟨fun pins s2 σ H2 v u Q I rv ⟨g', eg, q⟩ => (hg s H C cl fp g' eg).run pins s2 σ H2 v u Q I rv q⟩)
    (fun s H C cl fp => ⟨fun pins s2 σ H2 Q I ⟨g', eg, q⟩ => (ht s H C cl fp g' eg).run pins s2 σ H2 Q I q⟩)
    (fun s H C cl fp => ⟨fun pins s2 σ H2 Q I ⟨g', eg, q⟩ => (he s H C cl fp g' eg).run pins s2 σ H2 Q I q⟩) hs) fun s H Q h0 => lc_imp hb hks h0
end
end DL

/-! Data layer, part 5: what a def promises by data (its callers outside any repr), calls, the law's own call. -/
namespace DL
open PySem L2

/-- like FnOk, for callers that stand in no repr -/
structure FnG (P : Program) (w : World) (K : PySem.W.Frag) (mg : Str → Option Value) (base : Heap) (CX : CXT) (k : Nat) (f : Addr) (fd : FuncData) (ps : List Str) (sp : Sp) : Prop where
  len : ∀ vs H Q E, sp vs H Q E → vs.length = ps.length
  run : ∀ (A : Around) (outer : List Env) (s : Shared) (H : Hp) (args : Args) (us : List Value) (vs : List V) (Q : VK) (E : XK), A.guards = some [] → Room k A → Env0 P w K mg base A outer s H →
    BindsTo s fd args (ps.zip us) → Vals vs us → sp vs H Q E → codeAny (model P w) A (.call (.ref f) args) (CR CX outer P w H s Q E) s
section
variable {P : Program} {w : World} {K : PySem.W.Frag} {mg : Str → Option Value} {base : Heap} {CX : CXT}
theorem FnG.mono {j k : Nat} {f : Addr} {fd : FuncData} {ps : List Str} {sp : Sp} (F : FnG P w K mg base CX j f fd ps sp) (h : j ≤ k) : FnG P w K mg base CX k f fd ps sp :=
  ⟨F.len, fun A o s H as us vs Q E hg hr => F.run A o s H as us vs Q E hg (hr.mono h)⟩
theorem FnG.imp {k : Nat} {f : Addr} {fd : FuncData} {ps : List Str} {sp sp' : Sp} (F : FnG P w K mg base CX k f fd ps sp) (h : ∀ vs H Q E, sp' vs H Q E → sp vs H Q E) : FnG P w K mg base CX k f fd ps sp' :=
  ⟨fun vs H Q E q => F.len vs H Q E (h _ _ _ _ q), fun A o s H as us vs Q E hg hr e0 hb rv hs => F.run A o s H as us vs Q E hg hr e0 hb rv (h _ _ _ _ hs)⟩
/-- a def by its body -/
theorem fnG_of {x qual : Str} {st : Stmt} {f : Addr} {fd : FuncData} {N ps : List Str} {k : Nat} {sp : Sp} (F : Fun K x qual st f fd) (S : FnScope N ps (defScope st)) (len : ∀ vs H Q E, sp vs H Q E → vs.length = ps.length)
    (hbody : ∀ (cdv : Value) (A : Around) (outer : List Env) (s : Shared) (H : Hp) (vs : List V) (Q : VK) (E : XK), A.guards = some [] → Room k (A.deeper (PyProof.Rows.envOfC qual (defScope st) s.heap.objs.size f cdv)) → sp vs H Q E →
      ∃ t, PSs (cxOf CX P w K mg base N qual (defScope st) f cdv A outer s H E) (defBody st) t ∧ t { nx := fun _ H' => Q .non H', rt := Q } (start N vs) H) : FnG P w K mg base CX (k + 1) f fd ps sp := by
  obtain ⟨oc, od, kV, doc, pm, an, cdv, ct, osl, rfl, lk, hcd⟩ := F.ex
  refine ⟨len, ?_⟩
  intro A outer s H args us vs Q E hgd room en bind rel want
  have inK : K.In s.heap := en.mod.kin.keeps fun b u z => (en.bs b u z).1
  have nolim : s.heap.NoLimit := en.mod.nolimit.keeps fun b u z => (en.bs b u z).1
  have kinds : ∀ y ∈ ps.zip us, (defScope st).names.lookup y.1 = some .local ∨ ((defScope st).names.lookup y.1 = some .cell ∧ ((cellsFrom (s.heap.objs.size + 1) (defScope st).names []).lookup y.1).isSome = true) := by
    rintro ⟨nm, vl⟩ hy
    cases S.par nm (List.of_mem_zip hy).1 with
    | inl q => exact Or.inl q
    | inr q => exact Or.inr ⟨q, PySem.W.cellsFrom_some _ _ _ (.inl q)⟩
  refine codeAny_call_function room.depth (inK _ _ lk) rfl S.co S.gen rfl (PySem.W.codeRec_of inK hcd) (bind _ _ _ _ ?_)
  refine PySem.wpAny_newFunctionEnv_cells S.kind kinds fun env eenv s1 ic => ?_
  subst eenv
  refine ⟨nolim.keeps ic.toInCall.keep, codeAny_func ?_⟩
  obtain ⟨t, pt, tq⟩ := hbody cdv A outer s H vs Q E hgd (room.deeper _) want
  have inv0 : Inv (cxOf CX P w K mg base N qual (defScope st) f cdv A outer s H E) [] (start N vs) H s1 := inv_start S room.hd en (len _ _ _ _ want) rel ic
  refine wpAny_mono (pt.run [] s1 (start N vs) H _ inv0 tq) ?_ fun _ _ z => z
  intro fl s2 hs2
  have ending : ∀ {σ2 : St} {H2 : Hp} {v : V} {u : Value}, Inv (cxOf CX P w K mg base N qual (defScope st) f cdv A outer s H E) [] σ2 H2 s2 → RelV v u → Q v H2 → CE outer P w H s Q u s2 := by
    intro σ2 H2 v u J rv qv
    exact ⟨v, H2, J.os, J.bare, J.base, J.hok, rv, qv⟩
  cases fl with
  | next => obtain ⟨σ2, H2, J, qv⟩ := hs2; exact ending (v := V.non) (u := Value.none) J rfl qv
  | ret u => obtain ⟨v, σ2, H2, J, rv, qv⟩ := hs2; exact ending J rv qv
  | brk => obtain ⟨_, _, _, z⟩ := hs2; exact z.elim
  | cont => obtain ⟨_, _, _, z⟩ := hs2; exact z.elim
end

section
variable {X : Cx} {CX : CXT} {k : Nat} {f : Addr} {fd : FuncData} {ps : List Str} {sp : Sp} {E : XK} {x : Str} {p pos : Pos} {e : Expr} {es : List Expr} {t : TA}
theorem runG {pins : List (Addr × Obj)} {σ : St} {H : Hp} {s : Shared} {Q : VK} {us : List Value} {vs : List V} (F : FnG X.prog X.w X.K X.mg X.base CX k f fd ps sp) (hgd : X.A.guards = some []) (hr : Room k X.A) (hb : Binds X.K fd ps []) (hx : Passes CX X E)
    (I : Inv X pins σ H s) (r : Vals vs us) (h : sp vs H Q E) : wpAny (model X.prog X.w) X.A (call (.ref f) us) (EP X pins σ Q) X.xe s := by
  have bl := hb s us I.kIn (by rw [List.append_nil, ← r.length]; exact F.len _ _ _ _ h)
  rw [List.append_nil] at bl
  refine wpAny_call (codeAny_mono (F.run X.A X.stack s H ⟨us, []⟩ us vs Q E hgd hr I.env0 bl r h) ?_)
  intro res s2 hq
  cases res with
  | error er => exact hx pins σ H s er s2 I hq
  | ok fl =>
    cases fl with
    | ret u => exact I.after hq
    | next => cases hq
    | brk => cases hq
    | cont => cases hq
theorem pe_callG1 (F : FnG X.prog X.w X.K X.mg X.base CX k f fd ps sp) (hgd : X.A.guards = some []) (hr : Room k X.A) (hg : Gl X x) (hm : X.mg x = some (.ref f)) (hk : PySem.W.keepIn X.K (.ref f) = true) (hb : Binds X.K fd ps []) (hx : Passes CX X E)
    (ha : PA X (e :: es) t) (hdb : (x == ("__debug__" : Str)) = false := by decide) (he : starEach (e :: es) X.env = (false, eval e X.env) :: starEach es X.env := by rfl) (hpl : (backTo pos (starEach es X.env)).any (·.1) = false := by rfl) :
    PE X (.Call (.Name x p) (e :: es) [] pos) (fun σ H Q => t σ H fun vs H1 => sp vs H1 Q E) := by
  constructor
  intro pins s σ H Q I h
  refine PySem.wpAny_Call_Name_kw (ld_glob I hg hm ?_ hdb)
  refine PySem.W.callWith_K (h₀ := X.base) I.ok.mod.kin hk (thn (ha.run pos pins s σ H _ I h) ?_) he hpl
  rintro us s1 ⟨vs, H1, I1, rv, q⟩
  exact ⟨I1.kIn, runG F hgd hr hb hx I1 rv q⟩
end

/-! ### promises by data -/
def RVf (K : PySem.W.Frag) (F' H' H : Hp) (v : V) : OV → Prop
  | .sh d => RD K F' v d
  | .ow xs => ∃ a vs, v = .ref a ∧ F' a = none ∧ H' a = some (.lst vs) ∧ RDs K F' vs xs ∧ H a = none
  | .od _ => False
  | .oi _ _ => False
  | .th _ => False
  | .exc _ => False
def Fresh (F F' H : Hp) : Prop := ∀ b o, F' b = some o → F b = none → H b = none
def spP (K : PySem.W.Frag) (n : Nat) (f : List D → Option OV) : Sp := fun vs H Q _ => ∃ F ds o, Same F H ∧ RDs K F vs ds ∧ ds.length = n ∧ f ds = some o ∧
  ∀ F' H' v, Same F F' → Same F' H' → Fresh F F' H → Same H H' → RVf K F' H' H v o → Q v H'
def spB (K : PySem.W.Frag) (n : Nat) (f : List D → List D → Option (OV × List D)) : Sp := fun vs H Q _ => ∃ F a bs vb ws ds o bs', vs = .ref a :: ws ∧ Same F H ∧ F a = none ∧ H a = some (.lst vb) ∧ RDs K F vb bs ∧ RDs K F ws ds ∧ ds.length = n ∧ f bs ds = some (o, bs') ∧
  ∀ F' H' v vb', Same F F' → Same F' H' → Fresh F F' H → (∀ b o, H b = some o → b ≠ a → H' b = some o) → F' a = none → H' a = some (.lst vb') → RDs K F' vb' bs' → RVf K F' H' H v o → Q v H'
def startE (n : Nat) (os : List OV) : En := os.map some ++ List.replicate (n - os.length) none
def fnP (n : Nat) (m : En → SRs) : List D → Option OV := fun ds => match m (startE n (ds.map OV.sh)) with
  | .nx _ => some (.sh .non)
  | .rt o _ => some o
  | _ => none
def OV.lst? : OV → Option (List D)
  | .ow xs => some xs
  | _ => none
def fnB (n : Nat) (m : En → SRs) : List D → List D → Option (OV × List D) := fun bs ds => match m (startE n (.ow bs :: ds.map OV.sh)) with
  | .nx r => ((lookV r 0).bind OV.lst?).map fun b => (.sh .non, b)
  | .rt o r => ((lookV r 0).bind OV.lst?).map fun b => (o, b)
  | _ => none

theorem startE_get {n : Nat} {os : List OV} {i : Nat} {o : OV} (h : (startE n os)[i]? = some (some o)) : os[i]? = some o := by
  unfold startE at h
  by_cases hi : i < os.length
  · rw [List.getElem?_append_left (by simpa using hi), List.getElem?_map] at h
    cases e : os[i]? with
    | none => rw [e] at h; cases h
    | some a => rw [e] at h; cases h; rfl
  · rw [List.getElem?_append_right (by simpa using hi), List.getElem?_replicate] at h
    split at h <;> cases h
theorem start_get {N : List Str} {vs : List V} {i : Nat} {v : V} (h : vs[i]? = some v) : (start N vs)[i]? = some (some v) := by
  unfold L2.start
  have hi : i < vs.length := (List.getElem?_eq_some_iff.mp h).1
  rw [List.getElem?_append_left (by simpa using hi), List.getElem?_map, h]
  rfl
theorem start_len (N : List Str) (vs : List V) (os : List OV) (h : vs.length = os.length) : (startE N.length os).length = (start N vs).length := by
  unfold L2.start startE
  simp [h]
section
variable {K : PySem.W.Frag} {F H : Hp} {w : World}
theorem relP {N : List Str} {vs : List V} {ds : List D} (sub : Same F H) (h : RDs K F vs ds) : Rel K ⟨F, H, [], [], w, none, none, []⟩ F H (start N vs) (startE N.length (ds.map OV.sh)) := by
  have nown : ∀ (i : Nat) (o : OV), (startE N.length (ds.map OV.sh))[i]? = some (some o) → ∃ d, ds[i]? = some d ∧ o = .sh d := fun i o e => by
    have q := startE_get e
    rw [List.getElem?_map] at q
    obtain ⟨d, q1, q2⟩ := Option.map_eq_some_iff.mp q
    exact ⟨d, q1, q2.symm⟩
  refine ⟨sub, Same.refl _, fun b o e z => ?_, fun b o e _ _ => e, fun i o e => ?_, fun i o a e eo => ?_, fun i j o u a _ e eo => ?_, fun p hp => ?_, start_len N vs _ (by rw [List.length_map, h.length]), fun p hp => (nomatch hp), fun p hp => ?_⟩
  · have z : F b = none := z
    rw [z] at e; cases e
  · obtain ⟨d, h1, rfl⟩ := nown i o e
    obtain ⟨v, h2, h3⟩ := h.get h1
    exact ⟨v, start_get h2, h3⟩
  · obtain ⟨d, h1, rfl⟩ := nown i o e
    cases eo
  · obtain ⟨d, h1, rfl⟩ := nown i o e
    cases eo
  · cases hp
  · cases hp
theorem relB {N : List Str} {a : Addr} {vb ws : List V} {bs ds : List D} (sub : Same F H) (fa : F a = none) (ha : H a = some (.lst vb)) (hb : RDs K F vb bs) (h : RDs K F ws ds) :
    Rel K ⟨F, H, [(0, a)], [], w, none, none, []⟩ F H (start N (.ref a :: ws)) (startE N.length (.ow bs :: ds.map OV.sh)) := by
  have nown : ∀ (i : Nat) (o : OV), (startE N.length (.ow bs :: ds.map OV.sh))[i]? = some (some o) → (i = 0 ∧ o = .ow bs) ∨ ∃ j d, i = j + 1 ∧ ds[j]? = some d ∧ o = .sh d := fun i o e => by
    have q := startE_get e
    cases i with
    | zero => cases q; exact .inl ⟨rfl, rfl⟩
    | succ j =>
      have q : (ds.map OV.sh)[j]? = some o := q
      rw [List.getElem?_map] at q
      obtain ⟨d, q1, q2⟩ := Option.map_eq_some_iff.mp q
      exact .inr ⟨j, d, rfl, q1, q2.symm⟩
  have s0 : (start N (.ref a :: ws))[0]? = some (some (.ref a)) := start_get rfl
  refine ⟨sub, Same.refl _, fun b o e z => ?_, fun b o e _ _ => e, fun i o e => ?_, fun i o b e eo es => ?_, fun i j o u b hij e eo e' eo' => ?_, fun p hp => ?_, start_len N (.ref a :: ws) (.ow bs :: ds.map OV.sh) (by simp [h.length]), fun p hp => (nomatch hp), fun p hp => by cases hp⟩
  · have z : F b = none := z
    rw [z] at e; cases e
  · rcases nown i o e with ⟨rfl, rfl⟩ | ⟨j, d, rfl, h1, rfl⟩
    · exact ⟨_, s0, a, vb, rfl, fa, ha, hb⟩
    · obtain ⟨v, h2, h3⟩ := h.get h1
      exact ⟨v, start_get (i := j + 1) h2, h3⟩
  · rcases nown i o e with ⟨rfl, rfl⟩ | ⟨j, d, rfl, h1, rfl⟩
    · rw [s0] at es
      cases es
      exact .inr (List.mem_singleton.mpr rfl)
    · cases eo
  · rcases nown i o e with ⟨rfl, rfl⟩ | ⟨j, d, rfl, h1, rfl⟩
    · rcases nown j u e' with ⟨rfl, rfl⟩ | ⟨k, d, rfl, h1, rfl⟩
      · exact absurd rfl hij
      · cases eo'
    · cases eo
  · have hp := List.mem_singleton.mp hp
    subst hp
    exact ⟨s0, .ow bs, by unfold startE; rfl, rfl⟩
end

section
variable {P : Program} {w : World} {K : PySem.W.Frag} {mg : Str → Option Value} {base : Heap}
/-- a def without parameters by reference -/
theorem fnP_ok {x qual : Str} {st : Stmt} {f : Addr} {fd : FuncData} {N ps : List Str} {k n np : Nat} {m : En → SRs} (F : Fun K x qual st f fd) (S : FnScope N ps (defScope st)) (en : N.length = n) (ep : ps.length = np)
    (hbody : ∀ (cdv : Value) (A : Around) (outer : List Env) (s : Shared) (H : Hp) (E : XK) (g : G), A.guards = some [] → Room k (A.deeper (PyProof.Rows.envOfC qual (defScope st) s.heap.objs.size f cdv)) → g.B = [] → g.w = w → g.W = none → g.xc = none →
      DSs (cxOf CX0 P w K mg base N qual (defScope st) f cdv A outer s H E).nox g (defBody st) m) : FnG P w K mg base CX0 (k + 1) f fd ps (spP K np (fnP n m)) := by
  subst en ep
  refine fnG_of F S (fun vs H Q E ⟨F, ds, o, _, h, hl, _⟩ => by rw [h.length]; exact hl) fun cdv A outer s H vs Q E hg hr hsp => ?_
  obtain ⟨Fz, ds, o, sub, h, hl, ef, q⟩ := hsp
  refine ⟨_, PSs.nox (hbody cdv A outer s H E ⟨Fz, H, [], [], w, none, none, []⟩ hg hr rfl rfl rfl rfl), Fz, startE N.length (ds.map OV.sh), relP sub h, ?_⟩
  unfold fnP at ef
  revert ef
  cases m (startE N.length (ds.map OV.sh)) with
  | nx r' =>
    intro ef F' H' s' sm R'
    cases ef
    exact q F' H' .non sm R'.sub (fun b o e e0 => R'.fnew b o e e0) (fun b o e => R'.keep b o e (fun p hp => by cases hp) fun p hp => by cases hp) .non
  | rt o' r' =>
    intro ef F' H' s' v sm R' hv
    cases ef
    refine q F' H' v sm R'.sub (fun b o e e0 => R'.fnew b o e e0) (fun b o e => R'.keep b o e (fun p hp => by cases hp) fun p hp => by cases hp) ?_
    cases o with
    | sh d => exact hv
    | ow xs =>
      obtain ⟨a, vs, e1, e2, e3, e4, e5, _⟩ := hv
      exact ⟨a, vs, e1, e2, e3, e4, e5⟩
    | od xs => exact hv.elim
    | oi c xs => exact hv.elim
    | th xs => exact hv.elim
    | exc c => exact hv.elim
  | bk r' => intro ef; cases ef
  | ct r' => intro ef; cases ef
  | bad => intro ef; cases ef
  | ex x r' => intro ef; cases ef
/-- a def whose first parameter is a list by reference -/
theorem fnB_ok {x qual : Str} {st : Stmt} {f : Addr} {fd : FuncData} {N : List Str} {p0 : Str} {ps : List Str} {k n np : Nat} {m : En → SRs} (F : Fun K x qual st f fd) (S : FnScope N (p0 :: ps) (defScope st)) (en : N.length = n) (ep : ps.length = np)
    (hbody : ∀ (cdv : Value) (A : Around) (outer : List Env) (s : Shared) (H : Hp) (E : XK) (g : G), A.guards = some [] → Room k (A.deeper (PyProof.Rows.envOfC qual (defScope st) s.heap.objs.size f cdv)) → g.B.map (·.1) = [0] → g.w = w → g.W = none → g.xc = none →
      DSs (cxOf CX0 P w K mg base N qual (defScope st) f cdv A outer s H E).nox g (defBody st) m) : FnG P w K mg base CX0 (k + 1) f fd (p0 :: ps) (spB K np (fnB n m)) := by
  subst en ep
  refine fnG_of F S (fun vs H Q E ⟨F, a, bs, vb, ws, ds, o, bs', e, _, _, _, _, h, hl, _⟩ => by rw [e, List.length_cons, List.length_cons, h.length, hl]) fun cdv A outer s H vs Q E hg hr hsp => ?_
  obtain ⟨Fz, a, bs, vb, ws, ds, o, bs', rfl, sub, fa, ha, hb, h, hl, ef, q⟩ := hsp
  refine ⟨_, PSs.nox (hbody cdv A outer s H E ⟨Fz, H, [(0, a)], [], w, none, none, []⟩ hg hr rfl rfl rfl rfl), Fz, startE N.length (.ow bs :: ds.map OV.sh), relB sub fa ha hb h, ?_⟩
  unfold fnB at ef
  have outs : ∀ {F' H' : Hp} {s' : St} {r' : En}, Rel K ⟨Fz, H, [(0, a)], [], w, none, none, []⟩ F' H' s' r' → (lookV r' 0).bind OV.lst? = some bs' → F' a = none ∧ ∃ vb', H' a = some (.lst vb') ∧ RDs K F' vb' bs' := fun {F' H' s' r'} R' e => by
    obtain ⟨o1, e1, e2⟩ := Option.bind_eq_some_iff.mp e
    obtain ⟨p1, _⟩ := R'.pin (0, a) (List.mem_singleton.mpr rfl)
    obtain ⟨v, h1, h2⟩ := R'.slot 0 o1 (lookV_some e1)
    rw [p1] at h1
    cases h1
    cases o1 with
    | sh d => cases e2
    | ow xs =>
      cases e2
      obtain ⟨b, vs, e3, e4, e5, e6⟩ := h2
      cases e3
      exact ⟨e4, vs, e5, e6⟩
    | od xs => cases e2
    | oi c xs => cases e2
    | th xs => cases e2
    | exc c => cases e2
  have kp : ∀ {F' H' : Hp} {s' : St} {r' : En}, Rel K ⟨Fz, H, [(0, a)], [], w, none, none, []⟩ F' H' s' r' → ∀ b o, H b = some o → b ≠ a → H' b = some o := fun {F' H' s' r'} R' b o e hb => R'.keep b o e (fun p hp => by
    have hp := List.mem_singleton.mp hp
    subst hp
    exact fun z => hb z.symm) fun p hp => by cases hp
  revert ef
  cases m (startE N.length (.ow bs :: ds.map OV.sh)) with
  | nx r' =>
    intro ef F' H' s' sm R'
    obtain ⟨b, e1, e2⟩ := Option.map_eq_some_iff.mp ef
    cases e2
    obtain ⟨f1, vb', f2, f3⟩ := outs R' e1
    exact q F' H' .non vb' sm R'.sub (fun b o e e0 => R'.fnew b o e e0) (kp R') f1 f2 f3 .non
  | rt o' r' =>
    intro ef F' H' s' v sm R' hv
    obtain ⟨b, e1, e2⟩ := Option.map_eq_some_iff.mp ef
    cases e2
    obtain ⟨f1, vb', f2, f3⟩ := outs R' e1
    refine q F' H' v vb' sm R'.sub (fun b o e e0 => R'.fnew b o e e0) (kp R') f1 f2 f3 ?_
    cases o with
    | sh d => exact hv
    | ow xs =>
      obtain ⟨a, vs, e1, e2, e3, e4, e5, _⟩ := hv
      exact ⟨a, vs, e1, e2, e3, e4, e5⟩
    | od xs => exact hv.elim
    | oi c xs => exact hv.elim
    | th xs => exact hv.elim
    | exc c => exact hv.elim
  | bk r' => intro ef; cases ef
  | ct r' => intro ef; cases ef
  | bad => intro ef; cases ef
  | ex x r' => intro ef; cases ef
end

/-! ### calls -/
structure HasP (P : Program) (w : World) (K : PySem.W.Frag) (mg : Str → Option Value) (base : Heap) (k : Nat) (x : Str) (n : Nat) (f : List D → Option OV) : Prop where
  ex : ∃ fa fd ps, FnG P w K mg base CX0 k fa fd ps (spP K n f) ∧ mg x = some (.ref fa) ∧ PySem.W.keepIn K (.ref fa) = true ∧ Binds K fd ps []
structure HasB (P : Program) (w : World) (K : PySem.W.Frag) (mg : Str → Option Value) (base : Heap) (k : Nat) (x : Str) (n : Nat) (f : List D → List D → Option (OV × List D)) : Prop where
  ex : ∃ fa fd ps, FnG P w K mg base CX0 k fa fd ps (spB K n f) ∧ mg x = some (.ref fa) ∧ PySem.W.keepIn K (.ref fa) = true ∧ Binds K fd ps []
theorem HasP.mono {P : Program} {w : World} {K : PySem.W.Frag} {mg : Str → Option Value} {base : Heap} {j k : Nat} {x : Str} {n : Nat} {f : List D → Option OV} (h : HasP P w K mg base j x n f) (hk : j ≤ k) : HasP P w K mg base k x n f := by
  obtain ⟨fa, fd, ps, F, h1, h2, h3⟩ := h.ex
  exact ⟨fa, fd, ps, F.mono hk, h1, h2, h3⟩
theorem HasB.mono {P : Program} {w : World} {K : PySem.W.Frag} {mg : Str → Option Value} {base : Heap} {j k : Nat} {x : Str} {n : Nat} {f : List D → List D → Option (OV × List D)} (h : HasB P w K mg base j x n f) (hk : j ≤ k) : HasB P w K mg base k x n f := by
  obtain ⟨fa, fd, ps, F, h1, h2, h3⟩ := h.ex
  exact ⟨fa, fd, ps, F.mono hk, h1, h2, h3⟩
/-- f(e, ..) by data -/
def callP (n : Nat) (f : List D → Option OV) (fs : List (En → Rs D)) : En → Rs OV := fun r => (evs fs r).bind fun ds r1 => if ds.length = n then ofO (f ds) r1 else .bad
/-- f(bag, e, ..), the bag in slot j -/
def callB (n : Nat) (f : List D → List D → Option (OV × List D)) (j : Nat) (fs : List (En → Rs D)) : En → Rs OV := fun r => (fill r j).bind fun _ r => (evs fs r).bind fun ds r1 => if ds.length = n then
  (ofO (((lookV r1 j).bind OV.lst?).bind fun bs => f bs ds) r1).bind fun z r1 => .ok z.1 (r1.set j (some (.ow z.2))) else .bad
section
variable {X : Cx} {g : G} {k n : Nat} {x : Str} {p pos : Pos} {e : Expr} {es : List Expr}
theorem do_callP {f : List D → Option OV} {fs : List (En → Rs D)} (h : HasP X.prog X.w X.K X.mg X.base k x n f) (hgd : X.A.guards = some []) (hr : Room k X.A) (ha : DA X g (e :: es) fs) (hg : Gl X x := by rfl)
    (hdb : (x == ("__debug__" : Str)) = false := by decide) (he : starEach (e :: es) X.env = (false, eval e X.env) :: starEach es X.env := by rfl) (hpl : (backTo pos (starEach es X.env)).any (·.1) = false := by rfl) : DO X g (.Call (.Name x p) (e :: es) [] pos) (callP n f fs) := by
  obtain ⟨fa, fd, ps, F, h1, h2, h3⟩ := h.ex
  refine PE.imp (pe_callG1 F hgd hr hg h1 h2 h3 pass0 ha hdb he hpl) fun s H Q ⟨Fz, r, R, q⟩ => ⟨Fz, r, R, post_mono (post_bind q) fun ds r1 q F1 H1 vs sm R1 hvs => ?_⟩
  obtain ⟨hn, q⟩ := post_if q
  obtain ⟨o, ef, q⟩ := post_ofO q
  refine ⟨F1, ds, o, R1.sub, hvs, hn, ef, fun F' H' v s1 s2 fr s3 hv => ?_⟩
  have fn : ∀ {a : Addr} {u : HO}, F1 a = none → H1 a = some u → F' a = none := fun {a u} z1 z2 => by
    cases z : F' a with
    | none => rfl
    | some o' => rw [fr a o' z z1] at z2; cases z2
  have R' : Rel X.K g F' H' s r1 := by
    refine ⟨s2, R1.f0.trans s1, fun b u e e0 => ?_, fun b u e hb ht => s3 _ _ (R1.keep b u e hb ht), fun i u e => ?_, R1.own, R1.dist, R1.pin, R1.len, R1.tb.call s1 s3 fr, fun q hq => ?_⟩
    · cases z : F1 b with
      | some u' => exact R1.fnew b u' z e0
      | none => exact R1.live (fr b u e z)
    · obtain ⟨w, a1, a2⟩ := R1.slot i u e
      exact ⟨w, a1, RO.mono s1 (fun a vs ew e2 e3 => ⟨fn e2 e3, s3 _ _ e3⟩) a2⟩
    · obtain ⟨x1, x2, x3⟩ := R1.ext q hq
      exact ⟨s3 _ _ x1, fn x2 x1, x3⟩
  refine q F' H' v (sm.trans s1) R' ?_
  cases o with
  | sh d => exact hv
  | ow xs =>
    obtain ⟨a, us, e1, e2, e3, e4, e5⟩ := hv
    exact ⟨a, us, e1, e2, e3, e4, R1.live e5, fun j o e eo => not_own R1 e5 j o e eo, fun q hq z => by have := (R1.ext q hq).1; rw [z, e5] at this; cases this⟩
  | od xs => exact hv.elim
  | oi c xs => exact hv.elim
  | th xs => exact hv.elim
  | exc c => exact hv.elim
/-- f(bag, e, ..): the bag is the list that slot j owns -/
theorem do_callB {f : List D → List D → Option (OV × List D)} {j : Nat} {y : Str} {yp : Pos} {fs : List (En → Rs D)} (h : HasB X.prog X.w X.K X.mg X.base k x n f) (hgd : X.A.guards = some []) (hr : Room k X.A) (hj : PE X (.Name y yp) (tVar j)) (ha : DA X g es fs)
    (hg : Gl X x := by rfl) (hst : starEach (.Name y yp :: es) X.env = (false, eval (.Name y yp) X.env) :: starEach es X.env := by rfl)
    (hdb : (x == ("__debug__" : Str)) = false := by decide) (hpl : (backTo pos (starEach es X.env)).any (·.1) = false := by rfl) : DO X g (.Call (.Name x p) (.Name y yp :: es) [] pos) (callB n f j fs) := by
  obtain ⟨fa, fd, ps, F, h1, h2, h3⟩ := h.ex
  refine PE.imp (pe_callG1 F hgd hr hg h1 h2 h3 pass0 (pa_cons hj ha hst) hdb hst hpl) fun s H Q ⟨Fz, r, R, q⟩ => ?_
  obtain ⟨⟨o, eo⟩, q⟩ := post_fill (post_bind q)
  obtain ⟨v, hv, _⟩ := R.slot j o eo
  refine ⟨v, hv, Fz, r, R, post_mono (post_bind q) fun ds r1 q F1 H1 vs sm R1 hvs => ?_⟩
  obtain ⟨hn, q⟩ := post_if q
  obtain ⟨⟨o, bs'⟩, ef, q⟩ := post_ofO (post_bind q)
  obtain ⟨bs, eb, ef⟩ := Option.bind_eq_some_iff.mp ef
  obtain ⟨ob, e1, e2⟩ := Option.bind_eq_some_iff.mp eb
  cases ob with
  | sh d => cases e2
  | ow xs =>
    cases e2
    have ej := lookV_some e1
    obtain ⟨v', hv', hb⟩ := R1.slot j _ ej
    rw [hv] at hv'
    cases hv'
    obtain ⟨a, vb, rfl, fa1, ha1, hb1⟩ := hb
    refine ⟨F1, a, bs, vb, vs, ds, o, bs', rfl, R1.sub, fa1, ha1, hb1, hvs, hn, ef, fun F' H' v vb' s1 s2 fr kp fa2 ha2 hb2 hv2 => ?_⟩
    have hj1 : j < r1.length := (List.getElem?_eq_some_iff.mp ej).1
    have fn : ∀ {c : Addr} {u : HO}, F1 c = none → H1 c = some u → F' c = none := fun {c u} z1 z2 => by
      cases z : F' c with
      | none => rfl
      | some o' => rw [fr c o' z z1] at z2; cases z2
    have ao : g.H0 a = none ∨ (j, a) ∈ g.B := R1.own j _ a ej rfl hv
    -- the slots behind the call
    have cs : ∀ (i : Nat) (u : OV), (r1.set j (some (.ow bs')))[i]? = some (some u) → (i = j ∧ u = .ow bs') ∨ (i ≠ j ∧ r1[i]? = some (some u)) := fun i u z => by
      by_cases hi : j = i
      · subst hi
        rw [List.getElem?_set_self hj1] at z
        cases z
        exact .inl ⟨rfl, rfl⟩
      · rw [List.getElem?_set_ne hi] at z
        exact .inr ⟨fun z => hi z.symm, z⟩
    have ow1 : ∀ (i : Nat) (u : OV), (r1.set j (some (.ow bs')))[i]? = some (some u) → u.own = true → ∃ u', r1[i]? = some (some u') ∧ u'.own = true := fun i u z zo => by
      rcases cs i u z with ⟨rfl, rfl⟩ | ⟨_, z'⟩
      · exact ⟨_, ej, rfl⟩
      · exact ⟨u, z', zo⟩
    have R' : Rel X.K g F' H' s (r1.set j (some (.ow bs'))) := by
      refine ⟨s2, R1.f0.trans s1, fun b u e e0 => ?_, fun b u e hb ht => ?_, fun i u e => ?_, fun i u b e eo eb => ?_, fun i i' u u' b hii e eo e' eo' => ?_, fun q hq => ?_, by rw [List.length_set]; exact R1.len, R1.tb.callA s1 kp fr (R1.tb.tno ao), fun q hq => ?_⟩
      · cases z : F1 b with
        | some u' => exact R1.fnew b u' z e0
        | none => exact R1.live (fr b u e z)
      · refine kp _ _ (R1.keep b u e hb ht) fun z => ?_
        subst z
        rcases ao with z | z
        · rw [z] at e; cases e
        · exact hb _ z rfl
      · rcases cs i u e with ⟨rfl, rfl⟩ | ⟨hi, e⟩
        · exact ⟨_, hv, a, vb', rfl, fa2, ha2, hb2⟩
        · obtain ⟨w, a1, a2⟩ := R1.slot i u e
          refine ⟨w, a1, ?_⟩
          cases u with
          | sh d => exact RD.mono s1 d a2
          | ow ys =>
            obtain ⟨c, ws, rfl, c2, c3, c4⟩ := a2
            exact ⟨c, ws, rfl, fn c2 c3, kp _ _ c3 fun z => R1.dist i j _ _ a hi e rfl ej rfl (by rw [a1, z]) hv, RDs.mono s1 ys c4⟩
          | od ys =>
            obtain ⟨c, ws, rfl, c2, c3, c4⟩ := a2
            exact ⟨c, ws, rfl, fn c2 c3, kp _ _ c3 fun z => R1.dist i j _ _ a hi e rfl ej rfl (by rw [a1, z]) hv, RDm.mono s1 ys c4⟩
          | oi c ys =>
            obtain ⟨c, ws, rfl, c2, c3, c4⟩ := a2
            exact ⟨c, ws, rfl, fn c2 c3, kp _ _ c3 fun z => R1.dist i j _ _ a hi e rfl ej rfl (by rw [a1, z]) hv, RDi.mono s1 ys c4⟩
          | th ys =>
            obtain ⟨c, ws, rfl, c2, c3, c4⟩ := a2
            exact ⟨c, ws, rfl, fn c2 c3, kp _ _ c3 fun z => R1.dist i j _ _ a hi e rfl ej rfl (by rw [a1, z]) hv, RT.mono s1 ys c4⟩
          | exc c => exact RE.mono s1 a2
      · obtain ⟨u', e', eo'⟩ := ow1 i u e eo
        exact R1.own i u' b e' eo' eb
      · obtain ⟨w, f1, f2⟩ := ow1 i u e eo
        obtain ⟨w', f1', f2'⟩ := ow1 i' u' e' eo'
        exact R1.dist i i' w w' b hii f1 f2 f1' f2'
      · obtain ⟨p1, u, p2, p3⟩ := R1.pin q hq
        refine ⟨p1, ?_⟩
        by_cases hi : j = q.1
        · exact ⟨.ow bs', by rw [← hi]; exact List.getElem?_set_self hj1, rfl⟩
        · exact ⟨u, by rw [List.getElem?_set_ne hi]; exact p2, p3⟩
      · obtain ⟨x1, x2, x3⟩ := R1.ext q hq
        refine ⟨kp _ _ x1 fun z => x3 j _ ej rfl (by rw [hv, z]), fn x2 x1, fun i u e eo => ?_⟩
        obtain ⟨u', e', eo'⟩ := ow1 i u e eo
        exact x3 i u' e' eo'
    refine q F' H' v (sm.trans s1) R' ?_
    cases o with
    | sh d => exact hv2
    | ow xs =>
      obtain ⟨c, us, d1, d2, d3, d4, d5⟩ := hv2
      refine ⟨c, us, d1, d2, d3, d4, R1.live d5, fun i u e eo => ?_, fun q hq z => by have := (R1.ext q hq).1; rw [z, d5] at this; cases this⟩
      obtain ⟨u', e', eo'⟩ := ow1 i u e eo
      exact not_own R1 d5 i u' e' eo'
    | od xs => exact hv2.elim
    | oi c xs => exact hv2.elim
    | th xs => exact hv2.elim
    | exc c => exact hv2.elim
  | od xs => cases e2
  | oi c xs => cases e2
  | th xs => cases e2
  | exc c => cases e2
/-- a name handed out: what it owned goes along -/
def mvD (i : Nat) : En → Rs OV := fun r => match lookV r i with
  | some (.sh d) => .ok (.sh d) r
  | some (.ow xs) => .ok (.ow xs) (r.set i none)
  | _ => .bad
theorem do_var (i : Nat) (hb : ∀ p ∈ g.B, p.1 ≠ i) (h : PE X (.Name x p) (tVar i)) : DO X g (.Name x p) (mvD i) := by
  refine PE.imp h fun s H Q ⟨F, r, R, q⟩ => ?_
  unfold mvD at q
  revert q
  cases e : lookV r i with
  | none => exact fun q => q.elim
  | some o =>
    have e := lookV_some e
    obtain ⟨v, h1, h2⟩ := R.slot i o e
    cases o with
    | sh d => exact fun q => ⟨v, h1, q F H v (Same.refl _) R h2⟩
    | ow xs =>
      intro q
      obtain ⟨a, vs, rfl, e2, e3, e4⟩ := h2
      have ew : r.set i none = wipeE r [i] := rfl
      have h0 : g.H0 a = none := by
        rcases R.own i _ a e rfl h1 with z | z
        · exact z
        · exact absurd rfl (hb _ z)
      have R' : Rel X.K g F H s (wipeE r [i]) := R.forget (fun p hp z => hb p hp (List.mem_singleton.mp z)) rfl fun _ _ => rfl
      refine ⟨_, h1, q F H (.ref a) (Same.refl _) R' ⟨a, vs, rfl, e2, e3, e4, h0, fun j o ej eo z => ?_, fun p hp z => ?_⟩⟩
      · have ej : (wipeE r [i])[j]? = some (some o) := ej
        obtain ⟨e5, e6⟩ := wipeE_some ej
        exact R.dist i j _ _ a (fun z => e6 (List.mem_singleton.mpr z.symm)) e rfl e5 eo h1 z
      · exact (R.ext p hp).2.2 i _ e rfl (by rw [h1, z])
    | od xs => exact fun q => q.elim
    | oi c xs => exact fun q => q.elim
    | th xs => exact fun q => q.elim
    | exc c => exact fun q => q.elim
end

/-! ### the law's own call -/
/-- the base has the table of modules: what is made stands elsewhere -/
def SysAt (base : Heap) : Prop := ∃ o, base.get? sysModules = some o
theorem law_callG {P : Program} {w : World} {K : PySem.W.Frag} {mg mb : Str → Option Value} {k : Nat} {fa a : Addr} {fd : FuncData} {x : Str} {sp : Sp} {s : Shared} {us : List Value} {ns : List Int}
    (inK : K.In s.heap) (hns : s.heap.Ns mainGlobals mg) (hbn : s.heap.Ns builtinsNs mb) (hbb : ∀ x : Str, x ≠ "__name__" → mb x = bootBuiltins x) (lim : s.heap.NoLimit) (hsys : ∃ mm, s.heap.Ns sysModules mm) (gens : s.gens = #[])
    (at_a : s.heap.get? a = some { cls := .type "list", data := .seq us.toArray }) (hints : PyProof.Rows.IntsAre us ns) (short : ns.length ≤ sizeLine) (room : Room k callerA)
    (F : ∀ base : Heap, K.In base → base.Ns mainGlobals mg → SysAt base → FnG P w K mg base CX0 k fa fd [x] sp) (bind : ∀ (s : Shared) (u : Value), BindsTo s fd ⟨[u], []⟩ [(x, u)])
    (hsp : ∀ H : Hp, Only H → SqL K H a (ns.map V.int) → sp [.ref a] H (fun v _ => v = .bl true) fun _ _ _ => False) :
    codeAny (model P w) callerA (.call (.ref fa) ⟨[.ref a], []⟩) (fun r s' => r = .ok (.ret (.bool true)) ∧ OldK s.heap s'.heap ∧ s'.os = s.os ∧ PyProof.Rows.AllBare s'.gens) s := by
  have main : ∀ H : Hp, Only H → SqL K H a (ns.map V.int) → HOk P w H s.heap → (∀ b, H b ≠ none → b = a) → (H a ≠ none → K.lookup a = none) →
      codeAny (model P w) callerA (.call (.ref fa) ⟨[.ref a], []⟩) (fun r s' => r = .ok (.ret (.bool true)) ∧ OldK s.heap s'.heap ∧ s'.os = s.os ∧ PyProof.Rows.AllBare s'.gens) s := by
    intro H only sq ok sole notK
    have hid : ∀ {b : Addr} {o : Obj}, s.heap.get? b = some o → H b = none → (hidT s.heap H).get? b = some o := fun z1 z2 => hidT_get z1 z2
    have dicts : ∀ {b : Addr} {o : Obj} {es : Array DictEntry} {ep : Nat}, s.heap.get? b = some o → o.data = .dict es ep → H b = none := by
      intro b o es ep z1 z2
      cases hz : H b with
      | none => rfl
      | some u =>
        have zb := sole b (by rw [hz]; exact Option.some_ne_none _)
        subst zb
        rw [at_a] at z1
        cases z1
        have z3 : Data.seq us.toArray _ = Data.dict es ep := z2
        cases z3
    have nsH : ∀ {b : Addr} {m : Str → Option Value}, s.heap.Ns b m → (hidT s.heap H).Ns b m := by
      rintro b m ⟨o, es, ep, z1, z2, z3⟩
      exact ⟨o, es, ep, hid z1 (dicts z1 z2), z2, z3⟩
    have inB : K.In (hidT s.heap H) := by
      intro b o z1
      refine hid (inK b o z1) ?_
      cases hz : H b with
      | none => rfl
      | some u =>
        have zb := sole b (by rw [hz]; exact Option.some_ne_none _)
        subst zb
        rw [notK (by rw [hz]; exact Option.some_ne_none _)] at z1
        cases z1
    have modl : Mod K mg (hidT s.heap H) := by
      obtain ⟨mc, l1, l2⟩ := lim
      exact ⟨inB, nsH hns, ⟨mb, nsH hbn, hbb⟩, ⟨mc, nsH l1, l2⟩⟩
    have en : Env0 P w K mg (hidT s.heap H) callerA [] s H := ⟨rfl, modl, fun b o z => of_hidT z, Nat.le_of_eq (hidT_size _ _), trivial, fun b z => absurd (show b ∈ ([] : List Addr) from z) List.not_mem_nil, ok, .of_eq gens⟩
    have sysB : SysAt (hidT s.heap H) := by
      obtain ⟨mm, hm⟩ := hsys
      obtain ⟨o, es, ep, z1, _⟩ := nsH hm
      exact ⟨o, z1⟩
    refine codeAny_mono ((F _ inB (nsH hns) sysB).run callerA [] s H ⟨[.ref a], []⟩ [.ref a] [.ref a] _ _ rfl room en (bind s (.ref a)) (.cons rfl .nil) (hsp H only sq)) ?_
    intro res s2 h2
    cases res with
    | error er => cases h2
    | ok fl =>
      cases fl with
      | next => cases h2
      | brk => cases h2
      | cont => cases h2
      | ret u =>
        obtain ⟨v, H2, os2, bare2, un2, ok2, rv, hv⟩ := h2
        have hv : v = .bl true := hv
        subst hv
        obtain rfl : u = Value.bool true := rv
        refine ⟨rfl, OldK.of_keep ?_, os2, bare2⟩
        intro b o z1
        cases hz : H b with
        | none => exact un2.keep b o z1 hz (fun z => absurd (show b ∈ ([] : List Addr) from z) List.not_mem_nil) (by simp)
        | some u =>
          cases only b with
          | inl z => rw [hz] at z; cases z
          | inr z =>
            obtain ⟨ob, xs, z⟩ := z
            have kept := (ok2 b _ (un2.frzs b ob _ z)).1
            have was := (ok b _ z).1
            rw [z1] at was
            cases was
            exact kept
  have rel := vals_ints hints
  cases look : K.lookup a with
  | some o =>
    have z := inK a o look
    rw [at_a] at z
    cases z
    exact main (fun _ => none) (fun _ => .inl rfl) (.inr ⟨_, us.toArray, _, look, rfl, rfl, rfl, by rw [List.size_toArray, hints.length]; exact short, by simpa using rel⟩) (fun b u z => nomatch (show (none : Option HO) = some u from z)) (fun b z => absurd rfl z) fun z => absurd rfl z
  | none =>
    let u0 : HO := .frz { cls := .type "list", data := .seq us.toArray } (.lst (ns.map V.int))
    have h1 : (fun b => if b = a then some u0 else none : Hp) a = some u0 := if_pos rfl
    have h2 : ∀ b, b ≠ a → (fun b => if b = a then some u0 else none : Hp) b = none := fun b hb => if_neg hb
    refine main (fun b => if b = a then some u0 else none) (fun b => ?_) (.inl (.inr ⟨_, h1⟩)) (fun b u z => ?_) (fun b z => Classical.byContradiction fun hb => z (h2 b hb)) fun _ => look
    · by_cases hb : b = a
      · subst hb; exact .inr ⟨_, _, h1⟩
      · exact .inl (h2 b hb)
    · by_cases hb : b = a
      · subst hb
        have z := h1.symm.trans z
        cases z
        exact ⟨at_a, by rw [List.length_map]; exact short, us, _, rel, at_a⟩
      · have z := (h2 b hb).symm.trans z
        cases z
end DL

/-! Data layer, part 6: operators, built-ins and methods by data. -/
namespace DL
open PySem L2

/-! ### data as the library's data; equality -/
mutual
def D.py : D → PyData
  | .non => .none
  | .bl b => .bool b
  | .int i => .int i
  | .str x => .str x
  | .lst xs => .list (pys xs)
  | .tup xs => .tuple (pys xs)
  | .dic kvs => .dict (pyk kvs)
  | .scr ns => .list (ns.map PyData.int)
  | .obj _ _ => .none
def pys : List D → List PyData
  | [] => []
  | d :: ds => d.py :: pys ds
def pyk : List (Key × D) → List (PyData × PyData)
  | [] => []
  | (k, d) :: ds => ((match k with | .inl i => .int i | .inr x => .str x), d.py) :: pyk ds
end
/-! plain: no dict, no script, texts of code points -/
mutual
def D.pl : D → Bool
  | .non => true
  | .bl _ => true
  | .int _ => true
  | .str x => x.cps.all (· < 1114112)
  | .lst xs => plAll xs
  | .tup xs => plAll xs
  | .dic _ => false
  | .scr _ => false
  | .obj _ _ => false
def plAll : List D → Bool
  | [] => true
  | d :: ds => d.pl && plAll ds
end
mutual
def D.dp : D → Nat
  | .lst xs => dpAll xs + 1
  | .tup xs => dpAll xs + 1
  | _ => 0
def dpAll : List D → Nat
  | [] => 0
  | d :: ds => max d.dp (dpAll ds)
end
mutual
def D.eqv : D → D → Bool
  | .non, .non => true
  | .bl a, .bl b => a == b
  | .bl a, .int j => (if a then 1 else 0) == j
  | .int i, .bl b => i == (if b then 1 else 0)
  | .int i, .int j => i == j
  | .str x, .str y => x == y
  | .lst xs, .lst ys => eqvAll xs ys
  | .tup xs, .tup ys => eqvAll xs ys
  | _, _ => false
def eqvAll : List D → List D → Bool
  | [], [] => true
  | x :: xs, y :: ys => x.eqv y && eqvAll xs ys
  | _, _ => false
end
/-- may be compared at any depth -/
def D.fit (d : D) : Bool := d.pl && decide (d.dp ≤ 64)
mutual
theorem py_lay : ∀ d : D, d.pl = true → d.py.canLay0 = true
  | .non, _ => rfl
  | .bl _, _ => rfl
  | .int _, _ => rfl
  | .str x, h => by
    exact h
  | .lst xs, h => by
    have h : plAll xs = true := h
    show PyData.canLayAll0 (pys xs) = true
    exact pys_lay xs h
  | .tup xs, h => by
    have h : plAll xs = true := h
    show PyData.canLayAll0 (pys xs) = true
    exact pys_lay xs h
  | .dic _, h => by cases h
  | .scr _, h => by cases h
  | .obj _ _, h => by cases h
theorem pys_lay : ∀ ds : List D, plAll ds = true → PyData.canLayAll0 (pys ds) = true
  | [], _ => rfl
  | d :: ds, h => by
    have h : (d.pl && plAll ds) = true := h
    obtain ⟨h1, h2⟩ := Bool.and_eq_true_iff.mp h
    show (d.py.canLay0 && PyData.canLayAll0 (pys ds)) = true
    rw [py_lay d h1, pys_lay ds h2]; rfl
end
mutual
theorem py_depth : ∀ d : D, d.pl = true → d.py.depth = d.dp
  | .non, _ => rfl
  | .bl _, _ => rfl
  | .int _, _ => rfl
  | .str x, h => rfl
  | .lst xs, h => by
    have h : plAll xs = true := h
    show PyData.depthAll (pys xs) + 1 = dpAll xs + 1
    rw [pys_depth xs h]
  | .tup xs, h => by
    have h : plAll xs = true := h
    show PyData.depthAll (pys xs) + 1 = dpAll xs + 1
    rw [pys_depth xs h]
  | .dic _, h => by cases h
  | .scr _, h => by cases h
  | .obj _ _, h => by cases h
theorem pys_depth : ∀ ds : List D, plAll ds = true → PyData.depthAll (pys ds) = dpAll ds
  | [], _ => rfl
  | d :: ds, h => by
    have h : (d.pl && plAll ds) = true := h
    obtain ⟨h1, h2⟩ := Bool.and_eq_true_iff.mp h
    show max d.py.depth (PyData.depthAll (pys ds)) = max d.dp (dpAll ds)
    rw [py_depth d h1, pys_depth ds h2]
end
theorem fit_shaped {d : D} (h : d.fit = true) : SeqAt.shaped d.py = true := by
  obtain ⟨h1, h2⟩ := Bool.and_eq_true_iff.mp h
  have h2 := of_decide_eq_true h2
  unfold SeqAt.shaped
  rw [py_lay d h1, py_depth d h1, decide_eq_true h2]; rfl
mutual
theorem py_eqv : ∀ d e : D, d.pl = true → e.pl = true → PyData.eqv d.py e.py = d.eqv e
  | .non, e, _, he => by cases e <;> first | rfl | cases he
  | .bl a, e, _, he => by cases e <;> first | rfl | cases he
  | .int a, e, _, he => by cases e <;> first | rfl | cases he
  | .str a, e, _, he => by cases e <;> first | rfl | cases he
  | .lst xs, e, h, he => by
    cases e with
    | lst ys =>
      have h : plAll xs = true := h
      have he : plAll ys = true := he
      show PyData.eqvAll (pys xs) (pys ys) = eqvAll xs ys
      exact pys_eqv xs ys h he
    | non => rfl
    | bl _ => rfl
    | int _ => rfl
    | str _ => rfl
    | tup _ => rfl
    | dic _ => cases he
    | scr _ => cases he
    | obj _ _ => cases he
  | .tup xs, e, h, he => by
    cases e with
    | tup ys =>
      have h : plAll xs = true := h
      have he : plAll ys = true := he
      show PyData.eqvAll (pys xs) (pys ys) = eqvAll xs ys
      exact pys_eqv xs ys h he
    | non => rfl
    | bl _ => rfl
    | int _ => rfl
    | str _ => rfl
    | lst _ => rfl
    | dic _ => cases he
    | scr _ => cases he
    | obj _ _ => cases he
  | .dic _, _, h, _ => by cases h
  | .scr _, _, h, _ => by cases h
  | .obj _ _, _, h, _ => by cases h
theorem pys_eqv : ∀ ds es : List D, plAll ds = true → plAll es = true → PyData.eqvAll (pys ds) (pys es) = eqvAll ds es
  | [], [], _, _ => rfl
  | [], _ :: _, _, _ => rfl
  | _ :: _, [], _, _ => rfl
  | d :: ds, e :: es, h, h' => by
    have h : (d.pl && plAll ds) = true := h
    have h' : (e.pl && plAll es) = true := h'
    obtain ⟨h1, h2⟩ := Bool.and_eq_true_iff.mp h
    obtain ⟨h3, h4⟩ := Bool.and_eq_true_iff.mp h'
    show (PyData.eqv d.py e.py && PyData.eqvAll (pys ds) (pys es)) = (d.eqv e && eqvAll ds es)
    rw [py_eqv d e h1 h3, pys_eqv ds es h2 h4]
end
section
variable {X : Cx} {pins : List (Addr × Obj)} {s : Shared} {F H : Hp} {sg : St}
mutual
theorem RD.reads (I : Inv X pins sg H s) : ∀ (d : D) (v : V) (u : Value), d.pl = true → RD X.K H v d → RelV v u → ∃ as, Reads s.heap u d.py as
  | .non, _, _, _, h, r => by cases h; cases r; exact ⟨_, Reads.none⟩
  | .bl b, _, _, _, h, r => by cases h; cases r; exact ⟨_, Reads.bool b⟩
  | .int i, _, _, _, h, r => by cases h; obtain ⟨t, rfl⟩ := r; exact ⟨_, Reads.int i t⟩
  | .str x, _, _, _, h, r => by cases h; obtain ⟨t, rfl⟩ := r; exact ⟨_, Reads.str x t⟩
  | .lst ds, _, _, hp, h, r => by
    have hp : plAll ds = true := hp
    cases h with
    | lst hs ha =>
      cases r
      obtain ⟨its, rv, ⟨o, n, ho, hc, _, hd⟩, _⟩ := I.list (SqL.of hs)
      obtain ⟨as, hr⟩ := RDs.reads I ds _ its hp ha rv
      exact ⟨_, Reads.list ho hc hd hr⟩
  | .tup ds, _, _, hp, h, r => by
    have hp : plAll ds = true := hp
    cases h with
    | tup hs ha =>
      cases r
      obtain ⟨its, rv, ⟨o, ho, hc, n, hd⟩, _⟩ := I.tuple hs
      obtain ⟨as, hr⟩ := RDs.reads I ds _ its hp ha rv
      exact ⟨_, Reads.tuple ho hc hd hr⟩
  | .dic _, _, _, hp, _, _ => by cases hp
  | .scr _, _, _, hp, _, _ => by cases hp
  | .obj _ _, _, _, hp, _, _ => by cases hp
theorem RDs.reads (I : Inv X pins sg H s) : ∀ (ds : List D) (vs : List V) (us : List Value), plAll ds = true → RDs X.K H vs ds → Vals vs us → ∃ as, ReadsAll s.heap us (pys ds) as
  | [], _, _, _, h, r => by cases h; cases r; exact ⟨_, ReadsAll.nil⟩
  | d :: ds, _, _, hp, h, r => by
    have hp : (d.pl && plAll ds) = true := hp
    obtain ⟨h1, h2⟩ := Bool.and_eq_true_iff.mp hp
    cases h with
    | cons a1 a2 =>
      cases r with
      | cons r1 r2 =>
        obtain ⟨as, q1⟩ := RD.reads I d _ _ h1 a1 r1
        obtain ⟨bs, q2⟩ := RDs.reads I ds _ _ h2 a2 r2
        exact ⟨_, ReadsAll.cons q1 q2⟩
end
end

/-- scalars are compared whatever their size -/
def D.sc : D → D → Option Bool
  | .int i, .int j => some (decide (i = j))
  | .str i, .str j => some (decide (i = j))
  | .bl i, .bl j => some (decide (i = j))
  | _, _ => none
/-- by the lengths alone, whatever is in them -/
def lenB : D → D → Option Bool
  | .lst xs, .lst ys => if xs.length = ys.length then none else some false
  | .tup xs, .tup [] => some xs.isEmpty
  | .tup (.str x :: xs), .tup [.str y] => some (decide (x = y) && xs.isEmpty)
  | _, _ => none
def eqB (d e : D) : Option Bool := match D.sc d e with
  | some b => some b
  | none => if d.fit && e.fit then some (d.eqv e) else lenB d e
def semEq (d e : D) : Option D := (eqB d e).map D.bl
def semNe (d e : D) : Option D := (eqB d e).map fun b => D.bl (!b)
def D.seq : D → Option (List D)
  | .lst xs => some xs
  | .tup xs => some xs
  | _ => none
def inB (d e : D) : Option Bool := match d, e with
  | .str x, .str y => some (!(Builtin.Str.occurrences y x 0 y.length 1).isEmpty)
  | d, e => match e.seq with
    | some ds => if d.fit && e.fit then some (ds.any fun z => z.eqv d) else none
    | none => none
def semIn (d e : D) : Option D := (inB d e).map D.bl
section
variable {X : Cx} {g : G}
theorem sc_some {d e : D} {b : Bool} (h : D.sc d e = some b) : (∃ i j, d = .int i ∧ e = .int j ∧ b = decide (i = j)) ∨ (∃ i j, d = .str i ∧ e = .str j ∧ b = decide (i = j)) ∨ ∃ i j, d = .bl i ∧ e = .bl j ∧ b = decide (i = j) := by
  unfold D.sc at h
  split at h
  · cases h; exact .inl ⟨_, _, rfl, rfl, rfl⟩
  · cases h; exact .inr (.inl ⟨_, _, rfl, rfl, rfl⟩)
  · cases h; exact .inr (.inr ⟨_, _, rfl, rfl, rfl⟩)
  · cases h
theorem RB.tup {K : PySem.W.Frag} {F H : Hp} {v : V} {ds : List D} (sub : Same F H) (h : RB K F H v (.tup ds)) : ∃ a vs, v = .ref a ∧ SqT K H a vs ∧ SqT K F a vs ∧ RDs K F vs ds := by
  cases h.flat (fun _ => nofun) with
  | tup h1 h2 => exact ⟨_, _, rfl, same_sqT sub h1, h1, h2⟩
theorem opd_eq (hu : X.A.units + 64 < cLine) : OpR X (compareOp .Eq) (rD2 X.K g semEq) := by
  intro pins s sg H x y v u Q I rx ry h
  obtain ⟨F, s0, r, dx, dy, d, R, hx, hy, e, q⟩ := h
  obtain ⟨b, eb, rfl⟩ := Option.map_eq_some_iff.mp e
  clear e
  have e := eb
  unfold eqB at e
  split at e
  · next b' es =>
    cases e
    rcases sc_some es with ⟨i, j, rfl, rfl, rfl⟩ | ⟨i, j, rfl, rfl, rfl⟩ | ⟨i, j, rfl, rfl, rfl⟩
    · cases hx.flat (fun _ => nofun); cases hy.flat (fun _ => nofun)
      refine op_eq pins s sg H _ _ v u Q I rx ry ⟨rfl, ?_⟩
      have := q F H (.bl (decide (i = j))) (Same.refl _) R (.bl _)
      simpa using this
    · cases hx.flat (fun _ => nofun); cases hy.flat (fun _ => nofun)
      refine op_eq pins s sg H _ _ v u Q I rx ry ⟨rfl, ?_⟩
      have := q F H (.bl (decide (i = j))) (Same.refl _) R (.bl _)
      simpa using this
    · cases hx.flat (fun _ => nofun); cases hy.flat (fun _ => nofun)
      refine op_eq pins s sg H _ _ v u Q I rx ry ⟨rfl, ?_⟩
      have := q F H (.bl (decide (i = j))) (Same.refl _) R (.bl _)
      simpa using this
  · split at e
    · next hf =>
      cases e
      obtain ⟨f1, f2⟩ := Bool.and_eq_true_iff.mp hf
      have p1 := (Bool.and_eq_true_iff.mp f1).1
      have p2 := (Bool.and_eq_true_iff.mp f2).1
      obtain ⟨as, r1⟩ := RD.reads I dx x v p1 (hx.rd R.sub) rx
      obtain ⟨bs, r2⟩ := RD.reads I dy y u p2 (hy.rd R.sub) ry
      refine SeqAt.compareEq_shaped r1 r2 (fit_shaped f1) (fit_shaped f2) hu ⟨.bl _, H, I, rfl, ?_⟩
      rw [py_eqv dx dy p1 p2]
      exact q F H _ (Same.refl _) R (.bl _)
    · unfold lenB at e
      split at e
      · next xs ys =>
        split at e
        · cases e
        · next hne =>
          cases e
          obtain ⟨a, vs, rfl, h1, h2⟩ := hx.lst R.sub
          obtain ⟨b, ws, rfl, h3, h4⟩ := hy.lst R.sub
          cases rx
          cases ry
          obtain ⟨its, rv, pl, _⟩ := I.list (SqL.of h1)
          obtain ⟨its2, rv2, pl2, _⟩ := I.list (SqL.of h3)
          refine SeqAt.RcAt.lists_lengths pl.isList pl2.isList ?_ (by omega) X.prog X.w X.xe _ ⟨.bl false, H, I, rfl, q F H _ (Same.refl _) R (.bl _)⟩
          have z1 := rv.length
          have z2 := rv2.length
          have z3 := h2.length
          have z4 := h4.length
          simp only [List.size_toArray, bne_iff_ne, ne_eq]
          omega
      · next xs _ _ =>
        cases e
        obtain ⟨a, vs, rfl, h1, _, h2⟩ := hx.tup R.sub
        obtain ⟨b, ws, rfl, h3, _, h4⟩ := hy.tup R.sub
        cases rx
        cases ry
        obtain ⟨its, rv, pl, _⟩ := I.tuple h1
        obtain ⟨its2, rv2, pl2, _⟩ := I.tuple h3
        have z1 := rv.length
        have z2 := rv2.length
        have z3 := h2.length
        have z4 := h4.length
        have hz : its2 = [] := List.eq_nil_of_length_eq_zero (by rw [← z2, z4]; rfl)
        subst hz
        have hb : ((List.range (min its.toArray.size (List.toArray ([] : List Value)).size)).all (fun _ => true) && its.toArray.size == (List.toArray ([] : List Value)).size) = xs.isEmpty := by
          simp only [List.size_toArray, List.length_nil, Nat.min_zero, List.range_zero, List.all_nil, Bool.true_and]
          have z5 : its.length = xs.length := by rw [← z1, z3]
          rw [z5]
          cases xs with
          | nil => rfl
          | cons x xs => rfl
        have := SeqAt.RcAt.tuples (A := X.A) (s := s) (e := fun _ => true) pl pl2 (by omega) (fun j _ h => absurd h (by simp))
        rw [hb] at this
        exact this X.prog X.w X.xe _ ⟨.bl _, H, I, rfl, q F H _ (Same.refl _) R (.bl _)⟩
      · next x xs y _ _ =>
        cases e
        obtain ⟨a, vs, rfl, h1, _, h2⟩ := hx.tup R.sub
        obtain ⟨b, ws, rfl, h3, _, h4⟩ := hy.tup R.sub
        cases rx
        cases ry
        obtain ⟨its, rv, pl, _⟩ := I.tuple h1
        obtain ⟨its2, rv2, pl2, _⟩ := I.tuple h3
        cases h2 with
        | cons a1 a2 =>
        cases h4 with
        | cons a3 a4 =>
        cases a1; cases a3; cases a4
        cases rv with
        | cons r1 r2 =>
        cases rv2 with
        | cons r3 r4 =>
        obtain ⟨t1, rfl⟩ := r1
        obtain ⟨t2, rfl⟩ := r3
        cases r4
        have z1 := r2.length
        have z3 := a2.length
        rename_i its _ _
        have hb : ∀ (v u : Value) (its : List Value), its.length = xs.length → ((List.range (min (v :: its).toArray.size [u].toArray.size)).all (fun _ => decide (x = y)) && (v :: its).toArray.size == [u].toArray.size) = (decide (x = y) && xs.isEmpty) := by
          intro v u its z5
          have hm : min (its.length + 1) 1 = 1 := by omega
          simp only [List.size_toArray, List.length_cons, List.length_nil, Nat.zero_add, hm, z5]
          cases xs with
          | nil => simp [List.range, List.range.loop]
          | cons x xs => simp [List.range, List.range.loop]
        have := SeqAt.RcAt.tuples (A := X.A) (s := s) (e := fun _ => decide (x = y)) pl pl2 (by omega) (fun j _ h => by
          have : j = 0 := by simp at h; omega
          subst this
          exact SeqAt.EqAt.str_str _ _ _ _)
        rw [hb _ _ _ (by omega)] at this
        exact this X.prog X.w X.xe _ ⟨.bl _, H, I, rfl, q F H _ (Same.refl _) R (.bl _)⟩
      · cases e
theorem opd_ne (hu : X.A.units + 64 < cLine) : OpR X (compareOp .NotEq) (rD2 X.K g semNe) := by
  intro pins s sg H x y v u Q I rx ry h
  obtain ⟨F, s0, r, dx, dy, d, R, hx, hy, e, q⟩ := h
  obtain ⟨b, eb, rfl⟩ := Option.map_eq_some_iff.mp e
  clear e
  have e := eb
  unfold eqB at e
  split at e
  · next b' es =>
    cases e
    rcases sc_some es with ⟨i, j, rfl, rfl, rfl⟩ | ⟨i, j, rfl, rfl, rfl⟩ | ⟨i, j, rfl, rfl, rfl⟩
    · cases hx.flat (fun _ => nofun); cases hy.flat (fun _ => nofun)
      refine op_ne pins s sg H _ _ v u Q I rx ry ⟨rfl, ?_⟩
      have := q F H (.bl (!decide (i = j))) (Same.refl _) R (.bl _)
      simpa using this
    · cases hx.flat (fun _ => nofun); cases hy.flat (fun _ => nofun)
      refine op_ne pins s sg H _ _ v u Q I rx ry ⟨rfl, ?_⟩
      have := q F H (.bl (!decide (i = j))) (Same.refl _) R (.bl _)
      simpa using this
    · cases hx.flat (fun _ => nofun); cases hy.flat (fun _ => nofun)
      refine op_ne pins s sg H _ _ v u Q I rx ry ⟨rfl, ?_⟩
      have := q F H (.bl (!decide (i = j))) (Same.refl _) R (.bl _)
      simpa using this
  · split at e
    · next hf =>
      cases e
      obtain ⟨f1, f2⟩ := Bool.and_eq_true_iff.mp hf
      have p1 := (Bool.and_eq_true_iff.mp f1).1
      have p2 := (Bool.and_eq_true_iff.mp f2).1
      obtain ⟨as, r1⟩ := RD.reads I dx x v p1 (hx.rd R.sub) rx
      obtain ⟨bs, r2⟩ := RD.reads I dy y u p2 (hy.rd R.sub) ry
      refine SeqAt.compareNe_shaped r1 r2 (fit_shaped f1) (fit_shaped f2) hu ⟨.bl _, H, I, rfl, ?_⟩
      rw [py_eqv dx dy p1 p2]
      exact q F H _ (Same.refl _) R (.bl _)
    · unfold lenB at e
      split at e
      · next xs ys =>
        split at e
        · cases e
        · next hne =>
          cases e
          obtain ⟨a, vs, rfl, h1, h2⟩ := hx.lst R.sub
          obtain ⟨b, ws, rfl, h3, h4⟩ := hy.lst R.sub
          cases rx
          cases ry
          obtain ⟨its, rv, pl, _⟩ := I.list (SqL.of h1)
          obtain ⟨its2, rv2, pl2, _⟩ := I.list (SqL.of h3)
          refine SeqAt.RcNeAt.lists_lengths pl.isList pl2.isList ?_ (by omega) X.prog X.w X.xe _ ⟨.bl true, H, I, rfl, q F H _ (Same.refl _) R (.bl _)⟩
          have z1 := rv.length
          have z2 := rv2.length
          have z3 := h2.length
          have z4 := h4.length
          simp only [List.size_toArray, bne_iff_ne, ne_eq]
          omega
      · next xs _ _ =>
        cases e
        obtain ⟨a, vs, rfl, h1, _, h2⟩ := hx.tup R.sub
        obtain ⟨b, ws, rfl, h3, _, h4⟩ := hy.tup R.sub
        cases rx
        cases ry
        obtain ⟨its, rv, pl, _⟩ := I.tuple h1
        obtain ⟨its2, rv2, pl2, _⟩ := I.tuple h3
        have z1 := rv.length
        have z2 := rv2.length
        have z3 := h2.length
        have z4 := h4.length
        have hz : its2 = [] := List.eq_nil_of_length_eq_zero (by rw [← z2, z4]; rfl)
        subst hz
        have hb : ((List.range (min its.toArray.size (List.toArray ([] : List Value)).size)).all (fun _ => true) && its.toArray.size == (List.toArray ([] : List Value)).size) = xs.isEmpty := by
          simp only [List.size_toArray, List.length_nil, Nat.min_zero, List.range_zero, List.all_nil, Bool.true_and]
          have z5 : its.length = xs.length := by rw [← z1, z3]
          rw [z5]
          cases xs with
          | nil => rfl
          | cons x xs => rfl
        have := SeqAt.RcNeAt.tuples (A := X.A) (s := s) (e := fun _ => true) pl pl2 (by omega) (fun j _ h => absurd h (by simp))
        rw [hb] at this
        exact this X.prog X.w X.xe _ ⟨.bl _, H, I, rfl, q F H _ (Same.refl _) R (.bl _)⟩
      · next x xs y _ _ =>
        cases e
        obtain ⟨a, vs, rfl, h1, _, h2⟩ := hx.tup R.sub
        obtain ⟨b, ws, rfl, h3, _, h4⟩ := hy.tup R.sub
        cases rx
        cases ry
        obtain ⟨its, rv, pl, _⟩ := I.tuple h1
        obtain ⟨its2, rv2, pl2, _⟩ := I.tuple h3
        cases h2 with
        | cons a1 a2 =>
        cases h4 with
        | cons a3 a4 =>
        cases a1; cases a3; cases a4
        cases rv with
        | cons r1 r2 =>
        cases rv2 with
        | cons r3 r4 =>
        obtain ⟨t1, rfl⟩ := r1
        obtain ⟨t2, rfl⟩ := r3
        cases r4
        have z1 := r2.length
        have z3 := a2.length
        rename_i its _ _
        have hb : ∀ (v u : Value) (its : List Value), its.length = xs.length → ((List.range (min (v :: its).toArray.size [u].toArray.size)).all (fun _ => decide (x = y)) && (v :: its).toArray.size == [u].toArray.size) = (decide (x = y) && xs.isEmpty) := by
          intro v u its z5
          have hm : min (its.length + 1) 1 = 1 := by omega
          simp only [List.size_toArray, List.length_cons, List.length_nil, Nat.zero_add, hm, z5]
          cases xs with
          | nil => simp [List.range, List.range.loop]
          | cons x xs => simp [List.range, List.range.loop]
        have := SeqAt.RcNeAt.tuples (A := X.A) (s := s) (e := fun _ => decide (x = y)) pl pl2 (by omega) (fun j _ h => by
          have : j = 0 := by simp at h; omega
          subst this
          exact SeqAt.EqAt.str_str _ _ _ _)
        rw [hb _ _ _ (by omega)] at this
        exact this X.prog X.w X.xe _ ⟨.bl _, H, I, rfl, q F H _ (Same.refl _) R (.bl _)⟩
      · cases e
theorem any_py (ds : List D) (d : D) (h : plAll ds = true) (hd : d.pl = true) : ((pys ds).any fun y => PyData.eqv y d.py) = ds.any fun z => z.eqv d := by
  induction ds with
  | nil => rfl
  | cons e es ih =>
    have h : (e.pl && plAll es) = true := h
    obtain ⟨h1, h2⟩ := Bool.and_eq_true_iff.mp h
    show (PyData.eqv e.py d.py || (pys es).any fun y => PyData.eqv y d.py) = (e.eqv d || es.any fun z => z.eqv d)
    rw [ih h2, py_eqv e d h1 hd]
theorem room_in {n m : Nat} {A : Around} (h : m ≤ 64) (hu : A.units + 65 < cLine) : A.units + 1 + min n m < cLine := by
  have : min n m ≤ m := Nat.min_le_right _ _
  omega
theorem inB_cases {dx dy : D} {b : Bool} (e : inB dx dy = some b) : (∃ x y, dx = .str x ∧ dy = .str y ∧ b = !(Builtin.Str.occurrences y x 0 y.length 1).isEmpty) ∨ ∃ ds, dy.seq = some ds ∧ dx.fit = true ∧ dy.fit = true ∧ b = ds.any fun z => z.eqv dx := by
  unfold inB at e
  split at e
  · cases e; exact .inl ⟨_, _, rfl, rfl, rfl⟩
  · split at e
    · next ds es =>
      split at e
      · next hf =>
        cases e
        obtain ⟨f1, f2⟩ := Bool.and_eq_true_iff.mp hf
        exact .inr ⟨ds, es, f1, f2, rfl⟩
      · cases e
    · cases e
theorem opd_in (hu : X.A.units + 65 < cLine) : OpR X (compareOp .In) (rD2 X.K g semIn) := by
  intro pins s sg H x y v u Q I rx ry h
  obtain ⟨F, s0, r, dx, dy, d, R, hx, hy, e, q⟩ := h
  obtain ⟨b, eb, rfl⟩ := Option.map_eq_some_iff.mp e
  clear e
  have e := eb
  rcases inB_cases e with ⟨x', y', rfl, rfl, rfl⟩ | ⟨ds, es, f1, f2, rfl⟩
  · cases hx.flat (fun _ => nofun); cases hy.flat (fun _ => nofun)
    exact op_in_str pins s sg H _ _ v u Q I rx ry ⟨_, _, rfl, rfl, q F H _ (Same.refl _) R (.bl _)⟩
  · have p1 := (Bool.and_eq_true_iff.mp f1).1
    have p2 := (Bool.and_eq_true_iff.mp f2).1
    have dp1 := of_decide_eq_true (Bool.and_eq_true_iff.mp f1).2
    obtain ⟨as, r1⟩ := RD.reads I dx x v p1 (hx.rd R.sub) rx
    obtain ⟨bs, r2⟩ := RD.reads I dy y u p2 (hy.rd R.sub) ry
    have fin : EP X pins sg Q (.bool ((pys ds).any fun y => PyData.eqv y dx.py)) s := by
      refine ⟨.bl _, H, I, rfl, ?_⟩
      have pd : plAll ds = true := by
        cases dy <;> first | (cases es; exact p2) | cases es
      rw [any_py ds dx pd p1]
      exact q F H _ (Same.refl _) R (.bl _)
    cases dy with
    | lst zs =>
      cases es
      exact SeqAt.in_list_reads (show Reads s.heap u (.list (pys ds)) bs from r2) r1 (pys_lay ds p2) (py_lay dx p1) (by rw [py_depth dx p1]; exact room_in dp1 hu) fin
    | tup zs =>
      cases es
      exact SeqAt.in_tuple_reads (show Reads s.heap u (.tuple (pys ds)) bs from r2) r1 (pys_lay ds p2) (py_lay dx p1) (by rw [py_depth dx p1]; exact room_in dp1 hu) fin
    | _ => cases es
end
end DL

/-! Data layer, part 7: arithmetic, subscripts, slices, built-ins, methods. -/
namespace DL
open PySem L2

/-! ### arithmetic -/
def semAdd : D → D → Option D
  | .int i, .int j => some (.int (i + j))
  | .str x, .str y => if x.length + y.length ≤ 1000000 then some (.str (x ++ y)) else none
  | .lst xs, .lst ys => if xs.length + ys.length ≤ 1000000 then some (.lst (xs ++ ys)) else none
  | .tup xs, .tup ys => if xs.length + ys.length ≤ 1000000 then some (.tup (xs ++ ys)) else none
  | _, _ => none
def semSub : D → D → Option D
  | .int i, .int j => some (.int (i - j))
  | _, _ => none
def semMul : D → D → Option D
  | .int i, .int j => if (-18446744073709551616 < i ∧ i < 18446744073709551616) then some (.int (i * j)) else none
  | .lst xs, .int k => if 0 ≤ k ∧ k ≤ 10000 ∧ xs.length ≤ 1000 then some (.lst (List.replicate k.toNat xs).flatten) else none
  | .str x, .int k => if 0 ≤ k ∧ k ≤ 1000 ∧ x.length ≤ 1000 then some (.str (Txt.mul x k)) else none
  | .tup xs, .int k => if xs ≠ [] ∧ 2 ≤ k ∧ k ≤ 1000 ∧ xs.length ≤ 1000 then some (.tup (List.replicate k.toNat xs).flatten) else none
  | _, _ => none
theorem mulOk_small {x : Str} {k : Int} (h : 0 ≤ k ∧ k ≤ 1000 ∧ x.length ≤ 1000) : MulOk x k := by
  refine ⟨?_, fun h1 _ h2 => ?_, fun _ _ => ?_⟩
  · have h1 : decide (k < -(2 ^ 63 : Int)) = false := decide_eq_false (by omega)
    have h2 : decide (k ≥ 2 ^ 63) = false := decide_eq_false (by omega)
    rw [h1, h2]; rfl
  · have h3 : (x.length : Int) ≤ 1000 := by omega
    have h4 : (1000 : Int) ≤ (2 ^ 63 - 1) / k := by
      apply Int.le_ediv_of_mul_le (by omega)
      omega
    omega
  · have h5 : k.toNat ≤ 1000 := by omega
    have h6 : x.length * k.toNat ≤ 1000 * 1000 := Nat.mul_le_mul h.2.2 h5
    unfold Builtin.Str.tooLong
    rw [sizeLine_eq]
    simp
    omega
def semFdiv : D → D → Option D
  | .int i, .int j => if 0 < j ∧ j < 1073741824 then some (.int (i / j)) else none
  | _, _ => none
def semMod : D → D → Option D
  | .int i, .int j => if 0 < j then some (.int (i % j)) else none
  | _, _ => none
def semPow : D → D → Option D
  | .int i, .int j => if 0 ≤ j ∧ j ≤ 1000 ∧ i.natAbs < 1000 then some (.int (i ^ j.toNat)) else none
  | _, _ => none
def semNeg : D → Option D
  | .int i => some (.int (-i))
  | _ => none
theorem mil_line : (1000000 : Nat) ≤ sizeLine := by decide
section
variable {X : Cx} {g : G}
/-- a new list, frozen -/
theorem PD.lst {K : PySem.W.Frag} {F H : Hp} {s : St} {r : En} {Q : VK} {ds : List D} {vs : List V} (R : Rel K g F H s r) (hvs : RDs K F vs ds) (q : PD K g F s Q (.lst ds) r) (p : Addr) (np : H p = none) : Q (.ref p) (L2.upd H p (.lst vs)) := by
  have sF := same_upd (o := .lst vs) (R.ff np)
  exact q _ _ _ sF (R.alloc np) (.lst upd_same (RDs.mono sF ds hvs))
theorem PD.tup {K : PySem.W.Frag} {F H : Hp} {s : St} {r : En} {Q : VK} {ds : List D} {vs : List V} (R : Rel K g F H s r) (hvs : RDs K F vs ds) (q : PD K g F s Q (.tup ds) r) (p : Addr) (np : H p = none) : Q (.ref p) (L2.upd H p (.tup vs)) := by
  have sF := same_upd (o := .tup vs) (R.ff np)
  exact q _ _ _ sF (R.alloc np) (.tup (.of upd_same) (RDs.mono sF ds hvs))
theorem opd_add : OpR X (binaryOp .Add) (rD2 X.K g semAdd) := by
  intro pins s sg H x y v u Q I rx ry h
  obtain ⟨F, s0, r, dx, dy, d, R, hx, hy, e, q⟩ := h
  unfold semAdd at e
  split at e
  · cases e
    cases hx.flat (fun _ => nofun); cases hy.flat (fun _ => nofun)
    exact op_add pins s sg H _ _ v u Q I rx ry ⟨_, _, rfl, rfl, q F H _ (Same.refl _) R (.int _)⟩
  · split at e
    · next hl =>
      cases e
      cases hx.flat (fun _ => nofun); cases hy.flat (fun _ => nofun)
      exact op_add_str pins s sg H _ _ v u Q I rx ry ⟨_, _, rfl, rfl, Nat.le_trans hl mil_line, q F H _ (Same.refl _) R (.str _)⟩
    · cases e
  · split at e
    · next hl =>
      cases e
      obtain ⟨a, vs, rfl, h1, h2⟩ := hx.lst R.sub
      obtain ⟨b, ws, rfl, h3, h4⟩ := hy.lst R.sub
      exact op_cat pins s sg H _ _ v u Q I rx ry ⟨a, b, vs, ws, rfl, rfl, h1, h3, by rw [h2.length, h4.length]; exact Nat.le_trans hl mil_line, PD.lst R (h2.app h4) q⟩
    · cases e
  · split at e
    · next hl =>
      cases e
      obtain ⟨a, vs, rfl, h1, h1', h2⟩ := hx.tup R.sub
      obtain ⟨b, ws, rfl, h3, h3', h4⟩ := hy.tup R.sub
      refine op_catA pins s sg H _ _ v u Q I rx ry ⟨a, b, vs, ws, rfl, rfl, h1, h3, by rw [h2.length, h4.length]; exact Nat.le_trans hl mil_line, fun z => ?_, fun _ z => ?_, fun _ _ => PD.tup R (h2.app h4) q⟩
      · subst z
        cases h2
        rw [List.nil_append] at q
        exact q F H _ (Same.refl _) R (.tup h3' h4)
      · subst z
        cases h4
        rw [List.append_nil] at q
        exact q F H _ (Same.refl _) R (.tup h1' h2)
    · cases e
  · cases e
theorem opd_mul : OpR X (binaryOp .Mult) (rD2 X.K g semMul) := by
  intro pins s sg H x y v u Q I rx ry h
  obtain ⟨F, s0, r, dx, dy, d, R, hx, hy, e, q⟩ := h
  unfold semMul at e
  split at e
  · split at e
    · next hl =>
      cases e
      cases hx.flat (fun _ => nofun); cases hy.flat (fun _ => nofun)
      exact op_mul pins s sg H _ _ v u Q I rx ry ⟨_, _, rfl, rfl, .inl ⟨by omega, by omega⟩, q F H _ (Same.refl _) R (.int _)⟩
    · cases e
  · split at e
    · next xs k hl =>
      cases e
      obtain ⟨a, vs, rfl, h1, h2⟩ := hx.lst R.sub
      cases hy.flat (fun _ => nofun)
      have rep : ∀ n : Nat, RDs X.K F (List.replicate n vs).flatten (List.replicate n xs).flatten := fun n => by
        induction n with
        | zero => exact .nil
        | succ n ih =>
          rw [List.replicate_succ, List.replicate_succ, List.flatten_cons, List.flatten_cons]
          exact h2.app ih
      refine op_rep pins s sg H _ _ v u Q I rx ry ⟨a, k, vs, rfl, rfl, h1, by omega, by omega, ?_, PD.lst R (rep _) q⟩
      rw [h2.length]
      have h5 : k.toNat ≤ 10000 := by omega
      have h6 : xs.length * k.toNat ≤ 1000 * 10000 := Nat.mul_le_mul hl.2.2 h5
      exact Nat.le_trans h6 (by decide)
    · cases e
  · split at e
    · next x k hl =>
      cases e
      cases hx.flat (fun _ => nofun); cases hy.flat (fun _ => nofun)
      obtain ⟨t, rfl⟩ := rx
      obtain ⟨t', rfl⟩ := ry
      exact SB.mul (mulOk_small hl) fun t'' k' => ⟨.str _, H, I.tok _, ⟨_, rfl⟩, q F H _ (Same.refl _) R (.str _)⟩
    · cases e
  · split at e
    · next xs k hl =>
      cases e
      obtain ⟨a, vs, rfl, h1, _, h2⟩ := hx.tup R.sub
      cases hy.flat (fun _ => nofun)
      have rep : ∀ n : Nat, RDs X.K F (List.replicate n vs).flatten (List.replicate n xs).flatten := fun n => by
        induction n with
        | zero => exact .nil
        | succ n ih =>
          rw [List.replicate_succ, List.replicate_succ, List.flatten_cons, List.flatten_cons]
          exact h2.app ih
      refine op_repT pins s sg H _ _ v u Q I rx ry ⟨a, k, vs, rfl, rfl, h1, fun z => hl.1 ?_, hl.2.1, hl.2.2.1, by rw [h2.length]; exact hl.2.2.2, PD.tup R (rep _) q⟩
      have := h2.length
      rw [z] at this
      exact List.length_eq_zero_iff.mp this.symm
    · cases e
  · cases e
theorem opd_fdiv : OpR X (binaryOp .FloorDiv) (rD2 X.K g semFdiv) := by
  intro pins s sg H x y v u Q I rx ry h
  obtain ⟨F, s0, r, dx, dy, d, R, hx, hy, e, q⟩ := h
  unfold semFdiv at e
  split at e
  · split at e
    · next hl =>
      cases e
      cases hx.flat (fun _ => nofun); cases hy.flat (fun _ => nofun)
      exact op_fdiv pins s sg H _ _ v u Q I rx ry ⟨_, _, rfl, rfl, hl, q F H _ (Same.refl _) R (.int _)⟩
    · cases e
  · cases e
theorem opd_mod : OpR X (binaryOp .Mod) (rD2 X.K g semMod) := by
  intro pins s sg H x y v u Q I rx ry h
  obtain ⟨F, s0, r, dx, dy, d, R, hx, hy, e, q⟩ := h
  unfold semMod at e
  split at e
  · split at e
    · next hl =>
      cases e
      cases hx.flat (fun _ => nofun); cases hy.flat (fun _ => nofun)
      exact op_mod pins s sg H _ _ v u Q I rx ry ⟨_, _, rfl, rfl, hl, q F H _ (Same.refl _) R (.int _)⟩
    · cases e
  · cases e
theorem opd_pow : OpR X (binaryOp .Pow) (rD2 X.K g semPow) := by
  intro pins s sg H x y v u Q I rx ry h
  obtain ⟨F, s0, r, dx, dy, d, R, hx, hy, e, q⟩ := h
  unfold semPow at e
  split at e
  · split at e
    · next i j hl =>
      cases e
      cases hx.flat (fun _ => nofun); cases hy.flat (fun _ => nofun)
      refine op_pow pins s sg H _ _ v u Q I rx ry ⟨_, _, rfl, rfl, ⟨hl.1, by omega, ?_⟩, q F H _ (Same.refl _) R (.int _)⟩
      exact Nat.lt_trans hl.2.2 (by decide)
    · cases e
  · cases e
theorem und_neg : UnR X (unaryOp .USub) (rD1 X.K g semNeg) := by
  intro pins s sg H x v Q I rx h
  obtain ⟨F, s0, r, dx, d, R, hx, e, q⟩ := h
  unfold semNeg at e
  split at e
  · cases e
    cases hx.flat (fun _ => nofun)
    exact un_neg pins s sg H _ v Q I rx ⟨_, rfl, q F H _ (Same.refl _) R (.int _)⟩
  · cases e

/-! ### order -/
def semLt : D → D → Option D
  | .int i, .int j => some (.bl (decide (i < j)))
  | .str i, .str j => some (.bl (decide (i.cps.toList < j.cps.toList)))
  | _, _ => none
def semLe : D → D → Option D
  | .int i, .int j => some (.bl (decide (i ≤ j)))
  | _, _ => none
def semGt : D → D → Option D
  | .int i, .int j => some (.bl (decide (j < i)))
  | _, _ => none
def semGe : D → D → Option D
  | .int i, .int j => some (.bl (decide (j ≤ i)))
  | _, _ => none
theorem opd_lt : OpR X (compareOp .Lt) (rD2 X.K g semLt) := by
  intro pins s sg H x y v u Q I rx ry h
  obtain ⟨F, s0, r, dx, dy, d, R, hx, hy, e, q⟩ := h
  unfold semLt at e
  split at e
  · cases e
    cases hx.flat (fun _ => nofun); cases hy.flat (fun _ => nofun)
    exact op_lt pins s sg H _ _ v u Q I rx ry ⟨_, _, rfl, rfl, q F H _ (Same.refl _) R (.bl _)⟩
  · cases e
    cases hx.flat (fun _ => nofun); cases hy.flat (fun _ => nofun)
    exact op_lt_str pins s sg H _ _ v u Q I rx ry ⟨_, _, rfl, rfl, q F H _ (Same.refl _) R (.bl _)⟩
  · cases e
theorem opd_gt : OpR X (compareOp .Gt) (rD2 X.K g semGt) := by
  intro pins s sg H x y v u Q I rx ry h
  obtain ⟨F, s0, r, dx, dy, d, R, hx, hy, e, q⟩ := h
  unfold semGt at e
  split at e
  · cases e
    cases hx.flat (fun _ => nofun); cases hy.flat (fun _ => nofun)
    exact op_gt pins s sg H _ _ v u Q I rx ry ⟨_, _, rfl, rfl, q F H _ (Same.refl _) R (.bl _)⟩
  · cases e
theorem opd_ge : OpR X (compareOp .GtE) (rD2 X.K g semGe) := by
  intro pins s sg H x y v u Q I rx ry h
  obtain ⟨F, s0, r, dx, dy, d, R, hx, hy, e, q⟩ := h
  unfold semGe at e
  split at e
  · cases e
    cases hx.flat (fun _ => nofun); cases hy.flat (fun _ => nofun)
    exact op_ge pins s sg H _ _ v u Q I rx ry ⟨_, _, rfl, rfl, q F H _ (Same.refl _) R (.bl _)⟩
  · cases e
/-- is None, is not None -/
def D.isN : D → Bool
  | .non => true
  | _ => false
def semIs : D → D → Option D
  | d, .non => some (.bl d.isN)
  | _, _ => none
def semIsNot : D → D → Option D
  | d, .non => some (.bl (!d.isN))
  | _, _ => none
/-! ### subscripts -/
def semIx : D → D → Option D
  | .lst xs, .int i => atI xs i
  | .tup xs, .int i => atI xs i
  | .str x, .int i => if x.length ≤ 1000000 then (atI x.cps.toList i).map fun c => .str ⟨#[c]⟩ else none
  | _, _ => none
theorem RDs.at {K : PySem.W.Frag} {F : Hp} {vs : List V} {ds : List D} {i : Int} {d : D} (h : RDs K F vs ds) (e : atI ds i = some d) : ∃ v, atI vs i = some v ∧ RD K F v d := by
  unfold atI at e ⊢
  rw [h.length]
  obtain ⟨j, e1, e2⟩ := Option.bind_eq_some_iff.mp e
  obtain ⟨v, h1, h2⟩ := h.get e2
  exact ⟨v, by rw [e1]; exact h1, h2⟩
theorem ixd : IxR X (rD2 X.K g semIx) := by
  intro value slice pins s sg H x y v u Q I rx ry h hs
  obtain ⟨F, s0, r, dx, dy, d, R, hx, hy, e, q⟩ := h
  unfold semIx at e
  split at e
  · obtain ⟨a, vs, rfl, h1, h2⟩ := hx.lst R.sub
    cases hy.flat (fun _ => nofun)
    obtain ⟨w, e1, e2⟩ := h2.at e
    exact ix_list value slice pins s sg H _ _ v u Q I rx ry ⟨a, vs, _, w, rfl, rfl, .of h1, e1, q F H _ (Same.refl _) R e2⟩ hs
  · obtain ⟨a, vs, rfl, h1, _, h2⟩ := hx.tup R.sub
    cases hy.flat (fun _ => nofun)
    obtain ⟨w, e1, e2⟩ := h2.at e
    exact ix_tup value slice pins s sg H _ _ v u Q I rx ry ⟨a, vs, _, w, rfl, rfl, h1, e1, q F H _ (Same.refl _) R e2⟩ hs
  · split at e
    · next hl =>
      obtain ⟨c, e1, rfl⟩ := Option.map_eq_some_iff.mp e
      cases hx.flat (fun _ => nofun); cases hy.flat (fun _ => nofun)
      exact ix_str value slice pins s sg H _ _ v u Q I rx ry ⟨_, _, c, rfl, rfl, Nat.le_trans hl mil_line, e1, q F H _ (Same.refl _) R (.str _)⟩ hs
    · cases e
  · cases e

/-! ### slices -/
def cutL {α : Type} (xs : List α) (lo hi : Option Int) : List α := (xs.drop (HT.sIx xs.length 0 lo)).take (HT.sIx xs.length xs.length hi - HT.sIx xs.length 0 lo)
theorem RDs.cut {K : PySem.W.Frag} {F : Hp} {vs : List V} {ds : List D} (h : RDs K F vs ds) (lo hi : Option Int) : RDs K F (cutV vs lo hi) (cutL ds lo hi) := by
  unfold cutV cutL
  rw [h.length]
  exact (h.dp _).tk _
def semSl : D → Option Int → Option Int → Option D
  | .lst xs, lo, hi => some (.lst (cutL xs lo hi))
  | .scr ns, lo, hi => some (.lst ((cutL ns lo hi).map D.int))
  | .tup xs, lo, hi => some (.tup (cutL xs lo hi))
  | .str x, lo, hi => if x.length ≤ 1000000 then some (.str (cutS x lo hi)) else none
  | _, _, _ => none
def rDsl (K : PySem.W.Frag) (g : G) (sem : D → Option Int → Option Int → Option D) : V → Option Int → Option Int → Hp → VK → Prop := fun x lo hi H Q => ∃ F s r dx d, Rel K g F H s r ∧ RB K F H x dx ∧ sem dx lo hi = some d ∧ PD K g F s Q d r
theorem cut_ints (ns : List Int) (lo hi : Option Int) : cutV (ns.map V.int) lo hi = (cutL ns lo hi).map V.int := by
  unfold cutV cutL
  rw [List.length_map, List.map_take, List.map_drop]
theorem sld : SlR X (rDsl X.K g semSl) := by
  intro pins s sg H x v vl vu lo hi sl Q I rx hs pl pu h
  obtain ⟨F, s0, r, dx, d, R, hx, e, q⟩ := h
  unfold semSl at e
  split at e
  · cases e
    obtain ⟨a, vs, rfl, h1, h2⟩ := hx.lst R.sub
    exact sl_list pins s sg H _ v vl vu lo hi sl Q I rx hs pl pu ⟨a, vs, rfl, .of h1, PD.lst R (h2.cut lo hi) q⟩
  · next ns _ _ =>
    cases e
    cases hx.flat (fun _ => nofun) with
    | scr _ h1 =>
      refine sl_list pins s sg H _ v vl vu lo hi sl Q I rx hs pl pu ⟨_, _, rfl, R.sub.seq h1, ?_⟩
      rw [cut_ints]
      exact PD.lst R (RDs.ints _) q
  · cases e
    obtain ⟨a, vs, rfl, h1, h1', h2⟩ := hx.tup R.sub
    refine sl_tupA pins s sg H _ v vl vu lo hi sl Q I rx hs pl pu ⟨a, vs, rfl, h1, fun z => ?_, fun _ => PD.tup R (h2.cut lo hi) q⟩
    have ec : ∀ ys : List D, RDs X.K F vs ys → cutL ys lo hi = ys := fun ys h => by
      unfold cutL
      rw [h.length] at z
      rw [z.1, z.2]
      simp
    rw [ec _ h2] at q
    exact q F H _ (Same.refl _) R (.tup h1' h2)
  · split at e
    · next hl =>
      cases e
      cases hx.flat (fun _ => nofun)
      exact sl_str pins s sg H _ v vl vu lo hi sl Q I rx hs pl pu ⟨_, rfl, Nat.le_trans hl mil_line, q F H _ (Same.refl _) R (.str _)⟩
    · cases e
  · cases e
variable {a b c e : Expr} {pos p2 : Pos} {p : Opd}
/-- the parts of a slice: left out, or an int -/
def PtO (K : PySem.W.Frag) (g : G) (F : Hp) (s : St) (Q : Option Int → Hp → Prop) (o : Option Int) (r' : En) : Prop := ∀ F' H', Same F F' → Rel K g F' H' s r' → Q o H'
def tPO (K : PySem.W.Frag) (g : G) (f : En → Rs (Option Int)) : TO := fun s H Q => ∃ F r, Rel K g F H s r ∧ post K g (PtO K g F s Q) (f r)
def DPo (X : Cx) (g : G) (e : Option Expr) (f : En → Rs (Option Int)) : Prop := L2.PO X e (tPO X.K g f)
theorem PO.imp {X : Cx} {e : Option Expr} {t t' : TO} (h : L2.PO X e t) (i : ∀ s H Q, t' s H Q → t s H Q) : L2.PO X e t' :=
  ⟨fun pins s sg H Q I q => h.run pins s sg H Q I (i sg H Q q)⟩
def poN : En → Rs (Option Int) := fun r => .ok none r
def poS (f : En → Rs D) : En → Rs (Option Int) := fun r => (f r).bind fun d r1 => (ofO d.asI r1).map some
theorem dpo_none : DPo X g none poN := PO.imp po_none fun s H Q ⟨F, r, R, q⟩ => q F H (Same.refl _) R
theorem dpo_some {f : En → Rs D} (h : DE X g e f) : DPo X g (some e) (poS f) := PO.imp (po_some h) fun s H Q ⟨F, r, R, q⟩ => ⟨F, r, R, post_mono (post_bind q) fun d r1 q F1 H1 v sm R1 hv => by
  obtain ⟨i, ed, q⟩ := post_ofO (post_map q)
  have ed := asI_some ed
  subst ed
  cases hv
  exact ⟨i, rfl, q F1 H1 sm R1⟩⟩
def slD (p : Opd) (lo hi : En → Rs (Option Int)) (sem : D → Option Int → Option Int → Option D) : En → Rs D := fun r => (p.run r).bind fun x r1 => (lo r1).bind fun l r2 => (hi r2).bind fun h r3 => ofO ((look r3 x).bind fun d => sem d l h) r3
theorem de_slice {lo hi : Option Expr} {fl fh : En → Rs (Option Int)} (ha : DB X g a p) (hl : DPo X g lo fl) (hh : DPo X g hi fh) : DE X g (.Subscript a (.Slice lo hi none p2) pos) (slD p fl fh semSl) :=
  PE.imp (pe_slice sld ha hl hh) fun s H Q ⟨F, r, R, q⟩ => by
    refine ⟨F, r, R, post_mono (post_bind q) fun z r1 q1 F1 H1 v sm R1 hv => ⟨F1, r1, R1, post_mono (post_bind q1) fun l r2 q2 F2 H2 s2 R2 => ⟨F2, r2, R2, post_mono (post_bind q2) fun h r3 q3 F3 H3 s3 R3 => ?_⟩⟩⟩
    obtain ⟨d, e, q3⟩ := post_ofO q3
    obtain ⟨dx, e1, e2⟩ := Option.bind_eq_some_iff.mp e
    exact ⟨F3, s, r3, dx, d, R3, look_ok R3 ((hv.mono s2).mono s3) e1, e2, fun F4 H4 v4 s4 R4 h4 => q3 F4 H4 v4 (((sm.trans s2).trans s3).trans s4) R4 h4⟩

/-! ### built-ins by values: all arguments are looked at -/
def runs : List Opd → En → Rs (List (Sum D Nat))
  | [], r => .ok [] r
  | p :: ps, r => (p.run r).bind fun x r1 => (runs ps r1).bind fun xs r2 => .ok (x :: xs) r2
def looks (r : En) : List (Sum D Nat) → Option (List D)
  | [] => some []
  | x :: xs => (look r x).bind fun d => (looks r xs).map fun ds => d :: ds
def opN (ps : List Opd) (sem : List D → Option D) : En → Rs D := fun r => (runs ps r).bind fun xs r1 => ofO ((looks r1 xs).bind sem) r1
inductive RBs (K : PySem.W.Frag) (F H : Hp) : List V → List D → Prop
  | nil : RBs K F H [] []
  | cons {v : V} {vs : List V} {d : D} {ds : List D} : RB K F H v d → RBs K F H vs ds → RBs K F H (v :: vs) (d :: ds)
inductive OpdsOk (K : PySem.W.Frag) (F : Hp) (s : St) : List V → List (Sum D Nat) → Prop
  | nil : OpdsOk K F s [] []
  | cons {v : V} {vs : List V} {z : Sum D Nat} {zs : List (Sum D Nat)} : OpdOk K F s v z → OpdsOk K F s vs zs → OpdsOk K F s (v :: vs) (z :: zs)
def tBs (K : PySem.W.Frag) (g : G) (ps : List Opd) : TA := fun s H Q => ∃ F r, Rel K g F H s r ∧ post K g (fun zs r' => ∀ F' H' vs, Same F F' → Rel K g F' H' s r' → OpdsOk K F' s vs zs → Q vs H') (runs ps r)
def DBs (X : Cx) (g : G) (es : List Expr) (ps : List Opd) : Prop := PA X es (tBs X.K g ps)
theorem dbs_nil : DBs X g [] [] := PA.imp pa_nil fun s H Q ⟨F, r, R, q⟩ => q F H [] (Same.refl _) R .nil
theorem dbs_cons {es : List Expr} {ps : List Opd} (h : DB X g e p) (hs : DBs X g es ps) (hst : starEach (e :: es) X.env = (false, eval e X.env) :: starEach es X.env := by rfl) : DBs X g (e :: es) (p :: ps) :=
  PA.imp (pa_cons h hs hst) fun s H Q ⟨F, r, R, q⟩ => ⟨F, r, R, post_mono (post_bind q) fun z r1 q F1 H1 v sm R1 hv => ⟨F1, r1, R1, post_mono (post_bind q) fun zs r2 q F2 H2 vs s2 R2 hvs => q F2 H2 (v :: vs) (sm.trans s2) R2 (.cons (hv.mono s2) hvs)⟩⟩
theorem looks_ok {K : PySem.W.Frag} {F H : Hp} {s : St} {r : En} (R : Rel K g F H s r) : ∀ {zs : List (Sum D Nat)} {vs : List V} {ds : List D}, OpdsOk K F s vs zs → looks r zs = some ds → RBs K F H vs ds
  | [], _, _, .nil, e => by cases e; exact .nil
  | z :: zs, _, _, .cons h1 h2, e => by
    obtain ⟨d, e1, e2⟩ := Option.bind_eq_some_iff.mp e
    obtain ⟨ds, e3, rfl⟩ := Option.map_eq_some_iff.mp e2
    exact .cons (look_ok R h1 e1) (looks_ok R h2 e3)
def rDN (K : PySem.W.Frag) (g : G) (sem : List D → Option D) : List V → Hp → VK → Prop := fun xs H Q => ∃ F s r ds d, Rel K g F H s r ∧ RBs K F H xs ds ∧ sem ds = some d ∧ PD K g F s Q d r
theorem tD_opN {K : PySem.W.Frag} {ps : List Opd} {sem : List D → Option D} {s : St} {H : Hp} {Q : VK} (h : tD K g (opN ps sem) s H Q) : tBs K g ps s H fun xs H1 => rDN K g sem xs H1 Q := by
  obtain ⟨F, r, R, h⟩ := h
  refine ⟨F, r, R, post_mono (post_bind h) fun zs r1 q F1 H1 vs sm R1 hv => ?_⟩
  obtain ⟨d, e, q⟩ := post_ofO q
  obtain ⟨ds, e1, e2⟩ := Option.bind_eq_some_iff.mp e
  exact ⟨F1, s, r1, ds, d, R1, looks_ok R1 hv e1, e2, fun F2 H2 v2 s2 R2 h2 => q F2 H2 v2 (sm.trans s2) R2 h2⟩
theorem de_callB {x : Str} {pn : Pos} {id : String} {es : List Expr} {ps : List Opd} {sem : List D → Option D} (hc : CallR X (.builtin id) (rDN X.K g sem)) (hm : X.mg x = none) (ha : DBs X g (e :: es) ps) (hg : Gl X x := by rfl) (hv : bootBuiltins x = some (.builtin id) := by decide +kernel)
    (hn : x ≠ "__name__" := by decide) (hdb : (x == ("__debug__" : Str)) = false := by decide) (he : starEach (e :: es) X.env = (false, eval e X.env) :: starEach es X.env := by rfl) (hpl : (backTo pos (starEach es X.env)).any (·.1) = false := by rfl) : DE X g (.Call (.Name x pn) (e :: es) [] pos) (opN ps sem) :=
  PE.imp (pe_callB hc hg hm hv ha hn hdb he hpl) fun s H Q h => tD_opN h
theorem de_callT {x : Str} {pn : Pos} {T : String} {es : List Expr} {ps : List Opd} {sem : List D → Option D} (hc : CallR X (.type T) (rDN X.K g sem)) (hm : X.mg x = none) (ha : DBs X g (e :: es) ps) (hg : Gl X x := by rfl) (hv : bootBuiltins x = some (.type T) := by decide +kernel)
    (hn : x ≠ "__name__" := by decide) (hdb : (x == ("__debug__" : Str)) = false := by decide) (he : starEach (e :: es) X.env = (false, eval e X.env) :: starEach es X.env := by rfl) (hpl : (backTo pos (starEach es X.env)).any (·.1) = false := by rfl) : DE X g (.Call (.Name x pn) (e :: es) [] pos) (opN ps sem) :=
  PE.imp (pe_callTy hc hg hm hv ha hn hdb he hpl) fun s H Q h => tD_opN h

def semAbs : List D → Option D
  | [.int i] => some (.int (if i < 0 then -i else i))
  | _ => none
def semInt : List D → Option D
  | [.int i] => some (.int i)
  | [.bl b] => some (.int (if b then 1 else 0))
  | _ => none
def semLen : List D → Option D
  | [.lst xs] => some (.int xs.length)
  | [.tup xs] => some (.int xs.length)
  | [.str x] => if x.length ≤ 1000000 then some (.int x.length) else none
  | _ => none
def semTuple : List D → Option D
  | [.lst xs] => some (.tup xs)
  | [.tup xs] => some (.tup xs)
  | _ => none
def semList : List D → Option D
  | [.lst xs] => some (.lst xs)
  | [.tup xs] => some (.lst xs)
  | _ => none
theorem RBs.one {K : PySem.W.Frag} {F H : Hp} {vs : List V} {d : D} (h : RBs K F H vs [d]) : ∃ v, vs = [v] ∧ RB K F H v d := by
  cases h with
  | cons h1 h2 => cases h2; exact ⟨_, rfl, h1⟩
theorem cd_abs : CallR X (.builtin "abs") (rDN X.K g semAbs) := by
  intro pins s sg H xs us Q I rv h
  obtain ⟨F, s0, r, ds, d, R, hx, e, q⟩ := h
  unfold semAbs at e
  split at e
  · cases e
    obtain ⟨v, rfl, h1⟩ := hx.one
    cases h1.flat (fun _ => nofun)
    exact call_abs pins s sg H _ us Q I rv ⟨_, rfl, q F H _ (Same.refl _) R (.int _)⟩
  · cases e
theorem cd_int : CallR X (.type "int") (rDN X.K g semInt) := by
  intro pins s sg H xs us Q I rv h
  obtain ⟨F, s0, r, ds, d, R, hx, e, q⟩ := h
  unfold semInt at e
  split at e
  · cases e
    obtain ⟨v, rfl, h1⟩ := hx.one
    cases h1.flat (fun _ => nofun)
    exact call_int1 pins s sg H _ us Q I rv (.inl ⟨_, rfl, q F H _ (Same.refl _) R (.int _)⟩)
  · cases e
    obtain ⟨v, rfl, h1⟩ := hx.one
    cases h1.flat (fun _ => nofun)
    exact call_int1 pins s sg H _ us Q I rv (.inr ⟨_, rfl, q F H _ (Same.refl _) R (.int _)⟩)
  · cases e
theorem cd_len : CallR X (.builtin "len") (rDN X.K g semLen) := by
  intro pins s sg H xs us Q I rv h
  obtain ⟨F, s0, r, ds, d, R, hx, e, q⟩ := h
  unfold semLen at e
  split at e
  · cases e
    obtain ⟨v, rfl, h1⟩ := hx.one
    obtain ⟨a, vs, rfl, h2, h3⟩ := h1.lst R.sub
    refine call_len_seq pins s sg H _ us Q I rv ⟨a, vs, rfl, .inl (.of h2), ?_⟩
    rw [h3.length]
    exact q F H _ (Same.refl _) R (.int _)
  · cases e
    obtain ⟨v, rfl, h1⟩ := hx.one
    obtain ⟨a, vs, rfl, h2, _, h3⟩ := h1.tup R.sub
    refine call_len_seq pins s sg H _ us Q I rv ⟨a, vs, rfl, .inr h2, ?_⟩
    rw [h3.length]
    exact q F H _ (Same.refl _) R (.int _)
  · split at e
    · next hl =>
      cases e
      obtain ⟨v, rfl, h1⟩ := hx.one
      cases h1.flat (fun _ => nofun)
      exact call_len_str pins s sg H _ us Q I rv ⟨_, rfl, Nat.le_trans hl mil_line, q F H _ (Same.refl _) R (.int _)⟩
    · cases e
  · cases e
end
end DL

/-! Data layer, part 8: lists that a name owns, walks of any data, methods of texts, constants of the module. -/
namespace DL
open PySem L2

/-! ### an owned list is changed -/
section
variable {X : Cx} {g : G}
theorem Rel.chg {K : PySem.W.Frag} {F H : Hp} {s : St} {r : En} {i : Nat} {xs xs' : List D} {a : Addr} {vs vs' : List V} (R : Rel K g F H s r) (e : r[i]? = some (some (.ow xs))) (hs : s[i]? = some (some (.ref a))) (fa : F a = none) (ha : H a = some (.lst vs)) (hv : RDs K F vs' xs') :
    Rel K g F (L2.upd H a (.lst vs')) s (r.set i (some (.ow xs'))) := by
  have hi : i < r.length := (List.getElem?_eq_some_iff.mp e).1
  have cs : ∀ (j : Nat) (u : OV), (r.set i (some (.ow xs')))[j]? = some (some u) → (j = i ∧ u = .ow xs') ∨ (j ≠ i ∧ r[j]? = some (some u)) := fun j u z => by
    by_cases hj : i = j
    · subst hj
      rw [List.getElem?_set_self hi] at z
      cases z
      exact .inl ⟨rfl, rfl⟩
    · rw [List.getElem?_set_ne hj] at z
      exact .inr ⟨fun z => hj z.symm, z⟩
  have ow1 : ∀ (j : Nat) (u : OV), (r.set i (some (.ow xs')))[j]? = some (some u) → u.own = true → ∃ u', r[j]? = some (some u') ∧ u'.own = true := fun j u z zo => by
    rcases cs j u z with ⟨rfl, rfl⟩ | ⟨_, z'⟩
    · exact ⟨_, e, rfl⟩
    · exact ⟨u, z', zo⟩
  refine ⟨fun b u eb => ?_, R.f0, R.fnew, fun b u eb hb ht => ?_, fun j u ej => ?_, fun j u b ej eo es => ?_, fun j k u w b hjk ej eo ek ek' => ?_, fun p hp => ?_, by rw [List.length_set]; exact R.len, R.tb.at (R.tb.tno (R.own i _ a e rfl hs)), fun p hp => ?_⟩
  · rw [upd_ne fun z => by rw [z, fa] at eb; cases eb]; exact R.sub b u eb
  · rw [upd_ne fun z => ?_]
    · exact R.keep b u eb hb ht
    · subst z
      rcases R.own i _ b e rfl hs with q | q
      · rw [q] at eb; cases eb
      · exact hb _ q rfl
  · rcases cs j u ej with ⟨rfl, rfl⟩ | ⟨hj, ej⟩
    · exact ⟨_, hs, a, vs', rfl, fa, upd_same, hv⟩
    · obtain ⟨v, h1, h2⟩ := R.slot j u ej
      refine ⟨v, h1, ?_⟩
      cases u with
      | sh d => exact h2
      | ow ys =>
        obtain ⟨b, ws, rfl, b2, b3, b4⟩ := h2
        exact ⟨b, ws, rfl, b2, by rw [upd_ne fun z => R.dist j i _ _ a hj ej rfl e rfl (by rw [h1, z]) hs]; exact b3, b4⟩
      | od ys =>
        obtain ⟨b, ws, rfl, b2, b3, b4⟩ := h2
        exact ⟨b, ws, rfl, b2, by rw [upd_ne fun z => R.dist j i _ _ a hj ej rfl e rfl (by rw [h1, z]) hs]; exact b3, b4⟩
      | oi c ys =>
        obtain ⟨b, ws, rfl, b2, b3, b4⟩ := h2
        exact ⟨b, ws, rfl, b2, by rw [upd_ne fun z => R.dist j i _ _ a hj ej rfl e rfl (by rw [h1, z]) hs]; exact b3, b4⟩
      | th ys =>
        obtain ⟨b, ws, rfl, b2, b3, b4⟩ := h2
        exact ⟨b, ws, rfl, b2, by rw [upd_ne fun z => R.dist j i _ _ a hj ej rfl e rfl (by rw [h1, z]) hs]; exact b3, b4⟩
      | exc c => exact h2
  · obtain ⟨u', e1, e2⟩ := ow1 j u ej eo
    exact R.own j u' b e1 e2 es
  · obtain ⟨u', e1, e2⟩ := ow1 j u ej eo
    obtain ⟨w', e3, e4⟩ := ow1 k w ek ek'
    exact R.dist j k u' w' b hjk e1 e2 e3 e4
  · obtain ⟨p1, u, p2, p3⟩ := R.pin p hp
    refine ⟨p1, ?_⟩
    by_cases hj : i = p.1
    · exact ⟨.ow xs', by rw [← hj]; exact List.getElem?_set_self hi, rfl⟩
    · exact ⟨u, by rw [List.getElem?_set_ne hj]; exact p2, p3⟩
  · obtain ⟨x1, x2, x3⟩ := R.ext p hp
    refine ⟨by rw [upd_ne fun z => x3 i _ e rfl (by rw [hs, z])]; exact x1, x2, fun j u ej eo => ?_⟩
    obtain ⟨u', e1, e2⟩ := ow1 j u ej eo
    exact x3 j u' e1 e2
/-- does the slot own a list -/
def fillW (r : En) (i : Nat) : Rs Unit :=
  match lookV r i with
  | some (.ow _) => .ok () r
  | _ => .bad
theorem post_fillW {K : PySem.W.Frag} {g : G} {P : Unit → En → Prop} {r : En} {i : Nat} (h : post K g P (fillW r i)) : (∃ xs, r[i]? = some (some (.ow xs))) ∧ P () r := by
  unfold fillW at h
  split at h
  · next xs e => exact ⟨⟨xs, lookV_some e⟩, h⟩
  · exact h.elim
theorem then_fillW {K : PySem.W.Frag} {F : Hp} {E : Ends} {r : En} {i : Nat} {k : Unit → En → SRs} (h : SPost K g F E (thenS (fillW r i) k)) : (∃ xs, r[i]? = some (some (.ow xs))) ∧ SPost K g F E (k () r) := post_fillW (post_then h)
/-- change the list of a slot -/
def chgS (i : Nat) (f : List D → Option (List D)) (r : En) : SRs :=
  match (lookV r i).bind OV.lst? with
  | some xs => match f xs with
    | some ys => .nx (r.set i (some (.ow ys)))
    | none => .bad
  | none => .bad
theorem chgS_ok {K : PySem.W.Frag} {F0 F H : Hp} {E : Ends} {s : St} {r : En} {i : Nat} {f : List D → Option (List D)} (R : Rel K g F H s r) (sm : Same F0 F) (h : SPost K g F0 E (chgS i f r)) :
    ∃ a vs xs ys, s[i]? = some (some (.ref a)) ∧ H a = some (.lst vs) ∧ RDs K F vs xs ∧ r[i]? = some (some (.ow xs)) ∧ f xs = some ys ∧ ∀ vs', RDs K F vs' ys → E.nx s (L2.upd H a (.lst vs')) := by
  unfold chgS at h
  split at h
  · next xs e =>
    obtain ⟨o, e1, e2⟩ := Option.bind_eq_some_iff.mp e
    cases o with
    | sh d => cases e2
    | ow zs =>
      cases e2
      have e1 := lookV_some e1
      obtain ⟨v, h1, a, vs, rfl, fa, ha, hv⟩ := R.slot i _ e1
      split at h
      · next ys ef => exact ⟨a, vs, xs, ys, h1, ha, hv, e1, ef, fun vs' hv' => h F _ s sm (R.chg e1 h1 fa ha hv')⟩
      · exact h.elim
    | od zs => cases e2
    | oi c zs => cases e2
    | th zs => cases e2
    | exc c => cases e2
  · exact h.elim
variable {e ei : Expr} {pos apos cpos : Pos} {x : Str} {p : Pos}
def appF (d : D) : List D → Option (List D) := fun xs => if xs.length ≤ 1000000 then some (xs ++ [d]) else none
def appS (i : Nat) (f : En → Rs D) : En → SRs := fun r => thenS (fillW r i) fun _ r => thenS (f r) fun d r1 => chgS i (appF d) r1
theorem ds_append {i : Nat} {f : En → Rs D} (hv : PE X (.Name x p) (tVar i)) (h : DE X g e f) (hst : starEach [e] X.env = [(false, eval e X.env)] := by rfl) (hb : attributeBase (.Name x p) "append" X.env (eval (.Name x p) X.env) = eval (.Name x p) X.env := by rfl)
    (hline : (apos.endLine == cpos.line) = true := by rfl) (hsw : swapsWith (.Call (.Attribute (.Name x p) "append" apos) [e] [] cpos) none pos.line X.env = pure false := by rfl)
    (hfew : ((backTo cpos (starEach [e] X.env)).all (fun x => !x.1) && (backToKw cpos (keywordEach [] X.env)).all (fun x => x.1.isSome) && decide ([e].length + ([] : List Keyword).length + (if ([] : List Keyword).isEmpty then 0 else 1) < 30)) = true := by rfl)
    (hpl : (backTo cpos (starEach [] X.env)).any (·.1) = false := by rfl) : DS X g (.Expr (.Call (.Attribute (.Name x p) "append" apos) [e] [] cpos) pos) (appS i f) :=
  PS.imp (ps_expr (pe_bm PySem.F.plainAttrs_list PySem.F.slot_list_append PySem.F.type_list_append mt_append hv (pa_cons h pa_nil hst) hb hfew hline hst hpl) hsw) fun E s H ⟨F, r, R, q⟩ => by
    obtain ⟨⟨xs, e0⟩, q⟩ := then_fillW q
    obtain ⟨v, h1, a, vs, rfl, fa, ha, hvs⟩ := R.slot i _ e0
    refine ⟨_, h1, .inl ⟨rfl, vs, .of ha⟩, F, r, R, post_mono (post_then q) fun d r1 q F1 H1 w sm R1 hw => ?_⟩
    obtain ⟨b, ws, zs, ys, g1, g2, g3, g4, g5, g6⟩ := chgS_ok R1 sm q
    rw [h1] at g1
    cases g1
    unfold appF at g5
    split at g5
    · next hl =>
      cases g5
      exact ⟨a, ws, w, rfl, rfl, g2, by rw [g3.length]; exact Nat.lt_of_le_of_lt hl (by decide), g6 _ (g3.app (.cons hw .nil))⟩
    · cases g5
def extF (d : D) : List D → Option (List D) := fun xs => match d with
  | .lst ys => if xs.length + ys.length ≤ 1000000 then some (xs ++ ys) else none
  | _ => none
def extS (i : Nat) (f : En → Rs D) : En → SRs := fun r => thenS (fillW r i) fun _ r => thenS (f r) fun d r1 => chgS i (extF d) r1
theorem ds_extend {i : Nat} {f : En → Rs D} (hv : PE X (.Name x p) (tVar i)) (h : DE X g e f) (hst : starEach [e] X.env = [(false, eval e X.env)] := by rfl) (hb : attributeBase (.Name x p) "extend" X.env (eval (.Name x p) X.env) = eval (.Name x p) X.env := by rfl)
    (hline : (apos.endLine == cpos.line) = true := by rfl) (hsw : swapsWith (.Call (.Attribute (.Name x p) "extend" apos) [e] [] cpos) none pos.line X.env = pure false := by rfl)
    (hfew : ((backTo cpos (starEach [e] X.env)).all (fun x => !x.1) && (backToKw cpos (keywordEach [] X.env)).all (fun x => x.1.isSome) && decide ([e].length + ([] : List Keyword).length + (if ([] : List Keyword).isEmpty then 0 else 1) < 30)) = true := by rfl)
    (hpl : (backTo cpos (starEach [] X.env)).any (·.1) = false := by rfl) : DS X g (.Expr (.Call (.Attribute (.Name x p) "extend" apos) [e] [] cpos) pos) (extS i f) :=
  PS.imp (ps_expr (pe_bm PySem.F.plainAttrs_list PySem.F.slot_list_extend PySem.F.type_list_extend mt_extend hv (pa_cons h pa_nil hst) hb hfew hline hst hpl) hsw) fun E s H ⟨F, r, R, q⟩ => by
    obtain ⟨⟨xs, e0⟩, q⟩ := then_fillW q
    obtain ⟨v, h1, a, vs, rfl, fa, ha, hvs⟩ := R.slot i _ e0
    refine ⟨_, h1, .inl ⟨rfl, vs, .of ha⟩, F, r, R, post_mono (post_then q) fun d r1 q F1 H1 w sm R1 hw => ?_⟩
    obtain ⟨b, ws, zs, ys, g1, g2, g3, g4, g5, g6⟩ := chgS_ok R1 sm q
    rw [h1] at g1
    cases g1
    unfold extF at g5
    split at g5
    · split at g5
      · next hl =>
        cases g5
        cases hw with
        | lst k1 k2 => exact ⟨a, _, ws, _, rfl, rfl, g2, R1.sub _ _ k1, by rw [g3.length, k2.length]; exact Nat.le_trans hl mil_line, g6 _ (g3.app k2)⟩
      · cases g5
    · cases g5
/-- name[i] = e -/
def putF (k : D) (d : D) : List D → Option (List D) := fun xs => match k with
  | .int i => (ixN xs.length i).map fun j => xs.set j d
  | _ => none
def putS (i : Nat) (fi f : En → Rs D) : En → SRs := fun r => thenS (f r) fun d r1 => thenS (fillW r1 i) fun _ r1 => thenS (fi r1) fun k r2 => chgS i (putF k d) r2
theorem ds_put {i : Nat} {fi f : En → Rs D} {sp : Pos} (hv : PE X (.Name x p) (tVar i)) (hi : DE X g ei fi) (h : DE X g e f) (hs : swapsWithSole [.Subscript (.Name x p) ei sp] e pos.line X.env = pure false := by rfl) (hw : swappedStores [.Subscript (.Name x p) ei sp] e X.env = pure none := by rfl)
    (h1 : (assignEach [.Subscript (.Name x p) ei sp] X.env).map (·.2) = [assign (.Subscript (.Name x p) ei sp) X.env] := by rfl)
    (ha : ∀ v, assign (.Subscript (.Name x p) ei sp) X.env v = (do
      let ov ← holding [v] (eval (.Name x p) X.env)
      let iv ← holding [v, ov] (eval ei X.env)
      standAt sp
      holding [v, ov, iv] (setItem ov iv v)
      release [v, ov, iv] []) := by intro _; rfl) : DS X g (.Assign [.Subscript (.Name x p) ei sp] e pos) (putS i fi f) :=
  PS.imp (ps_asg h (pg_sub hv hi set_list ha) hs hw h1) fun E s H ⟨F, r, R, q⟩ => ⟨F, r, R, post_mono (post_then q) fun d r1 q F1 H1 w sm R1 hw => by
    obtain ⟨⟨xs, e0⟩, q⟩ := then_fillW q
    obtain ⟨v, h1, a, vs, rfl, fa, ha, hvs⟩ := R1.slot i _ e0
    refine ⟨_, h1, F1, r1, R1, post_mono (post_then q) fun k r2 q F2 H2 vk sm2 R2 hk => ?_⟩
    obtain ⟨b, ws, zs, ys, g1, g2, g3, g4, g5, g6⟩ := chgS_ok R2 (sm.trans sm2) q
    rw [h1] at g1
    cases g1
    unfold putF at g5
    split at g5
    · obtain ⟨j, g7, rfl⟩ := Option.map_eq_some_iff.mp g5
      cases hk
      exact ⟨a, ws, _, j, rfl, rfl, g2, by rw [g3.length]; exact g7, g6 _ (g3.upd (RD.mono sm2 d hw) j)⟩
    · cases g5⟩
/-- an item of a tracked list, by values -/
theorem get_list : PGet X (fun o i H Q => ∃ a vs k v, o = .ref a ∧ i = .int k ∧ H a = some (.lst vs) ∧ 0 ≤ k ∧ k < 1000000 ∧ vs[k.toNat]? = some v ∧ Q v H) := by
  intro pins s sg H o i ov iv Q I ro ri h
  obtain ⟨a, vs, k, v, rfl, rfl, ha, h0, h1, hv, q⟩ := h
  cases ro
  obtain ⟨t, rfl⟩ := ri
  obtain ⟨its, rv, pl, _⟩ := I.list (SqL.of ha)
  obtain ⟨u, hu, ru⟩ := rv.get hv
  exact PySem.wpAny_getItem_list pl.isList h0 (by omega) (by simpa using hu) ⟨v, H, I, ru, q⟩
/-- name[i] += e, ints -/
def augF (k d : D) : List D → Option (List D) := fun xs => match k, d with
  | .int i, .int y => if 0 ≤ i ∧ i < 1000000 then match xs[i.toNat]? with
    | some (.int z) => some (xs.set i.toNat (.int (z + y)))
    | _ => none else none
  | _, _ => none
def augS (i : Nat) (k y : Int) : En → SRs := fun r => chgS i (augF (.int k) (.int y)) r
theorem ixN_nat {n : Nat} {k : Int} (h0 : 0 ≤ k) (h : k.toNat < n) : ixN n k = some k.toNat := by
  unfold ixN
  rw [if_pos h0, if_pos (by omega)]
theorem ds_augI {i : Nat} {k y : Int} {j1 j2 : Nat} {sp p1 p2 : Pos} (hv : PE X (.Name x p) (tVar i))
    (ha : ∀ ov iv new, augStore (.Constant (.int k) j1 p1) ov iv new = (do holding [new, ov, iv] (setItem ov iv new); release [new, ov, iv] []; pure .next) := by intros; rfl) :
    DS X g (.AugAssign (.Subscript (.Name x p) (.Constant (.int k) j1 p1) sp) .Add (.Constant (.int y) j2 p2) pos) (augS i k y) :=
  PS.imp (ps_augS hv pe_int get_list pe_int ip_add set_list ha) fun E s H ⟨F, r, R, q⟩ => by
    obtain ⟨a, ws, zs, ys, g1, g2, g3, g4, g5, g6⟩ := chgS_ok R (Same.refl _) q
    have g5 : (if 0 ≤ k ∧ k < 1000000 then match zs[k.toNat]? with
      | some (.int z) => some (zs.set k.toNat (.int (z + y)))
      | _ => none else none) = some ys := g5
    split at g5
    · next hk =>
      split at g5
      · next z ez =>
        cases g5
        obtain ⟨w, k1, k2⟩ := g3.get ez
        cases k2
        refine ⟨_, g1, a, ws, k, _, rfl, rfl, g2, hk.1, hk.2, k1, z, y, rfl, rfl, a, ws, k, k.toNat, rfl, rfl, g2, ixN_nat hk.1 ?_, g6 _ (g3.upd (.int _) _)⟩
        exact (List.getElem?_eq_some_iff.mp k1).1
      · cases g5
    · cases g5
end

/-! ### walks of any data -/
def signs (x : Str) : List D := x.cps.toList.map fun c => .str ⟨#[c]⟩
def D.items : D → Option (List D)
  | .lst ds => some ds
  | .tup ds => some ds
  | .str x => if x.length ≤ 1000000 then some (signs x) else none
  | _ => none
def itA (f : En → Rs D) : En → Rs (List D) := fun r => (f r).bind fun d r1 => ofO d.items r1
section
variable {X : Cx} {g : G} {tg e a b : Expr} {pos p : Pos}
theorem PI.or {X : Cx} {tg e : Expr} {t t' : TI} (h : PI X tg e t) (h' : PI X tg e t') : PI X tg e (fun s H Q => t s H Q ∨ t' s H Q) :=
  ⟨fun pins s sg H Q I q => q.elim (h.run pins s sg H Q I) (h'.run pins s sg H Q I)⟩
theorem wk_str {K : PySem.W.Frag} {B : List (Nat × Addr)} {F : Hp} {x : Str} {J : It} (hg : ∀ i H, i < x.cps.size → J.go i H) (hy : ∀ (i : Nat) H v H', J.yld i H v H' → H' = H ∧ ∃ c, x.cps[i]? = some c ∧ v = .str ⟨#[c]⟩) (hs : ∀ i H, x.cps.size ≤ i → J.stop i H) : Wk K B F J (signs x) := fun g F1 H1 s r _ sm R => by
  refine ⟨fun i d ed => ?_, fun i hi => hs i H1 (by unfold signs at hi; simpa using hi)⟩
  unfold signs at ed
  rw [List.getElem?_map] at ed
  obtain ⟨c, e1, rfl⟩ := Option.map_eq_some_iff.mp ed
  have hi : i < x.cps.size := by
    have := (List.getElem?_eq_some_iff.mp e1).1
    simpa using this
  refine ⟨hg i H1 hi, fun v H2 hv => ?_⟩
  obtain ⟨rfl, c', e2, rfl⟩ := hy i H1 v H2 hv
  have e3 : x.cps[i]? = some c := by simpa using e1
  rw [e3] at e2
  cases e2
  exact ⟨F1, Same.refl _, R, .str _⟩
end
end DL

/-! Data layer, part 9: walks, methods of texts, constants of the module, the end. -/
namespace DL
open PySem L2
section
variable {X : Cx} {g : G} {tg e a b o : Expr} {pos p apos : Pos}
theorem di_any {f : En → Rs D} (h : DE X g e f) : DI X g tg e (itA f) := by
  refine PI.imp (PI.or (PI.or (pi_list h) (pi_tup h)) (pi_str h)) fun s H Q ⟨F, r, R, q⟩ => ?_
  cases ef : f r with
  | bad =>
    unfold itA at q
    rw [ef] at q
    exact q.elim
  | ex x r1 =>
    unfold itA at q
    rw [ef] at q
    exact .inl (.inl ⟨F, r, R, by rw [ef]; exact q⟩)
  | ok d r1 =>
    have q : post X.K g (PI' X.K g F s Q) (ofO d.items r1) := by
      unfold itA at q
      rw [ef] at q
      exact q
    obtain ⟨ds, ed, q⟩ := post_ofO q
    cases d with
    | lst zs =>
      cases ed
      refine .inl (.inl ⟨F, r, R, ?_⟩)
      rw [ef]
      intro F1 H1 v sm R1 hv
      cases hv with
      | lst h1 h2 => exact ⟨_, rfl, ⟨_, .of (R1.sub _ _ h1)⟩, q F1 H1 _ sm R1 (wk_list h1 h2)⟩
    | tup zs =>
      cases ed
      refine .inl (.inr ⟨F, r, R, ?_⟩)
      rw [ef]
      intro F1 H1 v sm R1 hv
      cases hv with
      | tup h1 h2 => exact ⟨_, rfl, ⟨_, same_sqT R1.sub h1⟩, q F1 H1 _ sm R1 (wk_tup h1 h2)⟩
    | str x =>
      have ed : (if x.length ≤ 1000000 then some (signs x) else none) = some ds := ed
      split at ed
      · cases ed
        refine .inr ⟨F, r, R, ?_⟩
        rw [ef]
        intro F1 H1 v sm R1 hv
        cases hv
        exact ⟨x, rfl, q F1 H1 _ sm R1 (wk_str (fun i H hi => hi) (fun i H v H' hy => hy) fun i H hi => hi)⟩
      · cases ed
    | _ => cases ed
/-- zip of two lists, of two tuples -/
def zipD : List D → List D → List D
  | x :: xs, y :: ys => .tup [x, y] :: zipD xs ys
  | _, _ => []
def zip2 : D → D → Option (List D)
  | .lst xs, .lst ys => some (zipD xs ys)
  | .tup xs, .tup ys => some (zipD xs ys)
  | _, _ => none
def zpD (f h : En → Rs D) : En → Rs (List D) := fun r => (f r).bind fun d r1 => (h r1).bind fun e r2 => ofO (zip2 d e) r2
/-- enumerate of a list -/
def enumD : Nat → List D → List D
  | _, [] => []
  | n, d :: ds => .tup [.int (n : Int), d] :: enumD (n + 1) ds
def enD (f : En → Rs D) : En → Rs (List D) := fun r => (f r).bind fun d r1 => ofO (d.asL.map (enumD 0)) r1
/-! ### methods of texts -/
def m1D (p q : Opd) (sem : D → D → Option D) : En → Rs D := fun r => (p.run r).bind fun x r1 => match look r1 x with
  | some (.str y) => (q.run r1).bind fun z r2 => ofO ((look r2 z).bind fun d => sem (.str y) d) r2
  | _ => .bad
/-! ### constants of the module -/
/-- T[e], T a dict of the module with text keys: by a table -/
def tabD (t : List (Str × D)) (p : Opd) : En → Rs D := op1 p fun d => match d with
  | .str x => t.lookup x
  | _ => none
/-- a dict of the written part, whose values are flat -/
structure Tab (K : PySem.W.Frag) (w : World) (d : Addr) (t : List (Str × D)) : Prop where
  val : ∀ x z, t.lookup x = some z → ∃ v, KDct K w d x v ∧ ∀ F : Hp, RD K F v z
end

/-! ### the end -/
theorem walkG {l : PySem.W.OpenLaw} {n k : Nat} {q : Program} {loose : List Str} {XP : (Str → Option Value) → Heap → Prop} {YP : World → Heap → Prop} {d : DefRec} {K : Params → PySem.W.Frag} {f : List D → Option OV} {x : Str}
    (hi : PyProof.Rows.importsNone q = true) (hn : l.most = some n) (hn2 : n ≤ sizeLine) (hdf : d.params.defaults = []) (room : Room k callerA) (hY : ∀ (w : World) (h : Heap), YP w h → (K w.params).In h)
    (F : ∀ (w : World) (mg : Str → Option Value) (fa : Addr) (h : Heap), (K w.params).In h → h.Ns mainGlobals mg → mg d.name = some (.ref fa) →
      ∃ fd : FuncData, (∀ (s : Shared) (u : Value), BindsTo s fd ⟨[u], []⟩ [(x, u)]) ∧ ∀ base : Heap, (K w.params).In base → base.Ns mainGlobals mg → SysAt base → FnG l.prog w (K w.params) mg base CX0 k fa fd [x] (spP (K w.params) 1 f))
    (hf : ∀ ns : List Int, ns.length ≤ n → f [.scr ns] = some (.sh (.bl true))) : PySem.W.WalkO q loose XP YP l.row.toRowW d [] (fun f vs => PySem.call f vs) := by
  refine Att.attach_call hn hdf fun w s0 s1 mg mb fa o pm cd doc a vs ns T Y ho hd hcd hmg hobj hnums hlen hg => ?_
  obtain ⟨fd, hb, FF⟩ := F w mg fa _ (hY w _ Y) T.T.g hmg
  refine law_callG (hY w _ Y) T.T.g T.T.b T.T.builtins T.T.nolimit (let ⟨mm, h, _⟩ := (T.T.seer hi).mods; ⟨mm, h⟩) hg hobj hnums (Nat.le_trans hlen hn2) room FF hb fun H only sq => ?_
  refine ⟨H, [.scr ns], .sh (.bl true), Same.refl _, .cons (.scr ns sq) .nil, rfl, hf ns hlen, fun F' H' v _ _ _ _ hv => ?_⟩
  have hv : RD (K w.params) F' v (.bl true) := hv
  cases hv
  rfl
end DL

/-! Data layer, part 10: a, b = x, y. -/
namespace DL
open PySem L2
section
variable {X : Cx} {g : G} {a b c : Expr} {pos pt pt2 px py pz : Pos} {x y z : Str} {kt k2 i j l : Nat}
def par2 (i j : Nat) (f : En → Rs D) (h : En → Rs OV) : En → SRs := fun r => thenS (f r) fun d r1 => thenS (h r1) fun o r2 => .nx ((r2.set i (some (.sh d))).set j (some o))
def par3 (i j l : Nat) (f f2 : En → Rs D) (h : En → Rs OV) : En → SRs := fun r => thenS (f r) fun d r1 => thenS (f2 r1) fun d2 r2 => thenS (h r2) fun o r3 => .nx (((r3.set i (some (.sh d))).set j (some (.sh d2))).set l (some o))
/-- an owned value is nobody's, whatever is stored elsewhere -/
theorem RV.set {K : PySem.W.Frag} {F H : Hp} {s : St} {r : En} {v w : V} {o : OV} {d : D} {i : Nat} (hv : RV K g F H s r v o) : RV K g F H (s.set i (some w)) (r.set i (some (.sh d))) v o := by
  cases o with
  | sh d' => exact hv
  | ow xs =>
    obtain ⟨a, vs, e1, e2, e3, e4, e5, e6, e7⟩ := hv
    refine ⟨a, vs, e1, e2, e3, e4, e5, fun k u ek eo => ?_, e7⟩
    by_cases hk : i = k
    · subst hk
      by_cases hi : i < r.length
      · rw [List.getElem?_set_self hi] at ek; cases ek; cases eo
      · rw [List.getElem?_eq_none (by simpa using hi)] at ek; cases ek
    · rw [List.getElem?_set_ne hk] at ek ⊢
      exact e6 k u ek eo
  | od xs => exact hv.elim
  | oi c xs => exact hv.elim
  | th xs => exact hv.elim
  | exc c => exact hv.elim
theorem RV.laid {K : PySem.W.Frag} {F H : Hp} {s : St} {r : En} {v : V} {o : OV} {p : Addr} {u : HO} (np : H p = none) (hv : RV K g F H s r v o) : RV K g F (L2.upd H p u) s r v o := by
  cases o with
  | sh d' => exact hv
  | ow xs =>
    obtain ⟨a, vs, e1, e2, e3, e4, e5, e6, e7⟩ := hv
    exact ⟨a, vs, e1, e2, same_upd np _ _ e3, e4, e5, e6, e7⟩
  | od xs => exact hv.elim
  | oi c xs => exact hv.elim
  | th xs => exact hv.elim
  | exc c => exact hv.elim
end
end DL

/-! Data layer, part 11: what the printed texts use. -/
namespace DL
open PySem L2
theorem nb {g : G} {bs : List Nat} (h : g.B.map (·.1) = bs) (i : Nat) (hi : i ∉ bs) : ∀ p ∈ g.B, p.1 ≠ i := fun p hp z => hi (by rw [← h]; exact List.mem_map.mpr ⟨p, hp, z⟩)
theorem nb00 {g : G} (h : g.B = []) : g.B.map (·.1) = [] := by rw [h]; rfl
theorem nbs {g : G} {bs vs : List Nat} (h : g.B.map (·.1) = bs) (hv : ∀ i ∈ bs, i ∉ vs) : ∀ p ∈ g.B, p.1 ∉ vs := fun p hp => hv _ (by rw [← h]; exact List.mem_map.mpr ⟨p, hp, rfl⟩)
theorem nbt {g g' : G} {bs : List Nat} (e : Blk g g') (h : g.B.map (·.1) = bs) : g'.B.map (·.1) = bs := by rw [e.B]; exact h
theorem u65 {k : Nat} {A : Around} (r : Room k A) : A.units + 65 < cLine := by have := r.un; omega
def frzD (f : En → Rs OV) : En → Rs D := fun r => (f r).map OV.d
def shD (f : En → Rs D) : En → Rs OV := fun r => (f r).map OV.sh
def yesT : En → Rs Bool := fun r => .ok true r
section
variable {X : Cx} {g : G} {e c : Expr}
theorem DO.fz {f : En → Rs OV} (h : DO X g e f) : DE X g e (frzD f) := h.frz
theorem DE.shd {f : En → Rs D} (h : DE X g e f) : DO X g e (shD f) := h.sh
theorem PTs.imp {ifs : List Expr} {t t' : TT} (h : PTs X ifs t) (i : ∀ s H Q, t' s H Q → t s H Q) : PTs X ifs t' := ⟨fun pins s sg H Q I q => h.run pins s sg H Q I (i sg H Q q)⟩
theorem pts_nilD : PTs X [] (tTD X.K g yesT) := PTs.imp pts_nil fun s H Q ⟨F, r, R, q⟩ => q F H (Same.refl _) R
end
/-- a def of the text stands under its name -/
def FnAt (K : PySem.W.Frag) (mg : Str → Option Value) (x : Str) (st : Stmt) : Prop := ∃ f fd, Fun K x x st f fd ∧ mg x = some (.ref f)
/-- a dict of the module with texts as values -/
def TabOk (K : PySem.W.Frag) (d : Addr) : List (Str × Str) → Prop
  | [] => True
  | p :: r => (∃ t, PySem.W.nsIn K d p.1 = some (some (.str p.2 t))) ∧ TabOk K d r
end DL

/-! Data layer, part 12: plain lemmas about the functions of the layer. -/
namespace DL
open PySem L2
/-- a comprehension that changes nothing -/
theorem lcS_map {vs : List Nat} {h : D → En → Option En} {t : En → Rs Bool} {elt : En → Rs D} (p : D → Bool) (q : D → D) (r : En) : ∀ (ds : List D), (∀ d ∈ ds, ∃ r1 r2, h d (wipeE r vs) = some r1 ∧ t r1 = .ok (p d) r2 ∧ wipeE r2 vs = r ∧ (p d = true → ∃ r3, elt r2 = .ok (q d) r3 ∧ wipeE r3 vs = r)) →
    lcS vs h t elt ds r = .ok ((ds.filter p).map q) r
  | [], _ => rfl
  | d :: ds, st => by
    obtain ⟨r1, r2, e1, e2, e0, e3⟩ := st d (List.mem_cons_self ..)
    have ih := lcS_map p q r ds fun d hd => st d (List.mem_cons_of_mem _ hd)
    unfold lcS
    rw [e1]
    simp only [e2, Rs.bind]
    cases hp : p d with
    | false =>
      rw [List.filter_cons_of_neg (by simp [hp])]
      simp only [Bool.false_eq_true, if_false]
      rw [e0]
      exact ih
    | true =>
      obtain ⟨r3, e4, e5⟩ := e3 hp
      rw [List.filter_cons_of_pos hp]
      simp only [if_true, e4, e5, ih, List.map_cons]
theorem atI_lt {α : Type} {xs : List α} {i : Int} (h0 : 0 ≤ i) (h : i < xs.length) : atI xs i = some (xs[i.toNat]'(by omega)) := by
  unfold atI ixN
  rw [if_pos h0, if_pos h]
  simp only [Option.bind_some]
  exact List.getElem?_eq_getElem _
theorem atI_mem {α : Type} {xs : List α} {i : Int} (h0 : 0 ≤ i) (h : i < xs.length) : ∃ x, atI xs i = some x ∧ x ∈ xs := ⟨_, atI_lt h0 h, List.getElem_mem _⟩
/-! texts as lists of codes -/
theorem fit_str {x : Str} (h : ∀ c ∈ x.cps.toList, c < 1114112) : (D.str x).fit = true := by
  unfold D.fit D.pl D.dp
  simp only [Nat.zero_le, decide_true, Bool.and_true]
  rw [← Array.all_toList, List.all_eq_true]
  exact fun c hc => decide_eq_true (h c hc)
theorem pl_of_fit {d : D} (h : d.fit = true) : d.pl = true := (Bool.and_eq_true_iff.mp h).1
theorem plAll_of {ds : List D} (h : ∀ d ∈ ds, d.pl = true) : plAll ds = true := by
  induction ds with
  | nil => rfl
  | cons d ds ih =>
    show (d.pl && plAll ds) = true
    rw [h d (List.mem_cons_self ..), ih fun e he => h e (List.mem_cons_of_mem _ he)]; rfl
theorem dpAll_of {ds : List D} {n : Nat} (h : ∀ d ∈ ds, d.dp ≤ n) : dpAll ds ≤ n := by
  induction ds with
  | nil => exact Nat.zero_le _
  | cons d ds ih =>
    show max d.dp (dpAll ds) ≤ n
    exact Nat.max_le.mpr ⟨h d (List.mem_cons_self ..), ih fun e he => h e (List.mem_cons_of_mem _ he)⟩
theorem fit_lst {ds : List D} {n : Nat} (hn : n ≤ 63) (h : ∀ d ∈ ds, d.pl = true ∧ d.dp ≤ n) : (D.lst ds).fit = true := by
  unfold D.fit
  refine Bool.and_eq_true_iff.mpr ⟨plAll_of fun d hd => (h d hd).1, decide_eq_true ?_⟩
  have := dpAll_of fun d hd => (h d hd).2
  show dpAll ds + 1 ≤ 64
  omega
theorem fit_tup {ds : List D} {n : Nat} (hn : n ≤ 63) (h : ∀ d ∈ ds, d.pl = true ∧ d.dp ≤ n) : (D.tup ds).fit = true := by
  unfold D.fit
  refine Bool.and_eq_true_iff.mpr ⟨plAll_of fun d hd => (h d hd).1, decide_eq_true ?_⟩
  have := dpAll_of fun d hd => (h d hd).2
  show dpAll ds + 1 ≤ 64
  omega
end DL

/-! Data layer, part 13: repr. -/
namespace DL
open PySem L2

mutual
def D.wt : D → Nat
  | .non => 4
  | .bl _ => 5
  | .int i => if i.natAbs < 1000000000000000000 then 20 else 1921
  | .str x => 10 * x.length + 2
  | .lst xs => wtAll xs + 3
  | .tup xs => wtAll xs + 3
  | .dic _ => 0
  | .scr _ => 0
  | .obj _ _ => 0
def wtAll : List D → Nat
  | [] => 0
  | d :: ds => d.wt + 2 + wtAll ds
end
mutual
def D.six : D → Bool
  | .int i => decide (i.natAbs.log2 < 1920)
  | .lst xs => sixAll xs
  | .tup xs => sixAll xs
  | _ => true
def sixAll : List D → Bool
  | [] => true
  | d :: ds => d.six && sixAll ds
end
def D.shw (d : D) : Bool := d.fit && d.six && decide (d.wt ≤ 1000000)
/-! with dicts -/
def kpl : Key → Bool
  | .inl i => decide (i.natAbs.log2 < 1920)
  | .inr x => x.cps.all (· < 1114112)
def kwt : Key → Nat
  | .inl i => if i.natAbs < 1000000000000000000 then 20 else 1921
  | .inr x => 10 * x.length + 2
mutual
def D.rp : D → Bool
  | .non => true
  | .bl _ => true
  | .int i => decide (i.natAbs.log2 < 1920)
  | .str x => x.cps.all (· < 1114112)
  | .lst xs => rpAll xs
  | .tup xs => rpAll xs
  | .dic kvs => rpK kvs
  | .scr _ => false
  | .obj _ _ => false
def rpAll : List D → Bool
  | [] => true
  | d :: ds => d.rp && rpAll ds
def rpK : List (Key × D) → Bool
  | [] => true
  | (k, d) :: ds => kpl k && (d.rp && rpK ds)
end
mutual
def D.dq : D → Nat
  | .lst xs => dqAll xs + 1
  | .tup xs => dqAll xs + 1
  | .dic kvs => dqK kvs + 1
  | _ => 0
def dqAll : List D → Nat
  | [] => 0
  | d :: ds => max d.dq (dqAll ds)
def dqK : List (Key × D) → Nat
  | [] => 0
  | (_, d) :: ds => max d.dq (dqK ds)
end
mutual
def D.wq : D → Nat
  | .non => 4
  | .bl _ => 5
  | .int i => if i.natAbs < 1000000000000000000 then 20 else 1921
  | .str x => 10 * x.length + 2
  | .lst xs => wqAll xs + 3
  | .tup xs => wqAll xs + 3
  | .dic kvs => wqK kvs + 2
  | .scr _ => 0
  | .obj _ _ => 0
def wqAll : List D → Nat
  | [] => 0
  | d :: ds => d.wq + 2 + wqAll ds
def wqK : List (Key × D) → Nat
  | [] => 0
  | (k, d) :: ds => kwt k + 2 + d.wq + 2 + wqK ds
end
def D.shx (d : D) : Bool := d.rp && decide (d.dq ≤ 64) && decide (d.wq ≤ 1000000)
def semRepr : List D → Option D
  | [d] => if d.shw then some (.str d.py.shown) else if d.shx then some (.str d.py.shown) else none
  | _ => none
section
variable {X : Cx} {pins : List (Addr × Obj)} {s : Shared} {H : Hp} {sg : St}
end
section
variable {X : Cx} {g : G}
end
end DL

/-! Data layer, part 14: truth of any data, isinstance, chains of comparisons. -/
namespace DL
open PySem L2

def D.tru : D → Option Bool
  | .non => some false
  | .bl b => some b
  | .int i => some (i != 0)
  | .str x => if x.length ≤ 1000000 then some (x.length != 0) else none
  | .lst xs => some (!xs.isEmpty)
  | .tup xs => some (!xs.isEmpty)
  | _ => none
section
variable {K : PySem.W.Frag} {F H : Hp} {v : V} {d : D}
end
def toT (p : Opd) : En → Rs Bool := fun r => (p.run r).bind fun x r1 => ofO ((look r1 x).bind D.tru) r1
def orV (f h : En → Rs D) : En → Rs D := fun r => (f r).bind fun d r1 => (ofO d.tru r1).bind fun c r1 => if c = true then .ok d r1 else h r1
def andV (f h : En → Rs D) : En → Rs D := fun r => (f r).bind fun d r1 => (ofO d.tru r1).bind fun c r1 => if c = true then h r1 else .ok d r1
def notV (p : Opd) : En → Rs D := fun r => (toT p r).map fun c => .bl (!c)
section
variable {X : Cx} {g : G} {e a b c : Expr} {pos : Pos} {p : Opd}
/-! ### a < b < c -/
def chD (p q u : Opd) (sem sem' : D → D → Option D) : En → Rs D := fun r => (p.run r).bind fun x r1 => (q.run r1).bind fun y r2 =>
  (ofO (((look r2 x).bind fun dx => (look r2 y).bind fun dy => sem dx dy).bind D.asB) r2).bind fun k r2 => if k = true then (u.run r2).bind fun z r3 => ofO ((look r3 y).bind fun dy => (look r3 z).bind fun dz => sem' dy dz) r3 else .ok (.bl false) r2
/-! ### isinstance(e, T), isinstance(e, (T, ..)) -/
def D.ty : D → String
  | .non => "NoneType"
  | .bl _ => "bool"
  | .int _ => "int"
  | .str _ => "str"
  | .lst _ => "list"
  | .tup _ => "tuple"
  | .dic _ => "dict"
  | .scr _ => "list"
  | .obj _ _ => "object"
def isTy (t : String) (T : String) : Bool := t == T || (t == "bool" && T == "int")
def D.isi (d : D) (Ts : List String) : Bool := Ts.any (isTy d.ty)
def isiD (p : Opd) (Ts : List String) : En → Rs D := fun r => (p.run r).bind fun x r1 => ofO ((look r1 x).bind fun d => match d with
  | .scr _ => none
  | .obj _ _ => none
  | d => some (.bl (d.isi Ts))) r1
theorem ty_of {K : PySem.W.Frag} {F H : Hp} {v : V} {d : D} (sub : Same F H) (h : RB K F H v d) (h2 : (∀ x, d ≠ .scr x) ∧ ∀ c x, d ≠ .obj c x) : TyX K H v (.type d.ty) := by
  cases d with
  | non => cases h.flat (fun _ => nofun); exact .base .non
  | bl b => cases h.flat (fun _ => nofun); exact .base (.bl _)
  | int b => cases h.flat (fun _ => nofun); exact .base (.int _)
  | str x => cases h.flat (fun _ => nofun); exact .base (.str _)
  | lst xs =>
    obtain ⟨a, vs, rfl, h1, h2⟩ := h.lst sub
    exact .base (.lst h1)
  | tup xs =>
    obtain ⟨a, vs, rfl, h1, _, h2⟩ := h.tup sub
    rcases h1 with (h1 | ⟨o, h1⟩) | ⟨o, its, n, h1, hc, _⟩
    · exact .base (.tup h1)
    · exact .fTuple h1
    · exact .kTuple h1 hc
  | dic x =>
    cases h.flat (fun _ => nofun) with
    | dic h1 h2 =>
      exact .fDict (sub _ _ h1)
  | scr x => exact absurd rfl (h2.1 x)
  | obj c x => exact absurd rfl (h2.2 c x)
def tyNames : List String := ["int", "str", "bool", "list", "tuple", "dict", "float", "set", "bytes"]
end
end DL

/-! Data layer, part 15: dicts whose keys are ints and texts. -/
namespace DL
open PySem L2

def D.key : D → Option Key
  | .int i => some (.inl i)
  | .str x => some (.inr x)
  | _ => none
def valD (ds : List (Key × D)) (k : Key) : Option D := (ds.find? fun kv => decide (kv.1 = k)).map (·.2)
def putD (ds : List (Key × D)) (k : Key) (d : D) : List (Key × D) :=
  if (ds.any fun kv => decide (kv.1 = k)) = true then ds.map (fun kv => if kv.1 = k then (kv.1, d) else kv) else ds ++ [(k, d)]
def mergeD (ds more : List (Key × D)) : List (Key × D) := more.foldl (fun acc kv => putD acc kv.1 kv.2) ds
section
variable {K : PySem.W.Frag} {F H : Hp}
theorem key_of {v : V} {d : D} {k : Key} (h : RD K F v d) (e : d.key = some k) : v = kV k := by
  cases d with
  | int i => cases h; cases e; rfl
  | str x => cases h; cases e; rfl
  | _ => cases e
theorem RDk.find {k : Key} : ∀ {vs : List (Key × V)} {ds : List (Key × D)}, RDk K F vs ds → (∀ d, valD ds k = some d → ∃ v, valV vs k = some v ∧ RD K F v d) ∧ (valD ds k = none → valV vs k = none)
  | _, [], h => by cases h; exact ⟨fun d e => (by cases e), fun _ => rfl⟩
  | _, (j, d) :: ds, h => by
    cases h with
    | cons h1 h2 =>
      rename_i v vs
      obtain ⟨i1, i2⟩ := RDk.find (k := k) h2
      by_cases hk : j = k
      · have e1 : valD ((j, d) :: ds) k = some d := by simp [valD, List.find?_cons, hk]
        have e2 : valV ((j, v) :: vs) k = some v := valV_pos (p := (j, v)) hk
        rw [e1, e2]
        exact ⟨fun d' e => (by cases e; exact ⟨v, rfl, h1⟩), fun e => (by cases e)⟩
      · have e1 : valD ((j, d) :: ds) k = valD ds k := by simp [valD, List.find?_cons, hk]
        have e2 : valV ((j, v) :: vs) k = valV vs k := valV_neg (p := (j, v)) hk
        rw [e1, e2]
        exact ⟨i1, i2⟩
theorem RDk.any {k : Key} : ∀ {vs : List (Key × V)} {ds : List (Key × D)}, RDk K F vs ds → (vs.any fun kv => decide (kv.1 = k)) = (ds.any fun kv => decide (kv.1 = k))
  | _, [], h => by cases h; rfl
  | _, (j, d) :: ds, h => by
    cases h with
    | cons h1 h2 => rw [List.any_cons, List.any_cons, RDk.any h2]
theorem RDk.snoc {k : Key} {v : V} {d : D} (r : RD K F v d) : ∀ {vs : List (Key × V)} {ds : List (Key × D)}, RDk K F vs ds → RDk K F (vs ++ [(k, v)]) (ds ++ [(k, d)])
  | _, [], h => by cases h; exact .cons r .nil
  | _, (j, d) :: ds, h => by
    cases h with
    | cons h1 h2 => exact .cons h1 (RDk.snoc r h2)
theorem RDk.mapk {k : Key} {v : V} {d : D} (r : RD K F v d) : ∀ {vs : List (Key × V)} {ds : List (Key × D)}, RDk K F vs ds → RDk K F (vs.map fun kv => if kv.1 = k then (kv.1, v) else kv) (ds.map fun kv => if kv.1 = k then (kv.1, d) else kv)
  | _, [], h => by cases h; exact .nil
  | _, (j, d) :: ds, h => by
    cases h with
    | cons h1 h2 =>
      rw [List.map_cons, List.map_cons]
      by_cases hk : j = k
      · rw [if_pos hk, if_pos hk]; exact .cons r (RDk.mapk r h2)
      · rw [if_neg hk, if_neg hk]; exact .cons h1 (RDk.mapk r h2)
theorem RDk.put {k : Key} {v : V} {d : D} (r : RD K F v d) {vs : List (Key × V)} {ds : List (Key × D)} (h : RDk K F vs ds) : RDk K F (putK vs k v) (putD ds k d) := by
  unfold putK putD
  rw [h.any]
  split
  · exact h.mapk r
  · exact h.snoc r
theorem RDk.merge : ∀ {more : List (Key × D)} {mv : List (Key × V)} {vs : List (Key × V)} {ds : List (Key × D)}, RDk K F vs ds → RDk K F mv more → RDk K F (mergeK vs mv) (mergeD ds more)
  | [], _, _, _, h, h' => by cases h'; exact h
  | (k, d) :: more, _, vs, ds, h, h' => by
    cases h' with
    | cons h1 h2 =>
      show RDk K F (mergeK (putK vs k _) _) (mergeD (putD ds k d) more)
      exact RDk.merge (h.put h1) h2
theorem RDk.length : ∀ {vs : List (Key × V)} {ds : List (Key × D)}, RDk K F vs ds → vs.length = ds.length
  | _, [], h => by cases h; rfl
  | _, (j, d) :: ds, h => by
    cases h with
    | cons h1 h2 => rw [List.length_cons, List.length_cons, RDk.length h2]
theorem RB.dic {v : V} {ds : List (Key × D)} (sub : Same F H) (h : RB K F H v (.dic ds)) : ∃ a vs, v = .ref a ∧ Rd H a (.dK vs) ∧ RDk K F vs ds := by
  cases h.flat (fun _ => nofun) with
  | dic h1 h2 => exact ⟨_, _, rfl, .inr ⟨_, sub _ _ h1⟩, h2⟩
end
/-! ### d[k], k in d -/
def semAt : D → D → Option D
  | .dic ds, y => y.key.bind fun k => valD ds k
  | x, y => semIx x y
def inB2 : D → D → Option Bool
  | x, .dic ds => x.key.map fun k => (valD ds k).isSome
  | x, y => inB x y
def semIn2 (d e : D) : Option D := (inB2 d e).map D.bl
def semNotIn2 (d e : D) : Option D := (inB2 d e).map fun b => D.bl (!b)
section
variable {X : Cx} {g : G}
theorem ixAt (hu : X.A.units + 65 < cLine) : IxR X (rD2 X.K g semAt) := by
  intro value slice pins s sg H x y v u Q I rx ry h hs
  obtain ⟨F, s0, r, dx, dy, d, R, hx, hy, e, q⟩ := h
  unfold semAt at e
  split at e
  · next ds =>
    obtain ⟨k, ek, e⟩ := Option.bind_eq_some_iff.mp e
    obtain ⟨a, vs, rfl, h1, h2⟩ := hx.dic R.sub
    obtain rfl : v = Value.ref a := rx
    have ey : y = kV k := by
      refine key_of (hy.flat fun xs z => ?_) ek
      rw [z] at ek; cases ek
    subst ey
    obtain ⟨w, ew, hw⟩ := h2.find.1 _ e
    have gt : DGet H a (kV k) (some w) := .inl ⟨vs, k, h1, rfl, ew.symm⟩
    exact PyProof.Rows.tail_any (dict_typeIs I gt) PySem.F.slot_dict_getitem.lookup (d_getItem (by omega) I gt ry fun w' s' I' rw' => ⟨w, H, I', rw', q F H w (Same.refl _) R hw⟩) hs
  · exact ixd value slice pins s sg H x y v u Q I rx ry ⟨F, s0, r, dx, dy, d, R, hx, hy, e, q⟩ hs
theorem dget_of {F H : Hp} {s0 : St} {r : En} {y : V} {dy : D} {a : Addr} {vs : List (Key × V)} {ds : List (Key × D)} {k : Key} (R : Rel X.K g F H s0 r) (hy : RB X.K F H y dy) (ek : dy.key = some k) (h1 : Rd H a (.dK vs)) (h2 : RDk X.K F vs ds) : y = kV k ∧ DGet H a y (valV vs k) ∧ (valV vs k).isSome = (valD ds k).isSome := by
  have ey : y = kV k := by
    refine key_of (hy.flat fun xs z => ?_) ek
    rw [z] at ek; cases ek
  subst ey
  refine ⟨rfl, .inl ⟨vs, k, h1, rfl, rfl⟩, ?_⟩
  cases e : valD ds k with
  | none => rw [h2.find.2 e]; rfl
  | some d =>
    obtain ⟨w, ew, _⟩ := h2.find.1 d e
    rw [ew]; rfl
theorem opd_in2 (hu : X.A.units + 65 < cLine) : OpR X (compareOp .In) (rD2 X.K g semIn2) := by
  intro pins s sg H x y v u Q I rx ry h
  obtain ⟨F, s0, r, dx, dy, d, R, hx, hy, e, q⟩ := h
  obtain ⟨b, eb, rfl⟩ := Option.map_eq_some_iff.mp e
  unfold inB2 at eb
  split at eb
  · next x0 ds =>
    obtain ⟨k, ek, rfl⟩ := Option.map_eq_some_iff.mp eb
    obtain ⟨a, vs, rfl, h1, h2⟩ := hy.dic R.sub
    obtain rfl : u = Value.ref a := ry
    obtain ⟨_, gt, eq⟩ := dget_of R hx ek h1 h2
    refine d_in (by omega) I gt rx fun s' I' => ⟨.bl _, H, I', rfl, ?_⟩
    rw [eq]
    exact q F H _ (Same.refl _) R (.bl _)
  · exact opd_in hu pins s sg H x y v u Q I rx ry ⟨F, s0, r, dx, dy, _, R, hx, hy, by unfold semIn; rw [eb]; rfl, q⟩
end
/-! ### {k: v, ..} -/
def evPs : List ((En → Rs D) × (En → Rs D)) → En → Rs (List (Key × D))
  | [], r => .ok [] r
  | (f, h) :: fs, r => (f r).bind fun k r1 => (h r1).bind fun d r2 => (ofO k.key r2).bind fun k r2 => (evPs fs r2).bind fun kds r3 => .ok ((k, d) :: kds) r3
def dicD (fs : List ((En → Rs D) × (En → Rs D))) : En → Rs D := fun r => (evPs fs r).noE.bind fun kds r1 => if kds.length ≤ 15 then .ok (.dic (mergeD [] kds)) r1 else .bad
/-- a reading whatever is held still -/
def tDa (K : PySem.W.Frag) (g0 : G) (f : En → Rs D) : TE := fun s H Q => ∃ g : G, Blk g0 g ∧ tD K g f s H Q
def trsD (K : PySem.W.Frag) (g0 : G) (fs : List ((En → Rs D) × (En → Rs D))) : List (TE × TE) := fs.map fun f => (tDa K g0 f.1, tDa K g0 f.2)
def DPs (X : Cx) (g0 : G) (pos : Pos) (ks : List (Option Expr)) (vs : List Expr) (fs : List ((En → Rs D) × (En → Rs D))) : Prop := PPs X pos ks vs (trsD X.K g0 fs)
section
variable {X : Cx} {g : G} {pos : Pos}
theorem dps_nil {g0 : G} : DPs X g0 pos [] [] [] := pps_nil
theorem dps_cons {g0 : G} {k v : Expr} {ks : List (Option Expr)} {vs : List Expr} {f h : En → Rs D} {fs : List ((En → Rs D) × (En → Rs D))} (hk : ∀ g : G, Blk g0 g → DE X g k f) (hv : ∀ g : G, Blk g0 g → DE X g v h) (hr : DPs X g0 pos ks vs fs) :
    DPs X g0 pos (some k :: ks) (v :: vs) ((f, h) :: fs) :=
  pps_cons ⟨fun pins s σ H Q I ⟨g', eg, q⟩ => (hk g' eg).run pins s σ H Q I q⟩ ⟨fun pins s σ H Q I ⟨g', eg, q⟩ => (hv g' eg).run pins s σ H Q I q⟩ hr
theorem pairs_ok {K : PySem.W.Frag} {s : St} {g0 : G} (bk : Blk g0 g) : ∀ (fs : List ((En → Rs D) × (En → Rs D))) {F H : Hp} {r : En} {Q : List (V × V) → Hp → Prop}, Rel K g F H s r →
    post K g (fun kds r' => ∀ F' H' (kvs : List (Key × V)), Same F F' → Rel K g F' H' s r' → RDk K F' kvs kds → Q (kvs.map fun kv => (kV kv.1, kv.2)) H') (evPs fs r) → tPairs (trsD K g0 fs) s H Q
  | [], F, H, r, Q, R, q => q F H [] (Same.refl _) R .nil
  | (f, h) :: fs, F, H, r, Q, R, q => by
    refine ⟨g, bk, F, r, R, post_mono (post_bind q) fun k r1 q F1 H1 v1 sm1 R1 hv1 => ⟨g, bk, F1, r1, R1, post_mono (post_bind q) fun d r2 q F2 H2 v2 sm2 R2 hv2 => ?_⟩⟩
    obtain ⟨k', ek, q⟩ := post_ofO (post_bind q)
    refine pairs_ok bk fs R2 (post_mono (post_bind q) fun kds r3 q F3 H3 kvs sm3 R3 hk3 => ?_)
    have e1 : v1 = kV k' := key_of hv1 ek
    subst e1
    exact q F3 H3 ((k', v2) :: kvs) ((sm1.trans sm2).trans sm3) R3 (.cons (RD.mono sm3 d hv2) hk3)
/-- what is held still is filled and frozen -/
theorem Rel.fill {K : PySem.W.Frag} {F H : Hp} {s : St} {r : En} {A : Addr} {o o' : HO} (R : Rel K (g.more A o) F H s r) (h0 : g.H0 A = none) (hX : ∀ p ∈ g.X, p.1 ≠ A) : Same F (L2.upd F A o') ∧ Rel K g (L2.upd F A o') (L2.upd H A o') s r := by
  obtain ⟨R, h1, h2, h3⟩ := R.less
  have sF : Same F (L2.upd F A o') := same_upd h2
  refine ⟨sF, fun b u e => ?_, R.f0.trans sF, fun b u e e0 => ?_, fun b u e hb ht => ?_, fun i u e => ?_, R.own, R.dist, R.pin, R.len, R.tb.atFH (R.tb.tn h0) h2, fun p hp => ?_⟩
  · by_cases hb : b = A
    · subst hb; rw [upd_same] at e ⊢; exact e
    · rw [upd_ne hb] at e ⊢; exact R.sub b u e
  · by_cases hb : b = A
    · subst hb; exact h0
    · rw [upd_ne hb] at e; exact R.fnew b u e e0
  · rw [upd_ne fun z => by rw [z, h0] at e; cases e]; exact R.keep b u e hb ht
  · obtain ⟨v, a1, a2⟩ := R.slot i u e
    refine ⟨v, a1, ?_⟩
    cases u with
    | sh d => exact RD.mono sF d a2
    | ow xs =>
      obtain ⟨b, ws, e1, e2, e3, e4⟩ := a2
      have hb : b ≠ A := fun z => h3 i _ e rfl (by rw [a1, e1, z])
      exact ⟨b, ws, e1, by rw [upd_ne hb]; exact e2, by rw [upd_ne hb]; exact e3, RDs.mono sF xs e4⟩
    | od xs =>
      obtain ⟨b, ws, e1, e2, e3, e4⟩ := a2
      have hb : b ≠ A := fun z => h3 i _ e rfl (by rw [a1, e1, z])
      exact ⟨b, ws, e1, by rw [upd_ne hb]; exact e2, by rw [upd_ne hb]; exact e3, RDm.mono sF xs e4⟩
    | oi c xs =>
      obtain ⟨b, ws, e1, e2, e3, e4⟩ := a2
      have hb : b ≠ A := fun z => h3 i _ e rfl (by rw [a1, e1, z])
      exact ⟨b, ws, e1, by rw [upd_ne hb]; exact e2, by rw [upd_ne hb]; exact e3, RDi.mono sF xs e4⟩
    | th xs =>
      obtain ⟨b, ws, e1, e2, e3, e4⟩ := a2
      have hb : b ≠ A := fun z => h3 i _ e rfl (by rw [a1, e1, z])
      exact ⟨b, ws, e1, by rw [upd_ne hb]; exact e2, by rw [upd_ne hb]; exact e3, RT.mono sF xs e4⟩
    | exc c => exact RE.mono sF a2
  · obtain ⟨x1, x2, x3⟩ := R.ext p hp
    exact ⟨by rw [upd_ne (hX p hp)]; exact x1, by rw [upd_ne (hX p hp)]; exact x2, x3⟩
/-- what was just made is locked -/
def tLk (t : TE) : TE := fun σ H Q => t σ H fun v H' => ∃ d u, H' d = some u ∧ Mut (some u) ∧ ∀ od, Q v (L2.upd H' d (.frz od u))
theorem pe_lk {e : Expr} {t : TE} (h : PE X e t) : PE X e (tLk t) := by
  refine ⟨fun pins s σ H Q I hw => ?_⟩
  refine thn (h.run pins s σ H _ I hw) fun v s1 ⟨x, H1, I2, r, d, u, hd, mu, q⟩ => ?_
  obtain ⟨od, I3⟩ := I2.lock hd mu
  exact ⟨x, _, I3, r, q od⟩
theorem de_disp {ks : List (Option Expr)} {vs : List Expr} {fs : List ((En → Rs D) × (En → Rs D))} (h : DPs X g pos ks vs fs) (hall : ks.all (·.isSome) = true := by rfl) (hl : ks.length = vs.length := by rfl) (h0 : ks ≠ [] := by exact List.cons_ne_nil _ _) (h15 : ks.length ≤ 15 := by decide) :
    DE X g (.Dict ks vs pos) (dicD fs) :=
  PE.imp (pe_lk (pe_disp h hall hl h0 h15)) fun s H Q ⟨F, r, R, q⟩ => fun p np => by
    have R1 : Rel X.K (g.more p (.dK [])) F (L2.upd H p (.dK [])) s r := (R.laid np).more upd_same (R.ff np) fun j o e eo => not_own R np j o e eo
    have hX : ∀ q ∈ g.X, q.1 ≠ p := fun q hq z => by have := (R.ext q hq).1; rw [z, np] at this; cases this
    refine pairs_ok (g := (g.more p (.dK [])).nw) (g0 := g) ⟨rfl, rfl, rfl, rfl⟩ fs R1.nw (post_mono (post_noE (post_bind q)) fun kds r1 q F2 H2 kvs sm R2 hk => ?_)
    have R2 := R2.unw
    obtain ⟨hl, q⟩ := post_if q
    refine ⟨R2.less.2.1, kvs, rfl, by rw [hk.length]; exact hl, ?_⟩
    have m : RDk X.K F2 (mergeK [] kvs) (mergeD [] kds) := RDk.merge .nil hk
    refine ⟨p, _, upd_same, trivial, fun od => ?_⟩
    rw [upd_upd]
    obtain ⟨sF, R3⟩ := R2.fill (o' := .frz od (.dK (mergeK [] kvs))) (R.live np) hX
    exact q _ _ _ (sm.trans sF) R3 (.dic upd_same (RDk.mono sF _ m))
/-! ### dict(pairs) -/
def pairD : List D → Option (List (Key × D))
  | [] => some []
  | .tup [k, d] :: ds => k.key.bind fun k => (pairD ds).map fun kds => (k, d) :: kds
  | _ => none
def semDict : List D → Option D
  | [.lst ds] => (pairD ds).map fun kds => .dic (mergeD [] kds)
  | _ => none
end
end DL

/-! Data layer, part 16: a name that gets a list and never changes it: frozen at once. -/
namespace DL
open PySem L2
section
variable {X : Cx} {g : G}
theorem Rel.fz {K : PySem.W.Frag} {F H : Hp} {s : St} {r : En} {i : Nat} {xs : List D} (R : Rel K g F H s r) (hb : ∀ p ∈ g.B, p.1 ≠ i) (e : r[i]? = some (some (.ow xs))) : ∃ F', Same F F' ∧ Rel K g F' H s (r.set i (some (.sh (.lst xs)))) := by
  obtain ⟨v, h1, h2⟩ := R.slot i _ e
  obtain ⟨a, vs, rfl, e2, e3, e4⟩ := h2
  have sF : Same F (L2.upd F a (.lst vs)) := same_upd e2
  have hi : i < r.length := (List.getElem?_eq_some_iff.mp e).1
  have ne : ∀ j u, (r.set i (some (.sh (.lst xs))))[j]? = some (some u) → u.own = true → j ≠ i ∧ r[j]? = some (some u) := fun j u z zo => by
    by_cases hj : i = j
    · subst hj
      rw [List.getElem?_set_self hi] at z
      cases z
      cases zo
    · rw [List.getElem?_set_ne hj] at z
      exact ⟨fun z => hj z.symm, z⟩
  have h0 : g.H0 a = none := by
    rcases R.own i _ a e rfl h1 with z | z
    · exact z
    · exact absurd rfl (hb _ z)
  refine ⟨L2.upd F a (.lst vs), sF, ⟨fun b u e => ?_, R.f0.trans sF, fun b u e e0 => ?_, R.keep, fun j u z => ?_, fun j u b z zo => ?_, fun j k u w b hjk z zo y yo => ?_, fun p hp => ?_, ?_, R.tb.atF (R.tb.tn h0) e2, fun p hp => ?_⟩⟩
  · by_cases hb : b = a
    · subst hb; rw [upd_same] at e; cases e; exact e3
    · rw [upd_ne hb] at e; exact R.sub b u e
  · by_cases hb : b = a
    · subst hb; exact h0
    · rw [upd_ne hb] at e; exact R.fnew b u e e0
  · by_cases hj : i = j
    · subst hj
      rw [List.getElem?_set_self hi] at z
      cases z
      exact ⟨_, h1, .lst upd_same (RDs.mono sF xs e4)⟩
    · rw [List.getElem?_set_ne hj] at z
      obtain ⟨w, g1, g2⟩ := R.slot j u z
      refine ⟨w, g1, ?_⟩
      cases u with
      | sh d => exact RD.mono sF d g2
      | ow ys =>
        obtain ⟨b, ws, rfl, f2, f3, f4⟩ := g2
        have hb : b ≠ a := fun zz => R.dist i j _ _ a hj e rfl z rfl h1 (by rw [g1, zz])
        exact ⟨b, ws, rfl, by rw [upd_ne hb]; exact f2, f3, RDs.mono sF ys f4⟩
      | od ys =>
        obtain ⟨b, ws, rfl, f2, f3, f4⟩ := g2
        have hb : b ≠ a := fun zz => R.dist i j _ _ a hj e rfl z rfl h1 (by rw [g1, zz])
        exact ⟨b, ws, rfl, by rw [upd_ne hb]; exact f2, f3, RDm.mono sF ys f4⟩
      | oi c ys =>
        obtain ⟨b, ws, rfl, f2, f3, f4⟩ := g2
        have hb : b ≠ a := fun zz => R.dist i j _ _ a hj e rfl z rfl h1 (by rw [g1, zz])
        exact ⟨b, ws, rfl, by rw [upd_ne hb]; exact f2, f3, RDi.mono sF ys f4⟩
      | th ys =>
        obtain ⟨b, ws, rfl, f2, f3, f4⟩ := g2
        have hb : b ≠ a := fun zz => R.dist i j _ _ a hj e rfl z rfl h1 (by rw [g1, zz])
        exact ⟨b, ws, rfl, by rw [upd_ne hb]; exact f2, f3, RT.mono sF ys f4⟩
      | exc c => exact RE.mono sF g2
  · obtain ⟨_, z'⟩ := ne j u z zo
    exact R.own j u b z' zo
  · obtain ⟨_, z'⟩ := ne j u z zo
    obtain ⟨_, y'⟩ := ne k w y yo
    exact R.dist j k u w b hjk z' zo y' yo
  · obtain ⟨p1, o, p2, p3⟩ := R.pin p hp
    refine ⟨p1, o, ?_, p3⟩
    rw [List.getElem?_set_ne fun z => hb p hp z.symm]
    exact p2
  · rw [List.length_set]; exact R.len
  · obtain ⟨x1, x2, x3⟩ := R.ext p hp
    refine ⟨x1, ?_, fun j u z zo => x3 j u (ne j u z zo).2 zo⟩
    have hn : p.1 ≠ a := fun zz => x3 i _ e rfl (by rw [h1, zz])
    rw [upd_ne hn]; exact x2
end
end DL

/-! Data layer, part 17: tools for the plain laws. -/
namespace DL
open PySem L2
noncomputable instance decD : DecidableEq D := fun _ _ => Classical.propDecidable _
/-! ### equality of data -/
mutual
/-- no dict, no script; and no truth (k), or no int (not k) -/
def D.cl (k : Bool) : D → Bool
  | .non => true
  | .bl _ => !k
  | .int _ => k
  | .str _ => true
  | .lst xs => clAll k xs
  | .tup xs => clAll k xs
  | .dic _ => false
  | .scr _ => false
  | .obj _ _ => false
def clAll (k : Bool) : List D → Bool
  | [] => true
  | d :: ds => d.cl k && clAll k ds
end
theorem plAll_iff {ds : List D} : plAll ds = true ↔ ∀ d ∈ ds, d.pl = true := by
  induction ds with
  | nil => simp [plAll]
  | cons d ds ih => simp [plAll, ih]
theorem sixAll_iff {ds : List D} : sixAll ds = true ↔ ∀ d ∈ ds, d.six = true := by
  induction ds with
  | nil => simp [sixAll]
  | cons d ds ih => simp [sixAll, ih]
mutual
theorem eqv_iff (k : Bool) : ∀ d e : D, d.cl k = true → e.cl k = true → (d.eqv e = true ↔ d = e)
  | .non, e, _, he => by cases e <;> simp [D.eqv]
  | .bl a, e, hd, he => by cases e <;> simp_all [D.eqv, D.cl]
  | .int a, e, hd, he => by cases e <;> simp_all [D.eqv, D.cl]
  | .str a, e, _, he => by cases e <;> simp [D.eqv]
  | .lst xs, e, hd, he => by
    cases e with
    | lst ys =>
      have := eqvAll_iff k xs ys hd he
      simp only [D.eqv, this, D.lst.injEq]
    | _ => simp [D.eqv]
  | .tup xs, e, hd, he => by
    cases e with
    | tup ys =>
      have := eqvAll_iff k xs ys hd he
      simp only [D.eqv, this, D.tup.injEq]
    | _ => simp [D.eqv]
  | .dic _, _, h, _ => by cases h
  | .scr _, _, h, _ => by cases h
  | .obj _ _, _, h, _ => by cases h
theorem eqvAll_iff (k : Bool) : ∀ ds es : List D, clAll k ds = true → clAll k es = true → (eqvAll ds es = true ↔ ds = es)
  | [], [], _, _ => by simp [eqvAll]
  | [], _ :: _, _, _ => by simp [eqvAll]
  | _ :: _, [], _, _ => by simp [eqvAll]
  | d :: ds, e :: es, h, h' => by
    simp only [clAll, Bool.and_eq_true] at h h'
    have h1 := eqv_iff k d e h.1 h'.1
    have h2 := eqvAll_iff k ds es h.2 h'.2
    simp only [eqvAll, Bool.and_eq_true, h1, h2, List.cons.injEq]
end
/-! ### small data: plain, of a depth, of a weight -/
structure Sm (n w : Nat) (d : D) : Prop where
  pl : d.pl = true
  six : d.six = true
  dp : d.dp ≤ n
  wt : d.wt ≤ w
theorem Sm.mono {n w n' w' : Nat} {d : D} (h : Sm n w d) (h1 : n ≤ n') (h2 : w ≤ w') : Sm n' w' d := ⟨h.pl, h.six, Nat.le_trans h.dp h1, Nat.le_trans h.wt h2⟩
theorem Sm.fit {n w : Nat} {d : D} (h : Sm n w d) (hn : n ≤ 64 := by decide) : d.fit = true := by
  unfold D.fit
  rw [h.pl, decide_eq_true (Nat.le_trans h.dp hn)]; rfl
theorem Sm.shw {n w : Nat} {d : D} (h : Sm n w d) (hn : n ≤ 64 := by decide) (hw : w ≤ 1000000 := by decide) : d.shw = true := by
  unfold D.shw
  rw [h.fit hn, h.six, decide_eq_true (Nat.le_trans h.wt hw)]; rfl
theorem dpAll_le {ds : List D} {n : Nat} (h : ∀ d ∈ ds, d.dp ≤ n) : dpAll ds ≤ n := dpAll_of h
theorem wtAll_le {ds : List D} {w m : Nat} (h : ∀ d ∈ ds, d.wt ≤ w) (hm : ds.length ≤ m) : wtAll ds ≤ m * (w + 2) := by
  induction ds generalizing m with
  | nil => exact Nat.zero_le _
  | cons d ds ih =>
    rw [List.length_cons] at hm
    have h1 := h d (List.mem_cons_self ..)
    have h2 := ih (m := m - 1) (fun e he => h e (List.mem_cons_of_mem _ he)) (by omega)
    have e : m * (w + 2) = (m - 1) * (w + 2) + (w + 2) := by
      obtain ⟨k, rfl⟩ : ∃ k, m = k + 1 := ⟨m - 1, by omega⟩
      rw [Nat.add_sub_cancel, Nat.succ_mul]
    unfold wtAll
    omega
theorem Sm.lst {n w m : Nat} {ds : List D} (h : ∀ d ∈ ds, Sm n w d) (hm : ds.length ≤ m) : Sm (n + 1) (m * (w + 2) + 3) (.lst ds) :=
  ⟨plAll_iff.mpr fun d hd => (h d hd).pl, sixAll_iff.mpr fun d hd => (h d hd).six, Nat.succ_le_succ (dpAll_le fun d hd => (h d hd).dp), Nat.add_le_add_right (wtAll_le (fun d hd => (h d hd).wt) hm) 3⟩
theorem Sm.tup {n w m : Nat} {ds : List D} (h : ∀ d ∈ ds, Sm n w d) (hm : ds.length ≤ m) : Sm (n + 1) (m * (w + 2) + 3) (.tup ds) :=
  ⟨plAll_iff.mpr fun d hd => (h d hd).pl, sixAll_iff.mpr fun d hd => (h d hd).six, Nat.succ_le_succ (dpAll_le fun d hd => (h d hd).dp), Nat.add_le_add_right (wtAll_le (fun d hd => (h d hd).wt) hm) 3⟩
theorem Sm.non : Sm 0 4 .non := ⟨rfl, rfl, Nat.zero_le _, Nat.le_refl _⟩
theorem Sm.bl (b : Bool) : Sm 0 5 (.bl b) := ⟨rfl, rfl, Nat.zero_le _, Nat.le_refl _⟩
theorem Sm.int {i : Int} (h : i.natAbs < 1000000000000000000) : Sm 0 20 (.int i) := by
  refine ⟨rfl, decide_eq_true ?_, Nat.zero_le _, ?_⟩
  · have : i.natAbs.log2 < 1920 := by
      by_cases h0 : i.natAbs = 0
      · rw [h0]; decide
      · rw [Nat.log2_lt h0]
        exact Nat.lt_of_lt_of_le h (by decide)
    exact this
  · unfold D.wt; rw [if_pos h]; exact Nat.le_refl _
/-! ### ==, in -/
theorem eqB_of (k : Bool) {d e : D} (hd : d.fit = true) (he : e.fit = true) (cd : d.cl k = true) (ce : e.cl k = true) : eqB d e = some (decide (d = e)) := by
  have hv : d.eqv e = decide (d = e) := by
    by_cases h : d = e
    · rw [decide_eq_true h]; exact (eqv_iff k d e cd ce).mpr h
    · rw [decide_eq_false h]
      cases hq : d.eqv e with
      | true => exact absurd ((eqv_iff k d e cd ce).mp hq) h
      | false => rfl
  unfold eqB
  cases hs : D.sc d e with
  | some b =>
    rcases sc_some hs with ⟨i, j, rfl, rfl, rfl⟩ | ⟨i, j, rfl, rfl, rfl⟩ | ⟨i, j, rfl, rfl, rfl⟩ <;> simp
  | none => simp only [hd, he, Bool.and_self, if_true, hv]
theorem semEq_str (x y : Str) : semEq (.str x) (.str y) = some (.bl (decide (x = y))) := rfl
theorem semNe_str (x y : Str) : semNe (.str x) (.str y) = some (.bl (!decide (x = y))) := rfl
theorem semEq_int (x y : Int) : semEq (.int x) (.int y) = some (.bl (decide (x = y))) := rfl
theorem semNe_int (x y : Int) : semNe (.int x) (.int y) = some (.bl (!decide (x = y))) := rfl
theorem semEq_bl (x y : Bool) : semEq (.bl x) (.bl y) = some (.bl (decide (x = y))) := rfl
theorem semNe_bl (x y : Bool) : semNe (.bl x) (.bl y) = some (.bl (!decide (x = y))) := rfl
theorem Sm.all {n w : Nat} {ds : List D} (h : ∀ d ∈ ds, Sm n w d) (hn : n ≤ 63 := by decide) : (D.lst ds).fit = true ∧ (D.tup ds).fit = true :=
  ⟨fit_lst hn fun d hd => ⟨(h d hd).pl, (h d hd).dp⟩, fit_tup hn fun d hd => ⟨(h d hd).pl, (h d hd).dp⟩⟩
/-! ### stepping -/
theorem items_lst (ds : List D) : (D.lst ds).items = some ds := rfl
theorem items_tup (ds : List D) : (D.tup ds).items = some ds := rfl
theorem cutL_map {α β : Type} (f : α → β) (xs : List α) (lo hi : Option Int) : cutL (xs.map f) lo hi = (cutL xs lo hi).map f := by
  unfold cutL
  rw [List.length_map, List.map_take, List.map_drop]
theorem cutL_len {α : Type} (xs : List α) (lo hi : Option Int) : (cutL xs lo hi).length ≤ xs.length := by
  unfold cutL
  rw [List.length_take, List.length_drop]
  omega
theorem cutL_mem {α : Type} {xs : List α} {lo hi : Option Int} {x : α} (h : x ∈ cutL xs lo hi) : x ∈ xs := List.mem_of_mem_drop (List.mem_of_mem_take h)
theorem atI0 {α : Type} (x : α) (xs : List α) : atI (x :: xs) 0 = some x := atI_nat (j := 0) rfl
theorem atI1 {α : Type} (x y : α) (xs : List α) : atI (x :: y :: xs) 1 = some y := atI_nat (j := 1) rfl
theorem atI2 {α : Type} (x y z : α) (xs : List α) : atI (x :: y :: z :: xs) 2 = some z := atI_nat (j := 2) rfl
theorem atI3 {α : Type} (x y z u : α) (xs : List α) : atI (x :: y :: z :: u :: xs) 3 = some u := atI_nat (j := 3) rfl
theorem atI4 {α : Type} (x y z u w : α) (xs : List α) : atI (x :: y :: z :: u :: w :: xs) 4 = some w := atI_nat (j := 4) rfl
/-! ### results by what holds of them -/
def OkS (P : En → Prop) : SRs → Prop
  | .nx r => P r
  | _ => False
theorem OkS_nx {P : En → Prop} {r : En} : OkS P (.nx r) = P r := rfl
theorem OkS.ex {P : En → Prop} {x : SRs} (h : OkS P x) : ∃ r, x = .nx r ∧ P r := by
  cases x with
  | nx r => exact ⟨r, rfl, h⟩
  | _ => exact h.elim
theorem OkS.imp {P Q : En → Prop} {x : SRs} (h : OkS P x) (i : ∀ r, P r → Q r) : OkS Q x := by
  cases x with
  | nx r => exact i r h
  | _ => exact h.elim
/-- a result, no error -/
def pok {α : Type} (P : α → En → Prop) : Rs α → Prop
  | .ok a r => P a r
  | _ => False
theorem post_ok {α : Type} {P : α → En → Prop} {a : α} {r : En} : pok P (.ok a r) = P a r := rfl
end DL

/-! Data layer, part 18: methods of lists by data. -/
namespace DL
open PySem L2
section
variable {X : Cx} {g : G} {o e : Expr} {es : List Expr} {name : Str} {apos cpos : Pos} {id : String} {p : Opd} {ps : List Opd}
/-- o.m(e, ..), o a list -/
def mLD (p : Opd) (qs : List Opd) (sem : D → List D → Option D) : En → Rs D := fun r => (p.run r).bind fun x r1 => match look r1 x with
  | some (.lst _) => (runs qs r1).bind fun zs r2 => ofO ((look r2 x).bind fun d => (looks r2 zs).bind fun ds => sem d ds) r2
  | _ => .bad
end
end DL

/-! Data layer, part 19: sorting of tuples that are alike as far as their comparing looks. -/
namespace DL
open PySem PySem.W PySem.SeqAt PyProof.Rows
/-- alike up to the first place at which they differ, and there -/
def lzAll : List PyData → List PyData → Bool
  | x :: xs, y :: ys => alike x y && (!PyData.eqv x y || lzAll xs ys)
  | [], _ => true
  | _ :: _, [] => true
/-- two tuples that are not empty, their first members alike -/
def lzP : PyData → PyData → Bool
  | .tuple (x :: xs), .tuple (y :: ys) => lzAll (x :: xs) (y :: ys)
  | _, _ => false
theorem lz_cons {x y : PyData} {xs ys : List PyData} (h : lzAll (x :: xs) (y :: ys) = true) : alike x y = true ∧ (PyData.eqv x y = true → lzAll xs ys = true) := by
  have z : (alike x y && (!PyData.eqv x y || lzAll xs ys)) = true := h
  obtain ⟨z1, z2⟩ := Bool.and_eq_true_iff.mp z
  exact ⟨z1, fun e => by rw [e] at z2; exact z2⟩
theorem lzP_of {d d' : PyData} (h : lzP d d' = true) : ∃ x xs y ys, d = .tuple (x :: xs) ∧ d' = .tuple (y :: ys) ∧ lzAll (x :: xs) (y :: ys) = true := by
  unfold lzP at h
  split at h
  · exact ⟨_, _, _, _, rfl, rfl, h⟩
  · cases h
theorem lzAll_unique {h : Heap} : ∀ (xs ys : List PyData) (vs : List Value) (as as' : List Addr), lzAll xs ys = true → ReadsAll h vs xs as → ReadsAll h vs ys as' → xs = ys
  | [], _, _, _, _, _, r, r' => by cases r; cases r'; rfl
  | x :: xs, [], _, _, _, _, r, r' => by cases r'; cases r
  | x :: xs, y :: ys, _, _, _, ha, r, r' => by
    obtain ⟨z1, z2⟩ := lz_cons ha
    cases r with
    | cons r1 r2 =>
      cases r' with
      | cons q1 q2 =>
        have e := alike_unique x y _ _ _ z1 r1 q1
        subst e
        rw [lzAll_unique xs ys _ _ _ (z2 (eqv_refl_alike x z1)) r2 q2]
theorem lzP_unique {h : Heap} {d d' : PyData} {v : Value} {as as' : List Addr} (z : lzP d d' = true) (r : Reads h v d as) (r' : Reads h v d' as') : d = d' := by
  obtain ⟨x, xs, y, ys, rfl, rfl, z⟩ := lzP_of z
  cases r with
  | tuple a1 a2 a3 a4 =>
    cases r' with
    | tuple b1 b2 b3 b4 =>
      rw [a1] at b1; cases b1
      rw [a3] at b3; cases b3
      rw [lzAll_unique _ _ _ _ _ z a4 b4]
theorem pairs_pw {ds : List PyData} (hal : ∀ d, d ∈ ds → ∀ d', d' ∈ ds → lzP d d' = true) {h : Heap} {v : Value} {d : PyData} {as : List Addr} (hd : d ∈ ds) (r : Reads h v d as) : (dataKind h ds).keyOf v = some (keyToks d) := by
  have q : ∃ d, d ∈ ds ∧ ∃ as, Reads h v d as := ⟨d, hd, as, r⟩
  have e : (dataKind h ds).keyOf v = some (keyToks q.choose) := by
    show (open Classical in if q : ∃ d, d ∈ ds ∧ ∃ as, Reads h v d as then some (keyToks q.choose) else none) = _
    rw [dif_pos q]
  obtain ⟨m1, as', m2⟩ := q.choose_spec
  rw [e, lzP_unique (hal _ m1 _ hd) m2 r]
section
variable {prog : Program} {w : World} {A : Around} {s : Shared}
end
/-- can be sorted: alike, or lazily so -/
def SrtOk (ds : List PyData) : Prop := (AllAlike ds ∧ Sortable ds) ∨ ∀ d, d ∈ ds → ∀ d', d' ∈ ds → lzP d d' = true
section
variable {prog : Program} {w : World} {A : Around} {E : Value → Shared → Prop} {s : Shared} {β : Type} {vs : List Value} {bs : List β} {enc : β → PyData} {R : Value → β → Prop}
theorem SrtOk.key {ds : List PyData} (k : SrtOk ds) {h : Heap} {v : Value} {d : PyData} {as : List Addr} (hd : d ∈ ds) (r : Reads h v d as) : (dataKind h ds).keyOf v = some (keyToks d) := by
  rcases k with ⟨k1, _⟩ | k
  · exact dataKind_some k1 hd r
  · exact pairs_pw k hd r
theorem SrtOk.keys {h : Heap} {ds : List PyData} (k : SrtOk ds) {vs : List Value} (e : EachIs (fun v d => ∃ as, Reads h v d as) vs ds) : EachIs (fun v d => (dataKind h ds).keyOf v = some (keyToks d)) vs ds :=
  (each_mem e).mono fun v d ⟨⟨as, r⟩, hd⟩ => k.key hd r
theorem SrtOk.vals {h' : Heap} (rev : Bool) (e : EachIs R vs bs) (er : EachIs (fun v b => ∃ as, Reads h' v (enc b) as) vs bs) (k : SrtOk (bs.map enc)) :
    EachIs R (sortVals (dataKind h' (bs.map enc)) rev vs vs) (bs.mergeSort (dataLe rev enc)) :=
  sortVals_each (κ := dataKind h' (bs.map enc)) (fun b => keyToks (enc b)) e (each_of_map enc (k.keys (each_map (R := fun v d => ∃ as, Reads h' v d as) enc er)))
end
end DL

/-! Data layer, part 20: new lists that the taker owns: xs + ys, xs * k, xs[i:j], list(x), list(range(..)). -/
namespace DL
open PySem L2
section
variable {X : Cx} {g : G} {a b c e : Expr} {es : List Expr} {pos p2 : Pos} {p q : Opd} {ps : List Opd}
theorem PO.new {K : PySem.W.Frag} {F H : Hp} {s : St} {r : En} {Q : VK} {ds : List D} {vs : List V} (R : Rel K g F H s r) (hvs : RDs K F vs ds) (q : PO K g F s Q (.ow ds) r) (p : Addr) (np : H p = none) : Q (.ref p) (L2.upd H p (.lst vs)) :=
  q F _ _ (Same.refl _) (R.laid np) (RV.new R np hvs)
def op2O (p q : Opd) (sem : D → D → Option (List D)) : En → Rs OV := fun r => (p.run r).bind fun x r1 => (q.run r1).bind fun y r2 => ofO ((look r2 x).bind fun dx => (look r2 y).bind fun dy => (sem dx dy).map OV.ow) r2
def semAddL : D → D → Option (List D)
  | .lst xs, .lst ys => if xs.length + ys.length ≤ 1000000 then some (xs ++ ys) else none
  | _, _ => none
def semMulL : D → D → Option (List D)
  | .lst xs, .int k => if 0 ≤ k ∧ k ≤ 1000 ∧ xs.length ≤ 1000 then some (List.replicate k.toNat xs).flatten else none
  | _, _ => none
/-- xs[i:j], a new list -/
def slO (p : Opd) (lo hi : En → Rs (Option Int)) : En → Rs OV := fun r => (p.run r).bind fun x r1 => (lo r1).bind fun l r2 => (hi r2).bind fun h r3 => ofO ((look r3 x).bind fun d => match d with
  | .lst xs => some (.ow (cutL xs l h))
  | _ => none) r3
/-- built-ins that give a new list -/
def opNO (ps : List Opd) (sem : List D → Option (List D)) : En → Rs OV := fun r => (runs ps r).bind fun xs r1 => ofO ((looks r1 xs).bind fun ds => (sem ds).map OV.ow) r1
def semListL : List D → Option (List D)
  | [.lst xs] => some xs
  | [.tup xs] => some xs
  | _ => none
/-- list(range(..)) -/
def lrgO (f : En → Rs (List D)) : En → Rs OV := fun r => (f r).map OV.ow
end
end DL

/-! Data layer, part 21: f(e, ..) whose arguments are only lent: what comes back holds nothing of them. -/
namespace DL
open PySem L2
def D.flt : D → Bool
  | .non => true
  | .bl _ => true
  | .int _ => true
  | .str _ => true
  | _ => false
def OV.flt : OV → Bool
  | .sh d => d.flt
  | .ow xs => xs.all D.flt
  | .od _ => false
  | .oi _ _ => false
  | .th _ => false
  | .exc _ => false
theorem RD.flt {K : PySem.W.Frag} {F F' : Hp} {v : V} {d : D} (h : RD K F v d) (hd : d.flt = true) : RD K F' v d := by
  cases d with
  | non => cases h; exact .non
  | bl b => cases h; exact .bl b
  | int i => cases h; exact .int i
  | str x => cases h; exact .str x
  | _ => cases hd
theorem RDs.flt {K : PySem.W.Frag} {F F' : Hp} : ∀ {vs : List V} {ds : List D}, RDs K F vs ds → ds.all D.flt = true → RDs K F' vs ds
  | _, [], h, _ => by cases h; exact .nil
  | _, d :: ds, h, hd => by
    rw [List.all_cons, Bool.and_eq_true] at hd
    cases h with
    | cons h1 h2 => exact .cons (h1.flt hd.1) (RDs.flt h2 hd.2)
def callL (n : Nat) (f : List D → Option OV) (ps : List Opd) : En → Rs OV := fun r => (runs ps r).bind fun xs r1 => ofO ((looks r1 xs).bind fun ds => if ds.length = n then (f ds).bind fun o => if o.flt = true then some o else none else none) r1
section
variable {X : Cx} {g : G} {k n : Nat} {x : Str} {p pos : Pos} {e : Expr} {es : List Expr}
end
end DL

/-! Data layer, part 22: pop, insert, clear as statements; {}; xs[::-1]; defs that call themselves. -/
namespace DL
open PySem L2
section
variable {P : Program} {w : World} {K : PySem.W.Frag} {mg : Str → Option Value} {base : Heap}
end
section
variable {X : Cx} {g : G} {x : Str} {p pos apos cpos : Pos} {e e2 : Expr}
/-- {} -/
theorem de_dict0 : DE X g (.Dict [] [] pos) (cD (.dic [])) :=
  PE.imp (pe_lk pe_dnewK) fun s H Q ⟨F, r, R, q⟩ => fun p np => ⟨p, _, upd_same, trivial, fun od => by
    rw [upd_upd]
    exact q (L2.upd F p (.frz od (.dK []))) (L2.upd H p (.frz od (.dK []))) (.ref p) (same_upd (R.ff np)) (R.alloc np) (.dic upd_same .nil)⟩
/-- xs.pop(i), the value dropped -/
def popF (k : D) : List D → Option (List D) := fun xs => match k with
  | .int i => if 0 ≤ i ∧ i < 1000000 then (ixN xs.length i).map fun j => xs.eraseIdx j else none
  | _ => none
def popS (i : Nat) (f : En → Rs D) : En → SRs := fun r => thenS (fillW r i) fun _ r => thenS (f r) fun d r1 => chgS i (popF d) r1
/-- xs.insert(i, e) -/
def insF (k d : D) : List D → Option (List D) := fun xs => match k with
  | .int i => if 0 ≤ i ∧ i < 1000000 ∧ xs.length ≤ 1000000 then some (xs.take i.toNat ++ [d] ++ xs.drop i.toNat) else none
  | _ => none
def insS (i : Nat) (f h : En → Rs D) : En → SRs := fun r => thenS (fillW r i) fun _ r => thenS (f r) fun k r1 => thenS (h r1) fun d r2 => chgS i (insF k d) r2
/-- xs.clear() -/
def clrS (i : Nat) : En → SRs := fun r => thenS (fillW r i) fun _ r => chgS i (fun _ => some []) r
end
end DL

/-! Data layer, part 23: t[::-1] of a tuple. -/
namespace DL
open PySem L2 HT PyProof.Rows
section
variable {prog : Program} {w : World} {A : Around} {E : Value → Shared → Prop} {s : Shared}
end
section
variable {X : Cx} {g : G} {e : Expr} {pos : Pos}
/-- xs[::-1] -/
def revO (pd : Opd) : En → Rs OV := fun r => (pd.run r).bind fun x r1 => ofO ((look r1 x).bind fun d => match d with
  | .lst xs => some (.ow xs.reverse)
  | .tup xs => some (.sh (.tup xs.reverse))
  | _ => none) r1
theorem RDs.rev {K : PySem.W.Frag} {F : Hp} : ∀ {vs : List V} {ds : List D}, RDs K F vs ds → RDs K F vs.reverse ds.reverse
  | _, [], h => by cases h; exact .nil
  | _, d :: ds, h => by
    cases h with
    | cons h1 h2 =>
      rw [List.reverse_cons, List.reverse_cons]
      exact h2.rev.app (.cons h1 .nil)
end
end DL

/-! Data layer, part 24: list comprehensions with two fors. -/
namespace DL
open PySem L2
section
variable {X : Cx} {g : G} {e a b c tg tg1 : Expr} {pos : Pos}
end
end DL

/-! Data layer, part 25: xs[::e]; range with a step; min, max of two. -/
namespace DL
open PySem L2 PyProof.Rows
section
variable {X : Cx} {g : G} {e a b c tg : Expr} {pos : Pos}
/-- xs[::e], e one or minus one -/
def stepL {α : Type} (k : Int) (xs : List α) : List α := if k = 1 then xs else xs.reverse
theorem RDs.step {K : PySem.W.Frag} {F : Hp} {vs : List V} {ds : List D} (k : Int) (h : RDs K F vs ds) : RDs K F (stepL k vs) (stepL k ds) := by
  unfold stepL
  split
  · exact h
  · exact h.rev
/-! ### range(a, b, c), c positive -/
/-! ### min, max of two ints -/
end
end DL

/-! Data layer, part 26: sets of texts; sorted of them. -/
namespace DL
open PySem L2 PyProof.Rows PySem.Froz
/-- one text more -/
def insT (l : List Str) (k : Str) : List Str := if k ∈ l then l else k :: l
def addT (l : List Str) (ts : List Str) : List Str := ts.foldl insT l
/-- the set of texts at a -/
def SetX (P : Program) (w : World) (h : Heap) (a : Addr) (l : List Str) : Prop := ∃ Z : SD, h.get? a = some (sObj "set" Z) ∧ TxOk P w Z l ∧ l.Nodup ∧ Ris Z.2.2.place.toList ∧ (w.params.followText "set-order" = true ∨ Z.2.2.led = true)
section
variable {P : Program} {w : World} {A : Around} {E : Value → Shared → Prop} {s : Shared} {a : Addr} {l : List Str}
theorem SetX.at {h h' : Heap} (R : SetX P w h a l) (k : ∀ o, h.get? a = some o → h'.get? a = some o) : SetX P w h' a l := by
  obtain ⟨Z, ho, r⟩ := R
  exact ⟨Z, k _ ho, r⟩
theorem SetX.ob {h : Heap} (R : SetX P w h a l) : ∃ o, h.get? a = some o := by
  obtain ⟨Z, ho, r⟩ := R
  exact ⟨_, ho⟩
end
section
variable {P : Program} {w : World} {A : Around} {E : Value → Shared → Prop} {s : Shared}
theorem ne1 {h : Heap} {l : Addr} {o : Obj} (e : h.get? l = some o) (X : Obj) : l ≠ (h.push X).objs.size := by
  have lt := Heap.lt_size e
  rw [Heap.size_push]
  exact Nat.ne_of_lt (Nat.lt_succ_of_lt lt)
end
end DL

/-! Data layer, part 27: sorted of a set of texts; sorted of lists. -/
namespace DL
open PySem L2 PyProof.Rows PySem.Froz
/-- texts in order -/
def leT (a b : Str) : Bool := decide (a.cps.toList ≤ b.cps.toList)
/-- sorted(set(ts)) -/
def srtT (ts : List Str) : List Str := (addT [] ts).mergeSort leT
section
variable {P : Program} {w : World} {A : Around} {E : Value → Shared → Prop} {s : Shared}
end
end DL

/-! Data layer, part 28: sorted(set(e)) of texts, sorted(e) of alike data. -/
namespace DL
open PySem L2 PyProof.Rows PySem.Froz
section
variable {X : Cx} {g : G} {e : Expr} {pos : Pos}
/-! sorted(e) -/
end
end DL

/-! Data layer, part 29: sum(lists, []). -/
namespace DL
open PySem L2 PyProof.Rows
section
variable {P : Program} {w : World} {A : Around} {R : Result → Shared → Prop} {I : Addr} {fp wr : List Addr} {G : Array GenState → Array GenState → Prop} {n : Nat} {Pv : Nat → Value → Prop} {St : Nat → Shared → Prop}
end
namespace Sm
end Sm
section
variable {P : Program} {w : World} {A : Around} {E : Value → Shared → Prop} {s : Shared}
end
def lstsOf : List D → Option (List (List D))
  | [] => some []
  | .lst xs :: ds => (lstsOf ds).map fun xss => xs :: xss
  | _ :: _ => none
def semSumL : D → Option (List D)
  | .lst ds => (lstsOf ds).bind fun xss => if xss.flatten.length ≤ 100000 then some xss.flatten else none
  | _ => none
section
variable {X : Cx} {g : G} {pins : List (Addr × Obj)} {s : Shared} {F H : Hp} {sg : L2.St}
def sumO (p : Opd) : En → Rs OV := fun r => (p.run r).bind fun x r1 => ofO ((look r1 x).bind fun d => (semSumL d).map OV.ow) r1
end
end DL

/-! Data layer, part 30: list(text). -/
namespace DL
open PySem L2
section
variable {X : Cx} {g : G}
end
end DL

/-! Data layer, part 31: dicts that a name owns, with tuples as keys. -/
namespace DL
open PySem L2
section
variable {X : Cx} {g : G} {pos : Pos}
variable {pt pt2 px py pd pl : Pos} {x y : Str} {kt k2 i j : Nat}
/-! keys -/
mutual
theorem RD.nested {pins : List (Addr × Obj)} {s : Shared} {H : Hp} {sg : L2.St} (I : L2.Inv X pins sg H s) : ∀ (d : D) (v : V) (u : Value) (k : NestedKey), d.nk = some k → RD X.K H v d → RelV v u → NestedIs s.heap k u
  | .non, _, _, _, e, h, r => by cases h; cases e; cases r; exact .none
  | .bl b, _, _, _, e, h, r => by cases h; cases e; cases r; exact .bool rfl
  | .int i, _, _, _, e, h, r => by cases h; cases e; obtain ⟨t, rfl⟩ := r; exact .int i t
  | .str x, _, _, _, e, h, r => by cases h; cases e; obtain ⟨t, rfl⟩ := r; exact .text x t
  | .tup ds, _, _, _, e, h, r => by
    have e : (nks ds).map NestedKey.tup = some _ := e
    obtain ⟨ks, e1, rfl⟩ := Option.map_eq_some_iff.mp e
    cases h with
    | tup h1 h2 =>
      cases r
      obtain ⟨its, rv, ⟨o, ho, hc, n, hd⟩, _⟩ := I.tuple h1
      refine .tup ho hc hd ?_
      have := RDs.nested I ds _ its ks e1 h2 rv
      simpa using this
  | .lst ds, _, _, _, e, _, _ => by cases e
  | .dic ds, _, _, _, e, _, _ => by cases e
  | .scr ns, _, _, _, e, _, _ => by cases e
  | .obj _ _, _, _, _, e, _, _ => by cases e
theorem RDs.nested {pins : List (Addr × Obj)} {s : Shared} {H : Hp} {sg : L2.St} (I : L2.Inv X pins sg H s) : ∀ (ds : List D) (vs : List V) (us : List Value) (ks : List NestedKey), nks ds = some ks → RDs X.K H vs ds → Vals vs us → NestedAll s.heap ks us
  | [], _, _, _, e, h, r => by cases h; cases e; cases r; exact .nil
  | d :: ds, _, _, _, e, h, r => by
    have e : (d.nk.bind fun k => (nks ds).map fun ks => k :: ks) = some _ := e
    obtain ⟨k, e1, e2⟩ := Option.bind_eq_some_iff.mp e
    obtain ⟨ks, e3, rfl⟩ := Option.map_eq_some_iff.mp e2
    cases h with
    | cons h1 h2 =>
      cases r with
      | cons r1 r2 => exact .cons (RD.nested I d _ _ k e1 h1 r1) (RDs.nested I ds _ _ ks e3 h2 r2)
end
def KeyAt (K : PySem.W.Frag) (H : Hp) (k : NestedKey) (b : Addr) : Prop := ∃ kd : D, RD K H (.ref b) kd ∧ kd.nk = some k ∧ k.depth ≤ 8
theorem KeyAt.is {pins : List (Addr × Obj)} {s : Shared} {H : Hp} {sg : L2.St} (I : L2.Inv X pins sg H s) {k : NestedKey} {b : Addr} (h : KeyAt X.K H k b) : (nestedKind X.prog X.w).is s.heap k b := by
  obtain ⟨kd, h1, h2, h3⟩ := h
  exact ⟨RD.nested I kd _ _ k h2 h1 rfl, h3⟩
/-! by data -/
def D.key8 : D → Option NestedKey
  | .tup ds => (nks ds).bind fun ks => if (NestedKey.tup ks).depth ≤ 8 then some (.tup ks) else none
  | _ => none
theorem RDm.keys {K : PySem.W.Frag} {F H : Hp} (sub : Same F H) : ∀ {kvs : List (D × D)} {xs : List (NestedKey × Addr × V)}, RDm K F xs kvs → ∀ q ∈ xs, KeyAt K H q.1 q.2.1
  | [], _, h, q, hq => by cases h; cases hq
  | (kd, d) :: kvs, _, h, q, hq => by
    cases h with
    | cons h1 h2 h3 h4 =>
      rcases List.mem_cons.mp hq with rfl | hq
      · exact ⟨kd, RD.mono sub _ h1, h2.1, h2.2⟩
      · exact RDm.keys sub h4 q hq
def odHas (kvs : List (D × D)) (k : NestedKey) : Bool := kvs.any fun p => decide (p.1.nk = some k)
theorem RDm.has {K : PySem.W.Frag} {F : Hp} (k : NestedKey) : ∀ {kvs : List (D × D)} {xs : List (NestedKey × Addr × V)}, RDm K F xs kvs → (xs.any fun x => decide (x.1 = k)) = odHas kvs k
  | [], _, h => by cases h; rfl
  | (kd, d) :: kvs, _, h => by
    cases h with
    | cons h1 h2 h3 h4 =>
      unfold odHas
      rw [List.any_cons, List.any_cons, RDm.has k h4]
      unfold odHas
      congr 1
      rw [h2.1]
      exact decide_eq_decide.mpr ⟨fun e => congrArg some e, fun e => Option.some.inj e⟩
theorem RDm.len {K : PySem.W.Frag} {F : Hp} : ∀ {kvs : List (D × D)} {xs : List (NestedKey × Addr × V)}, RDm K F xs kvs → xs.length = kvs.length
  | [], _, h => by cases h; rfl
  | (kd, d) :: kvs, _, h => by
    cases h with
    | cons h1 h2 h3 h4 => rw [List.length_cons, List.length_cons, RDm.len h4]
theorem RDm.snoc {K : PySem.W.Frag} {F : Hp} {k : NestedKey} {b : Addr} {v : V} {kd d : D} (a1 : RD K F (.ref b) kd) (a2 : kd.nk = some k ∧ k.depth ≤ 8) (a3 : RD K F v d) : ∀ {kvs : List (D × D)} {xs : List (NestedKey × Addr × V)}, RDm K F xs kvs → RDm K F (xs ++ [(k, b, v)]) (kvs ++ [(kd, d)])
  | [], _, h => by cases h; exact .cons a1 a2 a3 .nil
  | (_, _) :: kvs, _, h => by
    cases h with
    | cons h1 h2 h3 h4 => exact .cons h1 h2 h3 (RDm.snoc a1 a2 a3 h4)
/-- e not in d, e in d -/
def inOd (n : Bool → Bool) (i : Nat) (f : En → Rs D) : En → Rs Bool := fun r => (f r).bind fun d r1 =>
  match r1[i]? with
  | some (some (.od kvs)) => ofO (d.key8.map fun k => n (odHas kvs k)) r1
  | _ => .bad
variable {a : Expr} {px : Pos} {x : Str} {i : Nat}
/-- d[e] = f, a new key -/
def putOd (i : Nat) (fi f : En → Rs D) : En → SRs := fun r => thenS (f r) fun d r1 => thenS (fill r1 i) fun _ r1 => thenS (fi r1) fun kd r2 =>
  match r2[i]? with
  | some (some (.od kvs)) => match kd.key8 with
    | some k => if odHas kvs k = false ∧ kvs.length ≤ 1000000 then .nx (r2.set i (some (.od (kvs ++ [(kd, d)])))) else .bad
    | none => .bad
  | _ => .bad
variable {ei e : Expr} {p : Pos}
end
end DL

/-! Data layer, part 32: comprehensions with any number of fors, lists and sets. -/
namespace DL
open PySem L2 PySem.Spec
/-- a list's comprehension, a set's -/
def cEx (b : Bool) (elt : Expr) (gs : List Comprehension) (scope : Scope) (pos : Pos) : Expr :=
  match b with
  | true => .SetComp elt gs scope pos
  | false => .ListComp elt gs scope pos
/-- what is done at each innermost turn -/
def cEm (b : Bool) (elt : Expr) (acc : Value) (env : Env) : Sem Unit :=
  match b with
  | true => do let v ← eval elt env; standAt elt.pos; let _ ← call (.builtin "set.add") [acc, v]
  | false => do let _ ← call (.builtin "list.append") [acc, ← eval elt env]
/-- behind the tests of a clause: the next clause, or what is done -/
def cIn (b : Bool) (elt : Expr) (gs : List Comprehension) (scope : Scope) (pos : Pos) (depth : Nat) (acc : Value) (env : Env) : Sem Unit :=
  match gs[depth + 1]? with
  | some g' => do
    let x ← eval g'.iter env
    standAt g'.iter.pos
    let x ← foldedSetIterable g'.iter env x
    let _ ← runOwn (.compStart (cEx b elt gs scope pos) (depth + 1) (← holding [x] (pyIter x)) acc env) env
  | none => cEm b elt acc env
theorem turn_n {b : Bool} {elt : Expr} {gs : List Comprehension} {scope : Scope} {pos : Pos} {depth : Nat} {it acc : Value} {env : Env} {g : Comprehension} (hg : gs[depth]? = some g) (hz : ∀ g ∈ gs, g.is_async = 0) :
    compTurn (cEx b elt gs scope pos) depth it acc env = (do
      standAt g.iter.pos
      match ← pyNext it with
      | none => pure (.done .next)
      | some v =>
        letOwnedTupleGo g.target it v
        assign g.target env v
        let mut ok := true
        for c in g.ifs do
          if ok then ok ← isTrue c env (eval c env)
        if ok then
          cIn b elt gs scope pos depth acc env
        again (.compLoop (cEx b elt gs scope pos) depth it acc env)) := by
  have h0 : (g.is_async != 0) = false := by rw [hz g (List.mem_of_getElem? hg)]; rfl
  cases hn : gs[depth + 1]? with
  | none =>
    cases b
    · unfold compTurn cEx cIn cEm
      simp only [hg, h0, hn, Bool.false_eq_true, if_false]
      rfl
    · unfold compTurn cEx cIn cEm
      simp only [hg, h0, hn, Bool.false_eq_true, if_false]
      rfl
  | some g' =>
    have h1 : (g'.is_async != 0) = false := by rw [hz g' (List.mem_of_getElem? hn)]; rfl
    cases b
    · unfold compTurn cEx cIn
      simp only [hg, h0, hn, h1, Bool.false_eq_true, if_false, bind_assoc, pure_bind]
      rfl
    · unfold compTurn cEx cIn
      simp only [hg, h0, hn, h1, Bool.false_eq_true, if_false, bind_assoc, pure_bind]
      rfl
abbrev FF : Value → Shared → Prop := fun _ _ => False
section
variable {prog : Program} {w : World} {A : Around} {R : Result → Shared → Prop} {s : Shared} {b : Bool} {elt : Expr} {gs : List Comprehension} {scope : Scope} {pos : Pos} {depth : Nat} {it acc : Value} {env : Env} {g : Comprehension}
/-- one clause's loop -/
theorem loop_n (hg : gs[depth]? = some g) (hz : ∀ g ∈ gs, g.is_async = 0) (I : Nat → Shared → Prop)
    (turn : ∀ n s, I n s → wpAny (model prog w) A (pyNext it) (fun r s1 => match r with
      | none => R (.ok .next) s1
      | some v => wpAny (model prog w) A (letOwnedTupleGo g.target it v) (fun _ s2 => wpAny (model prog w) A (assign g.target env v) (fun _ s3 =>
          wpAny (model prog w) A (forIn g.ifs true fun c r => if r = true then do let ok ← isTrue c env (eval c env); pure (ForInStep.yield ok) else pure (ForInStep.yield r)) (fun ok s4 =>
            if ok = true then wpAny (model prog w) A (cIn b elt gs scope pos depth acc env) (fun _ s5 => ∃ m, m < n ∧ I m s5) FF s4 else ∃ m, m < n ∧ I m s4) FF s3) FF s2) FF s1) FF s)
    (n : Nat) (h : I n s) : codeAny (model prog w) A (.compLoop (cEx b elt gs scope pos) depth it acc env) R s := by
  have main : ∀ n s, I n s → ∀ {E : Value → Shared → Prop} {Q : PySem.Fin → Shared → Prop}, (∀ s', R (.ok .next) s' → Q (.done .next) s') → (∀ m s', m < n → I m s' → wpAny (model prog w) A (again (.compLoop (cEx b elt gs scope pos) depth it acc env)) Q E s') →
      wpAny (model prog w) A (compTurn (cEx b elt gs scope pos) depth it acc env) Q E s := by
    intro n s hI E Q hd ha
    rw [turn_n hg hz]
    refine wpAny_bind (wpAny_standAt (wpAny_bind (thnF (turn n s hI) fun r s1 h1 => ?_)))
    cases r with
    | none => exact wpAny_pure (hd _ h1)
    | some v =>
      refine wpAny_bind (thnF h1 fun _ s2 h2 => wpAny_bind (thnF h2 fun _ s3 h3 => wpAny_bind (thnF h3 fun ok s4 h4 => ?_)))
      cases ok with
      | false =>
        obtain ⟨m, hm, hi⟩ := h4
        exact ha m s4 hm hi
      | true =>
        refine wpAny_bind (thnF (show wpAny (model prog w) A (cIn b elt gs scope pos depth acc env) _ FF s4 from h4) fun _ s5 h5 => ?_)
        obtain ⟨m, hm, hi⟩ := h5
        exact ha m s5 hm hi
  have fin : ∀ k s, I k s → wpAny (model prog w) A (compTurn (cEx b elt gs scope pos) depth it acc env) (fun fin s' => match fin with | .done f => R (.ok f) s' | .again c' => c' = .compLoop (cEx b elt gs scope pos) depth it acc env ∧ ∃ m, m < k ∧ I m s') (notedBy (model prog w) A env fun e s' => R (.error e) s') s :=
    fun k s hI => main k s hI (fun s' q => q) fun m s' hm hi => wpAny_pure ⟨rfl, m, hm, hi⟩
  cases b with
  | true => exact codeAny_loop rfl I (fun k s hI => wpAny_noted (fin k s hI)) n h
  | false => exact codeAny_loop rfl I (fun k s hI => wpAny_noted (fin k s hI)) n h
/-- one clause's start -/
theorem start_n (hg : gs[depth]? = some g) (hz : ∀ g ∈ gs, g.is_async = 0) (h0 : codeAny (model prog w) A (.compLoop (cEx b elt gs scope pos) depth it acc env) R s)
    (h : ∀ {E : Value → Shared → Prop}, wpAny (model prog w) A (pyIter it) (fun it' s' => codeAny (model prog w) A (.compLoop (cEx b elt gs scope pos) depth it' acc env) R s') E s) :
    codeAny (model prog w) A (.compStart (cEx b elt gs scope pos) depth it acc env) R s := by
  have hc : clausesOf (cEx b elt gs scope pos) = gs := by cases b <;> rfl
  have h1 : (g.is_async != 0) = false := by rw [hz g (List.mem_of_getElem? hg)]; rfl
  have main : ∀ {E : Value → Shared → Prop}, wpAny (model prog w) A (compStart (cEx b elt gs scope pos) depth it acc env) (fun fin s' => match fin with | .done f => R (.ok f) s' | .again c => c.quiet = true ∧ codeAny (model prog w) A c R s') E s := by
    intro E
    have hq : ∀ it', (Code.compLoop (cEx b elt gs scope pos) depth it' acc env).quiet = true := fun it' => by cases b <;> rfl
    unfold compStart
    simp only [hc, hg, Option.elim_some, h1, Bool.false_eq_true, if_false]
    refine wpAny_bind (wpAny_askSetting (wpAny_ite ?_))
    split
    · exact wpAny_pure ⟨hq _, h0⟩
    · exact wpAny_bind (wpAny_rule (wpAny_bind (wpAny_standAt (wpAny_bind (wpAny_mono (h (E := E)) (fun it' s' h' => wpAny_pure ⟨hq _, h'⟩) fun _ _ x => x)))))
  cases b with
  | true => exact codeAny_of_tree (wpAny_notedAt main)
  | false => exact codeAny_of_tree (wpAny_notedAt main)
end
end DL

/-! Data layer, part 33: the clauses of a comprehension, one behind the other. -/
namespace DL
open PySem L2 PySem.Spec
abbrev GRd := TI × TG × TT × List Nat
abbrev TM := L2.St → Hp → (Hp → Prop) → Prop
/-- the loops of the clauses, from the first one's source on -/
def tGs (tm : TM) : List GRd → TM
  | [], σ, H, Q => tm σ H Q
  | (wi, g, tt, vs) :: rest, σ, H, Q => wi σ H fun J H1 => ∃ W : Nat → Nat → Hp → Prop, (∃ m, W 0 m H1) ∧ ∀ i m H, W i m H →
      (J.stop i H ∧ Q H) ∨ (J.go i H ∧ ∃ Nx : Hp → Prop, (∀ H', Nx H' → ∃ m', m' < m ∧ W (i + 1) m' H') ∧ ∀ x H', J.yld i H x H' → g x (wipe σ vs) H' fun σ2 H2 => wipe σ2 vs = wipe σ vs ∧ tt σ2 H2 fun bb H3 =>
        if bb = true then tGs tm rest σ2 H3 Nx else Nx H3)
/-- what is done at each innermost turn, by its reading -/
def PM (Y : Cx) (b : Bool) (elt : Expr) (acc : Value) (tm : TM) : Prop :=
  ∀ (pins : List (Addr × Obj)) (s : Shared) (σ : L2.St) (H : Hp) (Q : Hp → Prop), L2.Inv Y pins σ H s → tm σ H Q → wpAny (model Y.prog Y.w) Y.A (cEm b elt acc Y.env) (fun _ s' => ∃ H', L2.Inv Y pins σ H' s' ∧ Q H') FF s
/-- the clauses from one on have these readings -/
def Al (Y : Cx) (gs : List Comprehension) : Nat → List GRd → List Nat → Prop
  | k, [], _ => gs[k]? = none
  | k, (wi, g, tt, vs) :: rest, vp => ∃ cl, gs[k]? = some cl ∧ PI Y cl.target cl.iter wi ∧ PG Y cl.target g ∧ PTs Y cl.ifs tt ∧ (∀ x, foldedSetIterable cl.iter Y.env x = pure x) ∧ (∀ i ∈ vs, i ∈ vp) ∧ Al Y gs (k + 1) rest vs
theorem weakW {Y : Cx} {pins : List (Addr × Obj)} {σ : L2.St} {H : Hp} {s : Shared} (I : L2.Inv Y pins σ H s) (vs : List Nat) : L2.Inv Y pins (wipe σ vs) H s := I.weak (wipe_length _ _) fun j v e => (wipe_some e).1
end DL

/-! Data layer, part 34: the comprehension as a value. -/
namespace DL
open PySem L2 PySem.Spec PyProof.Rows
/-- the reading: acc0: what is laid first; tm: what each innermost turn does -/
def tCn (acc0 : Addr → HO) (tm : Addr → TM) (wi : TI) (g : TG) (tt : TT) (vs : List Nat) (rest : List GRd) : TE := fun σ H Q => wi σ H fun J H1 => ∀ D, H1 D = none → ∃ W : Nat → Nat → Hp → Prop, (∃ m, W 0 m (L2.upd H1 D (acc0 D))) ∧ ∀ i m H, W i m H →
  (J.stop i H ∧ Q (.ref D) H) ∨ (J.go i H ∧ ∃ Nx : Hp → Prop, (∀ H', Nx H' → ∃ m', m' < m ∧ W (i + 1) m' H') ∧ ∀ x H', J.yld i H x H' → g x (wipe σ vs) H' fun σ2 H2 => wipe σ2 vs = wipe σ vs ∧ tt σ2 H2 fun bb H3 =>
    if bb = true then tGs (tm D) rest σ2 H3 Nx else Nx H3)
section
variable {X : Cx}
end
end DL

/-! Data layer, part 35: lists, sets of texts. -/
namespace DL
open PySem L2 PySem.Spec PyProof.Rows PySem.Froz
section
variable {P : Program} {w : World} {A : Around} {E : Value → Shared → Prop} {s : Shared} {a : Addr} {l : List Str}
end
section
variable {Y : Cx} {elt : Expr} {te : TE} {D : Addr}
end
section
variable {X : Cx} {elt tg iter : Expr} {ifs : List Expr} {gs : List Comprehension} {scope : Scope} {own : List (PySem.Str × Nat)} {pos : Pos} {wi : TI} {g : TG} {tt : TT} {te : TE} {rest : List GRd}
end
end DL

/-! Data layer, part 36: comprehensions with any number of fors, by data. -/
namespace DL
open PySem L2
/-- a clause: its source, its store, its test, the slots of its and later targets, its target's slots -/
structure GDt where
  f : En → Rs (List D)
  h : D → En → Option En
  t : En → Rs Bool
  vs : List Nat
  ks : List Nat
def lcT (k : List D → En → Rs (List D)) (h : D → En → Option En) (t : En → Rs Bool) (vs : List Nat) : List D → List D → En → Rs (List D)
  | [], acc, r => .ok acc (wipeE r vs)
  | d :: ds, acc, r =>
    match h d (wipeE r vs) with
    | none => .bad
    | some r1 => (t r1).bind fun b r2 => if b = true then (k acc r2).bind fun acc' r3 => lcT k h t vs ds acc' (wipeE r3 vs) else lcT k h t vs ds acc (wipeE r2 vs)
def lcA (ok : List D → D → Bool) (fe : En → Rs D) : List GDt → List D → En → Rs (List D)
  | [], acc, r => (fe r).bind fun y r1 => if ok acc y = true then .ok (acc ++ [y]) r1 else .bad
  | c :: cs, acc, r => (c.f r).bind fun ds r1 => lcT (lcA ok fe cs) c.h c.t c.vs ds acc r1
/-- the reading of a clause -/
def rdC (K : PySem.W.Frag) (g : G) (c : GDt) : GRd := (fun s H Q => ∃ g' : G, Blk g g' ∧ tID K g' c.f s H Q, fun v s H Q => ∃ g' : G, Blk g g' ∧ tGD K g' c.ks c.h v s H Q, fun s H Q => ∃ g' : G, Blk g g' ∧ tTD K g' c.t s H Q, c.vs)
def tmG (te : TE) (Em : Hp → V → HO → HO → Prop) (A : Addr) : TM := fun σ H Q => te σ H fun y H4 => ∃ o o', H4 A = some o ∧ Em H4 y o o' ∧ Q (L2.upd H4 A o')
section
variable {g : G} {K : PySem.W.Frag} {A : Addr} {AR : Hp → List D → HO → Prop} {Em : Hp → V → HO → HO → Prop} {ok : List D → D → Bool} {fe : En → Rs D}
theorem gs_imp (hA0 : g.H0 A = none) (hAX : ∀ p ∈ g.X, p.1 ≠ A) (mono : ∀ {F F' acc o}, Same F F' → AR F acc o → AR F' acc o) (em : ∀ {F H acc o v y}, Same F H → AR F acc o → RD K F v y → ok acc y = true → ∃ o', Em H v o o' ∧ AR F (acc ++ [y]) o') :
    ∀ (cs : List GDt), (∀ c ∈ cs, (∀ p ∈ g.B, p.1 ∉ c.vs) ∧ ∀ i ∈ c.ks, i ∈ c.vs) → ∀ (σ : L2.St) (H F : Hp) (r : En) (acc : List D) (o : HO) (C : List D → En → Prop) (Q : Hp → Prop), Rel K g F H σ r → H A = some o → F A = none → (∀ (j : Nat) (u : OV), r[j]? = some (some u) → u.own = true → σ[j]? ≠ some (some (.ref A))) → AR F acc o →
      post K g.nw C (lcA ok fe cs acc r) → (∀ F' r' acc' o' H', Same F F' → Rel K g F' H' σ r' → H' A = some o' → F' A = none → (∀ (j : Nat) (u : OV), r'[j]? = some (some u) → u.own = true → σ[j]? ≠ some (some (.ref A))) → AR F' acc' o' → C acc' r' → Q H') →
      tGs (tmG (fun s H Q => ∃ g' : G, Blk g g' ∧ tD K g' fe s H Q) Em A) (cs.map (rdC K g)) σ H Q := by
  intro cs
  induction cs with
  | nil =>
    intro _ σ H F r acc o C Q R hA hF hno har q hQ
    refine ⟨(g.more A o).nw, ⟨rfl, rfl, rfl, rfl⟩, F, r, (R.more hA hF hno).nw, post_mono (post_w (post_bind q)) fun y r1 q1 F1 H1 v sm R1' hv => ?_⟩
    obtain ⟨hok, q1⟩ := post_if q1
    have R1' := R1'.unw
    have a1 := R1'.less.2.1
    have a2 := R1'.less.2.2.1
    have a3 := R1'.less.2.2.2
    obtain ⟨o', e1, e2⟩ := em R1'.sub (mono sm har) hv hok
    exact ⟨o, o', a1, e1, hQ F1 r1 (acc ++ [y]) o' _ sm (R1'.grow hA0 hAX) upd_same a2 a3 e2 q1⟩
  | cons c cs ih =>
    intro hall σ H F r acc o C Q R hA hF hno har q hQ
    obtain ⟨hb, hks⟩ := hall c List.mem_cons_self
    have hall2 : ∀ c ∈ cs, (∀ p ∈ g.B, p.1 ∉ c.vs) ∧ ∀ i ∈ c.ks, i ∈ c.vs := fun c hc => hall c (List.mem_cons_of_mem _ hc)
    have ih := ih hall2
    obtain ⟨f, h, t, vs, ks⟩ := c
    refine ⟨(g.more A o).nw, ⟨rfl, rfl, rfl, rfl⟩, F, r, (R.more hA hF hno).nw, post_mono (post_w (post_bind q)) fun ds r1 q1 F1 H1 J sm R1' wk => ?_⟩
    obtain ⟨R1, a1, a2, a3⟩ := R1'.unw.less
    have wk' : Wk K g.B F1 J ds := wk
    refine ⟨fun i m H2 => m = ds.length - i ∧ i ≤ ds.length ∧ ∃ F2 r2 acc2 o2, Same F1 F2 ∧ Rel K g F2 H2 σ r2 ∧ H2 A = some o2 ∧ F2 A = none ∧ (∀ (j : Nat) (u : OV), r2[j]? = some (some u) → u.own = true → σ[j]? ≠ some (some (.ref A))) ∧ AR F2 acc2 o2 ∧ post K g.nw C (lcT (lcA ok fe cs) h t vs (ds.drop i) acc2 r2), ⟨ds.length, rfl, Nat.zero_le _, F1, r1, acc, o, Same.refl _, R1, a1, a2, a3, mono sm har, by rw [List.drop_zero]; exact q1⟩, ?_⟩
    rintro i m H2 ⟨rfl, hi2, F2, r2, acc2, o2, sm2, R2, b1, b2, b3, b4, q2⟩
    obtain ⟨w1, w2⟩ := wk' g F2 H2 σ r2 rfl sm2 R2
    by_cases hlt : i < ds.length
    · have ed : ds[i]? = some ds[i] := List.getElem?_eq_getElem hlt
      obtain ⟨go, yl⟩ := w1 i _ ed
      rw [List.drop_eq_getElem_cons hlt] at q2
      refine .inr ⟨go, fun H3 => ∃ F2 r2 acc2 o2, Same F1 F2 ∧ Rel K g F2 H3 σ r2 ∧ H3 A = some o2 ∧ F2 A = none ∧ (∀ (j : Nat) (u : OV), r2[j]? = some (some u) → u.own = true → σ[j]? ≠ some (some (.ref A))) ∧ AR F2 acc2 o2 ∧ post K g.nw C (lcT (lcA ok fe cs) h t vs (ds.drop (i + 1)) acc2 r2), fun H3 hh => ⟨ds.length - (i + 1), by omega, rfl, hlt, hh⟩, fun x H3 hy => ?_⟩
      have R2m : Rel K (g.more A o2) F2 H2 σ r2 := R2.more b1 b2 b3
      obtain ⟨w1m, _⟩ := wk' (g.more A o2) F2 H2 σ r2 rfl sm2 R2m
      obtain ⟨F3, sm3, R3, hx⟩ := (w1m i _ ed).2 x H3 hy
      have R3w : Rel K (g.more A o2) F3 H3 (wipe σ vs) (wipeE r2 vs) := R3.forget hb (wipe_length _ _) fun i hi => wipe_keep hi
      have q3 : post K g.nw C (match h ds[i] (wipeE r2 vs) with
        | none => .bad
        | some r1 => (t r1).bind fun b r2 => if b = true then (lcA ok fe cs acc2 r2).bind fun acc' r3 => lcT (lcA ok fe cs) h t vs (ds.drop (i + 1)) acc' (wipeE r3 vs) else lcT (lcA ok fe cs) h t vs (ds.drop (i + 1)) acc2 (wipeE r2 vs)) := q2
      cases eh : h ds[i] (wipeE r2 vs) with
      | none => rw [eh] at q3; exact q3.elim
      | some r3 =>
        rw [eh] at q3
        refine ⟨(g.more A o2).nw, ⟨rfl, rfl, rfl, rfl⟩, F3, _, ds[i], r3, R3w.nw, hx, eh, fun s4 ag R4 => ⟨agr_wipe ag hks, (g.more A o2).nw, ⟨rfl, rfl, rfl, rfl⟩, F3, r3, R4, post_mono (post_w (post_bind q3)) fun b r4 q4 F4 H4 sm4 R4' => ?_⟩⟩
        have wkeep : ∀ i, i ∉ vs → σ[i]? = s4[i]? := fun i hi => by rw [ag.2 i fun z => hi (hks i z), wipe_keep hi]
        have hl4 : σ.length = s4.length := by rw [ag.1, wipe_length]
        have sm14 : Same F1 F4 := (sm2.trans sm3).trans sm4
        obtain ⟨R5, c1, c2, c3⟩ := R4'.unw.less
        have har4 : AR F4 acc2 o2 := mono (sm3.trans sm4) b4
        cases b with
        | false =>
          refine ⟨F4, wipeE r4 vs, acc2, o2, sm14, R5.forget hb hl4 wkeep, c1, c2, fun j u e eo => ?_, har4, q4⟩
          obtain ⟨e1, e2⟩ := wipeE_some e
          rw [wkeep j e2]
          exact c3 j u e1 eo
        | true =>
          refine ih s4 H4 F4 r4 acc2 o2 (fun acc' r5 => post K g.nw C (lcT (lcA ok fe cs) h t vs (ds.drop (i + 1)) acc' (wipeE r5 vs))) _ R5 c1 c2 c3 har4 (post_bind q4) fun F' r' acc' o' H' s' R' d1 d2 d3 d4 qc => ?_
          refine ⟨F', wipeE r' vs, acc', o', sm14.trans s', R'.forget hb hl4 wkeep, d1, d2, fun j u e eo => ?_, d4, qc⟩
          obtain ⟨e1, e2⟩ := wipeE_some e
          rw [wkeep j e2]
          exact d3 j u e1 eo
    · have e : i = ds.length := by omega
      subst e
      rw [List.drop_length] at q2
      refine .inl ⟨w2 _ (Nat.le_refl _), hQ F2 (wipeE r2 vs) acc2 o2 H2 (sm.trans sm2) (R2.forget hb rfl fun _ _ => rfl) b1 b2 (fun j u e eo => ?_) b4 q2⟩
      obtain ⟨e1, e2⟩ := wipeE_some e
      exact b3 j u e1 eo
end
end DL

/-! Data layer, part 37: [.. for .. for ..], sorted({.. for .. for ..}). -/
namespace DL
open PySem L2 PySem.Froz
section
variable {X : Cx} {g : G}
/-- the later clauses have these functions -/
def AlD (X : Cx) (g : G) (scope : Scope) : List Comprehension → List GDt → List Nat → Prop
  | [], [], _ => True
  | cl :: cls, c :: cs, vp => (∀ (s : Shared) (H : Hp) (C : Addr) (cx : List (Str × Addr)) (fp : List Addr) (g' : G), Blk g g' → DI (X.blk s H scope (compEnvC scope cx C X.env) fp) g' cl.target cl.iter c.f) ∧
      (∀ (s : Shared) (H : Hp) (C : Addr) (cx : List (Str × Addr)) (fp : List Addr) (g' : G), Blk g g' → DG (X.blk s H scope (compEnvC scope cx C X.env) fp) g' cl.target c.ks c.h) ∧
      (∀ (s : Shared) (H : Hp) (C : Addr) (cx : List (Str × Addr)) (fp : List Addr) (g' : G), Blk g g' → PTs (X.blk s H scope (compEnvC scope cx C X.env) fp) cl.ifs (tTD X.K g' c.t)) ∧
      (∀ env x, foldedSetIterable cl.iter env x = pure x) ∧ (∀ i ∈ c.vs, i ∈ vp) ∧ (∀ p ∈ g.B, p.1 ∉ c.vs) ∧ (∀ i ∈ c.ks, i ∈ c.vs) ∧ cl.is_async = 0 ∧ AlD X g scope cls cs c.vs
  | _, _, _ => False
theorem AlD.al {scope : Scope} : ∀ (gs : List Comprehension) (cs : List GDt) (vp : List Nat), AlD X g scope gs cs vp → ∀ (pre : List Comprehension) (s : Shared) (H : Hp) (C : Addr) (cx : List (Str × Addr)) (fp : List Addr),
    Al (X.blk s H scope (compEnvC scope cx C X.env) fp) (pre ++ gs) pre.length (cs.map (rdC X.K g)) vp
  | [], [], vp, _, pre, s, H, C, cx, fp => by
    show (pre ++ [])[pre.length]? = none
    simp
  | cl :: cls, c :: cs, vp, h, pre, s, H, C, cx, fp => by
    obtain ⟨h1, h2, h3, h4, h5, h6, h7, h8, h9⟩ := h
    have rec1 := AlD.al cls cs c.vs h9 (pre ++ [cl]) s H C cx fp
    rw [List.append_assoc, List.length_append] at rec1
    refine ⟨cl, by simp, ⟨fun pins s2 σ H2 Q I ⟨g', eg, q⟩ => (h1 s H C cx fp g' eg).run pins s2 σ H2 Q I q⟩, ⟨fun pins s2 σ H2 v u Q I rv ⟨g', eg, q⟩ => (h2 s H C cx fp g' eg).run pins s2 σ H2 v u Q I rv q⟩, ⟨fun pins s2 σ H2 Q I ⟨g', eg, q⟩ => (h3 s H C cx fp g' eg).run pins s2 σ H2 Q I q⟩, h4 _, h5, rec1⟩
  | [], _ :: _, _, h, _, _, _, _, _, _ => h.elim
  | _ :: _, [], _, h, _, _, _, _, _, _ => h.elim
theorem AlD.z {scope : Scope} : ∀ (gs : List Comprehension) (cs : List GDt) (vp : List Nat), AlD X g scope gs cs vp → ∀ c ∈ gs, c.is_async = 0
  | [], _, _, _, c, hc => by cases hc
  | cl :: cls, c :: cs, vp, h, d, hd => by
    obtain ⟨_, _, _, _, _, _, _, h8, h9⟩ := h
    rcases List.mem_cons.mp hd with rfl | hd
    · exact h8
    · exact AlD.z cls cs c.vs h9 d hd
  | _ :: _, [], _, h, _, _ => h.elim
theorem AlD.bk {scope : Scope} : ∀ (gs : List Comprehension) (cs : List GDt) (vp : List Nat), AlD X g scope gs cs vp → ∀ c ∈ cs, (∀ p ∈ g.B, p.1 ∉ c.vs) ∧ ∀ i ∈ c.ks, i ∈ c.vs
  | _, [], _, _, c, hc => by cases hc
  | cl :: cls, c :: cs, vp, h, d, hd => by
    obtain ⟨_, _, _, _, _, h6, h7, _, h9⟩ := h
    rcases List.mem_cons.mp hd with rfl | hd
    · exact ⟨h6, h7⟩
    · exact AlD.bk cls cs c.vs h9 d hd
  | [], _ :: _, _, h, _, _ => h.elim
end
section
variable {g : G} {K : PySem.W.Frag} {AR : Addr → Hp → List D → HO → Prop} {Em : Addr → Hp → V → HO → HO → Prop} {ok : List D → D → Bool} {fe : En → Rs D} {acc0 : Addr → HO}
/-- the first clause: the new object is laid behind its source -/
theorem top_imp (mono : ∀ {A F F' acc o}, Same F F' → AR A F acc o → AR A F' acc o) (em : ∀ {A F H acc o v y}, Same F H → AR A F acc o → RD K F v y → ok acc y = true → ∃ o', Em A H v o o' ∧ AR A F (acc ++ [y]) o') (h0 : ∀ A F, AR A F [] (acc0 A))
    (c : GDt) (cs : List GDt) (hb : ∀ p ∈ g.B, p.1 ∉ c.vs) (hks : ∀ i ∈ c.ks, i ∈ c.vs) (hall : ∀ c ∈ cs, (∀ p ∈ g.B, p.1 ∉ c.vs) ∧ ∀ i ∈ c.ks, i ∈ c.vs) (σ : L2.St) (H F : Hp) (r : En) (C : List D → En → Prop) (Q : VK) (R : Rel K g F H σ r) (q : post K g.nw C (lcA ok fe (c :: cs) [] r))
    (hQ : ∀ A F' r' acc' o' H', Same F F' → Rel K g F' H' σ r' → H' A = some o' → F' A = none → g.H0 A = none → (∀ p ∈ g.X, p.1 ≠ A) → (∀ (j : Nat) (u : OV), r'[j]? = some (some u) → u.own = true → σ[j]? ≠ some (some (.ref A))) → AR A F' acc' o' → C acc' r' → Q (.ref A) H') :
    tCn acc0 (fun A => tmG (fun s H Q => ∃ g' : G, Blk g g' ∧ tD K g' fe s H Q) (Em A) A) (tID K g c.f) (fun v s H Q => ∃ g' : G, Blk g g' ∧ tGD K g' c.ks c.h v s H Q) (fun s H Q => ∃ g' : G, Blk g g' ∧ tTD K g' c.t s H Q) c.vs (cs.map (rdC K g)) σ H Q := by
  obtain ⟨f, h, t, vs, ks⟩ := c
  refine ⟨F, r, R, post_mono (post_w (post_bind q)) fun ds r1 q1 F1 H1 J sm R1 wk => ?_⟩
  intro A nA
  have hA0 : g.H0 A = none := R1.live nA
  have hAX : ∀ p ∈ g.X, p.1 ≠ A := fun p hp z => by have := (R1.ext p hp).1; rw [z, nA] at this; cases this
  refine ⟨fun i m H2 => m = ds.length - i ∧ i ≤ ds.length ∧ ∃ F2 r2 acc2 o2, Same F1 F2 ∧ Rel K g F2 H2 σ r2 ∧ H2 A = some o2 ∧ F2 A = none ∧ (∀ (j : Nat) (u : OV), r2[j]? = some (some u) → u.own = true → σ[j]? ≠ some (some (.ref A))) ∧ AR A F2 acc2 o2 ∧ post K g.nw C (lcT (lcA ok fe cs) h t vs (ds.drop i) acc2 r2),
    ⟨ds.length, rfl, Nat.zero_le _, F1, r1, [], acc0 A, Same.refl _, R1.laid nA, upd_same, R1.ff nA, fun j u e eo => not_own R1 nA j u e eo, h0 A F1, by rw [List.drop_zero]; exact q1⟩, ?_⟩
  rintro i m H2 ⟨rfl, hi2, F2, r2, acc2, o2, sm2, R2, b1, b2, b3, b4, q2⟩
  obtain ⟨w1, w2⟩ := wk g F2 H2 σ r2 rfl sm2 R2
  by_cases hlt : i < ds.length
  · have ed : ds[i]? = some ds[i] := List.getElem?_eq_getElem hlt
    obtain ⟨go, yl⟩ := w1 i _ ed
    rw [List.drop_eq_getElem_cons hlt] at q2
    refine .inr ⟨go, fun H3 => ∃ F2 r2 acc2 o2, Same F1 F2 ∧ Rel K g F2 H3 σ r2 ∧ H3 A = some o2 ∧ F2 A = none ∧ (∀ (j : Nat) (u : OV), r2[j]? = some (some u) → u.own = true → σ[j]? ≠ some (some (.ref A))) ∧ AR A F2 acc2 o2 ∧ post K g.nw C (lcT (lcA ok fe cs) h t vs (ds.drop (i + 1)) acc2 r2), fun H3 hh => ⟨ds.length - (i + 1), by omega, rfl, hlt, hh⟩, fun x H3 hy => ?_⟩
    have R2m : Rel K (g.more A o2) F2 H2 σ r2 := R2.more b1 b2 b3
    obtain ⟨w1m, _⟩ := wk (g.more A o2) F2 H2 σ r2 rfl sm2 R2m
    obtain ⟨F3, sm3, R3, hx⟩ := (w1m i _ ed).2 x H3 hy
    have R3w : Rel K (g.more A o2) F3 H3 (wipe σ vs) (wipeE r2 vs) := R3.forget hb (wipe_length _ _) fun i hi => wipe_keep hi
    have q3 : post K g.nw C (match h ds[i] (wipeE r2 vs) with
      | none => .bad
      | some r1 => (t r1).bind fun b r2 => if b = true then (lcA ok fe cs acc2 r2).bind fun acc' r3 => lcT (lcA ok fe cs) h t vs (ds.drop (i + 1)) acc' (wipeE r3 vs) else lcT (lcA ok fe cs) h t vs (ds.drop (i + 1)) acc2 (wipeE r2 vs)) := q2
    cases eh : h ds[i] (wipeE r2 vs) with
    | none => rw [eh] at q3; exact q3.elim
    | some r3 =>
      rw [eh] at q3
      refine ⟨(g.more A o2).nw, ⟨rfl, rfl, rfl, rfl⟩, F3, _, ds[i], r3, R3w.nw, hx, eh, fun s4 ag R4 => ⟨agr_wipe ag hks, (g.more A o2).nw, ⟨rfl, rfl, rfl, rfl⟩, F3, r3, R4, post_mono (post_w (post_bind q3)) fun b r4 q4 F4 H4 sm4 R4' => ?_⟩⟩
      have wkeep : ∀ i, i ∉ vs → σ[i]? = s4[i]? := fun i hi => by rw [ag.2 i fun z => hi (hks i z), wipe_keep hi]
      have hl4 : σ.length = s4.length := by rw [ag.1, wipe_length]
      have sm14 : Same F1 F4 := (sm2.trans sm3).trans sm4
      obtain ⟨R5, c1, c2, c3⟩ := R4'.unw.less
      have har4 : AR A F4 acc2 o2 := mono (sm3.trans sm4) b4
      cases b with
      | false =>
        refine ⟨F4, wipeE r4 vs, acc2, o2, sm14, R5.forget hb hl4 wkeep, c1, c2, fun j u e eo => ?_, har4, q4⟩
        obtain ⟨e1, e2⟩ := wipeE_some e
        rw [wkeep j e2]
        exact c3 j u e1 eo
      | true =>
        refine gs_imp (A := A) (AR := AR A) (Em := Em A) hA0 hAX mono em cs hall s4 H4 F4 r4 acc2 o2 (fun acc' r5 => post K g.nw C (lcT (lcA ok fe cs) h t vs (ds.drop (i + 1)) acc' (wipeE r5 vs))) _ R5 c1 c2 c3 har4 (post_bind q4) fun F' r' acc' o' H' s' R' d1 d2 d3 d4 qc => ?_
        refine ⟨F', wipeE r' vs, acc', o', sm14.trans s', R'.forget hb hl4 wkeep, d1, d2, fun j u e eo => ?_, d4, qc⟩
        obtain ⟨e1, e2⟩ := wipeE_some e
        rw [wkeep j e2]
        exact d3 j u e1 eo
  · have e : i = ds.length := by omega
    subst e
    rw [List.drop_length] at q2
    refine .inl ⟨w2 _ (Nat.le_refl _), hQ A F2 (wipeE r2 vs) acc2 o2 H2 (sm.trans sm2) (R2.forget hb rfl fun _ _ => rfl) b1 b2 hA0 hAX (fun j u e eo => ?_) b4 q2⟩
    obtain ⟨e1, e2⟩ := wipeE_some e
    exact b3 j u e1 eo
end
end DL

/-! Data layer, part 38: the rules. -/
namespace DL
open PySem L2 PySem.Froz
def EmL : Addr → Hp → V → HO → HO → Prop := fun _ _ v o o' => ∃ vacc, o = .lst vacc ∧ vacc.length < sizeLine ∧ o' = .lst (vacc ++ [v])
section
variable {Y : Cx} {elt : Expr} {te : TE} {D : Addr}
theorem pmG_list (hxe : Y.xe = FF) (he : PE Y elt te) : PM Y false elt (.ref D) (tmG te (EmL D) D) := by
  intro pins s σ H Q I h
  have run := he.run pins s σ H _ I h
  rw [hxe] at run
  show wpAny _ _ (eval elt Y.env >>= fun x => call (.builtin "list.append") [.ref D, x] >>= fun _ => pure ()) _ _ s
  refine wpAny_bind (thnF run fun z s1 ⟨y, H1, I1, r1, o, o', hD, ⟨acc, e1, hz, e2⟩, q⟩ => ?_)
  subst e1 e2
  exact wpAny_bind (app_ok I1 hD hz r1 fun s2 I2 => wpAny_pure ⟨_, I2, q⟩)
end
/-- what a list holds; what a set does -/
def okL : List D → D → Bool := fun acc _ => decide (acc.length < 1000000)
def ARL (K : PySem.W.Frag) : Addr → Hp → List D → HO → Prop := fun _ F acc o => ∃ vacc, o = .lst vacc ∧ RDs K F vacc acc
section
variable {X : Cx} {g : G} {elt tg iter : Expr} {ifs : List Expr} {gs : List Comprehension} {scope : Scope} {own : List (PySem.Str × Nat)} {pos : Pos} {c : GDt} {cs : List GDt} {fe : En → Rs D}
/-- [elt for .. for ..] -/
def lcND (cs : List GDt) (fe : En → Rs D) : En → Rs OV := fun r => (lcA okL fe cs [] r).noE.map OV.ow
end
end DL

/-! Data layer, part 39: [*xs, e, ..]. -/
namespace DL
open PySem L2
def stL (f : En → Rs D) (fs : List (En → Rs D)) : En → Rs OV := fun r => (f r).bind fun d r1 =>
  match d with
  | .lst xs => (evs fs r1).bind fun ds r2 => if (xs ++ ds).length ≤ 1000 then .ok (.ow (xs ++ ds)) r2 else .bad
  | _ => .bad
section
variable {X : Cx} {g : G} {e : Expr} {es : List Expr} {f : En → Rs D} {fs : List (En → Rs D)} {p pos : Pos}
end
end DL

/-! Data layer, part 40: a, b = x, y where both names own what they get. -/
namespace DL
open PySem L2
section
variable {X : Cx} {g : G} {a b : Expr} {pos pt pt2 px py : Pos} {x y : Str} {kt k2 i j : Nat}
def par2o (i j : Nat) (f h : En → Rs OV) : En → SRs := fun r => thenS (f r) fun o r1 => thenS (h r1).noE fun o2 r2 => .nx ((r2.set i (some o)).set j (some o2))
end
end DL

/-! Data layer, part 41: defs that may raise, their calls. -/
namespace DL
open PySem L2
/-- what a def that may raise gives -/
inductive FR where
  | ok (o : OV)
  | ex (x : Exn)
  | bad
/-- what is wished of errors is taken -/
def TkG (X : Cx) (g : G) : Prop := ∀ W, g.W = some W → Takes X W
theorem TkG.none {X : Cx} {g : G} (h : g.W = none) : TkG X g := fun W e => by rw [h] at e; cases e
/-- the wish at the slots σ -/
def WG (g : G) (σ : St) : XK := fun cls d H => match g.W with
  | none => False
  | some W => W cls d σ H
def fnX (n : Nat) (m : En → SRs) : List D → FR := fun ds => match m (startE n (ds.map OV.sh)) with
  | .nx _ => .ok (.sh .non)
  | .rt o _ => .ok o
  | .ex x _ => .ex x
  | _ => .bad
/-- what is wanted of a def's result -/
def QX (K : PySem.W.Frag) (F H : Hp) (Q : VK) (E : XK) : FR → Prop
  | .ok o => ∀ F' H' v, Same F F' → Same F' H' → Fresh F F' H → Same H H' → RVf K F' H' H v o → Q v H'
  | .ex x => ∀ F' H' cls d, Same F F' → Same F' H' → Fresh F F' H → Same H H' → RX K F' cls d x → E cls d H'
  | .bad => False
def spX (K : PySem.W.Frag) (n : Nat) (f : List D → FR) : Sp := fun vs H Q E => ∃ F ds, Same F H ∧ RDs K F vs ds ∧ ds.length = n ∧ QX K F H Q E (f ds)
section
variable {P : Program} {w : World} {K : PySem.W.Frag} {mg : Str → Option Value} {base : Heap}
end
structure HasX (P : Program) (w : World) (K : PySem.W.Frag) (mg : Str → Option Value) (base : Heap) (k : Nat) (x : Str) (n : Nat) (f : List D → FR) : Prop where
  ex : ∃ fa fd ps, FnG P w K mg base (L2.CX P w) k fa fd ps (spX K n f) ∧ mg x = some (.ref fa) ∧ PySem.W.keepIn K (.ref fa) = true ∧ Binds K fd ps []
/-- a result handed on -/
def frR (z : FR) (r : En) : Rs OV := match z with
  | .ok o => .ok o r
  | .ex x => .ex x r
  | .bad => .bad
def callX (n : Nat) (f : List D → FR) (fs : List (En → Rs D)) : En → Rs OV := fun r => (evs fs r).bind fun ds r1 => if ds.length = n then frR (f ds) r1 else .bad
/-- behind a call that changed nothing that was there -/
theorem Rel.after {K : PySem.W.Frag} {g : G} {F1 H1 F' H' : Hp} {s : St} {r1 : En} (R1 : Rel K g F1 H1 s r1) (s1 : Same F1 F') (s2 : Same F' H') (fr : Fresh F1 F' H1) (s3 : Same H1 H') : Rel K g F' H' s r1 := by
  have fn : ∀ {a : Addr} {u : HO}, F1 a = none → H1 a = some u → F' a = none := fun {a u} z1 z2 => by
    cases z : F' a with
    | none => rfl
    | some o' => rw [fr a o' z z1] at z2; cases z2
  refine ⟨s2, R1.f0.trans s1, fun b u e e0 => ?_, fun b u e hb ht => s3 _ _ (R1.keep b u e hb ht), fun i u e => ?_, R1.own, R1.dist, R1.pin, R1.len, R1.tb.call s1 s3 fr, fun q hq => ?_⟩
  · cases z : F1 b with
    | some u' => exact R1.fnew b u' z e0
    | none => exact R1.live (fr b u e z)
  · obtain ⟨w, a1, a2⟩ := R1.slot i u e
    exact ⟨w, a1, RO.mono s1 (fun a vs ew e2 e3 => ⟨fn e2 e3, s3 _ _ e3⟩) a2⟩
  · obtain ⟨x1, x2, x3⟩ := R1.ext q hq
    exact ⟨s3 _ _ x1, fn x2 x1, x3⟩
theorem RVf.rv {K : PySem.W.Frag} {g : G} {F1 H1 F' H' : Hp} {s : St} {r1 : En} {v : V} {o : OV} (R1 : Rel K g F1 H1 s r1) (hv : RVf K F' H' H1 v o) : RV K g F' H' s r1 v o := by
  cases o with
  | sh d => exact hv
  | ow xs =>
    obtain ⟨a, us, e1, e2, e3, e4, e5⟩ := hv
    exact ⟨a, us, e1, e2, e3, e4, R1.live e5, fun j o e eo => not_own R1 e5 j o e eo, fun q hq z => by have := (R1.ext q hq).1; rw [z, e5] at this; cases this⟩
  | od xs => exact hv.elim
  | oi c xs => exact hv.elim
  | th xs => exact hv.elim
  | exc c => exact hv.elim
/-- the promise of a callee, by what is wanted of the call -/
theorem QX.of {K : PySem.W.Frag} {g : G} {F F1 H1 : Hp} {s : St} {r1 : En} {Q : VK} {z : FR} (R1 : Rel K g F1 H1 s r1) (sm : Same F F1) (q : post K g (PO K g F s Q) (frR z r1)) : QX K F1 H1 Q (WG g s) z := by
  cases z with
  | ok o => exact fun F' H' v s1 s2 fr s3 hv => q F' H' v (sm.trans s1) (R1.after s1 s2 fr s3) (hv.rv R1)
  | ex x =>
    intro F' H' cls d s1 s2 fr s3 hx
    have q : exW K g x r1 := q
    unfold exW at q
    unfold WG
    revert q
    cases g.W with
    | none => exact fun q => q
    | some W => exact fun q => q F' H' s cls d (R1.after s1 s2 fr s3) hx
  | bad => exact q
section
variable {X : Cx} {CX : CXT} {k : Nat} {f : Addr} {fd : FuncData} {ps : List Str} {sp : Sp} {E : St → XK} {x : Str} {p pos : Pos} {e : Expr} {es : List Expr} {t : TA}
theorem runGS {pins : List (Addr × Obj)} {σ : St} {H : Hp} {s : Shared} {Q : VK} {us : List Value} {vs : List V} (F : FnG X.prog X.w X.K X.mg X.base CX k f fd ps sp) (hgd : X.A.guards = some []) (hr : Room k X.A) (hb : Binds X.K fd ps []) (hx : PassesAt CX X σ (E σ))
    (I : Inv X pins σ H s) (r : Vals vs us) (h : sp vs H Q (E σ)) : wpAny (model X.prog X.w) X.A (call (.ref f) us) (EP X pins σ Q) X.xe s := by
  have bl := hb s us I.kIn (by rw [List.append_nil, ← r.length]; exact F.len _ _ _ _ h)
  rw [List.append_nil] at bl
  refine wpAny_call (codeAny_mono (F.run X.A X.stack s H ⟨us, []⟩ us vs Q (E σ) hgd hr I.env0 bl r h) ?_)
  intro res s2 hq
  cases res with
  | error er => exact hx pins H s er s2 I hq
  | ok fl =>
    cases fl with
    | ret u => exact I.after hq
    | next => cases hq
    | brk => cases hq
    | cont => cases hq
theorem pe_callGS (F : FnG X.prog X.w X.K X.mg X.base CX k f fd ps sp) (hgd : X.A.guards = some []) (hr : Room k X.A) (hg : Gl X x) (hm : X.mg x = some (.ref f)) (hk : PySem.W.keepIn X.K (.ref f) = true) (hb : Binds X.K fd ps []) (hx : ∀ σ, PassesAt CX X σ (E σ))
    (ha : PA X (e :: es) t) (hdb : (x == ("__debug__" : Str)) = false := by decide) (he : starEach (e :: es) X.env = (false, eval e X.env) :: starEach es X.env := by rfl) (hpl : (backTo pos (starEach es X.env)).any (·.1) = false := by rfl) :
    PE X (.Call (.Name x p) (e :: es) [] pos) (fun σ H Q => t σ H fun vs H1 => sp vs H1 Q (E σ)) := by
  constructor
  intro pins s σ H Q I h
  refine PySem.wpAny_Call_Name_kw (ld_glob I hg hm ?_ hdb)
  refine PySem.W.callWith_K (h₀ := X.base) I.ok.mod.kin hk (thn (ha.run pos pins s σ H _ I h) ?_) he hpl
  rintro us s1 ⟨vs, H1, I1, rv, q⟩
  exact ⟨I1.kIn, runGS F hgd hr hb (hx σ) I1 rv q⟩
end
section
variable {X : Cx} {g : G} {k n : Nat} {x : Str} {p pos : Pos} {e : Expr} {es : List Expr}
end
end DL

/-! Data layer, part 42: raise C(e), C an error class whose __init__ stores its one argument. -/
namespace DL
open PySem L2
/-- __init__(self, p): self.f = p -/
def spEI (K : PySem.W.Frag) (f : Str) : Sp := fun vs H Q _ => ∃ (a C : Addr) (y : V), vs = [.ref a, y] ∧ OexC K C ∧ PySem.W.findIn K (.ref C) f = some none ∧ H a = some (exo a C none) ∧ ∀ dx, H dx = none → dx ≠ a → Q .non (L2.upd (L2.upd H dx (exd dx [(f, y)])) a (exo a C (some dx)))
section
variable {P : Program} {w : World} {K : PySem.W.Frag} {mg : Str → Option Value} {base : Heap}
theorem errInit_ok {x qual par fld : Str} {st : Stmt} {f : Addr} {fd : FuncData} {p1 p2 p3 pos : Pos} (F : Fun K x qual st f fd) (S : FnScope ["self", par] ["self", par] (defScope st)) (hb : defBody st = [.Assign [.Attribute (.Name "self" p1) fld p2] (.Name par p3) pos])
    (hv0 : ∀ (cdv : Value) (A : Around) (outer : List Env) (s : Shared) (H : Hp) (E : XK), PE (cxOf CX0 P w K mg base ["self", par] qual (defScope st) f cdv A outer s H E).nox (.Name "self" p1) (tVar 0)) (hv1 : ∀ (cdv : Value) (A : Around) (outer : List Env) (s : Shared) (H : Hp) (E : XK), PE (cxOf CX0 P w K mg base ["self", par] qual (defScope st) f cdv A outer s H E).nox (.Name par p3) (tVar 1))
    (hs : ∀ (cdv : Value) (A : Around) (outer : List Env) (s : Shared) (H : Hp) (E : XK), swapsWith (.Name par p3) (some (.Attribute (.Name "self" p1) fld p2)) pos.line (cxOf CX0 P w K mg base ["self", par] qual (defScope st) f cdv A outer s H E).nox.env = pure false) : FnOk P w K mg base CX0 1 f fd ["self", par] (spEI K fld) := by
  refine F.ok S (fun vs H Q E ⟨a, C, y, e, _⟩ => by rw [e]; rfl) fun cdv A outer s H vs Q E hr h => ?_
  obtain ⟨a, C, y, rfl, T, hno, ha, q⟩ := h
  rw [hb]
  exact ⟨_, pss_one (ps_ost (hv0 cdv A outer s H E) (hv1 cdv A outer s H E) (hs cdv A outer s H E)), _, rfl, _, rfl, a, C, rfl, T, hno, .inl ⟨ha, q⟩⟩
end
/-- the error class c with its one attribute f -/
structure HasE (P : Program) (w : World) (K : PySem.W.Frag) (mg : Str → Option Value) (base : Heap) (c f : Str) : Prop where
  ex : ∃ C fI fd ps, mg c = some (.ref C) ∧ ClsAt K c C ∧ OexC K C ∧ PySem.W.findIn K (.ref C) f = some none ∧ PySem.W.findIn K (.ref C) "__init__" = some (some (.ref fI)) ∧ PySem.W.typeIn K (.ref fI) = some (.type "function") ∧ FnOk P w K mg base CX0 1 fI fd ps (spEI K f) ∧ Binds K fd ps []
def raiseS (c f : Str) (fe : En → Rs D) : En → SRs := fun r => thenS (fe r) fun d r1 => .ex ⟨c, [(f, d)]⟩ r1
section
variable {X : Cx} {g : G} {e : Expr} {p pos pos2 : Pos} {c f : Str}
end
end DL

/-! Data layer, part 43: try .. except C as n; isinstance(n, C), n.f in its suite. -/
namespace DL
open PySem L2
/-- no slot holds an error -/
def noX (r : En) : Bool := r.all fun o => match o with
  | some (.exc _) => false
  | _ => true
theorem noX_of {r : En} (h : noX r = true) {i : Nat} {x : Exn} (e : r[i]? = some (some (.exc x))) : False := by
  have := List.all_eq_true.mp h _ (List.mem_of_getElem? e)
  cases this
def tryS (ct : Str → Option Bool) (i : Nat) (fb fs : En → SRs) : En → SRs := fun r => match fb r with
  | .ex x r1 => match ct x.c with
    | some true => match fs (r1.set i (some (.exc x))) with
      | .nx r2 => if noX (r2.set i none) = true then .nx (r2.set i none) else .bad
      | .rt o r2 => if noX (r2.set i none) = true then .rt o (r2.set i none) else .bad
      | .bk r2 => if noX (r2.set i none) = true then .bk (r2.set i none) else .bad
      | .ct r2 => if noX (r2.set i none) = true then .ct (r2.set i none) else .bad
      | .ex _ _ => .bad
      | .bad => .bad
    | some false => .ex x r1
    | none => .bad
  | y => y
structure Tri (g g' : G) : Prop where
  B : g'.B = g.B
  w : g'.w = g.w
  xc : g'.xc = g.xc
structure Sui (g g' : G) (a : Addr) (cls : Value) (d : Option Addr) : Prop where
  B : g'.B = g.B
  w : g'.w = g.w
  W : g'.W = none
  xc : g'.xc = some (a, cls, d)
/-- with the error that is handled -/
def G.hnd (g : G) (a : Addr) (cls : Value) (d : Option Addr) : G := { g with W := none, xc := some (a, cls, d) }
section
variable {K : PySem.W.Frag} {g : G} {F H : Hp} {s : St} {r : En} {i : Nat} {a : Addr} {cls : Value} {d : Option Addr} {x : Exn}
theorem Rel.setX (R : Rel K g F H s r) (hxc : g.xc = none) (hb : ∀ p ∈ g.B, p.1 ≠ i) (hx : RX K F cls d x) : Rel K (g.hnd a cls d) F H (s.set i (some (.ref a))) (r.set i (some (.exc x))) := by
  have hl := R.len
  have cs : ∀ (j : Nat) (u : OV), (r.set i (some (.exc x)))[j]? = some (some u) → (j = i ∧ u = .exc x ∧ (s.set i (some (.ref a)))[j]? = some (some (.ref a))) ∨ (j ≠ i ∧ r[j]? = some (some u) ∧ (s.set i (some (V.ref a)))[j]? = s[j]?) := fun j u z => by
    by_cases hj : i = j
    · subst hj
      have hi : i < r.length := by
        have := (List.getElem?_eq_some_iff.mp z).1
        rw [List.length_set] at this
        exact this
      rw [List.getElem?_set_self hi] at z
      cases z
      exact .inl ⟨rfl, rfl, List.getElem?_set_self (by rw [← hl]; exact hi)⟩
    · rw [List.getElem?_set_ne hj] at z
      exact .inr ⟨fun z => hj z.symm, z, List.getElem?_set_ne hj⟩
  have ow : ∀ (j : Nat) (u : OV), (r.set i (some (.exc x)))[j]? = some (some u) → u.own = true → r[j]? = some (some u) ∧ (s.set i (some (V.ref a)))[j]? = s[j]? := fun j u z zo => by
    rcases cs j u z with ⟨rfl, rfl, _⟩ | ⟨_, h1, h2⟩
    · cases zo
    · exact ⟨h1, h2⟩
  refine ⟨R.sub, R.f0, R.fnew, R.keep, fun j u z => ?_, fun j u b z zo za => ?_, fun j k u w b hjk z zo y yo za ya => ?_, fun p hp => ?_, by rw [List.length_set, List.length_set]; exact hl, R.tb, fun p hp => ?_⟩
  · rcases cs j u z with ⟨rfl, rfl, e⟩ | ⟨hj, z', e⟩
    · exact ⟨_, e, a, cls, d, rfl, rfl, hx⟩
    · obtain ⟨v, h1, h2⟩ := R.slot j u z'
      refine ⟨v, by rw [e]; exact h1, ?_⟩
      cases u with
      | sh d => exact h2
      | ow xs => exact h2
      | od xs => exact h2
      | oi c xs => exact h2
      | th xs => exact h2
      | exc y =>
        obtain ⟨_, _, _, _, z, _⟩ := h2
        rw [hxc] at z
        cases z
  · obtain ⟨h1, h2⟩ := ow j u z zo
    rw [h2] at za
    exact R.own j u b h1 zo za
  · obtain ⟨h1, h2⟩ := ow j u z zo
    obtain ⟨h3, h4⟩ := ow k w y yo
    rw [h2] at za
    rw [h4] at ya
    exact R.dist j k u w b hjk h1 zo h3 yo za ya
  · obtain ⟨p1, u, p2, p3⟩ := R.pin p hp
    have h := hb p hp
    exact ⟨by rw [List.getElem?_set_ne fun z => h z.symm]; exact p1, u, by rw [List.getElem?_set_ne fun z => h z.symm]; exact p2, p3⟩
  · obtain ⟨x1, x2, x3⟩ := R.ext p hp
    refine ⟨x1, x2, fun j u z zo => ?_⟩
    obtain ⟨h1, h2⟩ := ow j u z zo
    rw [h2]
    exact x3 j u h1 zo
theorem Rel.unX {s2 : St} (R : Rel K (g.hnd a cls d) F H s r) (hb : ∀ p ∈ g.B, p.1 ≠ i) (hn : noX (r.set i none) = true) (hl : s2.length = s.length) (hs : ∀ j, j ≠ i → s2[j]? = s[j]?) : Rel K g F H s2 (r.set i none) := by
  have R1 : Rel K (g.hnd a cls d) F H s2 (r.set i none) := R.forget (vs := [i]) (fun p hp z => hb p hp (List.mem_singleton.mp z)) hl fun j hj => hs j fun z => hj (List.mem_singleton.mpr z)
  refine ⟨R1.sub, R1.f0, R1.fnew, R1.keep, fun j u z => ?_, R1.own, R1.dist, R1.pin, R1.len, R1.tb, R1.ext⟩
  obtain ⟨v, h1, h2⟩ := R1.slot j u z
  refine ⟨v, h1, ?_⟩
  cases u with
  | sh d => exact h2
  | ow xs => exact h2
  | od xs => exact h2
  | oi c xs => exact h2
  | th xs => exact h2
  | exc y => exact (noX_of hn z).elim
end
section
variable {X : Cx} {g : G} {xn n : Str} {cv : Value} {i : Nat} {body suite : List Stmt} {b₀ : Stmt} {np pos pos' : Pos} {fb fs : En → SRs} {ct : Str → Option Bool}
/-! ### in the suite -/
def isxD (i : Nat) (t : Str → Option Bool) : En → Rs D := fun r => match r[i]? with
  | some (some (.exc x)) => ofO ((t x.c).map D.bl) r
  | _ => .bad
theorem RDf.look {K : PySem.W.Frag} {F : Hp} {f : Str} {d : D} : ∀ {vs : List (Str × V)} {ds : List (Str × D)}, RDf K F vs ds → ds.lookup f = some d → ∃ v, vs.lookup f = some v ∧ RD K F v d
  | _, [], h, e => by cases e
  | _, (k, d') :: ds, h, e => by
    cases h with
    | cons h1 h2 =>
      rw [List.lookup_cons] at e
      rw [List.lookup_cons]
      cases hk : f == k with
      | true =>
        simp only [hk] at e
        cases e
        exact ⟨_, rfl, h1⟩
      | false =>
        simp only [hk] at e
        exact RDf.look h2 e
variable {a : Addr} {oe : Obj} {cls : Value} {d : Option Addr} {pn : List (Addr × Obj)} {g' : G} {p : Pos}
/-- the error classes c: the attribute f can be read -/
def XfT (K : PySem.W.Frag) (f : Str) (cs : List Str) : Prop := ∀ c ∈ cs, ∀ C, ClsAt K c C → XfC K C ∧ PySem.W.findIn K (.ref C) f = some none
def xfD' (i : Nat) (f : Str) (cs : List Str) : En → Rs D := fun r => match r[i]? with
  | some (some (.exc x)) => if x.c ∈ cs then ofO (x.fs.lookup f) r else .bad
  | _ => .bad
theorem exc_slot {K : PySem.W.Frag} {F H : Hp} {s : St} {r : En} {x : Exn} (R : Rel K g' F H s r) (hx : g'.xc = some (a, cls, d)) (e : r[i]? = some (some (.exc x))) : s[i]? = some (some (.ref a)) ∧ RX K F cls d x := by
  obtain ⟨v, h1, a', cls', d', rfl, h2, h3⟩ := R.slot i _ e
  rw [hx] at h2
  cases h2
  exact ⟨h1, h3⟩
/-- what a class says so that isinstance asks its instances rightly: ExcC; the answers -/
def IsT (K : PySem.W.Frag) (cv : Value) (t : Str → Option Bool) : Prop := ∀ c b, t c = some b → ∀ C, ClsAt K c C → ExcC K C ∧ PySem.W.kitOne K (.ref C) cv = some b
end
end DL

/-! Data layer, part 44: instances: __init__, C(e, ..), self.f = e, o.f. -/
namespace DL
open PySem L2
theorem ClsAt.inj {K : PySem.W.Frag} {c : Str} {C C' : Addr} (h : ClsAt K c C) (h' : ClsAt K c C') : C = C' := by
  unfold ClsAt at h h'
  rw [h] at h'
  cases h'
  rfl
/-- the attribute f of instances of c is read and stored plainly -/
def FldOk (K : PySem.W.Frag) (c f : Str) : Prop := ∀ C, ClsAt K c C → Cls K C ∧ NoAttr K C f
theorem FldOk.of {K : PySem.W.Frag} {c f : Str} {C : Addr} (h : ClsAt K c C) (h1 : Cls K C) (h2 : NoAttr K C f) : FldOk K c f := fun C' h' => by
  cases h.inj h'
  exact ⟨h1, h2⟩
/-! ### __init__ -/
inductive FI where
  | ok (fs : List (Str × D))
  | ex (x : Exn)
  | bad
def QI (K : PySem.W.Frag) (c : Str) (F H : Hp) (a : Addr) (Q : VK) (E : XK) : FI → Prop
  | .ok fs => ∀ F' H' C dx vs, Same F F' → Same F' H' → Fresh F F' H → (∀ b o, H b = some o → b ≠ a → H' b = some o) → F' a = none → H' a = some (.ins C dx vs) → ClsAt K c C → RDf K F' vs fs → Q .non H'
  | .ex x => ∀ F' H' cls d, Same F F' → Same F' H' → Fresh F F' H → (∀ b o, H b = some o → b ≠ a → H' b = some o) → RX K F' cls d x → E cls d H'
  | .bad => False
def spI (K : PySem.W.Frag) (c : Str) (n : Nat) (f : List D → FI) : Sp := fun vs H Q E => ∃ F a C dx ws ds, vs = .ref a :: ws ∧ Same F H ∧ F a = none ∧ H a = some (.ins C dx []) ∧ ClsAt K c C ∧ RDs K F ws ds ∧ ds.length = n ∧ QI K c F H a Q E (f ds)
section
variable {K : PySem.W.Frag} {F H : Hp} {w : World} {W : Option WX}
end
section
variable {P : Program} {w : World} {K : PySem.W.Frag} {mg : Str → Option Value} {base : Heap}
end
/-! ### self.f = e, o.f -/
def putFd (f : Str) (d : D) : List (Str × D) → List (Str × D)
  | [] => [(f, d)]
  | (g, x) :: r => if g = f then (g, d) :: r else (g, x) :: putFd f d r
theorem RDf.put {K : PySem.W.Frag} {F : Hp} {f : Str} {v : V} {d : D} (hv : RD K F v d) : ∀ {vs : List (Str × V)} {ds : List (Str × D)}, RDf K F vs ds → RDf K F (L2.putF f v vs) (putFd f d ds)
  | _, [], h => by cases h; exact .cons hv .nil
  | _, (k, d') :: ds, h => by
    cases h with
    | cons h1 h2 =>
      unfold L2.putF putFd
      split
      · exact .cons hv h2
      · exact .cons h1 (RDf.put hv h2)
theorem RDf.length {K : PySem.W.Frag} {F : Hp} : ∀ {vs : List (Str × V)} {ds : List (Str × D)}, RDf K F vs ds → vs.length = ds.length
  | _, [], h => by cases h; rfl
  | _, (k, d') :: ds, h => by
    cases h with
    | cons h1 h2 => rw [List.length_cons, List.length_cons, RDf.length h2]
def fldS (i : Nat) (c f : Str) (fe : En → Rs D) : En → SRs := fun r => thenS (fe r) fun d r1 => match r1[i]? with
  | some (some (OV.oi c' fs)) => if c' = c ∧ fs.length < 900 then .nx (r1.set i (some (.oi c (putFd f d fs)))) else .bad
  | _ => .bad
def semFld (c f : Str) : D → Option D
  | .obj c' fs => if c' = c then fs.lookup f else none
  | _ => none
section
variable {X : Cx} {g : G} {e : Expr} {p pos pos' : Pos} {c f n : Str} {i : Nat}
/-- the attribute of an instance that a slot owns -/
def fldO (i : Nat) (c f : Str) : En → Rs D := fun r => match r[i]? with
  | some (some (OV.oi c' fs)) => if c' = c then ofO (fs.lookup f) r else .bad
  | _ => .bad
end
end DL

/-! Data layer, part 45: C(e, ..), o.m(e, ..), properties. -/
namespace DL
open PySem L2
section
variable {K : PySem.W.Frag} {g : G} {F1 H1 F' H' : Hp} {s : St} {r1 : En} {a : Addr}
end
/-! ### C(e, ..) -/
structure HasI (P : Program) (w : World) (K : PySem.W.Frag) (mg : Str → Option Value) (base : Heap) (k : Nat) (c : Str) (n : Nat) (f : List D → FI) : Prop where
  ex : ∃ C fa fd ps, FnG P w K mg base (L2.CX P w) k fa fd ps (spI K c n f) ∧ mg c = some (.ref C) ∧ ClsAt K c C ∧ Mk K C fa ∧ Binds K fd ps []
def fiR (c : Str) (z : FI) (r : En) : Rs OV := match z with
  | .ok fs => .ok (.sh (.obj c fs)) r
  | .ex x => .ex x r
  | .bad => .bad
def makeD (c : Str) (n : Nat) (f : List D → FI) (fs : List (En → Rs D)) : En → Rs OV := fun r => (evs fs r).bind fun ds r1 => if ds.length = n then fiR c (f ds) r1 else .bad
section
variable {X : Cx} {CX : CXT} {k : Nat} {f C : Addr} {fd : FuncData} {ps : List Str} {sp : Sp} {E : St → XK} {x m : Str} {p pos apos : Pos} {e o : Expr} {es : List Expr} {t : TA} {ta : TE}
end
section
variable {X : Cx} {g : G} {k n : Nat} {c m : Str} {p pos apos : Pos} {e o : Expr} {es : List Expr}
/-! ### o.m(e, ..) -/
/-- a method that raises nothing; one that may raise: the object is its first argument -/
structure HasMP (P : Program) (w : World) (K : PySem.W.Frag) (mg : Str → Option Value) (base : Heap) (k : Nat) (c m : Str) (n : Nat) (f : List D → Option OV) : Prop where
  ex : ∃ C fa fd ps, FnG P w K mg base CX0 k fa fd ps (spP K n f) ∧ ClsAt K c C ∧ Cls K C ∧ Meth K C m fa ∧ Binds K fd ps []
structure HasMX (P : Program) (w : World) (K : PySem.W.Frag) (mg : Str → Option Value) (base : Heap) (k : Nat) (c m : Str) (n : Nat) (f : List D → FR) : Prop where
  ex : ∃ C fa fd ps, FnG P w K mg base (L2.CX P w) k fa fd ps (spX K n f) ∧ ClsAt K c C ∧ Cls K C ∧ Meth K C m fa ∧ Binds K fd ps []
def toFR (o : Option OV) : FR := match o with
  | some o => .ok o
  | none => .bad
/-- an instance of c without an attribute m of its own -/
def objOk (c m : Str) : D → Bool
  | .obj c' fl => decide (c' = c) && decide (fl.lookup m = none)
  | _ => false
def methX (c m : Str) (n : Nat) (f : List D → FR) (fo : En → Rs D) (fs : List (En → Rs D)) : En → Rs OV := fun r => (fo r).bind fun x r1 => if objOk c m x = true then (evs fs r1).bind fun ds r2 => if ds.length + 1 = n then frR (f (x :: ds)) r2 else .bad else .bad
/-! ### o.f, a property whose getter returns an attribute -/
/-- c's property f returns the attribute a -/
structure HasG (P : Program) (w : World) (K : PySem.W.Frag) (mg : Str → Option Value) (base : Heap) (c f a : Str) : Prop where
  ex : ∃ C p ga fd, ClsAt K c C ∧ Cls K C ∧ PropOf K C f p ga ∧ FnOk P w K mg base CX0 1 ga fd ["self"] (getSp C a) ∧ Binds K fd ["self"] []
end
end DL

/-! Data layer, part 46: what the written part says of classes, put together. -/
namespace DL
open PySem L2
theorem nbT {g g' : G} {bs : List Nat} (e : Tri g g') (h : g.B.map (·.1) = bs) : g'.B.map (·.1) = bs := by rw [e.B]; exact h
theorem nbS {g g' : G} {bs : List Nat} {a : Addr} {cls : Value} {d : Option Addr} (e : Sui g g' a cls d) (h : g.B.map (·.1) = bs) : g'.B.map (·.1) = bs := by rw [e.B]; exact h
/-- c's __init__ is the def st -/
structure InitAt (K : PySem.W.Frag) (mg : Str → Option Value) (c qual : Str) (st : Stmt) : Prop where
  ex : ∃ C f fd, mg c = some (.ref C) ∧ ClsAt K c C ∧ Mk K C f ∧ Fun K "__init__" qual st f fd
/-- c's method m is the def st -/
structure MethAt (K : PySem.W.Frag) (c m qual : Str) (st : Stmt) : Prop where
  ex : ∃ C f fd, ClsAt K c C ∧ Cls K C ∧ Meth K C m f ∧ Fun K m qual st f fd
/-- answers of a table by names -/
def tabB (t : List (Str × Bool)) : Str → Option Bool := fun m => t.lookup m
theorem lookup_mem {α : Type} : ∀ {t : List (Str × α)} {m : Str} {b : α}, t.lookup m = some b → (m, b) ∈ t
  | (k, x) :: t, m, b, h => by
    rw [List.lookup_cons] at h
    cases hk : m == k with
    | true =>
      simp only [hk] at h
      cases h
      rw [beq_iff_eq.mp hk]
      exact List.mem_cons_self
    | false =>
      simp only [hk] at h
      exact List.mem_cons_of_mem _ (lookup_mem h)
theorem ct_of {K : PySem.W.Frag} {cv : Value} {t : List (Str × Bool)} (h : ∀ p ∈ t, ∃ C, ClsAt K p.1 C ∧ PySem.W.exmOne K (.ref C) cv = some p.2) : ∀ m b C, tabB t m = some b → ClsAt K m C → PySem.W.exmOne K (.ref C) cv = some b := fun m b C e hc => by
  obtain ⟨C', h1, h2⟩ := h (m, b) (lookup_mem e)
  cases hc.inj h1
  exact h2
theorem isT_of {K : PySem.W.Frag} {cv : Value} {t : List (Str × Bool)} (h : ∀ p ∈ t, ∃ C, ClsAt K p.1 C ∧ ExcC K C ∧ PySem.W.kitOne K (.ref C) cv = some p.2) : IsT K cv (tabB t) := fun m b e C hc => by
  obtain ⟨C', h1, h2⟩ := h (m, b) (lookup_mem e)
  cases hc.inj h1
  exact h2
theorem xfT_of {K : PySem.W.Frag} {f : Str} {cs : List Str} (h : ∀ c ∈ cs, ∃ C, ClsAt K c C ∧ XfC K C ∧ PySem.W.findIn K (.ref C) f = some none) : XfT K f cs := fun c hc C hC => by
  obtain ⟨C', h1, h2⟩ := h c hc
  cases hC.inj h1
  exact h2
theorem kit_ref {K : PySem.W.Frag} {C T : Addr} {b : Bool} (h1 : PySem.W.hasDictIn K T = true) (h2 : PySem.W.typeIn K (.ref T) = some (.type "type")) (h3 : PySem.W.subIn K (.ref T) (.ref T) = some true) (h4 : PySem.W.subIn K (.ref C) (.ref T) = some b) : PySem.W.kitOne K (.ref C) (.ref T) = some b := by
  unfold PySem.W.kitOne
  split
  · next e =>
    have e := beq_iff_eq.mp e
    cases e
    rw [h3] at h4
    exact h4
  · obtain ⟨cd, hc, _⟩ := PySem.W.any_some h1
    have e2 : ((PySem.W.clsIn K T).isSome && PySem.W.typeIn K (.ref T) == some (.type "type")) = true := by rw [hc, h2]; rfl
    show (if ((PySem.W.clsIn K T).isSome && PySem.W.typeIn K (.ref T) == some (.type "type")) = true then PySem.W.subIn K (.ref C) (.ref T) else none) = some b
    rw [if_pos e2]
    exact h4
end DL

/-! Data layer, part 47: d.values() walked. -/
namespace DL
open PySem L2
theorem RDk.get {K : PySem.W.Frag} {F : Hp} : ∀ {ds : List (Key × D)} {vs : List (Key × V)} {i : Nat} {k : Key} {d : D}, RDk K F vs ds → ds[i]? = some (k, d) → ∃ v, vs[i]? = some (k, v) ∧ RD K F v d
  | [], _, _, _, _, h, e => by simp at e
  | (j, d') :: ds, _, 0, k, d, h, e => by
    cases h with
    | cons h1 h2 =>
      simp only [List.getElem?_cons_zero, Option.some.injEq, Prod.mk.injEq] at e
      obtain ⟨rfl, rfl⟩ := e
      exact ⟨_, rfl, h1⟩
  | (j, d') :: ds, _, i + 1, k, d, h, e => by
    cases h with
    | cons h1 h2 =>
      rw [List.getElem?_cons_succ] at e
      obtain ⟨v, e1, e2⟩ := RDk.get h2 e
      exact ⟨v, by rw [List.getElem?_cons_succ]; exact e1, e2⟩
def D.vals : D → Option (List D)
  | .dic kds => some (kds.map (·.2))
  | _ => none
def vaD (f : En → Rs D) : En → Rs (List D) := fun r => (f r).bind fun d r1 => ofO d.vals r1
section
variable {X : Cx} {g : G} {e tg : Expr} {apos cpos : Pos}
end
end DL

/-! Data layer, part 48: displays with stars anywhere: [*a, x, *b], (*a, x). -/
namespace DL
open PySem L2
def nlZ : En → Rs (List D) := fun r => .ok [] r
def cnZ (f : En → Rs D) (h : En → Rs (List D)) : En → Rs (List D) := fun r => (f r).bind fun d r1 => (h r1).bind fun ds r2 => .ok (d :: ds) r2
def D.sq : D → Option (List D)
  | .lst xs => some xs
  | .tup xs => some xs
  | _ => none
def stZ (f : En → Rs D) (h : En → Rs (List D)) : En → Rs (List D) := fun r => (f r).bind fun d r1 => (ofO d.sq r1).bind fun xs r1 => (h r1).bind fun ds r2 => .ok (xs ++ ds) r2
def lstZ (f : En → Rs (List D)) : En → Rs OV := fun r => (f r).bind fun ds r1 => if ds.length ≤ 1000 then .ok (.ow ds) r1 else .bad
def tupZ (f : En → Rs (List D)) : En → Rs D := fun r => (f r).bind fun ds r1 => if ds.length ≤ 1000 then .ok (.tup ds) r1 else .bad
section
variable {X : Cx} {g : G} {e : Expr} {es : List Expr} {f : En → Rs D} {h : En → Rs (List D)} {p pos : Pos}
end
end DL

/-! Data layer, part 49: list(d.items()), d frozen. -/
namespace DL
open PySem PySem.Spec PyProof.Rows L2
section
variable {X : Cx} {g : G} {e : Expr} {te : TE} {p apos cpos pos : Pos}
def keyD : Key → D
  | .inl i => .int i
  | .inr x => .str x
def D.itms : D → Option (List D)
  | .dic kds => some (kds.map fun z => .tup [keyD z.1, z.2])
  | _ => none
theorem Rel.up {K : PySem.W.Frag} {F H H' : Hp} {s : L2.St} {r : En} (R : Rel K g F H s r) (e : Same H H') : Rel K g F H' s r :=
  ⟨R.sub.trans e, R.f0, R.fnew, fun b u x hb ht => e _ _ (R.keep b u x hb ht), fun i u x => let ⟨v, h1, h2⟩ := R.slot i u x; ⟨v, h1, RO.mono (Same.refl _) (fun a vs _ e1 e2 => ⟨e1, e _ _ e2⟩) h2⟩, R.own, R.dist, R.pin, R.len, R.tb.up e, fun q hq => ⟨e _ _ (R.ext q hq).1, (R.ext q hq).2⟩⟩
def itsO (f : En → Rs D) : En → Rs OV := fun r => (f r).bind fun d r1 => (ofO d.itms r1).bind fun ds r1 => .ok (.ow ds) r1
end
end DL

/-! Data layer, part 50: {**d, k: e}. -/
namespace DL
open PySem PySem.Spec PyProof
section
variable {prog : Program} {w : World} {K : Type} [DecidableEq K] {knd : KeyKind prog w K} {A : Around} {E : Value → Shared → Prop} {s : Shared}
end
end DL

/-! Data layer, part 51: {**d, k: e}, the rule. -/
namespace DL
open PySem PySem.Spec PyProof
section
variable {prog : Program} {w : World} {K : Type} [DecidableEq K] {knd : KeyKind prog w K} {A : Around} {E : Value → Shared → Prop} {s : Shared}
end
end DL

/-! Data layer, part 52: {**d, k: e}, as a judgement. -/
namespace DL
open PySem PySem.Spec PyProof L2
section
variable {X : Cx} {e k x : Expr} {te : TE} {trs : List (TE × TE)} {pos : Pos}
theorem there {P : Program} {w : World} {h : Heap} {a : Addr} {vs : List (Key × Value)} (d : h.DictOf (mixKind P w) a vs) : ∃ q, h.get? a = some q := let ⟨q, _, _, hq, _⟩ := d; ⟨q, hq⟩
end
end DL

/-! Data layer, part 53: {**d, k: e}, by data. -/
namespace DL
open PySem L2
def dstD (f : En → Rs D) (fs : List ((En → Rs D) × (En → Rs D))) : En → Rs D := fun r => (f r).noE.bind fun d r1 =>
  match d with
  | .dic kds => if kds.length ≤ 1000 then (evPs fs r1).noE.bind fun rs r2 => if rs.length ≤ 15 then .ok (.dic (mergeD (mergeD [] kds) (mergeD [] rs))) r2 else .bad else .bad
  | _ => .bad
section
variable {X : Cx} {g : G} {pos : Pos} {e k x : Expr} {f : En → Rs D} {fs : List ((En → Rs D) × (En → Rs D))}
end
end DL

/-! Data layer, part 54: len(o) by o's own __len__. -/
namespace DL
open PySem L2 PySem.Calls Builtin
section
variable {prog : Program} {w : World} {A : Around} {E : Value → Shared → Prop} {s : Shared} {K : PySem.W.Frag} {x C f : Addr} {ox : Obj} {od : Option Obj} {Q : Value → Shared → Prop}
end
section
variable {X : Cx} {k : Nat} {f C : Addr} {fd : FuncData} {ps : List Str} {sp : Sp}
end
/-- len of an instance of c, f its __len__ -/
def lenF (c : Str) (f : List D → Option OV) : D → Option D
  | .obj c' fl => if c' = c then (match f [.obj c' fl] with
    | some (.sh (.int n)) => if 0 ≤ n ∧ n < 1000000000 then some (.int n) else none
    | _ => none) else none
  | _ => none
def lenM (c : Str) (f : List D → Option OV) (fo : En → Rs D) : En → Rs D := fun r => (fo r).bind fun x r1 => ofO (lenF c f x) r1
section
variable {X : Cx} {g : G} {k : Nat} {c : Str} {p pos : Pos} {e : Expr}
end
end DL

/-! Data layer, part 55: == of alike data, dicts among them. -/
namespace PySem.SeqAt
open AutoSeq1 (wpAny_loadPart')
open MeetsSeq MeetsSeq2 MeetsSeq3 SeqRoads2
section
variable {prog : Program} {w : World}
theorem dl_tupEq (p q : Addr) (vs us : Array Value) (i j : Nat) (o o' : Option Addr) (z z' : Array (Option Value)) (hn : vs.size = us.size) :
    MeetsIn prog w (Builtin.«tuple.__eq__» ⟨[.ref p, .ref q], []⟩)
      (fun A R s => s.heap.get? p = some { cls := .type "tuple", dict := o, data := .seq vs i, slots := z } ∧ s.heap.get? q = some { cls := .type "tuple", dict := o', data := .seq us j, slots := z' } ∧
        (∀ k (g : k < vs.size) (g' : k < us.size), EqP prog w A.in1 s vs[k] us[k] true) ∧ R (.ok (.ret (.bool true))) s) := by
  intro A R s h
  obtain ⟨hp, g, d, tk, os⟩ := s
  obtain ⟨h1, h2, h3, h4⟩ := h
  have f2 := AutoSeq1.sub_tuple_tuple
  have zl : (vs.toList.zip us.toList).length = vs.size := by simp [hn]
  wp_walk using wpAny_loadPart' h1, wpAny_loadPart' h2, wpAny_forIn_list _ (fun l b s' => b.1 = none ∧ s' = ⟨hp, g, d, tk, os⟩ ∧ ∃ k, l = (vs.toList.zip us.toList).drop k ∧ R (.ok (.ret (.bool true))) ⟨hp, g, d, tk, os⟩) _
  case turn =>
    rintro ⟨y, x⟩ l b s' ⟨hb, rfl, k, hk, hR⟩
    have lt : k < (vs.toList.zip us.toList).length := Nat.lt_of_not_le fun c => by
      rw [List.drop_of_length_le c] at hk
      cases hk
    have l1 : k < vs.size := zl ▸ lt
    have l2 : k < us.size := hn ▸ l1
    rw [List.drop_eq_getElem_cons lt] at hk
    injection hk with e1 e2
    have ey : y = vs[k] := by simpa using congrArg Prod.fst e1
    have ex : x = us[k] := by simpa using congrArg Prod.snd e1
    subst ey ex
    refine wpAny_bind (h3 k l1 l2 _ _ ?_)
    wp_walk
    exact ⟨rfl, rfl, k + 1, e2, hR⟩
  case fin =>
    rintro ⟨b1, b2⟩ s' ⟨hb, rfl, k, hk, hR⟩
    simp only at hb
    subst hb
    wp_walk
    simpa [Builtin.Tuple.tupleCompareSizes, hn] using hR
  case h => exact ⟨rfl, rfl, 0, rfl, h4⟩
theorem dl_rcTup {A : Around} {s : Shared} {p q : Addr} {vs us : Array Value} (h1 : s.heap.IsTuple p vs) (h2 : s.heap.IsTuple q us) (hn : vs.size = us.size) (hu : A.units < cLine)
    (he : ∀ k (g : k < vs.size) (g' : k < us.size), EqP prog w A.in1 s vs[k] us[k] true) (E Q : Value → Shared → Prop) (h : Q (.bool true) s) : wpAny (model prog w) A (richCompare .Eq (.ref p) (.ref q)) Q E s := by
  obtain ⟨⟨c, o, d, z⟩, a1, a2, i, a3⟩ := id h1
  obtain ⟨⟨c', o', d', z'⟩, b1, b2, j, b3⟩ := id h2
  simp only at a2 a3 b2 b3
  subst a2 a3 b2 b3
  have ta : s.TypeIs (.ref p) "tuple" := ⟨_, a1, rfl⟩
  have tb : s.TypeIs (.ref q) "tuple" := ⟨_, b1, rfl⟩
  exact wpAny_richCompare_same_room (op := .Eq) ta tb F.slot_tuple_eq (call_meetsIn F.slot_tuple_eq ta F.entry_tuple_eq (F.args_tuple_eq_2 _ _) (dl_tupEq p q vs us i j o o' z z' hn)
    ⟨a1, b1, he, show Value.bool true ≠ Value.notImplemented ∧ Q (.bool true) s from ⟨(fun x => nomatch x), h⟩⟩) hu
end
end PySem.SeqAt
namespace DL
open PySem L2
mutual
def D.same : D → D → Bool
  | .non, .non => true
  | .bl a, .bl b => a == b
  | .int a, .int b => decide (a = b)
  | .str a, .str b => decide (a = b)
  | .lst xs, .lst ys => sames xs ys
  | .tup xs, .tup ys => sames xs ys
  | .dic xs, .dic ys => decide (xs.map (·.1)).Nodup && samek xs ys
  | _, _ => false
def sames : List D → List D → Bool
  | [], [] => true
  | x :: xs, y :: ys => x.same y && sames xs ys
  | _, _ => false
def samek : List (Key × D) → List (Key × D) → Bool
  | [], [] => true
  | (k, x) :: xs, (j, y) :: ys => decide (k = j) && (x.same y && samek xs ys)
  | _, _ => false
end
section
variable {X : Cx} {pins : List (Addr × Obj)} {s : Shared} {H : Hp} {sg : L2.St}
/-- read alike, they are equal -/
def EqU (X : Cx) (s : Shared) (n : Nat) (v u : Value) : Prop := ∀ A : Around, A.units + n < cLine → SeqAt.EqP X.prog X.w A s v u true
theorem EqU.refs {n : Nat} {a b : Addr} (h : ∀ A : Around, A.units + n + 1 < cLine → ∀ (E Q : Value → Shared → Prop), Q (.bool true) s → wpAny (model X.prog X.w) A (richCompare .Eq (.ref a) (.ref b)) Q E s) : EqU X s (n + 1) (.ref a) (.ref b) := fun A hu => by
  by_cases e : a = b
  · subst e
    exact (SeqAt.EqAt.same _).eqP
  · exact SeqAt.eqP_refs e (h A (by omega))
theorem rdk_val {K : PySem.W.Frag} {F : Hp} : ∀ {ds es : List (Key × D)} {ks ls : List (Key × V)}, samek ds es = true → RDk K F ks ds → RDk K F ls es → (ds.map (·.1)).Nodup → ∀ p ∈ ks, ∃ u, valV ls p.1 = some u ∧ ∃ d e, (p.1, d) ∈ ds ∧ d.same e = true ∧ RD K F p.2 d ∧ RD K F u e
  | [], _, _, _, _, h1, _, _ => by
    cases h1
    exact fun p hp => by cases hp
  | (k, d) :: ds, [], _, _, hs, _, _, _ => by cases hs
  | (k, d) :: ds, (j, e) :: es, _, _, hs, h1, h2, hn => by
    have hs : (decide (k = j) && (d.same e && samek ds es)) = true := hs
    simp only [Bool.and_eq_true, decide_eq_true_eq] at hs
    obtain ⟨hk, s1, s2⟩ := hs
    subst hk
    cases h1 with
    | @cons _ v vs _ _ a1 a2 =>
      cases h2 with
      | @cons _ u us _ _ b1 b2 =>
        intro p hp
        rcases List.mem_cons.mp hp with rfl | hp
        · exact ⟨u, by simp [valV], d, e, List.mem_cons_self, s1, a1, b1⟩
        · rw [List.map_cons, List.nodup_cons] at hn
          obtain ⟨u', c1, d', e', c2, c3, c4, c5⟩ := rdk_val s2 a2 b2 hn.2 p hp
          have : ¬ k = p.1 := fun z => hn.1 (by rw [z]; exact List.mem_map.mpr ⟨_, c2, rfl⟩)
          refine ⟨u', ?_, d', e', List.mem_cons_of_mem _ c2, c3, c4, c5⟩
          have c1' : valV us p.1 = some u' := c1
          unfold valV at c1' ⊢
          rw [List.find?_cons]
          simp only [this, decide_false]
          exact c1'
theorem samek_len : ∀ {ds es : List (Key × D)}, samek ds es = true → ds.length = es.length
  | [], [], _ => rfl
  | [], _ :: _, h => by cases h
  | _ :: _, [], h => by cases h
  | (k, d) :: ds, (j, e) :: es, h => by
    have h : (decide (k = j) && (d.same e && samek ds es)) = true := h
    simp only [Bool.and_eq_true] at h
    rw [List.length_cons, List.length_cons, samek_len h.2.2]
theorem sames_len : ∀ {ds es : List D}, sames ds es = true → ds.length = es.length
  | [], [], _ => rfl
  | [], _ :: _, h => by cases h
  | _ :: _, [], h => by cases h
  | d :: ds, e :: es, h => by
    have h : (d.same e && sames ds es) = true := h
    simp only [Bool.and_eq_true] at h
    rw [List.length_cons, List.length_cons, sames_len h.2]
theorem RDk.len {K : PySem.W.Frag} {F : Hp} : ∀ {ks : List (Key × V)} {ds : List (Key × D)}, RDk K F ks ds → ks.length = ds.length
  | _, [], h => by cases h; rfl
  | _, (k, d) :: ds, h => by
    cases h with
    | cons h1 h2 => rw [List.length_cons, List.length_cons, RDk.len h2]
theorem units_in1 (A : Around) (n : Nat) : A.in1.units + n = A.units + n + 1 := by
  show A.units + 1 + n = _
  omega
theorem dq_mem : ∀ {ds : List D} {d : D}, d ∈ ds → d.dq ≤ dqAll ds
  | d' :: ds, d, h => by
    show d.dq ≤ max d'.dq (dqAll ds)
    rcases List.mem_cons.mp h with rfl | h
    · omega
    · have := dq_mem h
      omega
theorem dq_memK : ∀ {ds : List (Key × D)} {k : Key} {d : D}, (k, d) ∈ ds → d.dq ≤ dqK ds
  | (j, d') :: ds, k, d, h => by
    show d.dq ≤ max d'.dq (dqK ds)
    rcases List.mem_cons.mp h with h | h
    · cases h
      omega
    · have := dq_memK h
      omega
theorem sames_at : ∀ {ds es : List D}, sames ds es = true → ∀ k (g : k < ds.length) (g' : k < es.length), ds[k].same es[k] = true
  | d :: ds, e :: es, h, k, g, g' => by
    have h : (d.same e && sames ds es) = true := h
    obtain ⟨s1, s2⟩ := Bool.and_eq_true_iff.mp h
    cases k with
    | zero => exact s1
    | succ k => exact sames_at s2 k (by simpa using g) (by simpa using g')
/-- what is asked of data of that depth -/
def SameU (X : Cx) (s : Shared) (H : Hp) (n : Nat) : Prop := ∀ (d e : D) (x y : V) (v u : Value), d.same e = true → d.dq ≤ n → RD X.K H x d → RD X.K H y e → RelV x v → RelV y u → EqU X s (n + 1) v u
theorem items_same (I : L2.Inv X pins sg H s) {n : Nat} (ih : SameU X s H n) {ds es : List D} {xs ys : List V} {vs us : List Value} (hs : sames ds es = true) (hd : dqAll ds ≤ n) (h1 : RDs X.K H xs ds) (h2 : RDs X.K H ys es) (r1 : Vals xs vs) (r2 : Vals ys us) (k : Nat) (g : k < vs.length) (g' : k < us.length) : EqU X s (n + 1) vs[k] us[k] := by
  have l1 := r1.length
  have l2 := r2.length
  have l3 := h1.length
  have l4 := h2.length
  obtain ⟨x, e1, a1⟩ := h1.get (List.getElem?_eq_getElem (l := ds) (i := k) (by omega))
  obtain ⟨y, e2, a2⟩ := h2.get (List.getElem?_eq_getElem (l := es) (i := k) (by omega))
  obtain ⟨v, e3, a3⟩ := r1.get e1
  obtain ⟨u, e4, a4⟩ := r2.get e2
  rw [List.getElem?_eq_getElem g] at e3
  rw [List.getElem?_eq_getElem g'] at e4
  cases e3
  cases e4
  exact ih _ _ _ _ _ _ (sames_at hs k (by omega) (by omega)) (Nat.le_trans (dq_mem (List.getElem_mem _)) hd) a1 a2 a3 a4
theorem same_flat {n : Nat} {d e : D} {x y : V} {v u : Value} (hs : d.same e = true) (h1 : RD X.K H x d) (h2 : RD X.K H y e) (r1 : RelV x v) (r2 : RelV y u) (hd : match d with | .lst _ => False | .tup _ => False | .dic _ => False | _ => True) : EqU X s n v u := fun A _ => by
  cases d with
  | non => cases e <;> first | cases hs; done | skip
           cases h1; cases h2
           exact (eqAt_same r1 r2 rfl).eqP
  | bl a =>
    cases e <;> first | cases hs; done | skip
    have : _ = _ := beq_iff_eq.mp hs
    subst this
    cases h1; cases h2
    exact (eqAt_same r1 r2 rfl).eqP
  | int a =>
    cases e <;> first | cases hs; done | skip
    have : _ = _ := of_decide_eq_true hs
    subst this
    cases h1; cases h2
    exact (eqAt_same r1 r2 rfl).eqP
  | str a =>
    cases e <;> first | cases hs; done | skip
    have : _ = _ := of_decide_eq_true hs
    subst this
    cases h1; cases h2
    exact (eqAt_same r1 r2 rfl).eqP
  | lst _ => exact hd.elim
  | tup _ => exact hd.elim
  | dic _ => exact hd.elim
  | scr _ => cases e <;> cases hs
  | obj _ _ => cases e <;> cases hs
theorem same_all (I : L2.Inv X pins sg H s) : ∀ n, SameU X s H n := by
  intro n
  induction n with
  | zero =>
    intro d e x y v u hs hd h1 h2 r1 r2
    refine same_flat hs h1 h2 r1 r2 ?_
    cases d with
    | lst _ => exact absurd (show dqAll _ + 1 ≤ 0 from hd) (by omega)
    | tup _ => exact absurd (show dqAll _ + 1 ≤ 0 from hd) (by omega)
    | dic _ => exact absurd (show dqK _ + 1 ≤ 0 from hd) (by omega)
    | _ => trivial
  | succ n ih =>
    intro d e x y v u hs hd h1 h2 r1 r2
    cases d with
    | lst ds =>
      have hd : dqAll ds + 1 ≤ n + 1 := hd
      cases e with
      | lst es =>
        have hs : sames ds es = true := hs
        cases h1 with
        | lst a1 a2 =>
          cases h2 with
          | lst b1 b2 =>
            have r1 := (show v = _ from r1)
            have r2 := (show u = _ from r2)
            subst r1
            subst r2
            obtain ⟨its, rv, pl, _⟩ := I.list (SqL.of a1)
            obtain ⟨its2, rv2, pl2, _⟩ := I.list (SqL.of b1)
            have l1 := rv.length
            have l2 := rv2.length
            have l3 := a2.length
            have l4 := b2.length
            have l5 := sames_len hs
            refine EqU.refs fun A hu E Q q => ?_
            refine SeqAt.rcP_lists (e := fun _ => true) pl.isList pl2.isList (by simp only [List.size_toArray]; omega) (by omega) (fun k g g' => ?_) E Q ?_
            · have := items_same I ih hs (by omega) a2 b2 rv rv2 k (by simpa using g) (by simpa using g') A.in1 (by rw [units_in1]; omega)
              simpa using this
            · rw [show ((List.range its.toArray.size).all fun _ => true) = true from List.all_eq_true.mpr fun _ _ => rfl]
              exact q
      | _ => cases hs
    | tup ds =>
      have hd : dqAll ds + 1 ≤ n + 1 := hd
      cases e with
      | tup es =>
        have hs : sames ds es = true := hs
        cases h1 with
        | tup a1 a2 =>
          cases h2 with
          | tup b1 b2 =>
            have r1 := (show v = _ from r1)
            have r2 := (show u = _ from r2)
            subst r1
            subst r2
            obtain ⟨its, rv, pl, _⟩ := I.tuple a1
            obtain ⟨its2, rv2, pl2, _⟩ := I.tuple b1
            have l1 := rv.length
            have l2 := rv2.length
            have l3 := a2.length
            have l4 := b2.length
            have l5 := sames_len hs
            refine EqU.refs fun A hu E Q q => ?_
            refine SeqAt.dl_rcTup pl pl2 (by simp only [List.size_toArray]; omega) (by omega) (fun k g g' => ?_) E Q q
            have := items_same I ih hs (by omega) a2 b2 rv rv2 k (by simpa using g) (by simpa using g') A.in1 (by rw [units_in1]; omega)
            simpa using this
      | _ => cases hs
    | dic ds =>
      have hd : dqK ds + 1 ≤ n + 1 := hd
      cases e with
      | dic es =>
        have hs : (decide (ds.map (·.1)).Nodup && samek ds es) = true := hs
        simp only [Bool.and_eq_true, decide_eq_true_eq] at hs
        obtain ⟨hn, hs⟩ := hs
        cases h1 with
        | @dic a _ ks _ a1 a2 =>
          cases h2 with
          | @dic b _ ls _ b1 b2 =>
            have r1 := (show v = _ from r1)
            have r2 := (show u = _ from r2)
            subst r1
            subst r2
            obtain ⟨_, _, ya, va, ra, da⟩ := (show ObjOk X.prog X.w H s.heap a (.frz _ (.dK ks)) from I.hok a _ a1)
            obtain ⟨_, _, yb, vb, rb, db⟩ := (show ObjOk X.prog X.w H s.heap b (.frz _ (.dK ls)) from I.hok b _ b1)
            refine EqU.refs fun A hu E Q q => ?_
            have hv := rdk_val hs a2 b2 hn
            have el : va.length = vb.length := by
              have h1 := ra.length
              have h2 := rb.length
              have h3 := a2.len
              have h4 := b2.len
              have h5 := samek_len hs
              omega
            refine PySem.W.rcP_dicts (knd := mixKind X.prog X.w) (r := true) ya yb da db (by omega) (fun _ => ?_) E Q ?_
            · refine hits_run (F := fun x y => ∀ v u, RelV x v → RelV y u → SeqAt.EqP X.prog X.w A.in1 s v u true) (fun x y v u f rx ry => f v u rx ry) rb ra fun p hp => ?_
              obtain ⟨u, c1, d, e, c2, c3, c4, c5⟩ := hv p hp
              exact ⟨u, c1, fun v' u' rx ry => ih d e _ _ v' u' c3 (Nat.le_trans (dq_memK c2) (by omega)) c4 c5 rx ry A.in1 (by rw [units_in1]; omega)⟩
            · rw [show (va.length == vb.length && true) = true from by rw [el]; simp]
              exact q
      | _ => cases hs
    | non => exact same_flat hs h1 h2 r1 r2 trivial
    | bl _ => exact same_flat hs h1 h2 r1 r2 trivial
    | int _ => exact same_flat hs h1 h2 r1 r2 trivial
    | str _ => exact same_flat hs h1 h2 r1 r2 trivial
    | scr _ => exact same_flat hs h1 h2 r1 r2 trivial
    | obj _ _ => exact same_flat hs h1 h2 r1 r2 trivial
end
/-- what is read alike is equal, dicts too -/
def semEqX (d e : D) : Option D := match semEq d e with
  | some z => some z
  | none => match d, e with
    | .tup ds, .tup es => if sames ds es && decide (dqAll ds ≤ 50) then some (.bl true) else none
    | .lst ds, .lst es => if sames ds es && decide (dqAll ds ≤ 50) then some (.bl true) else none
    | _, _ => none
section
variable {X : Cx} {g : G}
theorem opd_eqX (hu : X.A.units + 64 < cLine) : OpR X (compareOp .Eq) (rD2 X.K g semEqX) := by
  intro pins s sg H x y v u Q I rx ry h
  obtain ⟨F, s0, r, dx, dy, d, R, hx, hy, e, q⟩ := h
  unfold semEqX at e
  split at e
  · next z es =>
    cases e
    exact opd_eq hu pins s sg H x y v u Q I rx ry ⟨F, s0, r, dx, dy, d, R, hx, hy, es, q⟩
  · split at e
    · next ds es _ =>
      split at e
      · next hc =>
        cases e
        obtain ⟨hs, hd⟩ := Bool.and_eq_true_iff.mp hc
        have hd : dqAll ds ≤ 50 := of_decide_eq_true hd
        cases hx.rd R.sub with
        | tup a1 a2 =>
          cases hy.rd R.sub with
          | tup b1 b2 =>
            have r1 := (show v = _ from rx)
            have r2 := (show u = _ from ry)
            subst r1
            subst r2
            obtain ⟨its, rv, pl, _⟩ := I.tuple a1
            obtain ⟨its2, rv2, pl2, _⟩ := I.tuple b1
            have l1 := rv.length
            have l2 := rv2.length
            have l3 := a2.length
            have l4 := b2.length
            have l5 := sames_len hs
            refine SeqAt.dl_rcTup pl pl2 (by simp only [List.size_toArray]; omega) (by omega) (fun k g g' => ?_) _ _ ⟨.bl true, H, I, rfl, q F H _ (Same.refl _) R (.bl _)⟩
            have := items_same I (same_all I 50) hs hd a2 b2 rv rv2 k (by simpa using g) (by simpa using g') X.A.in1 (by rw [units_in1]; omega)
            simpa using this
      · cases e
    · next ds es _ =>
      split at e
      · next hc =>
        cases e
        obtain ⟨hs, hd⟩ := Bool.and_eq_true_iff.mp hc
        have hd : dqAll ds ≤ 50 := of_decide_eq_true hd
        cases hx.rd R.sub with
        | lst a1 a2 =>
          cases hy.rd R.sub with
          | lst b1 b2 =>
            have r1 := (show v = _ from rx)
            have r2 := (show u = _ from ry)
            subst r1
            subst r2
            obtain ⟨its, rv, pl, _⟩ := I.list (SqL.of a1)
            obtain ⟨its2, rv2, pl2, _⟩ := I.list (SqL.of b1)
            have l1 := rv.length
            have l2 := rv2.length
            have l3 := a2.length
            have l4 := b2.length
            have l5 := sames_len hs
            refine SeqAt.rcP_lists (e := fun _ => true) pl.isList pl2.isList (by simp only [List.size_toArray]; omega) (by omega) (fun k g g' => ?_) _ _ ?_
            · have := items_same I (same_all I 50) hs hd a2 b2 rv rv2 k (by simpa using g) (by simpa using g') X.A.in1 (by rw [units_in1]; omega)
              simpa using this
            · rw [show ((List.range its.toArray.size).all fun _ => true) = true from List.all_eq_true.mpr fun _ _ => rfl]
              exact ⟨.bl true, H, I, rfl, q F H _ (Same.refl _) R (.bl _)⟩
      · cases e
    · cases e
end
end DL

/-! Data layer, part 56: set(e) of a list or a tuple of tuples;  -/
namespace DL
open PySem L2 PyProof.Rows PySem.Froz
theorem takeS {α : Type} {l : List α} {i : Nat} {x : α} (e : l[i]? = some x) : l.take (i + 1) = l.take i ++ [x] := by
  rw [List.take_succ, e]
  rfl
theorem GotN.add {ks L L' : List KA} {i : Nat} {x : KA} (g : GotN ks i L) (e : ks[i]? = some x) (c1 : x.2 ∈ L.map (·.2) → L' = L) (c2 : x.2 ∉ L.map (·.2) → L'.Perm (x :: L)) : GotN ks (i + 1) L' := by
  have eT := takeS e
  rcases Classical.em (x.2 ∈ L.map (·.2)) with c | c
  · rw [c1 c]
    refine ⟨fun p hp => ?_, fun p hp => ?_, Nat.le_succ_of_le g.len⟩
    · rw [eT]; exact List.mem_append_left _ (g.sub p hp)
    · rw [eT] at hp
      rcases List.mem_append.mp hp with z | z
      · exact g.all p z
      · rw [List.mem_singleton.mp z]; exact c
  · have pm := c2 c
    refine ⟨fun p hp => ?_, fun p hp => ?_, by rw [pm.length_eq]; exact Nat.succ_le_succ g.len⟩
    · rw [eT]
      rcases List.mem_cons.mp (pm.mem_iff.mp hp) with z | z
      · rw [z]; exact List.mem_append_right _ (List.mem_singleton.mpr rfl)
      · exact List.mem_append_left _ (g.sub p z)
    · rw [(pm.map (·.2)).mem_iff, List.map_cons]
      rw [eT] at hp
      rcases List.mem_append.mp hp with z | z
      · exact List.mem_cons_of_mem _ (g.all p z)
      · rw [List.mem_singleton.mp z]; exact List.mem_cons_self
section
variable {P : Program} {w : World} {A : Around} {E : Value → Shared → Prop} {s : Shared}
theorem SetN.up {h h' : Heap} {a : Addr} {L : List KA} {es : Array (Int × Value)} {ep : Nat} {t : SetTable} (R : SetN w h a L es ep t) (ka : ∀ o, h.get? a = some o → h'.get? a = some o) (kt : ∀ p ∈ L, IsN h' p.2 p.1) : SetN w h' a L es ep t := by
  obtain ⟨o, oa, r⟩ := R.ob
  exact ⟨⟨o, ka o oa, r⟩, R.rows, R.tab, R.nd, kt, R.led, R.room, R.few⟩
end
end DL

/-! Data layer, part 57: set(e), sorted(set(e)) and len(set(e)) of texts or tuples, by data. -/
namespace DL
open PySem L2 PyProof.Rows PySem.Froz
/-! keys tell data without truths apart -/
/-! of alike data neither of which is less the two are equal -/
/-! each once -/
/-! ### set(e) -/
theorem RDn.keys {K : PySem.W.Frag} {F H : Hp} (sub : Same F H) : ∀ {ds : List D} {ks : List KA}, RDn K F ks ds → ∀ p ∈ ks, KeyAt K H p.2 p.1
  | [], _, h, p, hp => by cases h; cases hp
  | d :: ds, _, h, p, hp => by
    cases h with
    | cons h1 h2 h3 =>
      rcases List.mem_cons.mp hp with rfl | hp
      · exact ⟨d, RD.mono sub d h1, h2.1, h2.2⟩
      · exact RDn.keys sub h3 p hp
theorem RDn.length {K : PySem.W.Frag} {F : Hp} : ∀ {ds : List D} {ks : List KA}, RDn K F ks ds → ks.length = ds.length
  | [], _, h => by cases h; rfl
  | d :: ds, _, h => by
    cases h with
    | cons h1 h2 h3 => rw [List.length_cons, List.length_cons, RDn.length h3]
theorem KeyAt.isN {X : Cx} {pins : List (Addr × Obj)} {s : Shared} {H : Hp} {sg : L2.St} (I : L2.Inv X pins sg H s) {k : NestedKey} {b : Addr} (h : KeyAt X.K H k b) : IsN s.heap k b := by
  obtain ⟨kd, h1, h2, h3⟩ := h
  exact ⟨RD.nested I kd _ _ k h2 h1 rfl, h3⟩
section
variable {X : Cx} {g : G} {e : Expr} {pos : Pos}
/-! ### sorted(set(e)) -/
theorem RDn.zip {K : PySem.W.Frag} {F : Hp} : ∀ {es : List D} {L : List KA}, RDn K F L es → ∃ Z : List (KA × D), Z.map (·.1) = L ∧ Z.map (·.2) = es ∧ ∀ z ∈ Z, RD K F (.ref z.1.1) z.2
  | [], _, h => by cases h; exact ⟨[], rfl, rfl, fun z hz => by cases hz⟩
  | e :: es, _, h => by
    cases h with
    | @cons a k _ L _ h1 h2 h3 =>
      obtain ⟨Z, z1, z2, z3⟩ := RDn.zip h3
      refine ⟨((a, k), e) :: Z, by rw [List.map_cons, z1], by rw [List.map_cons, z2], fun z hz => ?_⟩
      rcases List.mem_cons.mp hz with rfl | hz
      · exact h1
      · exact z3 z hz
end
end DL

/-! Data layer, part 58: x = {.. for ..} of tuples, sorted(x). -/
namespace DL
open PySem L2 PyProof.Rows PySem.Froz
/-! a set's comprehension -/
section
variable {Y : Cx} {elt : Expr} {te : TE} {D : Addr}
end
theorem RDn.snoc {K : PySem.W.Frag} {F : Hp} {a : Addr} {k : NestedKey} {d : D} (h1 : RD K F (.ref a) d) (h2 : d.nk = some k ∧ k.depth ≤ 8) : ∀ {ds : List D} {L : List KA}, RDn K F L ds → RDn K F (L ++ [(a, k)]) (ds ++ [d])
  | [], _, h => by cases h; exact .cons h1 h2 .nil
  | e :: es, _, h => by
    cases h with
    | cons g1 g2 g3 => exact .cons g1 g2 (RDn.snoc h1 h2 g3)
section
variable {X : Cx} {g : G} {elt tg iter : Expr} {ifs : List Expr} {gs : List Comprehension} {scope : Scope} {own : List (PySem.Str × Nat)} {pos : Pos} {c : GDt} {cs : List GDt} {fe : En → Rs D} {x : Str} {px pos2 : Pos}
end
end DL

/-! Data layer, part 59: a name's list lent to an expression whose value holds nothing of it. -/
namespace DL
open PySem L2
def hideO (o : Option OV) : Option OV := match o with
  | some u => if u.own = true then none else some u
  | none => none
/-- e, with the list that slot i owns lent to it -/
def bwR (x : Rs D) (r : En) : Rs D := match x with
  | .ok d _ => if d.flt = true then .ok d r else .bad
  | _ => .bad
def bwD (i : Nat) (f : En → Rs D) : En → Rs D := fun r => match r[i]? with
  | some (some (.ow xs)) => bwR (f ((r.map hideO).set i (some (.sh (.lst xs))))) r
  | _ => .bad
section
variable {X : Cx} {g : G} {e : Expr}
end
end DL

/-! Data layer, part 60: dict(zip(xs, ys)); d.get(k, x). -/
namespace DL
open PySem L2
section
variable {X : Cx} {g : G} {e e2 : Expr} {p p2 q pos : Pos} {ps : List Opd}
/-! ### d.get(k, x) -/
def D.isDic : D → Bool
  | .dic _ => true
  | _ => false
/-- no list -/
def D.nol : D → Bool
  | .lst _ => false
  | _ => true
def semGet : D → D → D → Option D
  | .dic ds, k, x => if x.nol = true then k.key.map fun k => (valD ds k).getD x else none
  | _, _, _ => none
def getD2 (p k x : Opd) : En → Rs D := fun r => (p.run r).bind fun z r1 => (ofO ((look r1 z).bind fun d => if d.isDic = true then some d else none) r1).bind fun _ r1 => (k.run r1).bind fun y r2 => (x.run r2).bind fun u r3 =>
  ofO ((look r3 z).bind fun d => (look r3 y).bind fun e => (look r3 u).bind fun c => semGet d e c) r3
end
end DL

/-! Data layer, part 61: {k: v for x in xs if ..}. -/
namespace DL
open PySem L2
section
variable {X : Cx} {g : G} {tg iter kx elt : Expr} {ifs : List Expr} {scope : Scope} {pos : Pos}
end
end DL

/-! Data layer, part 62: len(set(xs)), xs of tuples. -/
namespace DL
open PySem PySem.Spec PyProof L2
section
variable {X : Cx} {g : G} {e : Expr} {pos : Pos}
end
end DL

/-! Data layer, part 63: dicts with texts or numbers as keys that a name owns: x = {}, x = {k: v for ..}, x[e] = f, x[e], len(x), the dict handed out. -/
namespace DL
open PySem L2
section
variable {X : Cx} {g : G} {x : Str} {p pos px : Pos} {i : Nat} {e ei : Expr}
/-- x = {} -/
def newDk (i : Nat) : En → SRs := fun r => .nx (r.set i (some (.th (.dk []))))
/-- the dict of a slot -/
def OV.dk? : OV → Option (List (Key × D))
  | .th (.dk kvs) => some kvs
  | _ => none
def slDk (r : En) (i : Nat) : Option (List (Key × D)) := (r[i]?).bind fun o => o.bind OV.dk?
/-- x[e] = f -/
def putDk (i : Nat) (fi f : En → Rs D) : En → SRs := fun r => thenS (f r) fun d r1 => thenS (fill r1 i) fun _ r1 => thenS (fi r1) fun kd r2 =>
  thenS (ofO ((slDk r2 i).bind fun kvs => if kvs.length ≤ 1000000 then kd.key.map fun k => putD kvs k d else none) r2) fun kvs r2 => .nx (r2.set i (some (.th (.dk kvs))))
/-! ### read, counted, handed out -/
/-- x[e] -/
def getDk (i : Nat) (f : En → Rs D) : En → Rs D := fun r => (fill r i).bind fun _ r => (f r).bind fun kd r1 => ofO ((slDk r1 i).bind fun kvs => kd.key.bind fun k => valD kvs k) r1
/-- len(x) -/
def lenDk (i : Nat) : En → Rs D := fun r => ofO ((slDk r i).map fun kvs => .int (kvs.length : Nat)) r
end
section
variable {X : Cx} {g : G} {tg iter kx elt : Expr} {ifs : List Expr} {scope : Scope} {pos : Pos}
end
end DL

/-! Data layer, part 64: C(k = v, ..), all of __init__'s keyword-only parameters given, in their order. -/
namespace DL
open PySem L2
structure HasK (P : Program) (w : World) (K : PySem.W.Frag) (mg : Str → Option Value) (base : Heap) (k : Nat) (c : Str) (ks : List Str) (f : List D → FI) : Prop where
  ex : ∃ C fa fd ps, FnG P w K mg base (L2.CX P w) k fa fd ps (spI K c ks.length f) ∧ mg c = some (.ref C) ∧ ClsAt K c C ∧ Mk K C fa ∧ KBn K fd ps 1 ks (fun us ws => us ++ ws) (fun vs zs => vs ++ zs)
theorem PK.imp {X : Cx} {e : List Keyword} {t t' : TA} (h : PK X e t) (i : ∀ s H Q, t' s H Q → t s H Q) : PK X e t' := ⟨fun pos pins s σ H Q I q => h.run pos pins s σ H Q I (i σ H Q q)⟩
section
variable {X : Cx} {g : G} {CX : CXT} {k n : Nat} {f C : Addr} {fd : FuncData} {ps ks : List Str} {sp : Sp} {E : St → XK} {x c : Str} {p pos kpos : Pos} {e : Expr} {kws : List Keyword} {tk : TA} {nm : Option Str}
end
end DL

/-! Data layer, part 65: self.a, self.b = e, f. -/
namespace DL
open PySem L2
section
variable {X : Cx} {g : G} {a b o : Expr} {p p2 pos pos1 pos2 pt pt2 : Pos} {c f f1 f2 n : Str} {i kt k2 : Nat}
def putFs (i : Nat) (c f : Str) (d : D) (r : En) : Option En := match r[i]? with
  | some (some (OV.oi c' fs)) => if c' = c ∧ fs.length < 900 then some (r.set i (some (.oi c (putFd f d fs)))) else none
  | _ => none
def fld2S (i : Nat) (c f1 f2 : Str) (h1 h2 : En → Rs D) : En → SRs := fun r => thenS (h1 r) fun d1 r1 => thenS (h2 r1) fun d2 r2 => thenS (ofO ((putFs i c f1 d1 r2).bind fun r3 => putFs i c f2 d2 r3) r2) fun r4 _ => .nx r4
end
end DL

/-! Data layer, part 66: isinstance(e, C), C a class of the program whose instances have no classes below it. -/
namespace DL
open PySem L2
def dTys : List String := ["NoneType", "bool", "int", "str", "list", "tuple", "dict"]
structure IsoOk (K : PySem.W.Frag) (mg : Str → Option Value) (c : Str) : Prop where
  ex : ∃ C, mg c = some (.ref C) ∧ ClsAt K c C ∧ C8.InsC K C ∧ ∀ T ∈ dTys, PySem.W.kitOne K (.type T) (.ref C) = some false
def isoB (c : Str) : D → Option Bool
  | .scr _ => none
  | .obj c' _ => if c' = c then some true else none
  | _ => some false
def isoD (p : Opd) (c : Str) : En → Rs D := fun r => (p.run r).bind fun x r1 => ofO (((look r1 x).bind (isoB c)).map D.bl) r1
section
variable {X : Cx} {g : G} {e : Expr} {p : Opd} {pos : Pos}
end
end DL

/-! Data layer, part 67: min(xs) of a list of whole numbers; e is not True. -/
namespace DL
open PySem L2
section
variable {X : Cx} {g : G}
end
end DL

/-! Data layer, part 68: == of instances by their own __eq__, & by their own __and__. -/
namespace DL
open PySem L2
section
variable {X : Cx} {CX : CXT} {k : Nat} {f C : Addr} {fd : FuncData} {ps : List Str} {sp : Sp} {E : St → XK} {pos : Pos} {a b : Expr} {ta tb : TE}
/-- the type of what stands to the right does not come first -/
def TyN (X : Cx) (C : Addr) (y : V) (H : Hp) : Prop := ∃ t, TyX X.K H y t ∧ PySem.W.notFirst X.K C t = true
end
/-- an instance of c -/
def isC (c : Str) : D → Bool
  | .obj c' _ => decide (c' = c)
  | _ => false
/-- what may stand to the right of an own == -/
def eqArg (c : Str) : D → Bool
  | .obj c' _ => decide (c' = c)
  | .scr _ => false
  | _ => true
def opM (c : Str) (ok : D → Bool) (f : List D → FR) (fo fe : En → Rs D) : En → Rs OV := fun r => (fo r).bind fun x r1 => (fe r1).bind fun y r2 => if (isC c x && ok y) = true then frR (f [x, y]) r2 else .bad
structure EqOk (K : PySem.W.Frag) (c : Str) : Prop where
  ex : ∃ C, ClsAt K c C ∧ C8.InsC K C ∧ ∀ T ∈ dTys, PySem.W.subIn K (.type T) (.ref C) = some false
theorem EqOk.ty {X : Cx} {c : Str} {C : Addr} (h : EqOk X.K c) (hcl : ClsAt X.K c C) {F H : Hp} {y : V} {dy : D} (sub : Same F H) (hy : RD X.K F y dy) (ho : eqArg c dy = true) : TyN X C y H := by
  obtain ⟨C', h1, IC, hT⟩ := h.ex
  cases hcl.inj h1
  have tyB : ∀ T, T ∈ dTys → PySem.W.notFirst X.K C (.type T) = true := fun T hT2 => by
    unfold PySem.W.notFirst
    rw [hT T hT2]
    simp
  cases dy with
  | scr _ => cases ho
  | obj c' fl =>
    have ho := of_decide_eq_true ho
    subst ho
    cases hy with
    | obj k1 k2 k3 =>
      cases hcl.inj k1
      exact ⟨.ref C, .base (TyOf.ins (sub _ _ k2) IC.cl IC.ha IC.hn IC.htk IC.hm), by unfold PySem.W.notFirst; simp⟩
    | it k => exact absurd hcl (k _)
  | non => exact ⟨_, ty_of sub (.inl hy) ⟨fun _ => nofun, fun _ _ => nofun⟩, tyB _ (by show ("NoneType" : String) ∈ dTys; decide)⟩
  | bl b => exact ⟨_, ty_of sub (.inl hy) ⟨fun _ => nofun, fun _ _ => nofun⟩, tyB _ (by show ("bool" : String) ∈ dTys; decide)⟩
  | int b => exact ⟨_, ty_of sub (.inl hy) ⟨fun _ => nofun, fun _ _ => nofun⟩, tyB _ (by show ("int" : String) ∈ dTys; decide)⟩
  | str b => exact ⟨_, ty_of sub (.inl hy) ⟨fun _ => nofun, fun _ _ => nofun⟩, tyB _ (by show ("str" : String) ∈ dTys; decide)⟩
  | lst b => exact ⟨_, ty_of sub (.inl hy) ⟨fun _ => nofun, fun _ _ => nofun⟩, tyB _ (by show ("list" : String) ∈ dTys; decide)⟩
  | tup b => exact ⟨_, ty_of sub (.inl hy) ⟨fun _ => nofun, fun _ _ => nofun⟩, tyB _ (by show ("tuple" : String) ∈ dTys; decide)⟩
  | dic b => exact ⟨_, ty_of sub (.inl hy) ⟨fun _ => nofun, fun _ _ => nofun⟩, tyB _ (by show ("dict" : String) ∈ dTys; decide)⟩
section
variable {X : Cx} {g : G} {k : Nat} {c : Str} {pos : Pos} {a b : Expr} {fo fe : En → Rs D}
end
end DL

/-! Data layer, part 69: != of instances by their own __eq__. -/
namespace DL
open PySem L2
section
variable {prog : Program} {w : World} {A : Around} {E : Value → Shared → Prop} {s : Shared} {K : PySem.W.Frag} {x C f L : Addr} {ox : Obj} {od : Option Obj} {h₀ : Heap} {m : Str → Option Value} {b tb : Value}
end
section
variable {X : Cx} {CX : CXT} {k : Nat} {f C : Addr} {fd : FuncData} {ps : List Str} {sp : Sp} {E : St → XK} {pos : Pos} {a b : Expr} {ta tb : TE}
end
/-- not what f tells of the two -/
def neM (c : Str) (f : List D → Option OV) (fo fe : En → Rs D) : En → Rs D := fun r => (fo r).bind fun x r1 => (fe r1).bind fun y r2 => if (isC c x && eqArg c y) = true then (match f [x, y] with
  | some (.sh (.bl b)) => .ok (.bl (!b)) r2
  | _ => .bad) else .bad
structure NeOk (K : PySem.W.Frag) (c : Str) : Prop where
  ex : ∃ C, ClsAt K c C ∧ PySem.W.findIn K (.ref C) "__ne__" = some (some (.builtin "object.__ne__")) ∧ PySem.W.mroIn K C (.type "object") = some true
section
variable {X : Cx} {g : G} {k : Nat} {c : Str} {pos : Pos} {a b : Expr} {fo fe : En → Rs D}
end
end DL

/-! Data layer, part 70: == and != of dicts whose values are plain data, with both answers. -/
namespace DL
open PySem L2
section
variable {X : Cx} {pins : List (Addr × Obj)} {s : Shared} {H : Hp} {sg : L2.St} {g : G}
end
end DL

/-! Data layer, part 71: expressions that give a dict that nobody else has: dict(d), a call of a def that returns its own dict, a if c else b; x = e. -/
namespace DL
open PySem L2
def setK (i : Nat) (f : En → Rs (List (Key × D))) : En → SRs := fun r => thenS (f r) fun kvs r1 => .nx (r1.set i (some (.th (.dk kvs))))
section
variable {X : Cx} {g : G} {x : Str} {p pos : Pos} {i : Nat} {e a b c : Expr}
def ifK (t : En → Rs Bool) (f h : En → Rs (List (Key × D))) : En → Rs (List (Key × D)) := fun r => (t r).bind fun b r1 => if b = true then f r1 else h r1
/-- dict(d), d a dict -/
def cpK (f : En → Rs D) : En → Rs (List (Key × D)) := fun r => (f r).bind fun d r1 => match d with
  | .dic kvs => .ok kvs r1
  | _ => .bad
end
end DL

/-! Data layer, part 72: defs whose first parameter is a list by reference and that return their own dict; such a dict frozen. -/
namespace DL
open PySem L2
section
variable {X : Cx} {g : G} {x : Str} {p pos : Pos} {i : Nat} {e a b c : Expr} {st : Stmt} {sts : List Stmt}
/-- a new dict as a value: frozen -/
def frzK (f : En → Rs (List (Key × D))) : En → Rs D := fun r => (f r).bind fun kvs r1 => .ok (.dic kvs) r1
/-- a name's dict as a value: frozen in its place -/
def vDk (i : Nat) : En → Rs D := fun r => match r[i]? with
  | some (some (.sh d)) => .ok d r
  | some (some (.th (.dk kvs))) => .ok (.dic kvs) (r.set i (some (.sh (.dic kvs))))
  | _ => .bad
/-! ### bodies that end with: return x, the dict of slot i -/
def SPk (K : PySem.W.Frag) (g : G) (F : Hp) (E : Ends) (i : Nat) : SRs → Prop
  | .nx r' => (∃ kvs, r'[i]? = some (some (.th (.dk kvs)))) ∧ ∀ F' H' s' v, Same F F' → Rel K g F' H' s' r' → s'[i]? = some (some v) → E.rt v H'
  | _ => False
theorem SPk.mono {K : PySem.W.Frag} {F F' : Hp} {E : Ends} {y : SRs} (h : SPk K g F E i y) (e : Same F F') : SPk K g F' E i y := by
  cases y with
  | nx r => exact ⟨h.1, fun F2 H2 s2 v e2 R2 hv => h.2 F2 H2 s2 v (e.trans e2) R2 hv⟩
  | _ => exact h
end
/-! ### the promise -/
def spBD (K : PySem.W.Frag) (n : Nat) (f : List D → List D → Option (List (Key × D) × List D)) : Sp := fun vs H Q _ => ∃ F a bs vb ws ds kvs bs', vs = .ref a :: ws ∧ Same F H ∧ F a = none ∧ H a = some (.lst vb) ∧ RDs K F vb bs ∧ RDs K F ws ds ∧ ds.length = n ∧ f bs ds = some (kvs, bs') ∧
  ∀ F' H' v vb', Same F F' → Same F' H' → Fresh F F' H → (∀ b o, H b = some o → b ≠ a → H' b = some o) → F' a = none → H' a = some (.lst vb') → RDs K F' vb' bs' → (∃ c us, v = .ref c ∧ F' c = none ∧ H' c = some (.dK us) ∧ RDk K F' us kvs ∧ H c = none) → Q v H'
section
variable {P : Program} {w : World} {K : PySem.W.Frag} {mg : Str → Option Value} {base : Heap}
end
structure HasBD (P : Program) (w : World) (K : PySem.W.Frag) (mg : Str → Option Value) (base : Heap) (k : Nat) (x : Str) (n : Nat) (f : List D → List D → Option (List (Key × D) × List D)) : Prop where
  ex : ∃ fa fd ps, FnG P w K mg base CX0 k fa fd ps (spBD K n f) ∧ mg x = some (.ref fa) ∧ PySem.W.keepIn K (.ref fa) = true ∧ Binds K fd ps []
/-- f(bag, e, ..), the bag in slot j: a dict of its own -/
def callBD (n : Nat) (f : List D → List D → Option (List (Key × D) × List D)) (j : Nat) (fs : List (En → Rs D)) : En → Rs (List (Key × D)) := fun r => (fill r j).bind fun _ r => (evs fs r).bind fun ds r1 => if ds.length = n then
  (ofO (((lookV r1 j).bind OV.lst?).bind fun bs => f bs ds) r1).bind fun z r1 => .ok z.1 (r1.set j (some (.ow z.2))) else .bad
section
variable {X : Cx} {g : G} {k n : Nat} {x : Str} {p pos : Pos} {e : Expr} {es : List Expr}
end
end DL

/-! Data layer, part 73: xs.pop(i) as a value; d[k] of an owned dict with tuples as keys; x, y = {k: v}, e. -/
namespace DL
open PySem L2
section
variable {X : Cx} {g : G} {x y : Str} {p pos apos cpos px py pt pt2 pd : Pos} {e e2 ek ev : Expr} {kt k2 i j : Nat}
/-! ### pop -/
def popP (k : D) : List D → Option (D × List D) := fun xs => match k with
  | .int i => if 0 ≤ i ∧ i < 1000000 then (ixN xs.length i).bind fun j => (xs[j]?).map fun d => (d, xs.eraseIdx j) else none
  | _ => none
def popV (i : Nat) (f : En → Rs D) : En → Rs D := fun r => (fillW r i).bind fun _ r => (f r).bind fun d r1 => match r1[i]? with
  | some (some (.ow xs)) => match popP d xs with
    | some z => .ok z.1 (r1.set i (some (.ow z.2)))
    | none => .bad
  | _ => .bad
/-! ### d[k] -/
def odAt (kvs : List (D × D)) (k : NestedKey) : Option D := (kvs.find? fun p => decide (p.1.nk = some k)).map (·.2)
theorem RDm.at {K : PySem.W.Frag} {F : Hp} {k : NestedKey} {d : D} : ∀ {kvs : List (D × D)} {xs : List (NestedKey × Addr × V)}, RDm K F xs kvs → odAt kvs k = some d → ∃ x, (xs.find? fun x => decide (x.1 = k)) = some x ∧ RD K F x.2.2 d
  | [], _, _, h => by cases h
  | (kd, d') :: kvs, _, h, e => by
    cases h with
    | @cons k' a v xs _ _ _ h1 h2 h3 h4 =>
      by_cases hk : k' = k
      · have : kd.nk = some k := by rw [h2.1, hk]
        have e : (List.find? (fun p : D × D => decide (p.1.nk = some k)) ((kd, d') :: kvs)).map (·.2) = some d := e
        rw [List.find?_cons_of_pos (by simpa using this)] at e
        refine ⟨(k', a, v), List.find?_cons_of_pos (by simpa using hk), ?_⟩
        have e : d' = d := Option.some.inj e
        rw [← e]
        exact h3
      · have hn : ¬ kd.nk = some k := fun z => hk (by rw [h2.1] at z; exact Option.some.inj z)
        have e : (List.find? (fun p : D × D => decide (p.1.nk = some k)) ((kd, d') :: kvs)).map (·.2) = some d := e
        rw [List.find?_cons_of_neg (by simpa using hn)] at e
        obtain ⟨x, e1, e2⟩ := RDm.at h4 e
        exact ⟨x, by rw [List.find?_cons_of_neg (by simpa using hk)]; exact e1, e2⟩
def getOd (i : Nat) (f : En → Rs D) : En → Rs D := fun r => (fill r i).bind fun _ r => (f r).bind fun kd r1 => match r1[i]? with
  | some (some (.od kvs)) => ofO (kd.key8.bind fun k => odAt kvs k) r1
  | _ => .bad
/-! ### x, y = {k: v}, e -/
def parOd1 (i j : Nat) (fk fv : En → Rs D) (h : En → Rs OV) : En → SRs := fun r => thenS (fk r).noE fun kd r1 => thenS (fv r1).noE fun d r2 => thenS (ofO kd.key8 r2) fun _ r2 => thenS (h r2).noE fun o r3 => .nx ((r3.set i (some (.od [(kd, d)]))).set j (some o))
end
end DL

/-! Data layer, part 74: a set's table laid anew has a place for each. -/
namespace DL
open PySem L2
open PySem.SetTable
/-! ### the search for a place -/
/-! ### a table laid -/
end DL

/-! Data layer, part 75: a set of texts merged into another one. -/
namespace DL
open PySem L2 PyProof.Rows PySem.Froz
section
variable {P : Program} {w : World} {A : Around} {E : Value → Shared → Prop} {s : Shared} {a r : Addr} {l : List Str}
/-- the set at a is as newly made, or with a table laid for no element -/
def Bare0 (w : World) (h : Heap) (a : Addr) (m : Nat) : Prop := ∃ ep t, h.get? a = some (sObj "set" (#[], ep, t)) ∧ t.place = #[] ∧ t.dummies = #[] ∧ t.mask = m ∧ (w.params.followText "set-order" = true ∨ t.led = true)
variable {b : Addr} {l2 : List Str}
end
end DL

/-! Data layer, part 76: the union of two sets of texts; sorted({..} | {..}). -/
namespace DL
open PySem L2 PyProof.Rows PySem.Froz
open Builtin.Frozenset in
section
variable {P : Program} {w : World} {A : Around} {E : Value → Shared → Prop} {s : Shared} {a b : Addr} {l l2 : List Str}
open Builtin Builtin.Frozenset in
open Builtin Builtin.Frozenset in
theorem Bare0.setX {h : Heap} {m : Nat} (B : Bare0 w h a m) : SetX P w h a [] := by
  obtain ⟨ep, t, ho, h1, h2, h3, h4⟩ := B
  refine ⟨(#[], ep, t), ho, TxOk.nil ?_, List.nodup_nil, ?_, h4⟩
  · simp [SetTable.fits, h1, h2, SetTable.fill]
  · rw [show (#[], ep, t).2.2.place.toList = [] by rw [h1]]
    exact List.Pairwise.nil
end
end DL

/-! Data layer, part 77: sorted({..} | {..}), texts. -/
namespace DL
open PySem L2 PySem.Froz PyProof.Rows
section
variable {X : Cx} {g : G} {elt tg iter a b : Expr} {ifs : List Expr} {gs : List Comprehension} {scope : Scope} {own : List (PySem.Str × Nat)} {pos : Pos} {c : GDt} {cs : List GDt} {fe : En → Rs D} {fa fb : En → Rs (List Str)}
/-- sorted(a | b), sets of texts -/
def orS (fa fb : En → Rs (List Str)) : En → Rs OV := fun r => (fa r).bind fun ts r1 => (fb r1).bind fun us r2 => ofO (if (addT [] ts).length ≤ 15 ∧ (addT [] us).length ≤ 15 then some (OV.ow ((srtT (ts ++ us)).map D.str)) else none) r2
end
end DL

/-! Data layer, part 78: a dict of the module whose values are any flat data. -/
namespace DL
open PySem L2
end DL

/-! Data layer, part 79: enumerate of a list or of a tuple. -/
namespace DL
open PySem PySem.Spec PyProof.Rows L2
section
variable {prog : Program} {w : World} {A : Around} {E : Value → Shared → Prop} {s : Shared}
end
/-! by data -/
section
variable {X : Cx} {g : G} {tg e a b : Expr} {pos p : Pos}
def D.asE : D → Option (List D)
  | .lst ds => some ds
  | .tup ds => some ds
  | _ => none
def enX (f : En → Rs D) : En → Rs (List D) := fun r => (f r).bind fun d r1 => ofO (d.asE.map (enumD 0)) r1
end
end DL

/-! Data layer, part 80: defs that are handed the error that is handled; isinstance and fields of it there. -/
namespace DL
open PySem L2
/-- what such a def promises -/
structure FnE (P : Program) (w : World) (K : PySem.W.Frag) (mg : Str → Option Value) (base : Heap) (k : Nat) (f : Addr) (fd : FuncData) (a : Str) (fe : Exn → Option D) : Prop where
  run : ∀ (A : Around) (outer : List Env) (s : Shared) (H : Hp) (args : Args) (u : Value) (Q : VK) (p : Addr × Obj) (cls : Value) (d : Option Addr) (F : Hp) (x : Exn) (o : D),
    L2H.RoomH k A → A.guards = some [] → L2H.PinOk outer H s p → Zc cls d p.2 → (∃ vs, p.2.data = .fields vs) → Env0 P w K mg base A outer s H → BindsTo s fd args [(a, u)] → RelV (.ref p.1) u → Same F H → RX K F cls d x → fe x = some o →
    (∀ F' H' v, Same F F' → Same F' H' → Fresh F F' H → Same H H' → RD K F' v o → Q v H') → codeAny (model P w) A (.call (.ref f) args) (CR CX0 outer P w H s Q fun _ _ _ => False) s
def startX (n : Nat) (x : Exn) : En := some (.exc x) :: List.replicate (n - 1) none
def fnE (n : Nat) (m : En → SRs) : Exn → Option D := fun x => match m (startX n x) with
  | .rt (.sh d) _ => some d
  | _ => none
section
variable {P : Program} {w : World} {K : PySem.W.Frag} {mg : Str → Option Value} {base : Heap}
theorem relX {N : List Str} {F H : Hp} {cls : Value} {d : Option Addr} {x : Exn} {a : Addr} (sub : Same F H) (hx : RX K F cls d x) (hn : N ≠ []) : Rel K ⟨F, H, [], [], w, none, some (a, cls, d), []⟩ F H (L2.start N [.ref a]) (startX N.length x) := by
  have nown : ∀ (i : Nat) (o : OV), (startX N.length x)[i]? = some (some o) → i = 0 ∧ o = .exc x := fun i o e => by
    unfold startX at e
    cases i with
    | zero => cases e; exact ⟨rfl, rfl⟩
    | succ j =>
      rw [List.getElem?_cons_succ, List.getElem?_replicate] at e
      split at e <;> cases e
  have s0 : (L2.start N [V.ref a])[0]? = some (some (.ref a)) := start_get rfl
  refine ⟨sub, Same.refl _, fun b o e z => ?_, fun b o e _ _ => e, fun i o e => ?_, fun i o a e eo => ?_, fun i j o u a _ e eo => ?_, fun p hp => ?_, ?_, fun p hp => (nomatch hp), fun p hp => ?_⟩
  · have z : F b = none := z
    rw [z] at e; cases e
  · obtain ⟨rfl, rfl⟩ := nown i o e
    exact ⟨_, s0, a, cls, d, rfl, rfl, hx⟩
  · obtain ⟨rfl, rfl⟩ := nown i o e
    cases eo
  · obtain ⟨rfl, rfl⟩ := nown i o e
    cases eo
  · cases hp
  · unfold startX L2.start
    cases N with
    | nil => exact absurd rfl hn
    | cons z N => simp
  · cases hp
theorem fnE_ok {x qual : Str} {st : Stmt} {f : Addr} {fd : FuncData} {N : List Str} {a : Str} {k n : Nat} {m : En → SRs} (F : Fun K x qual st f fd) (S : FnScope N [a] (defScope st)) (en : N.length = n)
    (hbody : ∀ (cdv : Value) (A : Around) (outer : List Env) (s : Shared) (H : Hp) (p : Addr × Obj) (cls : Value) (d : Option Addr) (g : G), L2H.RoomH k (A.deeper (PyProof.Rows.envOfC qual (defScope st) s.heap.objs.size f cdv)) → A.guards = some [] → Zc cls d p.2 → (∃ vs, p.2.data = .fields vs) → g.B = [] → g.w = w → g.W = none → g.xc = some (p.1, cls, d) →
      DSs (L2H.cxH CX0 P w K mg base N qual (defScope st) f cdv A outer s H (fun _ _ _ => False) p) g (defBody st) m) : FnE P w K mg base (k + 1) f fd a (fnE n m) := by
  subst en
  obtain ⟨oc, od, kV, doc, pm, an, cdv, ct, osl, rfl, lk, hcd⟩ := F.ex
  refine ⟨fun A outer s H args u Q p cls d Fz x o hr hgd hpin hz hf e0 hb rv sub hx ef q => ?_⟩
  have KX : K.In s.heap := e0.mod.kin.keeps fun b o e => (e0.bs b o e).1
  have lim : s.heap.NoLimit := e0.mod.nolimit.keeps fun b o e => (e0.bs b o e).1
  have hb' : BindsTo s (PySem.W.fnOf _ _ (defArgs st) (defBody st) (defScope st) .none kV doc pm an cdv ct) args ([a].zip [u]) := hb
  have hkind : ∀ y ∈ [a].zip [u], (defScope st).names.lookup y.1 = some .local ∨ ((defScope st).names.lookup y.1 = some .cell ∧ ((cellsFrom (s.heap.objs.size + 1) (defScope st).names []).lookup y.1).isSome = true) := fun ⟨n, v⟩ hy => by
    rcases S.par n (List.of_mem_zip hy).1 with q | q
    · exact .inl q
    · exact .inr ⟨q, PySem.W.cellsFrom_some _ _ _ (.inl q)⟩
  refine codeAny_call_function hr.depth (KX _ _ lk) rfl S.co S.gen rfl (PySem.W.codeRec_of KX hcd) (hb' _ _ _ _ ?_)
  refine PySem.wpAny_newFunctionEnv_cells S.kind hkind fun env he s1 x1 => ?_
  subst he
  refine ⟨lim.keeps x1.toInCall.keep, codeAny_func ?_⟩
  have ht := hbody cdv A outer s H p cls d ⟨Fz, H, [], [], w, none, some (p.1, cls, d), []⟩ (hr.deeper _) hgd hz hf rfl rfl rfl rfl
  have I : Inv (L2H.cxH CX0 P w K mg base N qual (defScope st) f cdv A outer s H (fun _ _ _ => False) p) [] (L2.start N [.ref p.1]) H s1 := L2H.inv_startH S hpin e0 rfl (.cons rv .nil) x1
  have hN : N ≠ [] := fun e => by
    have := S.pre
    rw [e] at this
    simp at this
  refine wpAny_mono (ht.run [] s1 (L2.start N [.ref p.1]) H { nx := fun _ H' => Q .non H', rt := Q, bk := fun _ _ => False, ct := fun _ _ => False } I ⟨Fz, startX N.length x, relX sub hx hN, ?_⟩) (fun fl s' hs => ?_) fun e s' hs => hs
  · unfold fnE at ef
    revert ef
    cases m (startX N.length x) with
    | rt o' r' =>
      cases o' with
      | sh d' =>
        intro ef F' H' s' v sm R' hv
        cases ef
        exact q F' H' v sm R'.sub (fun b o e e0 => R'.fnew b o e e0) (fun b o e => R'.keep b o e (fun p hp => by cases hp) fun p hp => by cases hp) hv
      | _ => intro ef; cases ef
    | _ => intro ef; cases ef
  have fin : ∀ {σ' : L2.St} {H' : Hp} {v : V} {u : Value}, Inv (L2H.cxH CX0 P w K mg base N qual (defScope st) f cdv A outer s H (fun _ _ _ => False) p) [] σ' H' s' → RelV v u → Q v H' → CE outer P w H s Q u s' :=
    fun {σ' H' v u} J rv q => ⟨v, H', J.os, J.bare, J.base, J.hok, rv, q⟩
  cases fl with
  | ret u =>
    obtain ⟨v, σ', H', J, rv, q⟩ := hs
    exact fin J rv q
  | next =>
    obtain ⟨σ', H', J, q⟩ := hs
    exact fin (v := V.non) (u := Value.none) J rfl q
  | brk =>
    obtain ⟨_, _, _, q⟩ := hs
    exact False.elim q
  | cont =>
    obtain ⟨_, _, _, q⟩ := hs
    exact False.elim q
end
structure HasEx (P : Program) (w : World) (K : PySem.W.Frag) (mg : Str → Option Value) (base : Heap) (k : Nat) (x : Str) (fe : Exn → Option D) : Prop where
  ex : ∃ fa fd a, FnE P w K mg base k fa fd a fe ∧ mg x = some (.ref fa) ∧ PySem.W.keepIn K (.ref fa) = true ∧ Binds K fd [a] []
/-! ### the error in slot i, pinned -/
section
variable {Y : Cx} {g' : G} {a : Addr} {oe : Obj} {cls : Value} {d : Option Addr} {n : Str} {np p : Pos} {i : Nat}
theorem de_xfY {f : Str} {cs : List Str} (hT : XfT Y.K f cs) (hz : Zc cls d oe) (hf : ∃ vs, oe.data = .fields vs) (hp : (a, oe) ∈ Y.pn) (hx : g'.xc = some (a, cls, d)) (hv : PE Y (.Name n np) (tVar i)) (hb : attributeBase (.Name n np) f Y.env (eval (.Name n np) Y.env) = eval (.Name n np) Y.env := by rfl) :
    DE Y g' (.Attribute (.Name n np) f p) (xfD' i f cs) := by
  refine ⟨fun pins s σ H Q I ⟨F, r, R, q⟩ => ?_⟩
  unfold xfD' at q
  revert q
  split
  · next x e =>
    obtain ⟨h1, C, rfl, h3, h4⟩ := exc_slot R hx e
    split
    · next hm =>
      intro q
      obtain ⟨dd, e2, q⟩ := post_ofO q
      obtain ⟨T, hno⟩ := hT _ hm C h3
      refine attr_of hb (thn (hv.run pins s σ H (fun v H1 => v = .ref a ∧ H1 = H) I ⟨_, h1, rfl, rfl⟩) fun u s1 hh => ?_)
      obtain ⟨v1, H1, I1, rx, rfl, rfl⟩ := hh
      obtain rfl : u = Value.ref a := rx
      obtain ⟨ha, _⟩ := I1.pin (a, oe) (List.mem_append_left _ hp)
      obtain ⟨vs, hd⟩ := hf
      rcases h4 with ⟨rfl, h5⟩ | ⟨ad, fs, rfl, h5, h6⟩
      · rw [h5] at e2
        cases e2
      · obtain ⟨v, h7, h8⟩ := RDf.look h6 e2
        have hx : ObjOk Y.prog Y.w H1 s1.heap ad (.xd fs) := I1.hok ad _ (R.sub _ _ h5)
        obtain ⟨mA, hns, hr⟩ := hx
        obtain ⟨od, ho, hl⟩ := lookIn_ns hns
        obtain ⟨u, hu, ru⟩ := RelO.some_of (v := v) (o := mA f) (by rw [← h7]; exact hr f)
        have J : PySem.W.InstAt s1.heap a oe C (some od) := ⟨ha, hz.1, by unfold PySem.W.notCls; rw [hd] <;> rfl, by rw [hz.2]; exact ho⟩
        exact HandSPX.exc_get I1.kIn J T.ga T.gg T.exC (PySem.W.findObj_own T.hdC hno rfl (by rw [hl, hu])) (handed_of ru) ⟨v, H1, I1.tok _, ru, q F H1 v (Same.refl _) R h8⟩
    · exact fun q => q.elim
  · exact fun q => q.elim
theorem de_isxY {T : Str} {t : Str → Option Bool} {pT pn' : Pos} {u : Value} {v : V} (hT : IsT Y.K u t) (hz : Zc cls d oe) (hf : ∃ vs, oe.data = .fields vs) (hp : (a, oe) ∈ Y.pn) (hx : g'.xc = some (a, cls, d)) (hm : Y.mg "isinstance" = none) (hv : PE Y (.Name n np) (tVar i)) (hmT : Y.mg T = some u) (hu : RelV v u) (hvu : ∀ u', RelV v u' → u' = u)
    (hg : Gl Y "isinstance" := by rfl) (hgT : Gl Y T := by rfl) (hdT : (T == ("__debug__" : Str)) = false := by decide)
    (h1 : starEach [.Name n np, .Name T pT] Y.env = (false, eval (.Name n np) Y.env) :: starEach [.Name T pT] Y.env := by rfl) (h2 : starEach [.Name T pT] Y.env = (false, eval (.Name T pT) Y.env) :: starEach [] Y.env := by rfl)
    (hpl : (backTo p (starEach [.Name T pT] Y.env)).any (·.1) = false := by rfl) : DE Y g' (.Call (.Name "isinstance" pn') [.Name n np, .Name T pT] [] p) (isxD i t) := by
  refine ⟨fun pins s σ H Q I ⟨F, r, R, q⟩ => ?_⟩
  unfold isxD at q
  revert q
  split
  · next x e =>
    intro q
    obtain ⟨b, e2, q⟩ := post_ofO q
    obtain ⟨b', e3, rfl⟩ := Option.map_eq_some_iff.mp e2
    obtain ⟨hs1, C, rfl, h3, h4⟩ := exc_slot R hx e
    obtain ⟨EC, hk⟩ := hT _ _ e3 C h3
    have cr : CallR Y (.builtin "isinstance") (fun xs H Q => xs = [.ref a, v] ∧ (∀ dd, d = some dd → ∃ vs, H dd = some (.xd vs)) ∧ Q (.bl b') H) := by
      intro pins s σ H xs us Q I rr h
      obtain ⟨rfl, hd, q⟩ := h
      cases rr with
      | cons rx rr =>
        cases rr with
        | cons rt rr =>
          cases rr
          cases rx
          have ec := hvu _ rt
          subst ec
          obtain ⟨hget, _⟩ := I.pin (a, oe) (List.mem_append.mpr (.inl hp))
          obtain ⟨vs, hvs⟩ := hf
          have J : ∃ od, PySem.W.InstAt s.heap a oe C od := by
            obtain ⟨oc, odd, oda, osl⟩ := oe
            obtain ⟨h1, h2⟩ := hz
            dsimp only at h1 h2 hvs
            subst h1 h2 hvs
            cases odd with
            | none => exact ⟨none, hget, rfl, rfl, trivial⟩
            | some dd =>
              obtain ⟨vs, hh⟩ := hd dd rfl
              obtain ⟨mA, ⟨od, es, ep, e1, e2⟩, hr⟩ := I.hok dd _ hh
              exact ⟨some od, hget, rfl, rfl, e1⟩
          obtain ⟨od, J⟩ := J
          have hcl : (PySem.W.clsIn Y.K C).isSome = true := by
            obtain ⟨cd, hc, _⟩ := PySem.W.any_some EC.hd
            rw [hc]
            rfl
          exact PySem.W.kia_one (PySem.W.kitx_exc hcl EC.hg EC.hk EC.hs EC.ha EC.hn EC.ht EC.hm) I.kIn J hk (fun z => nomatch z) fun tk => ⟨.bl b', H, I.kept (t' := tk) fun _ _ z => z, rfl, q⟩
    refine (pe_callB cr hg hm (by decide +kernel) (pa_cons hv (pa_cons (pe_glob (v := v) hgT hmT hu hdT) pa_nil h2) h1) (by decide) (by decide) h1 hpl).run pins s σ H Q I ⟨_, hs1, rfl, fun dd ed => ?_, q F H _ (Same.refl _) R (.bl b')⟩
    rcases h4 with ⟨rfl, h5⟩ | ⟨ad, vs, rfl, h5, h6⟩
    · cases ed
    · cases ed
      exact ⟨vs, R.sub _ _ h5⟩
  · exact fun q => q.elim
/-! ### the call in an except suite -/
/-- g(e), e the error of slot i -/
def callEx (fe : Exn → Option D) (i : Nat) : En → Rs D := fun r => match r[i]? with
  | some (some (.exc x)) => ofO (fe x) r
  | _ => .bad
theorem de_callEx {x : Str} {fe : Exn → Option D} {k : Nat} {q : Pos} (h : HasEx Y.prog Y.w Y.K Y.mg Y.base k x fe) (hgd : Y.A.guards = some []) (hr : L2H.RoomH k Y.A) (hz : Zc cls d oe) (hf : ∃ vs, oe.data = .fields vs) (hp : (a, oe) ∈ Y.pn) (hx : g'.xc = some (a, cls, d)) (hv : PE Y (.Name n np) (tVar i))
    (hg : Gl Y x := by rfl) (hdb : (x == ("__debug__" : Str)) = false := by decide) (he : starEach [.Name n np] Y.env = (false, eval (.Name n np) Y.env) :: starEach [] Y.env := by rfl) (hpl : (backTo p (starEach [] Y.env)).any (·.1) = false := by rfl) : DE Y g' (.Call (.Name x q) [.Name n np] [] p) (callEx fe i) := by
  obtain ⟨fa, fd, ar, F, h1, h2, h3⟩ := h.ex
  refine ⟨fun pins s σ H Q I ⟨Fz, r, R, hq⟩ => ?_⟩
  unfold callEx at hq
  revert hq
  split
  · next xx e =>
    intro hq
    obtain ⟨o, ef, hq⟩ := post_ofO hq
    obtain ⟨hs1, rx⟩ := exc_slot R hx e
    refine PySem.wpAny_Call_Name_kw (ld_glob I hg h1 ?_ hdb)
    refine PySem.W.callWith_K (h₀ := Y.base) I.ok.mod.kin h2 (thn ((pa_cons hv pa_nil he).run p pins s σ H (fun vs H1 => vs = [.ref a] ∧ H1 = H) I ⟨_, hs1, rfl, rfl⟩) fun us s1 ⟨vs, H1, I1, rv, e1, e2⟩ => ⟨I1.kIn, ?_⟩) he hpl
    subst e1 e2
    cases rv with
    | @cons v0 u0 vs0 us0 rv rr =>
      cases rr
      have b := h3 s1 [u0] I1.kIn rfl
      rw [List.append_nil] at b
      have P1 := I1.pin (a, oe) (List.mem_append_left _ hp)
      have hpin : L2H.PinOk Y.stack H1 s1 (a, oe) := ⟨P1.1, P1.2.1, fun hm => (List.mem_cons.mp (I1.stkSub a hm)).elim P1.2.2.1 P1.2.2.2.1, P1.2.2.2.2⟩
      refine wpAny_call (codeAny_mono (F.run Y.A Y.stack s1 H1 ⟨[u0], []⟩ u0 Q (a, oe) cls d Fz xx o hr hgd hpin hz hf I1.env0 b rv R.sub rx ef fun F' H' v s1' s2 fr s3 hv' => hq F' H' v s1' (R.after s1' s2 fr s3) hv') fun res s' hq' => ?_)
      cases res with
      | error er => exact hq'.elim
      | ok fl =>
        cases fl with
        | ret u => exact I1.after hq'
        | next => exact False.elim hq'
        | brk => exact False.elim hq'
        | cont => exact False.elim hq'
  · exact fun q => q.elim
end
end DL

/-! Data layer, part 81: a lambda handed to a def that calls it in a try; tables of code objects. -/
namespace DL
open PySem PySem.Spec PyProof.Rows L2
section
variable {X : Cx} {pins : List (Addr × Obj)} {σ : L2.St} {H : Hp} {s : Shared}
end
/-! ### the relation behind it -/
section
variable {K : PySem.W.Frag} {g : G} {F H : Hp} {s : L2.St} {r : En} {P : Addr} {q : Str}
theorem Rel.tab {ps qs : Array Value} (R : Rel K g F H s r) (hm : (P, q) ∈ g.T) (hu : ∀ p ∈ g.T, p.1 = P → p.2 = q) (hX : g.X = []) (hH : H P = some (.tbl ps)) (ht : TriplesOk qs.toList) (hc : ∀ (pos : Pos) (cv : Value), codeAmong pos qs.toList = some cv → ∃ c, cv = .ref c ∧ F c = some (LamX.CodeO c q)) :
    Rel K g F (L2.upd H P (.tbl qs)) s r := by
  obtain ⟨hF, h0, hB, _⟩ := R.tb _ hm
  have hF : F P = none := hF
  refine ⟨fun b u e => ?_, R.f0, R.fnew, fun b u e hb ht' => ?_, fun i u e => ?_, R.own, R.dist, R.pin, R.len, fun p hp => ?_, fun p hp => by rw [hX] at hp; cases hp⟩
  · rw [upd_ne fun z => by rw [z, hF] at e; cases e]; exact R.sub b u e
  · rw [upd_ne fun z => ht' _ hm z.symm]; exact R.keep b u e hb ht'
  · obtain ⟨v, h1, h2⟩ := R.slot i u e
    refine ⟨v, h1, ?_⟩
    have ne : ∀ {a : Addr} {o : HO}, H a = some o → (∀ ps, o ≠ .tbl ps) → a ≠ P := fun {a o} e n z => by
      rw [z, hH] at e
      exact n _ (Option.some.inj e).symm
    cases u with
    | sh d => exact h2
    | ow xs =>
      obtain ⟨a, vs, e1, e2, e3, e4⟩ := h2
      exact ⟨a, vs, e1, e2, by rw [upd_ne (ne e3 fun _ z => nomatch z)]; exact e3, e4⟩
    | od xs =>
      obtain ⟨a, vs, e1, e2, e3, e4⟩ := h2
      exact ⟨a, vs, e1, e2, by rw [upd_ne (ne e3 fun _ z => nomatch z)]; exact e3, e4⟩
    | oi c xs =>
      obtain ⟨a, vs, e1, e2, e3, e4⟩ := h2
      exact ⟨a, vs, e1, e2, by rw [upd_ne (ne e3 fun _ z => nomatch z)]; exact e3, e4⟩
    | th t =>
      obtain ⟨a, o, e1, e2, e3, e4⟩ := h2
      refine ⟨a, o, e1, e2, ?_, e4⟩
      cases t with
      | st ds =>
        obtain ⟨L, rfl, _⟩ := e4
        rw [upd_ne (ne e3 fun _ z => nomatch z)]; exact e3
      | dk kvs =>
        obtain ⟨vs, rfl, _⟩ := e4
        rw [upd_ne (ne e3 fun _ z => nomatch z)]; exact e3
    | exc c => exact h2
  · obtain ⟨h1, h2, h3, ps', h4, h5, h6⟩ := R.tb p hp
    refine ⟨h1, h2, h3, ?_⟩
    by_cases hp1 : p.1 = P
    · rw [hp1, hu p hp hp1]
      exact ⟨qs, upd_same, ht, hc⟩
    · exact ⟨ps', by rw [upd_ne hp1]; exact h4, h5, h6⟩
end
/-! ### the def that hears -/
/-- the body of the def that hears -/
abbrev hearB (a n e y : Str) (j : Nat) (p1 p2 p3 p4 p5 p6 p7 p8 p9 p10 p11 p12 p13 : Pos) (k1 : Nat) : List Stmt :=
  [.Try [.Return (some (.Tuple [.Constant (.str "told") j p1, .Call (.Name a p2) [] [] p3] k1 p4)) p5] [.ExceptHandler (some (.Name e p6)) (some n) [.Return (some (.Call (.Name y p7) [.Name n p8] [] p9)) p10] p11] [] [] p12]
end DL

/-! Data layer, part 82: heard(lambda: e) by data. -/
namespace DL
open PySem PySem.Spec PyProof.Rows L2
section
variable {X : Cx} {pins : List (Addr × Obj)} {σ : L2.St} {H : Hp} {s : Shared}
end
/-- the def that hears, by its text -/
structure HasHd (P : Program) (w : World) (K : PySem.W.Frag) (mg : Str → Option Value) (base : Heap) (k : Nat) (x : Str) (ct : Str → Option Bool) (fe : Exn → Option D) : Prop where
  ex : ∃ (st : Stmt) (fa : Addr) (fd : FuncData) (a n e y : Str) (j k1 : Nat) (p1 p2 p3 p4 p5 p6 p7 p8 p9 p10 p11 p12 p13 : Pos) (CS : Addr),
    Fun K x x st fa fd ∧ FnScope [a, n] [a] (defScope st) ∧ defBody st = hearB a n e y j p1 p2 p3 p4 p5 p6 p7 p8 p9 p10 p11 p12 p13 k1 ∧ mg x = some (.ref fa) ∧ PySem.W.keepIn K (.ref fa) = true ∧ Binds K fd [a] [] ∧
    (defScope st).names.lookup a = some .local ∧ (defScope st).names.lookup n = some .local ∧ (defScope st).names.lookup e = some .globalImplicit ∧ (defScope st).names.lookup y = some .globalImplicit ∧
    ((a == ("__debug__" : Str)) = false ∧ (a == ("__classdict__" : Str)) = false ∧ (n == ("__debug__" : Str)) = false ∧ (n == ("__classdict__" : Str)) = false ∧ (e == ("__debug__" : Str)) = false ∧ (y == ("__debug__" : Str)) = false) ∧
    mg e = some (.ref CS) ∧ (∀ m b C, ct m = some b → ClsAt K m C → PySem.W.exmOne K (.ref C) (.ref CS) = some b) ∧ HasEx P w K mg base k y fe
section
variable {X : Cx} {g : G} {k : Nat} {x : Str} {ct : Str → Option Bool} {fe : Exn → Option D} {c P : Addr} {params : Arguments} {body : Expr} {scope : Scope} {p lpos pos : Pos} {f : En → Rs D}
end
end DL

/-! Data layer, part 83: the law's own call where the law makes lambdas; the end. -/
namespace DL
open PySem PySem.Spec PyProof.Rows L2
section
variable {P : Program} {w : World} {K : PySem.W.Frag} {mg : Str → Option Value} {base : Heap} {CX : CXT}
end
end DL

/-! Data layer, part 84: xs.count(e); units in hot frames; g(e) of the error that is handled as a def's value. -/
namespace DL
open PySem PySem.Spec PyProof.Rows L2
theorem u65H {k : Nat} {A : Around} (r : L2H.RoomH k A) : A.units + 65 < cLine := by have := r.un; omega
theorem unH {k : Nat} {A : Around} (r : L2H.RoomH k A) : A.units + 64 < cLine := by have := r.un; omega
theorem HasEx.mono {P : Program} {w : World} {K : PySem.W.Frag} {mg : Str → Option Value} {base : Heap} {j k : Nat} {x : Str} {fe : Exn → Option D} (h : HasEx P w K mg base j x fe) (hj : j ≤ k) : HasEx P w K mg base k x fe := by
  obtain ⟨fa, fd, a, F, h1, h2, h3⟩ := h.ex
  exact ⟨fa, fd, a, ⟨fun A outer s H args u Q p cls d Fz xx o hr => F.run A outer s H args u Q p cls d Fz xx o (hr.mono hj)⟩, h1, h2, h3⟩
section
variable {X : Cx} {g : G}
end
end DL

/-! Data layer, part 85: T.get(k, x), T a dict of the module with text keys. -/
namespace DL
open PySem PySem.Spec PyProof.Rows L2
structure TabG (K : PySem.W.Frag) (w : World) (d : Addr) (t : List (Str × D)) : Prop where
  low : (d == sysModules) = false
  at_ : ∃ es n, K.lookup d = some ⟨.type "dict", none, .dict es n, #[]⟩ ∧ PySem.W.KeysLit w.params es.toList
  val : ∀ x : Str, (∃ z v u, t.lookup x = some z ∧ PySem.W.nsIn K d x = some (some u) ∧ RelV v u ∧ ∀ F : Hp, RD K F v z) ∨ (t.lookup x = none ∧ PySem.W.nsIn K d x = some none)
section
variable {X : Cx} {g : G} {e f : Expr} {np apos cpos : Pos} {ty tx : TE}
/-- T.get(k, x) -/
def tabGetD (t : List (Str × D)) (k x : Opd) : En → Rs D := fun r => (k.run r).bind fun y r1 => (x.run r1).bind fun u r2 =>
  ofO ((look r2 y).bind fun e => (look r2 u).bind fun c => match e, c with
    | .str z, .int n => some ((t.lookup z).getD (.int n))
    | _, _ => none) r2
end
end DL

/-! Data layer, part 86: x += k, x and k integers; list(zip(xs, ys)). -/
namespace DL
open PySem PySem.Spec PyProof.Rows L2
/-- name += k -/
def augN (i : Nat) (y : Int) : En → SRs := fun r => match r[i]? with
  | some (some (.sh (.int z))) => .nx (r.set i (some (.sh (.int (z + y)))))
  | _ => .bad
section
variable {X : Cx} {g : G} {pos p1 p2 : Pos} {x : Str}
end
/-! ### list(zip(xs, ys)), at the model's level -/
structure ZlG (xs ys : Array Value) (lo : Addr) (h : Heap) (as : List Addr) : Prop where
  rise : as.Pairwise (· < ·)
  above : ∀ a ∈ as, lo < a
  pairs : ∀ (j : Nat) (a : Addr), as[j]? = some a → ∃ x y, xs[j]? = some x ∧ ys[j]? = some y ∧ h.get? a = some { cls := .type "tuple", data := .seq #[x, y] }
theorem ZlG.there {xs ys : Array Value} {lo : Addr} {h : Heap} {as : List Addr} (g : ZlG xs ys lo h as) {a : Addr} (ha : a ∈ as) : a < h.objs.size := by
  obtain ⟨j, hj⟩ := List.mem_iff_getElem?.mp ha
  obtain ⟨_, _, _, _, e⟩ := g.pairs j a hj
  exact Heap.lt_size e
theorem ZlG.low {xs ys : Array Value} {lo lo' : Addr} {h : Heap} {as : List Addr} (g : ZlG xs ys lo h as) (hl : lo' ≤ lo) : ZlG xs ys lo' h as := ⟨g.rise, fun a ha => Nat.lt_of_le_of_lt hl (g.above a ha), g.pairs⟩
structure ZlSt (h : Heap) (z TI TO i1 i2 l1 l2 S : Addr) (xs ys : Array Value) (i : Nat) : Prop where
  ti : IsPair h TI (.ref i1) (.ref i2)
  it1 : h.IsListIter i1 l1 i
  it2 : h.IsListIter i2 l2 i
  ls1 : h.IsList l1 xs
  ls2 : h.IsList l2 ys
  st : (IsZip h z TI TO .none ∧ ∃ a b, IsPair h TO a b) ∨ ∃ T f oT, IsZipHeld h z TI TO T f ∧ h.get? T = some oT ∧ T ≠ z ∧ T ≠ i1 ∧ T ≠ i2 ∧ T ≠ S
theorem ZlSt.keep {h h' : Heap} {z TI TO i1 i2 l1 l2 S : Addr} {xs ys : Array Value} {i : Nat} (t : ZlSt h z TI TO i1 i2 l1 l2 S xs ys i) (n : S ∉ [z, TI, TO, i1, i2, l1, l2]) (hk : ∀ b o, b ≠ S → h.get? b = some o → h'.get? b = some o) : ZlSt h' z TI TO i1 i2 l1 l2 S xs ys i := by
  simp only [List.mem_cons, List.not_mem_nil, or_false, not_or] at n
  obtain ⟨dz, dTI, dTO, di1, di2, dl1, dl2⟩ := n
  refine ⟨hk _ _ (Ne.symm dTI) t.ti, t.it1.at fun o e => hk _ o (Ne.symm di1) e, t.it2.at fun o e => hk _ o (Ne.symm di2) e, t.ls1.at fun o e => hk _ o (Ne.symm dl1) e, t.ls2.at fun o e => hk _ o (Ne.symm dl2) e, ?_⟩
  rcases t.st with ⟨hz, a, b, hTO⟩ | ⟨T, f, oT, hz, hT, r1, r2, r3, r4⟩
  · exact .inl ⟨hk _ _ (Ne.symm dz) hz, a, b, hk _ _ (Ne.symm dTO) hTO⟩
  · exact .inr ⟨T, f, oT, hk _ _ (Ne.symm dz) hz, hk _ _ r4 hT, r1, r2, r3, r4⟩
section
variable {prog : Program} {w : World} {A : Around} {E : Value → Shared → Prop} {s : Shared} {z TI TO i1 i2 l1 l2 S : Addr} {xs ys : Array Value}
end
section
variable {prog : Program} {w : World} {A : Around} {s : Shared} {R : Result → Shared → Prop} {z TI TO i1 i2 l1 l2 : Addr} {xs ys : Array Value}
end
section
variable {prog : Program} {w : World} {A : Around} {E : Value → Shared → Prop} {s : Shared} {z TI TO i1 i2 l1 l2 : Addr} {xs ys : Array Value}
end
end DL

/-! Data layer, part 87: list(zip(xs, ys)) by data. -/
namespace DL
open PySem PySem.Spec PyProof.Rows L2
section
variable {X : Cx} {g : G}
section
variable {e e2 : Expr} {p p2 q pos : Pos} {ps : List Opd}
end
end
end DL

/-! Data layer, part 88: texts by <=. -/
namespace DL
open PySem PySem.Spec PyProof.Rows L2
section
variable {X : Cx} {g : G}
end
end DL

/-! Data layer, part 89: a tuple taken once or not at all: (e, ..) * k, k = 0 or 1. -/
namespace L2
open PySem PySem.Spec PyProof.Rows
section
variable {X : Cx}
end
end L2
namespace DL
open PySem PySem.Spec PyProof.Rows L2
section
variable {X : Cx} {g : G}
end
end DL

/-! Data layer, part 90: isinstance(e, T), e perhaps an instance of an own class. -/
namespace DL
open PySem L2
structure NiOk (K : PySem.W.Frag) (c : Str) : Prop where
  ex : ∃ C, ClsAt K c C ∧ C8.InsC K C ∧ ∀ T ∈ tyNames, PySem.W.mroIn K C (.type T) = some false
section
variable {X : Cx} {g : G} {e : Expr} {p : Opd} {pos : Pos}
end
end DL

/-! Data layer, part 91: bodies whose last statements change a dict that was frozen in them: behind it flat values alone are left. -/
namespace DL
open PySem L2
/- no dict in it -/
/-! ### statements behind which not all that was frozen need be there -/
def SPz (K : PySem.W.Frag) (g : G) (E : Ends) : SRs → Prop
  | .nx r' => ∀ F' H' s', Rel K g F' H' s' r' → E.nx s' H'
  | .rt o r' => ∀ F' H' s' v, Rel K g F' H' s' r' → RV K g F' H' s' r' v o → E.rt v H'
  | .bk r' => ∀ F' H' s', Rel K g F' H' s' r' → E.bk s' H'
  | .ct r' => ∀ F' H' s', Rel K g F' H' s' r' → E.ct s' H'
  | .bad => False
  | .ex x r' => exW K g x r'
theorem SPz.post {K : PySem.W.Frag} {g : G} {E : Ends} {x : SRs} (F : Hp) (h : SPz K g E x) : SPost K g F E x := by
  cases x with
  | nx r => exact fun F' H' s' _ R => h F' H' s' R
  | rt o r => exact fun F' H' s' v _ R => h F' H' s' v R
  | bk r => exact fun F' H' s' _ R => h F' H' s' R
  | ct r => exact fun F' H' s' _ R => h F' H' s' R
  | bad => exact h
  | ex x r => exact h
section
variable {X : Cx} {g : G} {c : Expr} {x : Str} {p apos cpos pos : Pos} {st : Stmt} {sts sa sb : List Stmt}
/-- flat values alone -/
def keepF : Option OV → Option OV
  | some (.sh d) => if d.flt = true then some (.sh d) else none
  | _ => none
end
section
variable {P : Program} {w : World} {K : PySem.W.Frag} {mg : Str → Option Value} {base : Heap}
end
end DL

/-! Data layer, part 92: {k: v, ..} as a dict of nobody's; defs with the bag that end with return {..}. -/
namespace L2
open PySem PySem.Spec PyProof.Rows
end L2
namespace DL
open PySem L2
section
variable {X : Cx} {g : G} {pos : Pos} {e : Expr} {st : Stmt} {sts : List Stmt}
/-! ### bodies that end with: return e, e a dict of nobody's -/
end
section
variable {P : Program} {w : World} {K : PySem.W.Frag} {mg : Str → Option Value} {base : Heap}
end
end DL

/-! Data layer, part 93: xs.extend(t), t a tuple. -/
namespace PySem.AutoSeq1
open PySem PySem.Spec
end PySem.AutoSeq1
namespace L2
open PySem PySem.Spec PyProof.Rows
end L2
namespace DL
open PySem L2
section
variable {X : Cx} {g : G} {e : Expr} {pos apos cpos p : Pos} {x : Str}
def extFT (d : D) : List D → Option (List D) := fun xs => match d with
  | .lst ys => if xs.length + ys.length ≤ 1000000 then some (xs ++ ys) else none
  | .tup ys => if xs.length + ys.length ≤ 1000000 then some (xs ++ ys) else none
  | _ => none
def extST (i : Nat) (f : En → Rs D) : En → SRs := fun r => thenS (fillW r i) fun _ r => thenS (f r) fun d r1 => chgS i (extFT d) r1
end
end DL

/-! Data layer, part 94: a def that returns a list out of a dict of its own: the list is told apart from what was passed by what is in it. -/
namespace DL
open PySem L2
/- tuples of flat values -/
mutual
def D.tfl : D → Bool
  | .tup xs => tflAll xs
  | .non => true
  | .bl _ => true
  | .int _ => true
  | .str _ => true
  | _ => false
def tflAll : List D → Bool
  | [] => true
  | d :: ds => d.tfl && tflAll ds
end
/-- what a heap's readings are alike in -/
structure Sep (K : PySem.W.Frag) (H : Hp) : Prop where
  inj : ∀ a xs ys, SqT K H a xs → SqT K H a ys → xs = ys
  off : ∀ a xs ys, H a = some (.lst xs) → SqT K H a ys → False
section
variable {w : World} {K : PySem.W.Frag} {F H : Hp}
open Classical in
end
section
variable {P : Program} {w : World} {K : PySem.W.Frag} {mg : Str → Option Value} {base : Heap}
end
end DL

/-! Data layer, part 95: the table of a def's code, from what is written down of it. -/
namespace DL
open PySem L2
end DL

/-! Data layer, part 96: defs that are given a list for good and change it. -/
namespace DL
open PySem L2
section
variable {X : Cx} {g : G} {x y : Str} {a : Expr} {pos p0 p1 p2 py p6 p7 p8 p10 apos cpos bpos : Pos}
end
/-! ### f(x), x the caller's own list, given away -/
def spC (K : PySem.W.Frag) (f : List D → Option D) : Sp := fun vs H Q _ => ∃ F a vb bs d, vs = [.ref a] ∧ Same F H ∧ F a = none ∧ H a = some (.lst vb) ∧ RDs K F vb bs ∧ f bs = some d ∧ d.flt = true ∧
  ∀ H' v, (∀ b o, H b = some o → b ≠ a → H' b = some o) → RD K F v d → Q v H'
section
variable {P : Program} {w : World} {K : PySem.W.Frag} {mg : Str → Option Value} {base : Heap}
end
structure HasC (P : Program) (w : World) (K : PySem.W.Frag) (mg : Str → Option Value) (base : Heap) (k : Nat) (x : Str) (f : List D → Option D) : Prop where
  ex : ∃ fa fd ps, FnG P w K mg base CX0 k fa fd ps (spC K f) ∧ mg x = some (.ref fa) ∧ PySem.W.keepIn K (.ref fa) = true ∧ Binds K fd ps []
section
variable {X : Cx} {g : G} {k : Nat} {x : Str} {p pos : Pos}
end
end DL

/-! Data layer, part 97: raise C(), C an error class of the program's own without __init__. -/
namespace DL
open PySem L2 PyProof.Rows
/-- the error class c over ValueError, without an __init__ of its own -/
structure HasE0 (K : PySem.W.Frag) (mg : Str → Option Value) (c : Str) : Prop where
  ex : ∃ C, mg c = some (.ref C) ∧ ClsAt K c C ∧ PySem.W.excIn K C [.type "ValueError", .type "Exception", .type "BaseException", .type "object"] "ValueError.__new__" = true ∧ PySem.W.keepIn K (.ref C) = true ∧ PySem.W.subIn K (.ref C) (.type "BaseException") = some true ∧ PySem.W.typeIn K (.ref C) = some (.type "type")
def raise0S (c : Str) : En → SRs := fun r => .ex ⟨c, []⟩ r
section
variable {X : Cx} {g : G} {p pos pos2 : Pos} {c : Str}
end
end DL

/-! Data layer, part 98: the lists within a thing, by their addresses; a def that collects them. -/
namespace DL
open PySem L2
def D.isFl : D → Bool
  | .non | .bl _ | .int _ | .str _ => true
  | _ => false
mutual
/-- v is read as d; the lists within it, outermost first -/
inductive LR (K : PySem.W.Frag) (F : Hp) : V → D → List Addr → Prop
  | flat {v : V} {d : D} : d.isFl = true → RD K F v d → LR K F v d []
  | lst {a : Addr} {xs : List V} {ds : List D} {ls : List (List Addr)} : F a = some (.lst xs) → LRs K F xs ds ls → LR K F (.ref a) (.lst ds) (a :: ls.flatten)
  | tup {a : Addr} {xs : List V} {ds : List D} {ls : List (List Addr)} : SqT K F a xs → LRs K F xs ds ls → LR K F (.ref a) (.tup ds) ls.flatten
inductive LRs (K : PySem.W.Frag) (F : Hp) : List V → List D → List (List Addr) → Prop
  | nil : LRs K F [] [] []
  | cons {v : V} {vs : List V} {d : D} {ds : List D} {l : List Addr} {ls : List (List Addr)} : LR K F v d l → LRs K F vs ds ls → LRs K F (v :: vs) (d :: ds) (l :: ls)
end
section
variable {K : PySem.W.Frag} {F F' : Hp}
mutual
theorem LR.rd : ∀ {v : V} {d : D} {l : List Addr}, LR K F v d l → RD K F v d
  | _, _, _, .flat _ h => h
  | _, _, _, .lst h1 h2 => .lst h1 (LRs.rd h2)
  | _, _, _, .tup h1 h2 => .tup h1 (LRs.rd h2)
theorem LRs.rd : ∀ {v : List V} {d : List D} {l : List (List Addr)}, LRs K F v d l → RDs K F v d
  | _, _, _, .nil => .nil
  | _, _, _, .cons h1 h2 => .cons (LR.rd h1) (LRs.rd h2)
end
mutual
theorem LR.mono (e : Same F F') : ∀ {v : V} {d : D} {l : List Addr}, LR K F v d l → LR K F' v d l
  | _, d, _, .flat h1 h => .flat h1 (RD.mono e d h)
  | _, _, _, .lst h1 h2 => .lst (e _ _ h1) (LRs.mono e h2)
  | _, _, _, .tup h1 h2 => .tup (same_sqT e h1) (LRs.mono e h2)
theorem LRs.mono (e : Same F F') : ∀ {v : List V} {d : List D} {l : List (List Addr)}, LRs K F v d l → LRs K F' v d l
  | _, _, _, .nil => .nil
  | _, _, _, .cons h1 h2 => .cons (LR.mono e h1) (LRs.mono e h2)
end
theorem LRs.get : ∀ {vs : List V} {ds : List D} {ls : List (List Addr)} {i : Nat} {x : V}, LRs K F vs ds ls → vs[i]? = some x → ∃ d l, ds[i]? = some d ∧ ls[i]? = some l ∧ LR K F x d l
  | _, _, _, _, _, .nil, e => by cases e
  | _, _, _, 0, _, .cons h1 _, e => by cases e; exact ⟨_, _, rfl, rfl, h1⟩
  | _, _, _, i + 1, _, .cons _ h2, e => LRs.get (i := i) h2 e
theorem LRs.len : ∀ {vs : List V} {ds : List D} {ls : List (List Addr)}, LRs K F vs ds ls → vs.length = ls.length
  | _, _, _, .nil => rfl
  | _, _, _, .cons _ h => by rw [List.length_cons, List.length_cons, LRs.len h]
end
mutual
theorem LR.mem' {K : PySem.W.Frag} {F : Hp} : ∀ {v : V} {d : D} {l : List Addr}, LR K F v d l → ∀ c ∈ l, ∃ xs ds ls, F c = some (.lst xs) ∧ LRs K F xs ds ls ∧ ∀ b ∈ ls.flatten, b ∈ l
  | _, _, _, .flat _ _, c, hc => nomatch hc
  | _, _, _, .lst h1 h2, c, hc => by
    rcases List.mem_cons.mp hc with rfl | hc
    · exact ⟨_, _, _, h1, h2, fun b hb => List.mem_cons_of_mem _ hb⟩
    · obtain ⟨xs, ds, ls, e1, e2, e3⟩ := LRs.mem' h2 c hc
      exact ⟨xs, ds, ls, e1, e2, fun b hb => List.mem_cons_of_mem _ (e3 b hb)⟩
  | _, _, _, .tup h1 h2, c, hc => LRs.mem' h2 c hc
theorem LRs.mem' {K : PySem.W.Frag} {F : Hp} : ∀ {v : List V} {d : List D} {l : List (List Addr)}, LRs K F v d l → ∀ c ∈ l.flatten, ∃ xs ds ls, F c = some (.lst xs) ∧ LRs K F xs ds ls ∧ ∀ b ∈ ls.flatten, b ∈ l.flatten
  | _, _, _, .nil, c, hc => nomatch hc
  | _, _, _, .cons h1 h2, c, hc => by
    rw [List.flatten_cons] at hc ⊢
    rcases List.mem_append.mp hc with hc | hc
    · obtain ⟨xs, ds, ls, e1, e2, e3⟩ := LR.mem' h1 c hc
      exact ⟨xs, ds, ls, e1, e2, fun b hb => List.mem_append_left _ (e3 b hb)⟩
    · obtain ⟨xs, ds, ls, e1, e2, e3⟩ := LRs.mem' h2 c hc
      exact ⟨xs, ds, ls, e1, e2, fun b hb => List.mem_append_right _ (e3 b hb)⟩
end
/-! ### tests of the first name's datum -/
section
variable {X : Cx} {e : Expr} {f : En → Rs Bool} {n : Nat}
end
/-! ### the lists within x -/
/-- f(x): a new list of the lists within x -/
def spLs (K : PySem.W.Frag) (n : Nat) : Sp := fun vs H Q _ => ∃ F v d l, vs = [v] ∧ Same F H ∧ LR K F v d l ∧ d.dp < n ∧ l.length ≤ 1000 ∧ ∀ H' p, Same H H' → H p = none → H' p = some (.lst (l.map V.ref)) → Q (.ref p) H'
section
variable {P : Program} {w : World} {K : PySem.W.Frag} {mg : Str → Option Value} {base : Heap}
end
structure HasLs (P : Program) (w : World) (K : PySem.W.Frag) (mg : Str → Option Value) (base : Heap) (k : Nat) (x : Str) (n : Nat) : Prop where
  ex : ∃ fa fd ps, FnG P w K mg base CX0 k fa fd ps (spLs K n) ∧ mg x = some (.ref fa) ∧ PySem.W.keepIn K (.ref fa) = true ∧ Binds K fd ps []
end DL

/-! Data layer, part 99: values whose lists are new and stand once; defs that give such values; heard of them. -/
namespace DL
open PySem PySem.Spec PyProof.Rows L2
/-- the lists within v stand once, and none of them was frozen in F -/
def Tr (K : PySem.W.Frag) (F F' : Hp) (v : V) (d : D) : Prop := ∃ l, LR K F' v d l ∧ l.Nodup ∧ ∀ c ∈ l, F c = none
section
variable {K : PySem.W.Frag} {F F' F1 F2 : Hp} {v : V} {d : D}
mutual
theorem tfl_LR : ∀ {d : D} {v : V}, d.tfl = true → RD K F v d → LR K F v d []
  | .non, _, _, h => .flat rfl h
  | .bl _, _, _, h => .flat rfl h
  | .int _, _, _, h => .flat rfl h
  | .str _, _, _, h => .flat rfl h
  | .tup ds, _, t, .tup h1 h2 => by
    obtain ⟨ls, e1, e2⟩ := tflAll_LR t h2
    rw [← e2]
    exact .tup h1 e1
  | .lst _, _, t, _ => by cases t
  | .dic _, _, t, _ => by cases t
  | .scr _, _, t, _ => by cases t
  | .obj _ _, _, t, _ => by cases t
theorem tflAll_LR : ∀ {ds : List D} {vs : List V}, tflAll ds = true → RDs K F vs ds → ∃ ls, LRs K F vs ds ls ∧ ls.flatten = []
  | [], _, _, .nil => ⟨[], .nil, rfl⟩
  | d :: ds, _, t, .cons h1 h2 => by
    have t : (d.tfl && tflAll ds) = true := t
    rw [Bool.and_eq_true] at t
    obtain ⟨ls, e1, e2⟩ := tflAll_LR t.2 h2
    exact ⟨[] :: ls, .cons (tfl_LR t.1 h1) e1, by rw [List.flatten_cons, e2]; rfl⟩
end
theorem Tr.flat (t : d.tfl = true) (h : RD K F' v d) : Tr K F F' v d := ⟨[], tfl_LR t h, List.nodup_nil, fun c hc => nomatch hc⟩
theorem Tr.less (h : Tr K F1 F' v d) (s : Same F F1) : Tr K F F' v d := by
  obtain ⟨l, h1, h2, h3⟩ := h
  refine ⟨l, h1, h2, fun c hc => ?_⟩
  cases z : F c with
  | none => rfl
  | some o => have := h3 c hc; rw [s _ _ z] at this; cases this
theorem Tr.mono (h : Tr K F F' v d) (s : Same F' F2) : Tr K F F2 v d := by
  obtain ⟨l, h1, h2, h3⟩ := h
  exact ⟨l, h1.mono s, h2, h3⟩
theorem Tr.told {x : Str} {p : Addr} (h : Tr K F1 F' v d) (s : Same F F1) (sp : Same F' F2) (hp : SqT K F2 p [.str x, v]) : Tr K F F2 (.ref p) (.tup [.str x, d]) := by
  obtain ⟨l, h1, h2, h3⟩ := (h.less s).mono sp
  refine ⟨[[], l].flatten, .tup hp (.cons (.flat rfl (.str x)) (.cons h1 .nil)), by simpa using h2, fun c hc => h3 c (by simpa using hc)⟩
end
def PDt (K : PySem.W.Frag) (g : G) (F : Hp) (s : L2.St) (Q : VK) (d : D) (r' : En) : Prop := ∀ F0 F' H' v, Same F F0 → Same F0 F' → Rel K g F0 H' s r' → Rel K g F' H' s r' → RD K F' v d → Tr K F0 F' v d → Q v H'
theorem Rel.keepF {K : PySem.W.Frag} {g : G} {F1 H1 H' : Hp} {s : L2.St} {r1 : En} (R1 : Rel K g F1 H1 s r1) (s3 : Same H1 H') : Rel K g F1 H' s r1 :=
  R1.after (Same.refl _) (R1.sub.trans s3) (fun b o e e0 => by rw [e0] at e; cases e) s3
/-! ### defs that may raise and give such a value -/
def QXt (K : PySem.W.Frag) (F H : Hp) (Q : VK) (E : XK) : FR → Prop
  | .ok (.sh d) => ∀ F' H' v, Same F F' → Same F' H' → Fresh F F' H → Same H H' → RD K F' v d → Tr K F F' v d → Q v H'
  | .ex x => ∀ F' H' cls d, Same F F' → Same F' H' → Fresh F F' H → Same H H' → RX K F' cls d x → E cls d H'
  | _ => False
def spXt (K : PySem.W.Frag) (n : Nat) (f : List D → FR) : Sp := fun vs H Q E => ∃ F ds, Same F H ∧ RDs K F vs ds ∧ ds.length = n ∧ QXt K F H Q E (f ds)
structure HasXt (P : Program) (w : World) (K : PySem.W.Frag) (mg : Str → Option Value) (base : Heap) (k : Nat) (x : Str) (n : Nat) (f : List D → FR) : Prop where
  ex : ∃ fa fd ps, FnG P w K mg base (L2.CX P w) k fa fd ps (spXt K n f) ∧ mg x = some (.ref fa) ∧ PySem.W.keepIn K (.ref fa) = true ∧ Binds K fd ps []
def frT (z : FR) (r : En) : Rs D := match z with
  | .ok (.sh d) => .ok d r
  | .ex x => .ex x r
  | _ => .bad
theorem QXt.of {K : PySem.W.Frag} {g : G} {F F1 H1 : Hp} {s : L2.St} {r1 : En} {Q : VK} {z : FR} (R1 : Rel K g F1 H1 s r1) (sm : Same F F1) (q : post K g (PDt K g F s Q) (frT z r1)) : QXt K F1 H1 Q (WG g s) z := by
  cases z with
  | ok o =>
    cases o with
    | sh d => exact fun F' H' v s1 s2 fr s3 hv ht => q F1 F' H' v sm s1 (R1.keepF s3) (R1.after s1 s2 fr s3) hv ht
    | _ => exact (show False from q)
  | ex x =>
    intro F' H' cls d s1 s2 fr s3 hx
    have q : exW K g x r1 := q
    unfold exW at q
    unfold WG
    revert q
    cases g.W with
    | none => exact fun q => q
    | some W => exact fun q => q F' H' s cls d (R1.after s1 s2 fr s3) hx
  | bad => exact (show False from q)
section
variable {X : Cx} {g : G} {k n : Nat} {x : Str} {p pos : Pos} {e : Expr} {es : List Expr}
end
/-! ### heard -/
section
variable {X : Cx} {g : G} {k : Nat} {x : Str} {ct : Str → Option Bool} {fe : Exn → Option D} {c P : Addr} {params : Arguments} {body : Expr} {scope : Scope} {p lpos pos : Pos} {f : En → Rs D}
end
end DL

/-! Data layer, part 100: a name whose value's lists are new and stand once, kept apart from all else. -/
namespace DL
open PySem L2
/-- slot i's value is read in F, all else in F0 -/
structure RelT (K : PySem.W.Frag) (g : G) (i : Nat) (F0 F H : Hp) (s : St) (r : En) (v : V) (d : D) : Prop where
  R0 : Rel K g F0 H s (r.set i none)
  sF : Same F0 F
  sH : Same F H
  at_ : s[i]? = some (some v)
  tr : Tr K F0 F v d
  own : ∀ (j : Nat) (o : OV) (a : Addr), (r.set i none)[j]? = some (some o) → o.own = true → s[j]? = some (some (.ref a)) → F a = none
  bb : ∀ p ∈ g.B, F p.2 = none
  tt : ∀ p ∈ g.T, F p.1 = none
  xx : ∀ p ∈ g.X, F p.1 = none
  fn : ∀ b u, F b = some u → F0 b = none → g.H0 b = none
/-- with all of F kept -/
def G.reb (g : G) (F0 F : Hp) : G := { g with F0 := F0, H0 := fun b => match F b with | some o => some o | none => g.H0 b }
section
variable {K : PySem.W.Frag} {g : G} {i : Nat} {F0 F H F0' H' : Hp} {s : St} {r r1 : En} {v : V} {d : D}
theorem reb_some {b : Addr} {o : HO} (e : F b = some o) : (g.reb F0 F).H0 b = some o := by
  show (match F b with | some o => some o | none => g.H0 b) = _
  rw [e]
theorem reb_none {b : Addr} (e : F b = none) : (g.reb F0 F).H0 b = g.H0 b := by
  show (match F b with | some o => some o | none => g.H0 b) = _
  rw [e]
theorem RelT.base (T : RelT K g i F0 F H s r v d) : Rel K (g.reb F0 F) F0 H s (r.set i none) := by
  have R := T.R0
  refine ⟨R.sub, Same.refl _, fun b o e z => ?_, fun b o e hb ht => ?_, R.slot, fun j o a e eo ea => ?_, R.dist, R.pin, R.len, fun p hp => ?_, R.ext⟩
  · have z : F0 b = none := z
    rw [z] at e; cases e
  · cases z : F b with
    | some u =>
      rw [reb_some z] at e
      cases e
      exact T.sH _ _ z
    | none =>
      rw [reb_none z] at e
      exact R.keep b o e hb ht
  · rw [reb_none (T.own j o a e eo ea)]
    exact R.own j o a e eo ea
  · obtain ⟨t1, t2, t3, t4⟩ := R.tb p hp
    exact ⟨t1, by rw [reb_none (T.tt p hp)]; exact t2, t3, t4⟩
/-- the lists of slot i's value changed -/
theorem RelT.gone (T : RelT K g i F0 F H s r v d) (hk : ∀ b o, H b = some o → (∀ xs, F b ≠ some (.lst xs)) → H' b = some o) (h0 : ∀ b xs, F0 b = some (.lst xs) → H' b = some (.lst xs)) : Rel K g F0 H' s (r.set i none) := by
  have R := T.R0
  have off : ∀ {b : Addr}, F b = none → ∀ o, H b = some o → H' b = some o := fun {b} z o e => hk b o e fun xs h => by rw [z] at h; cases h
  have sub : Same F0 H' := fun b o e => by
    by_cases h : ∃ xs, o = .lst xs
    · obtain ⟨xs, rfl⟩ := h
      exact h0 b xs e
    · exact hk b o (R.sub _ _ e) fun xs z => h ⟨xs, by rw [T.sF _ _ e] at z; exact Option.some.inj z⟩
  refine ⟨sub, R.f0, R.fnew, fun b o e hb ht => ?_, fun j u e => ?_, R.own, R.dist, R.pin, R.len, R.tb.go (fun _ _ e => e) (fun p hp => (R.tb p hp).1) fun p hp ps z => off (T.tt p hp) _ z, fun p hp => ?_⟩
  · have hH := R.keep b o e hb ht
    by_cases h : ∃ xs, F b = some (.lst xs)
    · obtain ⟨xs, h⟩ := h
      cases z : F0 b with
      | some u =>
        have h2 := T.sF _ _ z
        rw [h] at h2
        cases h2
        have := T.sH _ _ h
        rw [hH] at this
        cases this
        exact h0 b xs z
      | none =>
        have := T.fn b _ h z
        rw [e] at this
        cases this
    · exact hk b o hH fun xs z => h ⟨xs, z⟩
  · obtain ⟨v2, w1, w2⟩ := R.slot j u e
    refine ⟨v2, w1, ?_⟩
    have ofo : ∀ {b : Addr} {o : HO}, u.own = true → v2 = .ref b → H b = some o → H' b = some o := fun {b o} uo ev hbo => off (T.own j u b e uo (by rw [w1, ev])) _ hbo
    cases u with
    | sh d => exact w2
    | ow xs => obtain ⟨b, ws, e1, e2, e3, e4⟩ := w2; exact ⟨b, ws, e1, e2, ofo rfl e1 e3, e4⟩
    | od xs => obtain ⟨b, ws, e1, e2, e3, e4⟩ := w2; exact ⟨b, ws, e1, e2, ofo rfl e1 e3, e4⟩
    | oi c xs => obtain ⟨b, ws, e1, e2, e3, e4⟩ := w2; exact ⟨b, ws, e1, e2, ofo rfl e1 e3, e4⟩
    | th xs => obtain ⟨b, ws, e1, e2, e3, e4⟩ := w2; exact ⟨b, ws, e1, e2, ofo rfl e1 e3, e4⟩
    | exc c => exact w2
  · obtain ⟨x1, x2, x3⟩ := R.ext p hp
    exact ⟨off (T.xx p hp) _ x1, x2, x3⟩
end
end DL

/-! Data layer, part 101: such a name given, kept through calls that change nothing and through tests. -/
namespace DL
open PySem L2
section
variable {K : PySem.W.Frag} {g : G} {i : Nat} {F0 F H H' : Hp} {s : St} {r : En} {v : V} {d : D}
theorem RelT.mk' (R0 : Rel K g F0 H s r) (R : Rel K g F H s r) (sF : Same F0 F) (ht : Tr K F0 F v d) (hi : i < s.length) (hb : ∀ p ∈ g.B, p.1 ≠ i) : RelT K g i F0 F H (s.set i (some v)) (r.set i none) v d := by
  have fw : ∀ {F : Hp}, Rel K g F H s r → Rel K g F H (s.set i (some v)) (r.set i none) := fun R => R.forget (vs := [i]) (fun p hp z => hb p hp (List.mem_singleton.mp z)) (List.length_set ..) fun j hj => List.getElem?_set_ne fun z => hj (List.mem_singleton.mpr z.symm)
  have ee : (r.set i none).set i none = r.set i none := List.set_set ..
  have R2 := fw R
  have ow : ∀ (j : Nat) (o : OV) (a : Addr), (r.set i none)[j]? = some (some o) → o.own = true → (s.set i (some v))[j]? = some (some (.ref a)) → F a = none := fun j o a e eo ea => by
    obtain ⟨v2, w1, w2⟩ := R2.slot j o e
    rw [ea] at w1
    cases w1
    cases o with
    | sh _ => cases eo
    | ow _ => obtain ⟨b, _, e1, e2, _⟩ := w2; cases e1; exact e2
    | od _ => obtain ⟨b, _, e1, e2, _⟩ := w2; cases e1; exact e2
    | oi _ _ => obtain ⟨b, _, e1, e2, _⟩ := w2; cases e1; exact e2
    | th _ => obtain ⟨b, _, e1, e2, _⟩ := w2; cases e1; exact e2
    | exc _ => cases eo
  refine ⟨by rw [ee]; exact fw R0, sF, R.sub, List.getElem?_set_self hi, ht, fun j o a e eo ea => ow j o a (by rw [ee] at e; exact e) eo ea, fun p hp => ?_, fun p hp => (R2.tb p hp).1, fun p hp => (R2.ext p hp).2.1, fun b u e z => R.fnew b u e ?_⟩
  · obtain ⟨p1, o, p2, p3⟩ := R2.pin p hp
    exact ow _ o _ p2 p3 p1
  · cases z0 : g.F0 b with
    | none => rfl
    | some w => rw [R0.f0 _ _ z0] at z; cases z
theorem RelT.keep (T : RelT K g i F0 F H s r v d) (k : Same H H') : RelT K g i F0 F H' s r v d :=
  ⟨T.R0.keepF k, T.sF, T.sH.trans k, T.at_, T.tr, T.own, T.bb, T.tt, T.xx, T.fn⟩
/-- of g alone what a rule may ask -/
structure Lk (g g' : G) : Prop where
  B : g'.B = g.B
  w : g'.w = g.w
  W : g'.W = g.W
  xc : g'.xc = g.xc
  T : g'.T = g.T
  X : g'.X = g.X
end
end DL

/-! Data layer, part 102: a list of new lists is made beside all else. -/
namespace DL
open PySem L2
section
variable {K : PySem.W.Frag} {g : G} {i j : Nat} {F0 F F' H H' : Hp} {s : St} {r : En} {v w : V} {d : D} {p c : Addr}
/-- another name gets a value -/
theorem RelT.put {o : OV} (T : RelT K g i F0 F H s r v d) (hj : j ≠ i) (hb : ∀ p ∈ g.B, p.1 ≠ j) (hv : RV K g F0 H s (r.set i none) w o) (hF : o.own = true → ∀ a, w = .ref a → F a = none) : RelT K g i F0 F H (s.set j (some w)) (r.set j (some o)) v d := by
  have ee : (r.set j (some o)).set i none = (r.set i none).set j (some o) := List.set_comm _ _ hj
  refine ⟨by rw [ee]; exact T.R0.set hb hv, T.sF, T.sH, by rw [List.getElem?_set_ne hj]; exact T.at_, T.tr, fun k u a e eo ea => ?_, T.bb, T.tt, T.xx, T.fn⟩
  rw [ee] at e
  by_cases hk : j = k
  · subst hk
    have hlt : j < (r.set i none).length := by
      have := (List.getElem?_eq_some_iff.mp e).1
      rwa [List.length_set] at this
    rw [List.getElem?_set_self hlt] at e
    cases e
    rw [List.getElem?_set_self (by rw [← T.R0.len]; exact hlt)] at ea
    cases ea
    exact hF eo a rfl
  · rw [List.getElem?_set_ne hk] at e ea
    exact T.own k u a e eo ea
/-- x = [] -/
theorem RelT.new (R : Rel K g F0 H s r) (np : H p = none) (hi : i < s.length) (hb : ∀ p ∈ g.B, p.1 ≠ i) : RelT K g i F0 (L2.upd F0 p (.lst [])) (L2.upd H p (.lst [])) (s.set i (some (.ref p))) (r.set i none) (.ref p) (.lst []) :=
  RelT.mk' (R.laid np) (R.alloc np) (same_upd (R.ff np)) ⟨[p], .lst upd_same .nil, by simp, fun c hc => by rw [List.mem_singleton.mp hc]; exact R.ff np⟩ hi hb
mutual
theorem LR.off (k : ∀ b o, F b = some o → b ≠ p → F' b = some o) {zs : List V} (hp : F p = some (.lst zs)) : ∀ {v : V} {d : D} {l : List Addr}, LR K F v d l → p ∉ l → LR K F' v d l
  | _, .non, _, .flat h h2, _ => by cases h2; exact .flat h .non
  | _, .bl _, _, .flat h h2, _ => by cases h2; exact .flat h (.bl _)
  | _, .int _, _, .flat h h2, _ => by cases h2; exact .flat h (.int _)
  | _, .str _, _, .flat h h2, _ => by cases h2; exact .flat h (.str _)
  | _, .lst _, _, .flat h _, _ => by cases h
  | _, .tup _, _, .flat h _, _ => by cases h
  | _, .dic _, _, .flat h _, _ => by cases h
  | _, .scr _, _, .flat h _, _ => by cases h
  | _, .obj _ _, _, .flat h _, _ => by cases h
  | _, _, _, .lst h1 h2, n => .lst (k _ _ h1 fun z => n (by rw [z]; exact List.mem_cons_self)) (LRs.off k hp h2 fun z => n (List.mem_cons_of_mem _ z))
  | _, _, _, .tup h1 h2, n => .tup (by
    rcases h1 with (h1 | ⟨o, h1⟩) | h1
    · exact .inl (.inl (k _ _ h1 fun z => by rw [z, hp] at h1; cases h1))
    · exact .inl (.inr ⟨o, k _ _ h1 fun z => by rw [z, hp] at h1; cases h1⟩)
    · exact .inr h1) (LRs.off k hp h2 n)
theorem LRs.off (k : ∀ b o, F b = some o → b ≠ p → F' b = some o) {zs : List V} (hp : F p = some (.lst zs)) : ∀ {v : List V} {d : List D} {l : List (List Addr)}, LRs K F v d l → p ∉ l.flatten → LRs K F' v d l
  | _, _, _, .nil, _ => .nil
  | _, _, _, .cons h1 h2, n => by
    rw [List.flatten_cons, List.mem_append] at n
    exact .cons (LR.off k hp h1 fun z => n (.inl z)) (LRs.off k hp h2 fun z => n (.inr z))
end
theorem LRs.app : ∀ {vs ws : List V} {ds es : List D} {ls ms : List (List Addr)}, LRs K F vs ds ls → LRs K F ws es ms → LRs K F (vs ++ ws) (ds ++ es) (ls ++ ms)
  | _, _, _, _, _, _, .nil, h => h
  | _, _, _, _, _, _, .cons h1 h2, h => .cons h1 (LRs.app h2 h)
/-- x.append(y), y another name's own list of flat things -/
theorem RelT.app {ds es : List D} (T : RelT K g i F0 F H s r (.ref p) (.lst ds)) (hj : (r.set i none)[j]? = some (some (.ow es))) (ht : tflAll es = true) (hb : ∀ p ∈ g.B, p.1 ≠ j) : ∃ vs c, H p = some (.lst vs) ∧ vs.length = ds.length ∧ s[j]? = some (some (.ref c)) ∧
    ∃ F', RelT K g i F0 F' (L2.upd H p (.lst (vs ++ [.ref c]))) s (r.set j none) (.ref p) (.lst (ds ++ [.lst es])) := by
  have R := T.R0
  obtain ⟨l, h1, nd, nf⟩ := T.tr
  cases h1 with
  | flat z _ => cases z
  | @lst _ vs _ ls hp hL =>
    obtain ⟨v2, w1, c, ws, rfl, c1, c2, c3⟩ := R.slot j _ hj
    have fc : F c = none := T.own j _ c hj rfl w1
    have hcp : c ≠ p := fun z => by rw [z, hp] at fc; cases fc
    have f0p : F0 p = none := nf p List.mem_cons_self
    have hc0 : g.H0 c = none := (R.own j _ c hj rfl w1).resolve_right fun z => hb _ z rfl
    have Hp : H p = some (.lst vs) := T.sH _ _ hp
    refine ⟨vs, c, Hp, hL.rd.length, w1, L2.upd (L2.upd F c (.lst ws)) p (.lst (vs ++ [.ref c])), ?_⟩
    have R1 : Rel K g F0 (L2.upd H p (.lst (vs ++ [.ref c]))) s (r.set i none) := T.gone (fun b o e hn => by
      rw [upd_ne fun z => hn vs (by rw [z]; exact hp)]; exact e) fun b xs e => by
      rw [upd_ne fun z => by rw [z, f0p] at e; cases e]
      exact R.sub _ _ e
    have ee : (r.set j none).set i none = (r.set i none).set j none := by
      by_cases h : j = i
      · subst h; rfl
      · exact List.set_comm _ _ h
    have R2 : Rel K g F0 (L2.upd H p (.lst (vs ++ [.ref c]))) s ((r.set i none).set j none) := R1.forget (vs := [j]) (fun p hp z => hb p hp (List.mem_singleton.mp z)) rfl fun _ _ => rfl
    have other : ∀ (k : Nat) (o : OV) (a : Addr), ((r.set i none).set j none)[k]? = some (some o) → o.own = true → s[k]? = some (some (.ref a)) → a ≠ p ∧ a ≠ c ∧ F a = none := fun k o a e eo ea => by
      have hk : j ≠ k := fun z => by
        subst z
        rw [List.getElem?_set_self (List.getElem?_eq_some_iff.mp hj).1] at e
        cases e
      rw [List.getElem?_set_ne hk] at e
      have fa := T.own k o a e eo ea
      exact ⟨fun z => (by rw [z, hp] at fa; cases fa), fun z => R.dist j k _ o c hk hj rfl e eo w1 (by rw [ea, z]), fa⟩
    have no2 : ∀ {b : Addr}, b ≠ p → b ≠ c → F b = none → L2.upd (L2.upd F c (.lst ws)) p (.lst (vs ++ [.ref c])) b = none := fun {b} z1 z2 z => by
      rw [upd_ne z1, upd_ne z2]; exact z
    have sF' : Same F0 (L2.upd (L2.upd F c (.lst ws)) p (.lst (vs ++ [.ref c]))) := fun b o e => by
      have z1 : b ≠ p := fun z => by rw [z, f0p] at e; cases e
      have z2 : b ≠ c := fun z => by rw [z, c1] at e; cases e
      rw [upd_ne z1, upd_ne z2]
      exact T.sF _ _ e
    have hpl : p ∉ ls.flatten := (List.nodup_cons.mp nd).1
    refine ⟨by rw [ee]; exact R2, sF', fun b o e => ?_, T.at_, ?_, fun k o a e eo ea => ?_, fun q hq => ?_, fun q hq => ?_, fun q hq => ?_, fun b u e z => ?_⟩
    · by_cases h1 : b = p
      · subst h1; rw [upd_same] at e ⊢; exact e
      · rw [upd_ne h1] at e ⊢
        by_cases h2 : b = c
        · subst h2; rw [upd_same] at e; rw [← e]; exact c2
        · rw [upd_ne h2] at e; exact T.sH _ _ e
    · obtain ⟨ms, m1, m2⟩ := tflAll_LR ht c3
      have L1 : LRs K (L2.upd (L2.upd F c (.lst ws)) p (.lst (vs ++ [.ref c]))) vs ds ls := hL.off (p := p) (fun b o e h => by
        have z2 : b ≠ c := fun z => by rw [z, fc] at e; cases e
        rw [upd_ne h, upd_ne z2]; exact e) hp hpl
      have L2' : LR K (L2.upd (L2.upd F c (.lst ws)) p (.lst (vs ++ [.ref c]))) (.ref c) (.lst es) (c :: ms.flatten) := .lst (by rw [upd_ne hcp, upd_same]) (m1.mono sF')
      rw [m2] at L2'
      have L3 := L1.app (.cons L2' .nil)
      refine ⟨_, .lst upd_same L3, ?_, fun b hb => ?_⟩
      · have cn : c ∉ p :: ls.flatten := fun z => by
          rcases List.mem_cons.mp z with z | z
          · exact hcp z
          · obtain ⟨xs, _, _, e, _⟩ := LRs.mem' hL c z
            rw [fc] at e; cases e
        rw [List.flatten_append]
        simp only [List.flatten_cons, List.flatten_nil, List.append_nil]
        rw [← List.cons_append]
        refine List.nodup_append.mpr ⟨nd, by simp, fun a ha b hb z => ?_⟩
        rw [List.mem_singleton.mp hb] at z
        exact cn (z ▸ ha)
      · rw [List.flatten_append] at hb
        simp only [List.flatten_cons, List.flatten_nil, List.append_nil] at hb
        rcases List.mem_cons.mp hb with rfl | hb
        · exact f0p
        · rcases List.mem_append.mp hb with hb | hb
          · exact nf b (List.mem_cons_of_mem _ hb)
          · rw [List.mem_singleton.mp hb]; exact c1
    · rw [ee] at e
      obtain ⟨z1, z2, z3⟩ := other k o a e eo ea
      exact no2 z1 z2 z3
    · obtain ⟨p1, o, p2, p3⟩ := R2.pin q hq
      obtain ⟨z1, z2, z3⟩ := other _ o _ p2 p3 p1
      exact no2 z1 z2 z3
    · have ft := T.tt q hq
      obtain ⟨_, t2, _⟩ := R.tb q hq
      exact no2 (fun z => by rw [z, hp] at ft; cases ft) (fun z => t2 (by rw [z]; exact hc0)) ft
    · have fx := T.xx q hq
      obtain ⟨_, _, x3⟩ := R.ext q hq
      exact no2 (fun z => by rw [z, hp] at fx; cases fx) (fun z => x3 j _ hj rfl (by rw [w1, z])) fx
    · by_cases h1 : b = p
      · subst h1; exact T.fn b _ hp z
      · rw [upd_ne h1] at e
        by_cases h2 : b = c
        · subst h2; exact hc0
        · rw [upd_ne h2] at e; exact T.fn b u e z
end
end DL

/-! Data layer, part 103: what else is done beside such a name. -/
namespace DL
open PySem L2
section
variable {X : Cx} {g : G} {i : Nat} {e : Expr}
end
end DL

/-! Data layer, part 104: rows of a def in which slot i's value is kept apart (its lists are new, each once). -/
namespace DL
open PySem L2
def TPost (K : PySem.W.Frag) (g : G) (i : Nat) (F0 : Hp) (E : Ends) : SRs → Prop
  | .nx r' => ∀ F0' F' H' s' v d, Same F0 F0' → RelT K g i F0' F' H' s' r' v d → r'[i]? = some (some (.sh d)) → E.nx s' H'
  | .ct r' => ∀ F0' F' H' s' v d, Same F0 F0' → RelT K g i F0' F' H' s' r' v d → r'[i]? = some (some (.sh d)) → E.ct s' H'
  | .bk r' => ∀ F0' F' H' s' v d, Same F0 F0' → RelT K g i F0' F' H' s' r' v d → r'[i]? = some (some (.sh d)) → E.bk s' H'
  | .rt (.sh b) r' => ∀ F0' F' H' s' w, Same F0 F0' → Same F0' F' → Rel K g F0' H' s' (r'.set i none) → Same F' H' → (∀ c u, F' c = some u → F0' c = none → g.H0 c = none) → RD K F' w b → Tr K F0' F' w b → E.rt w H'
  | .ex x r' => ∀ F0' H' s' cls dd, Same F0 F0' → Rel K g F0' H' s' (r'.set i none) → RX K F0' cls dd x → ∃ W, g.W = some W ∧ W cls dd s' H'
  | _ => False
theorem TPost.mono {K : PySem.W.Frag} {g : G} {i : Nat} {F0 F0' : Hp} {E : Ends} {x : SRs} (h : TPost K g i F0 E x) (e : Same F0 F0') : TPost K g i F0' E x := by
  cases x with
  | nx r => exact fun A B C D v d a => h A B C D v d (e.trans a)
  | ct r => exact fun A B C D v d a => h A B C D v d (e.trans a)
  | bk r => exact fun A B C D v d a => h A B C D v d (e.trans a)
  | rt o r =>
    cases o with
    | sh b => exact fun A B C D w a => h A B C D w (e.trans a)
    | _ => exact h
  | ex x r => exact fun A B C cls dd a => h A B C cls dd (e.trans a)
  | bad => exact h
theorem RelT.env {K : PySem.W.Frag} {g : G} {i : Nat} {F0 F H : Hp} {s : St} {r r' : En} {v : V} {d : D} (T : RelT K g i F0 F H s r v d) (e : r'.set i none = r.set i none) : RelT K g i F0 F H s r' v d :=
  ⟨by rw [e]; exact T.R0, T.sF, T.sH, T.at_, T.tr, fun j o a h => T.own j o a (by rw [← e]; exact h), T.bb, T.tt, T.xx, T.fn⟩
section
variable {X : Cx} {g : G} {i j : Nat} {st : Stmt} {sts rest : List Stmt} {c e : Expr} {pos : Pos}
end
end DL

/-! Data layer, part 105: for beside such a name; x.append(y). -/
namespace DL
open PySem L2
section
variable {X : Cx} {g : G} {i j : Nat} {tg iter : Expr} {body : List Stmt} {pos : Pos}
/-- a target that stores what is shared alone, not in slot i -/
structure TgOk (i : Nat) (ks : List Nat) (h : D → En → Option En) : Prop where
  ni : i ∉ ks
  own : ∀ d r r', h d r = some r' → ∀ k o, r'[k]? = some (some o) → o.own = true → r[k]? = some (some o) ∧ k ∉ ks
  emp : ∀ d r r', h d r = some r' → r'[i]? = r[i]?
end
end DL

/-! Data layer, part 106: x.append(y), raise, return x; how such a name begins. -/
namespace DL
open PySem L2
section
variable {X : Cx} {g : G} {i j : Nat} {st : Stmt} {rest : List Stmt}
end
end DL

/-! Data layer, part 107: calls with such a name among the arguments. -/
namespace DL
open PySem L2
section
variable {X : Cx} {g : G} {i j : Nat} {e : Expr} {es : List Expr}
end
end DL

/-! Data layer, part 108: if f(.., x, ..); a def that makes such a value. -/
namespace DL
open PySem L2
section
variable {X : Cx} {g : G} {i n : Nat} {c : Expr} {sa sb : List Stmt} {pos : Pos}
end
section
variable {P : Program} {w : World} {K : PySem.W.Frag} {mg : Str → Option Value} {base : Heap}
end
end DL

/-! Data layer, part 109: what a call beside such a name froze; a value of flat things among it. -/
namespace DL
open PySem L2
end DL

/-! Data layer, part 110: return (e, x); x = f(..) as a beginning. -/
namespace DL
open PySem L2
section
variable {X : Cx} {g : G} {i : Nat} {st : Stmt} {rest : List Stmt}
end
section
variable {P : Program} {w : World} {K : PySem.W.Frag} {mg : Str → Option Value} {base : Heap}
end
end DL

/-! Data layer, part 111: a list that a name owns, at a known address: handed on as itself. -/
namespace DL
open PySem L2
theorem itS_inj {a b : Addr} (h : itS a = itS b) : a = b := by
  unfold itS at h
  injection h with h
  have h2 : [0, a] = [0, b] := congrArg Array.toList h
  injection h2 with _ h2
  injection h2
/-- no name of the module begins with the sign 0 -/
def noZ (K : PySem.W.Frag) : Bool := match K.lookup mainGlobals with
  | some ⟨_, _, .dict es _, _⟩ => es.toList.all fun e => match e.key with
    | .str s _ => s.cps[0]? != some 0
    | _ => true
  | _ => true
theorem noZ_it {K : PySem.W.Frag} (h : noZ K = true) (p : Addr) : ∀ C, ¬ ClsAt K (itS p) C := fun C hc => by
  unfold noZ at h
  unfold ClsAt PySem.W.nsIn at hc
  split at hc
  · next es ep sl e =>
    rw [e] at h
    dsimp only at h
    cases hf : es.toList.find? (·.key.isStr (itS p)) with
    | none =>
      rw [hf] at hc
      dsimp only at hc
      split at hc <;> cases hc
    | some x =>
      have h1 := List.find?_some hf
      have h2 := List.all_eq_true.mp h x (List.mem_of_find?_eq_some hf)
      have h1 : x.key.isStr (itS p) = true := h1
      unfold Value.isStr at h1
      split at h1
      · next s t ek =>
        rw [ek] at h2
        have e3 : s = itS p := by simpa using h1
        rw [e3] at h2
        have h2 : ((some 0 : Option Nat) != some 0) = true := h2
        exact absurd h2 (by decide)
      · cases h1
  · cases hc
theorem RD.it_inv {K : PySem.W.Frag} {F : Hp} {v : V} {p : Addr} (hn : ∀ C, ¬ ClsAt K (itS p) C) (h : RD K F v (.obj (itS p) [])) : v = .ref p := by
  generalize e : D.obj (itS p) [] = d at h
  cases h with
  | obj k1 k2 k3 =>
    cases e
    exact absurd k1 (hn _)
  | it k =>
    injection e with e1 e2
    rw [itS_inj e1]
  | _ => cases e
/-- the very list of slot i -/
def itV (p : Addr) : En → Rs D := cD (.obj (itS p) [])
section
variable {K : PySem.W.Frag} {g : G} {F H : Hp} {s : St} {r : En} {i : Nat} {a : Addr} {xs : List D}
/-- with the address of slot i's list known -/
def G.at (g : G) (i : Nat) (a : Addr) : G := { g with B := (i, a) :: g.B }
theorem Rel.pinned (R : Rel K g F H s r) (e : r[i]? = some (some (.ow xs))) (ea : s[i]? = some (some (.ref a))) : Rel K (g.at i a) F H s r := by
  have ao := R.own i _ a e rfl ea
  refine ⟨R.sub, R.f0, R.fnew, fun b o q hb ht => R.keep b o q (fun p hp => hb p (List.mem_cons_of_mem _ hp)) ht, R.slot, fun j o b q qo qs => (R.own j o b q qo qs).imp id (List.mem_cons_of_mem _), R.dist, fun p hp => ?_, R.len, fun p hp => ?_, R.ext⟩
  · rcases List.mem_cons.mp hp with z | z
    · subst z
      exact ⟨ea, _, e, rfl⟩
    · exact R.pin p z
  · obtain ⟨h1, h2, h3, h4⟩ := R.tb p hp
    refine ⟨h1, h2, fun q hq => ?_, h4⟩
    rcases List.mem_cons.mp hq with z | z
    · subst z
      exact fun z => R.tb.tno (i := i) ao p hp z.symm
    · exact h3 q z
theorem Rel.unpinned (R : Rel K (g.at i a) F H s r) (h0 : g.H0 a = none ∨ (i, a) ∈ g.B) : Rel K g F H s r := by
  refine ⟨R.sub, R.f0, R.fnew, fun b o q hb ht => R.keep b o q (fun p hp => ?_) ht, R.slot, fun j o b q qo qs => ?_, R.dist, fun p hp => R.pin p (List.mem_cons_of_mem _ hp), R.len, fun p hp => ?_, R.ext⟩
  · rcases List.mem_cons.mp hp with z | z
    · subst z
      rcases h0 with h0 | h0
      · exact fun z => by
          have z : a = b := z
          rw [← z, h0] at q
          cases q
      · exact hb _ h0
    · exact hb p z
  · rcases R.own j o b q qo qs with z | z
    · exact .inl z
    · rcases List.mem_cons.mp z with z | z
      · cases z
        exact h0
      · exact .inr z
  · obtain ⟨h1, h2, h3, h4⟩ := R.tb p hp
    exact ⟨h1, h2, fun q hq => h3 q (List.mem_cons_of_mem _ hq), h4⟩
end
section
variable {X : Cx} {g : G} {i : Nat}
open Classical in
/-- the rest of a def, for whatever address slot i's list has: it does not tell -/
noncomputable def pinS (i : Nat) (m : Addr → En → SRs) : En → SRs := fun r => match r[i]? with
  | some (some (.ow _)) => if ∀ p, m p r = m 0 r then m 0 r else .bad
  | _ => .bad
theorem pinS_eq {m : Addr → En → SRs} {r : En} {xs : List D} {x : SRs} (e : r[i]? = some (some (.ow xs))) (h : ∀ p, m p r = x) : pinS i m r = x := by
  unfold pinS
  rw [e]
  dsimp only
  rw [if_pos fun p => (h p).trans (h 0).symm]
  exact h 0
theorem dss_pin {rest : List Stmt} {m : Addr → En → SRs} (h : ∀ p, DSs X (g.at i p) rest (m p)) : DSs X g rest (pinS i m) := by
  refine ⟨fun pins s σ H E I ⟨F, r, R, q⟩ => ?_⟩
  unfold pinS at q
  revert q
  split
  · next xs er =>
    split
    · next hm =>
      intro q
      obtain ⟨v, h1, a, vs, rfl, _, _, _⟩ := R.slot i _ er
      have h0 := R.own i _ a er rfl h1
      refine (h a).run pins s σ H E I ⟨F, r, R.pinned er h1, ?_⟩
      rw [hm a]
      revert q
      cases m 0 r with
      | nx r' => exact fun q F' H' s' sm R' => q F' H' s' sm (R'.unpinned h0)
      | rt o r' =>
        intro q F' H' s' v sm R' hv
        refine q F' H' s' v sm (R'.unpinned h0) ?_
        cases o <;> exact hv
      | bk r' => exact fun q F' H' s' sm R' => q F' H' s' sm (R'.unpinned h0)
      | ct r' => exact fun q F' H' s' sm R' => q F' H' s' sm (R'.unpinned h0)
      | bad => exact fun q => q
      | ex x r' =>
        intro q
        have q : exW X.K g x r' := q
        show exW X.K (g.at i a) x r'
        unfold exW at q ⊢
        have eW : (g.at i a).W = g.W := rfl
        rw [eW]
        revert q
        cases g.W with
        | none => exact fun q => q
        | some W => exact fun q F' H' s' cls d R' hx => q F' H' s' cls d (R'.unpinned h0) hx
    · exact fun q => q.elim
  · exact fun q => q.elim
theorem de_it {p : Addr} {n : Str} {q : Pos} (hB : (i, p) ∈ g.B) (hn : ∀ C, ¬ ClsAt X.K (itS p) C) (hv : PE X (.Name n q) (tVar i)) : DE X g (.Name n q) (itV p) :=
  PE.imp hv fun s H Q ⟨F, r, R, q⟩ => ⟨.ref p, (R.pin _ hB).1, q F H _ (Same.refl _) R (.it hn)⟩
/-- e1 == e2, where e1 is the very list of slot i -/
def eqIt (i : Nat) (p : Addr) (f : En → Rs D) (q : Opd) (sem : D → D → Option D) : En → Rs D := fun r => (f r).bind fun d r1 => match d with
  | .obj c [] => if c = itS p then (q.run r1).bind fun y r2 => ofO (((lookV r2 i).map OV.d).bind fun dx => (look r2 y).bind fun dy => sem dx dy) r2 else .bad
  | _ => .bad
theorem de_eqIt {p : Addr} {op : CmpOp} {a b : Expr} {pos : Pos} {f : En → Rs D} {q : Opd} {sem : D → D → Option D} (hB : (i, p) ∈ g.B) (hn : ∀ C, ¬ ClsAt X.K (itS p) C) (ho : OpR X (compareOp op) (rD2 X.K g sem)) (ha : DE X g a f) (hb : DB X g b q) (hm : behindInMarks op b = false) :
    DE X g (.Compare a [op] [b] pos) (eqIt i p f q sem) :=
  PE.imp (pe_cmpR ho ha hb hm) fun s H Q ⟨F, r, R, h⟩ => by
    refine ⟨F, r, R, post_mono (post_bind h) fun d r1 q1 F1 H1 v sm R1 hv => ?_⟩
    revert q1
    split
    · next c =>
      split
      · next ec =>
        subst ec
        intro q1
        have ev := RD.it_inv hn hv
        refine ⟨F1, r1, R1, post_mono (post_bind q1) fun y r2 q2 F2 H2 w s2 R2 hw => ?_⟩
        obtain ⟨d, e, q2⟩ := post_ofO q2
        obtain ⟨dx, e1, e⟩ := Option.bind_eq_some_iff.mp e
        obtain ⟨dy, e2, e3⟩ := Option.bind_eq_some_iff.mp e
        have hp : OpdOk X.K F2 s v (.inr i) := by rw [ev]; exact (R2.pin _ hB).1
        exact ⟨F2, s, r2, dx, dy, d, R2, look_ok R2 hp e1, look_ok R2 hw e2, e3, fun F3 H3 v3 s3 R3 h3 => q2 F3 H3 v3 ((sm.trans s2).trans s3) R3 h3⟩
      · exact fun q => q.elim
    · exact fun q => q.elim
end
end DL

/-! Data layer, part 112: defs that are handed a datum and the error that is handled; isinstance of it by a class of the language. -/
namespace DL
open PySem L2
structure FnE2 (P : Program) (w : World) (K : PySem.W.Frag) (mg : Str → Option Value) (base : Heap) (k : Nat) (f : Addr) (fd : FuncData) (a0 a : Str) (fe : D → Exn → Option D) : Prop where
  run : ∀ (A : Around) (outer : List Env) (s : Shared) (H : Hp) (args : Args) (u0 u : Value) (v0 : V) (d0 : D) (Q : VK) (p : Addr × Obj) (cls : Value) (d : Option Addr) (F : Hp) (x : Exn) (o : D),
    L2H.RoomH k A → A.guards = some [] → L2H.PinOk outer H s p → Zc cls d p.2 → (∃ vs, p.2.data = .fields vs) → Env0 P w K mg base A outer s H → BindsTo s fd args [(a0, u0), (a, u)] → RelV v0 u0 → RD K F v0 d0 → RelV (.ref p.1) u → Same F H → RX K F cls d x → fe d0 x = some o →
    (∀ F' H' v, Same F F' → Same F' H' → Fresh F F' H → Same H H' → RD K F' v o → Q v H') → codeAny (model P w) A (.call (.ref f) args) (CR CX0 outer P w H s Q fun _ _ _ => False) s
def startX2 (n : Nat) (d : D) (x : Exn) : En := some (.sh d) :: some (.exc x) :: List.replicate (n - 2) none
def fnE2 (n : Nat) (m : En → SRs) : D → Exn → Option D := fun d x => match m (startX2 n d x) with
  | .rt (.sh d) _ => some d
  | _ => none
section
variable {P : Program} {w : World} {K : PySem.W.Frag} {mg : Str → Option Value} {base : Heap}
theorem relX2 {N : List Str} {F H : Hp} {cls : Value} {d : Option Addr} {x : Exn} {a : Addr} {v0 : V} {d0 : D} (sub : Same F H) (h0 : RD K F v0 d0) (hx : RX K F cls d x) (hn : 2 ≤ N.length) : Rel K ⟨F, H, [], [], w, none, some (a, cls, d), []⟩ F H (L2.start N [v0, .ref a]) (startX2 N.length d0 x) := by
  have nown : ∀ (i : Nat) (o : OV), (startX2 N.length d0 x)[i]? = some (some o) → (i = 0 ∧ o = .sh d0) ∨ (i = 1 ∧ o = .exc x) := fun i o e => by
    unfold startX2 at e
    match i, e with
    | 0, e => cases e; exact .inl ⟨rfl, rfl⟩
    | 1, e => cases e; exact .inr ⟨rfl, rfl⟩
    | j + 2, e =>
      rw [List.getElem?_cons_succ, List.getElem?_cons_succ, List.getElem?_replicate] at e
      split at e <;> cases e
  have s0 : (L2.start N [v0, V.ref a])[0]? = some (some v0) := start_get rfl
  have s1 : (L2.start N [v0, V.ref a])[1]? = some (some (.ref a)) := start_get rfl
  refine ⟨sub, Same.refl _, fun b o e z => ?_, fun b o e _ _ => e, fun i o e => ?_, fun i o a e eo => ?_, fun i j o u a _ e eo => ?_, fun p hp => ?_, ?_, fun p hp => (nomatch hp), fun p hp => ?_⟩
  · have z : F b = none := z
    rw [z] at e; cases e
  · rcases nown i o e with ⟨rfl, rfl⟩ | ⟨rfl, rfl⟩
    · exact ⟨_, s0, h0⟩
    · exact ⟨_, s1, a, cls, d, rfl, rfl, hx⟩
  · rcases nown i o e with ⟨rfl, rfl⟩ | ⟨rfl, rfl⟩ <;> cases eo
  · rcases nown i o e with ⟨rfl, rfl⟩ | ⟨rfl, rfl⟩ <;> cases eo
  · cases hp
  · unfold startX2 L2.start
    simp only [List.length_cons, List.length_replicate, List.length_append, List.map_cons, List.map_nil, List.length_nil]
    omega
  · cases hp
theorem fnE2_ok {x qual : Str} {st : Stmt} {f : Addr} {fd : FuncData} {N : List Str} {a0 a : Str} {k n : Nat} {m : En → SRs} (F : Fun K x qual st f fd) (S : FnScope N [a0, a] (defScope st)) (en : N.length = n)
    (hbody : ∀ (cdv : Value) (A : Around) (outer : List Env) (s : Shared) (H : Hp) (p : Addr × Obj) (cls : Value) (d : Option Addr) (g : G), L2H.RoomH k (A.deeper (PyProof.Rows.envOfC qual (defScope st) s.heap.objs.size f cdv)) → A.guards = some [] → Zc cls d p.2 → (∃ vs, p.2.data = .fields vs) → g.B = [] → g.w = w → g.W = none → g.xc = some (p.1, cls, d) →
      DSs (L2H.cxH CX0 P w K mg base N qual (defScope st) f cdv A outer s H (fun _ _ _ => False) p) g (defBody st) m) : FnE2 P w K mg base (k + 1) f fd a0 a (fnE2 n m) := by
  subst en
  obtain ⟨oc, od, kV, doc, pm, an, cdv, ct, osl, rfl, lk, hcd⟩ := F.ex
  refine ⟨fun A outer s H args u0 u v0 d0 Q p cls d Fz x o hr hgd hpin hz hf e0 hb rv0 h0 rv sub hx ef q => ?_⟩
  have KX : K.In s.heap := e0.mod.kin.keeps fun b o e => (e0.bs b o e).1
  have lim : s.heap.NoLimit := e0.mod.nolimit.keeps fun b o e => (e0.bs b o e).1
  have hb' : BindsTo s (PySem.W.fnOf _ _ (defArgs st) (defBody st) (defScope st) .none kV doc pm an cdv ct) args ([a0, a].zip [u0, u]) := hb
  have hkind : ∀ y ∈ [a0, a].zip [u0, u], (defScope st).names.lookup y.1 = some .local ∨ ((defScope st).names.lookup y.1 = some .cell ∧ ((cellsFrom (s.heap.objs.size + 1) (defScope st).names []).lookup y.1).isSome = true) := fun ⟨n, v⟩ hy => by
    rcases S.par n (List.of_mem_zip hy).1 with q | q
    · exact .inl q
    · exact .inr ⟨q, PySem.W.cellsFrom_some _ _ _ (.inl q)⟩
  refine codeAny_call_function hr.depth (KX _ _ lk) rfl S.co S.gen rfl (PySem.W.codeRec_of KX hcd) (hb' _ _ _ _ ?_)
  refine PySem.wpAny_newFunctionEnv_cells S.kind hkind fun env he s1 x1 => ?_
  subst he
  refine ⟨lim.keeps x1.toInCall.keep, codeAny_func ?_⟩
  have ht := hbody cdv A outer s H p cls d ⟨Fz, H, [], [], w, none, some (p.1, cls, d), []⟩ (hr.deeper _) hgd hz hf rfl rfl rfl rfl
  have I : Inv (L2H.cxH CX0 P w K mg base N qual (defScope st) f cdv A outer s H (fun _ _ _ => False) p) [] (L2.start N [v0, .ref p.1]) H s1 := L2H.inv_startH S hpin e0 rfl (.cons rv0 (.cons rv .nil)) x1
  have hN : 2 ≤ N.length := by
    have := congrArg List.length S.pre
    rw [List.length_take] at this
    simp only [List.length_cons, List.length_nil] at this
    omega
  refine wpAny_mono (ht.run [] s1 (L2.start N [v0, .ref p.1]) H { nx := fun _ H' => Q .non H', rt := Q, bk := fun _ _ => False, ct := fun _ _ => False } I ⟨Fz, startX2 N.length d0 x, relX2 sub h0 hx hN, ?_⟩) (fun fl s' hs => ?_) fun e s' hs => hs
  · unfold fnE2 at ef
    revert ef
    cases m (startX2 N.length d0 x) with
    | rt o' r' =>
      cases o' with
      | sh d' =>
        intro ef F' H' s' v sm R' hv
        cases ef
        exact q F' H' v sm R'.sub (fun b o e e0 => R'.fnew b o e e0) (fun b o e => R'.keep b o e (fun p hp => by cases hp) fun p hp => by cases hp) hv
      | _ => intro ef; cases ef
    | _ => intro ef; cases ef
  have fin : ∀ {σ' : L2.St} {H' : Hp} {v : V} {u : Value}, Inv (L2H.cxH CX0 P w K mg base N qual (defScope st) f cdv A outer s H (fun _ _ _ => False) p) [] σ' H' s' → RelV v u → Q v H' → CE outer P w H s Q u s' :=
    fun {σ' H' v u} J rv q => ⟨v, H', J.os, J.bare, J.base, J.hok, rv, q⟩
  cases fl with
  | ret u =>
    obtain ⟨v, σ', H', J, rv, q⟩ := hs
    exact fin J rv q
  | next =>
    obtain ⟨σ', H', J, q⟩ := hs
    exact fin (v := V.non) (u := Value.none) J rfl q
  | brk =>
    obtain ⟨_, _, _, q⟩ := hs
    exact False.elim q
  | cont =>
    obtain ⟨_, _, _, q⟩ := hs
    exact False.elim q
end
theorem roomHM {k : Nat} {A : Around} {h : Option Value} (r : Room k A) : L2H.RoomH k (A.mark h) := ⟨r.dp, r.un⟩
structure HasEx2 (P : Program) (w : World) (K : PySem.W.Frag) (mg : Str → Option Value) (base : Heap) (k : Nat) (x : Str) (fe : D → Exn → Option D) : Prop where
  ex : ∃ fa fd a0 a, FnE2 P w K mg base k fa fd a0 a fe ∧ mg x = some (.ref fa) ∧ PySem.W.keepIn K (.ref fa) = true ∧ Binds K fd [a0, a] []
section
variable {Y : Cx} {g' : G} {a : Addr} {oe : Obj} {cls : Value} {d : Option Addr} {n : Str} {np p : Pos} {i : Nat}
/-- g(e0, e), e the error of slot i -/
def callEx2 (fe : D → Exn → Option D) (f0 : En → Rs D) (i : Nat) : En → Rs D := fun r => (f0 r).bind fun d r1 => match r1[i]? with
  | some (some (.exc x)) => ofO (fe d x) r1
  | _ => .bad
theorem de_callEx2 {x : Str} {fe : D → Exn → Option D} {k : Nat} {q : Pos} {e0 : Expr} {f0 : En → Rs D} (h : HasEx2 Y.prog Y.w Y.K Y.mg Y.base k x fe) (hgd : Y.A.guards = some []) (hr : L2H.RoomH k Y.A) (hz : Zc cls d oe) (hf : ∃ vs, oe.data = .fields vs) (hp : (a, oe) ∈ Y.pn) (hx : g'.xc = some (a, cls, d)) (h0 : DE Y g' e0 f0) (hv : PE Y (.Name n np) (tVar i))
    (hg : Gl Y x := by rfl) (hdb : (x == ("__debug__" : Str)) = false := by decide) (he : starEach [e0, .Name n np] Y.env = (false, eval e0 Y.env) :: starEach [.Name n np] Y.env := by rfl) (he2 : starEach [.Name n np] Y.env = (false, eval (.Name n np) Y.env) :: starEach [] Y.env := by rfl)
    (hpl : (backTo p (starEach [.Name n np] Y.env)).any (·.1) = false := by rfl) : DE Y g' (.Call (.Name x q) [e0, .Name n np] [] p) (callEx2 fe f0 i) := by
  obtain ⟨fa, fd, ar0, ar, F, h1, h2, h3⟩ := h.ex
  refine ⟨fun pins s σ H Q I ⟨Fz, r, R, hq⟩ => ?_⟩
  refine PySem.wpAny_Call_Name_kw (ld_glob I hg h1 ?_ hdb)
  refine PySem.W.callWith_K (h₀ := Y.base) I.ok.mod.kin h2 (thn ((pa_cons h0 (pa_cons hv pa_nil he2) he).run p pins s σ H (fun vs H1 => ∃ v0 d0 F1 r1 xx o, vs = [v0, .ref a] ∧ Same Fz F1 ∧ Rel Y.K g' F1 H1 σ r1 ∧ RD Y.K F1 v0 d0 ∧ RX Y.K F1 cls d xx ∧ fe d0 xx = some o ∧ PD Y.K g' Fz σ Q o r1) I
    ⟨Fz, r, R, post_mono (post_bind hq) fun d0 r1 q1 F1 H1 v0 sm R1 hv0 => ?_⟩) fun us s1 ⟨vs, H1, I1, rv, v0, d0, F1, r1, xx, o, e1, sm, R1, hv0, rx, ef, hq⟩ => ⟨I1.kIn, ?_⟩) he hpl
  · revert q1
    split
    · next xx e =>
      intro q1
      obtain ⟨o, ef, q1⟩ := post_ofO q1
      obtain ⟨hs1, rx⟩ := exc_slot R1 hx e
      exact ⟨_, hs1, _, _, _, _, _, _, rfl, sm, R1, hv0, rx, ef, q1⟩
    · exact fun q => q.elim
  subst e1
  cases rv with
  | @cons w0 u0 vs0 us0 rv0 rr =>
    cases rr with
    | @cons w1 u1 vs1 us1 rv rr =>
      cases rr
      have b := h3 s1 [u0, u1] I1.kIn rfl
      rw [List.append_nil] at b
      have P1 := I1.pin (a, oe) (List.mem_append_left _ hp)
      have hpin : L2H.PinOk Y.stack H1 s1 (a, oe) := ⟨P1.1, P1.2.1, fun hm => (List.mem_cons.mp (I1.stkSub a hm)).elim P1.2.2.1 P1.2.2.2.1, P1.2.2.2.2⟩
      refine wpAny_call (codeAny_mono (F.run Y.A Y.stack s1 H1 ⟨[u0, u1], []⟩ u0 u1 v0 d0 Q (a, oe) cls d F1 xx o hr hgd hpin hz hf I1.env0 b rv0 hv0 rv R1.sub rx ef fun F' H' v s1' s2 fr s3 hv' => hq F' H' v (sm.trans s1') (R1.after s1' s2 fr s3) hv') fun res s' hq' => ?_)
      cases res with
      | error er => exact hq'.elim
      | ok fl =>
        cases fl with
        | ret u => exact I1.after hq'
        | next => exact False.elim hq'
        | brk => exact False.elim hq'
        | cont => exact False.elim hq'
/-- isinstance(e, T), T a class of the language -/
theorem de_isxB {T : String} {t : Str → Option Bool} {pT pn' : Pos} (hT : IsT Y.K (.type T) t) (hz : Zc cls d oe) (hf : ∃ vs, oe.data = .fields vs) (hp : (a, oe) ∈ Y.pn) (hx : g'.xc = some (a, cls, d)) (hm : Y.mg "isinstance" = none) (hv : PE Y (.Name n np) (tVar i)) (hmT : Y.mg (T : Str) = none)
    (hg : Gl Y "isinstance" := by rfl) (hgT : Gl Y (T : Str) := by rfl) (hvT : bootBuiltins (T : Str) = some (.type T) := by decide +kernel) (hnT : (T : Str) ≠ "__name__" := by decide) (hdT : ((T : Str) == ("__debug__" : Str)) = false := by decide)
    (h1 : starEach [.Name n np, .Name T pT] Y.env = (false, eval (.Name n np) Y.env) :: starEach [.Name T pT] Y.env := by rfl) (h2 : starEach [.Name T pT] Y.env = (false, eval (.Name T pT) Y.env) :: starEach [] Y.env := by rfl)
    (hpl : (backTo p (starEach [.Name T pT] Y.env)).any (·.1) = false := by rfl) : DE Y g' (.Call (.Name "isinstance" pn') [.Name n np, .Name T pT] [] p) (isxD i t) := by
  refine ⟨fun pins s σ H Q I ⟨F, r, R, q⟩ => ?_⟩
  unfold isxD at q
  revert q
  split
  · next x e =>
    intro q
    obtain ⟨b, e2, q⟩ := post_ofO q
    obtain ⟨b', e3, rfl⟩ := Option.map_eq_some_iff.mp e2
    obtain ⟨hs1, C, rfl, h3, h4⟩ := exc_slot R hx e
    obtain ⟨EC, hk⟩ := hT _ _ e3 C h3
    have cr : CallR Y (.builtin "isinstance") (fun xs H Q => xs = [.ref a, .ty T] ∧ (∀ dd, d = some dd → ∃ vs, H dd = some (.xd vs)) ∧ Q (.bl b') H) := by
      intro pins s σ H xs us Q I rr h
      obtain ⟨rfl, hd, q⟩ := h
      cases rr with
      | cons rx rr =>
        cases rr with
        | cons rt rr =>
          cases rr
          cases rx
          cases rt
          obtain ⟨hget, _⟩ := I.pin (a, oe) (List.mem_append.mpr (.inl hp))
          obtain ⟨vs, hvs⟩ := hf
          have J : ∃ od, PySem.W.InstAt s.heap a oe C od := by
            obtain ⟨oc, odd, oda, osl⟩ := oe
            obtain ⟨h1, h2⟩ := hz
            dsimp only at h1 h2 hvs
            subst h1 h2 hvs
            cases odd with
            | none => exact ⟨none, hget, rfl, rfl, trivial⟩
            | some dd =>
              obtain ⟨vs, hh⟩ := hd dd rfl
              obtain ⟨mA, ⟨od, es, ep, e1, e2⟩, hr⟩ := I.hok dd _ hh
              exact ⟨some od, hget, rfl, rfl, e1⟩
          obtain ⟨od, J⟩ := J
          have hcl : (PySem.W.clsIn Y.K C).isSome = true := by
            obtain ⟨cd, hc, _⟩ := PySem.W.any_some EC.hd
            rw [hc]
            rfl
          exact PySem.W.kia_one (PySem.W.kitx_exc hcl EC.hg EC.hk EC.hs EC.ha EC.hn EC.ht EC.hm) I.kIn J hk (fun z => nomatch z) fun tk => ⟨.bl b', H, I.kept (t' := tk) fun _ _ z => z, rfl, q⟩
    refine (pe_callB cr hg hm (by decide +kernel) (pa_cons hv (pa_cons (pe_bltn (v := .ty T) hgT hmT hvT rfl hnT hdT) pa_nil h2) h1) (by decide) (by decide) h1 hpl).run pins s σ H Q I ⟨_, hs1, rfl, fun dd ed => ?_, q F H _ (Same.refl _) R (.bl b')⟩
    rcases h4 with ⟨rfl, h5⟩ | ⟨ad, vs, rfl, h5, h6⟩
    · cases ed
    · cases ed
      exact ⟨vs, R.sub _ _ h5⟩
  · exact fun q => q.elim
end
end DL

/-! Data layer, part 113: what runs while a generator sleeps leaves it asleep. For each generator that sleeps one stands in whose waking cannot go on: what runs beside such ones never wakes them, hence runs alike beside the true ones. -/
namespace DL.Slp
open PySem

/-! ### those that stand in -/
def toRet (F : Frame) : Frame := .ret (fun _ => .unsupported "") none F.guarded [] F.where_.1 F.where_.2 []
def stand : GenState → GenState
  | .suspended _ l c p fs cl => .suspended (fun _ => .unsupported "") l c p (fs.map toRet) cl
  | y => y
def isSl : GenState → Bool
  | .suspended .. => true
  | _ => false
/-- the true ones in the place of those that stand in -/
def sw (o : Nat → Option GenState) (s : Shared) : Shared := { s with gens := s.gens.mapIdx fun i y => (o i).getD y }
/-- no frame of one of them -/
def NoG (o : Nat → Option GenState) (fs : List Frame) : Prop := ∀ g' k l c p, Frame.gen g' k l c p ∈ fs → o g' = none
theorem NoG.nil {o : Nat → Option GenState} : NoG o [] := fun _ _ _ _ _ m => by cases m
theorem NoG.app {o : Nat → Option GenState} {fs gs : List Frame} (h : NoG o fs) (h' : NoG o gs) : NoG o (fs ++ gs) := fun g' k l c p m => (List.mem_append.mp m).elim (h g' k l c p) (h' g' k l c p)
def GenState.nog (o : Nat → Option GenState) : GenState → Prop
  | .suspended _ _ _ _ fs _ => NoG o fs
  | _ => True
def NogE (o : Nat → Option GenState) : End → Prop
  | .susp _ _ _ _ _ _ fs => NoG o fs
  | _ => True
theorem NogE.st {o : Nat → Option GenState} {e : End} (h : NogE o e) : GenState.nog o e.genState := by
  cases e with
  | ret r => exact trivial
  | susp v gg l k c p fs => exact h
/-- they stand in their places -/
structure Stood (o : Nat → Option GenState) (G : Array GenState) : Prop where
  at_ : ∀ (i : Nat) (x : GenState), o i = some x → G[i]? = some (stand x) ∧ isSl x = true
  nog : ∀ (i : Nat) (y : GenState), G[i]? = some y → GenState.nog o y
theorem Stood.off {o : Nat → Option GenState} {G : Array GenState} (h : Stood o G) {g' : Nat} {y : GenState} (hg : G[g']? = some y) (n : ∀ x, isSl x = true → y ≠ stand x) : o g' = none := by
  cases e : o g' with
  | none => rfl
  | some x =>
    obtain ⟨h1, h2⟩ := h.at_ _ _ e
    rw [hg] at h1
    exact (n x h2 (Option.some.inj h1)).elim
theorem Stood.set {o : Nat → Option GenState} {g' : Nat} {y : GenState} {s : Shared} (h : Stood o s.gens) (z : o g' = none) (hy : GenState.nog o y) : Stood o (s.setGen g' y).gens := by
  refine ⟨fun i x e => ?_, fun i u e => ?_⟩
  · have ne : g' ≠ i := fun q => by rw [q, e] at z; cases z
    refine ⟨?_, (h.at_ i x e).2⟩
    show (s.gens.setIfInBounds g' y)[i]? = _
    rw [Array.getElem?_setIfInBounds, if_neg ne]
    exact (h.at_ i x e).1
  · have e : (s.gens.setIfInBounds g' y)[i]? = some u := e
    rw [Array.getElem?_setIfInBounds] at e
    split at e
    · split at e
      · cases e; exact hy
      · cases e
    · exact h.nog i u e
theorem Stood.size {o : Nat → Option GenState} {G : Array GenState} (h : Stood o G) : o G.size = none := by
  cases e : o G.size with
  | none => rfl
  | some x =>
    have := (Array.getElem?_eq_some_iff.mp (h.at_ _ _ e).1).1
    exact absurd this (Nat.lt_irrefl _)
theorem Stood.push {o : Nat → Option GenState} {y : GenState} {G : Array GenState} (h : Stood o G) (hy : GenState.nog o y) : Stood o (G.push y) := by
  refine ⟨fun i x e => ⟨?_, (h.at_ i x e).2⟩, fun i z e => ?_⟩
  · have h1 := (h.at_ i x e).1
    rw [Array.getElem?_push, if_neg (Nat.ne_of_lt (Array.getElem?_eq_some_iff.mp h1).1)]
    exact h1
  · rw [Array.getElem?_push] at e
    split at e
    · cases e; exact hy
    · exact h.nog i z e
theorem sw_get {o : Nat → Option GenState} {s : Shared} {i : Nat} : (sw o s).gens[i]? = s.gens[i]?.map fun y => (o i).getD y := by
  show (s.gens.mapIdx _)[i]? = _
  rw [Array.getElem?_mapIdx]
theorem sw_on {o : Nat → Option GenState} {s : Shared} {i : Nat} {x : GenState} (h : Stood o s.gens) (e : o i = some x) : (sw o s).gens[i]? = some x := by
  rw [sw_get, (h.at_ i x e).1, e]
  rfl
section
variable {M : Model} {o : Nat → Option GenState}
/-- what the true generators see of what ran beside those that stand in for them -/
def SwS (o : Nat → Option GenState) (P : Shared → Prop) (s' : Shared) : Prop := ∃ s1, Stood o s1.gens ∧ s' = sw o s1 ∧ P s1
end
/-- a generator that sleeps is the same behind it -/
theorem SwS.kept {o : Nat → Option GenState} {P : Shared → Prop} {s' : Shared} (h : SwS o P s') {g : Nat} {x : GenState} (e : o g = some x) : s'.gens[g]? = some x := by
  obtain ⟨s1, a, rfl, _⟩ := h
  exact sw_on a e
end DL.Slp

/-! Data layer, part 114: errors whose context is known to be None (L2N), from the raise to the except suite. -/
namespace DL
open PySem L2 PyProof.Rows
theorem takesN0 {X : Cx} : L2N.Takes X (fun _ _ _ _ => False) := fun u s' ⟨_, _, _, _, _, _, _, _, _, _, _, _, _, _, _, _, w⟩ => w.elim
def TkGN (X : Cx) (g : G) : Prop := ∀ W, g.W = some W → L2N.Takes X W
theorem TkGN.none {X : Cx} {g : G} (h : g.W = none) : TkGN X g := fun W e => by rw [h] at e; cases e
theorem passGN {X : Cx} {g : G} (tk : TkGN X g) (σ : L2.St) : PassesAt (L2N.CX X.prog X.w) X σ (WG g σ) := by
  cases e : g.W with
  | none =>
    intro pins H s er s' I h
    obtain ⟨_, _, _, _, _, _, _, _, _, _, _, _, z⟩ := h
    unfold WG at z
    rw [e] at z
    exact z.elim
  | some W =>
    have h := L2N.passAt (tk W e) σ
    intro pins H s er s' I hc
    refine h pins H s er s' I ?_
    obtain ⟨a, B, H', cls, d, h1, h2, h3, h4, h5, h6, h7, h8⟩ := hc
    refine ⟨a, B, H', cls, d, h1, h2, h3, h4, h5, h6, h7, ?_⟩
    unfold WG at h8
    rw [e] at h8
    exact h8
section
variable {P : Program} {w : World} {K : PySem.W.Frag} {mg : Str → Option Value} {base : Heap}
theorem fnX_okN {x qual : Str} {st : Stmt} {f : Addr} {fd : FuncData} {N ps : List Str} {k n np : Nat} {m : En → SRs} (F : Fun K x qual st f fd) (S : FnScope N ps (defScope st)) (en : N.length = n) (ep : ps.length = np)
    (hbody : ∀ (cdv : Value) (A : Around) (outer : List Env) (s : Shared) (H : Hp) (E : XK) (g : G), A.guards = some [] → Room k (A.deeper (PyProof.Rows.envOfC qual (defScope st) s.heap.objs.size f cdv)) → g.B = [] → g.w = w → g.xc = none →
      TkGN (cxOf (L2N.CX P w) P w K mg base N qual (defScope st) f cdv A outer s H E) g → PassesOwn (model P w) (cxOf (L2N.CX P w) P w K mg base N qual (defScope st) f cdv A outer s H E).A (cxOf (L2N.CX P w) P w K mg base N qual (defScope st) f cdv A outer s H E).env (cxOf (L2N.CX P w) P w K mg base N qual (defScope st) f cdv A outer s H E).xe →
      DSs (cxOf (L2N.CX P w) P w K mg base N qual (defScope st) f cdv A outer s H E) g (defBody st) m) : FnG P w K mg base (L2N.CX P w) (k + 1) f fd ps (spX K np (fnX n m)) := by
  subst en ep
  refine fnG_of F S (fun vs H Q E ⟨F, ds, _, h, hl, _⟩ => by rw [h.length]; exact hl) fun cdv A outer s H vs Q E hg hr hsp => ?_
  obtain ⟨Fz, ds, sub, h, hl, q⟩ := hsp
  have tk : L2N.Takes (cxOf (L2N.CX P w) P w K mg base N qual (defScope st) f cdv A outer s H E) (fun cls d _ H => E cls d H) := L2N.takes_of rfl rfl rfl rfl
  refine ⟨_, hbody cdv A outer s H E ⟨Fz, H, [], [], w, some (fun cls d _ H => E cls d H), none, []⟩ hg hr rfl rfl rfl (fun W e => by cases e; exact tk) (passes_of rfl), Fz, startE N.length (ds.map OV.sh), Rel.unw (g := ⟨Fz, H, [], [], w, some (fun cls d _ H => E cls d H), none, []⟩) (relP sub h), ?_⟩
  unfold fnX at q
  revert q
  cases m (startE N.length (ds.map OV.sh)) with
  | nx r' =>
    intro q F' H' s' sm R'
    exact q F' H' .non sm R'.sub (fun b o e e0 => R'.fnew b o e e0) (fun b o e => R'.keep b o e (fun p hp => by cases hp) fun p hp => by cases hp) .non
  | rt o r' =>
    intro q F' H' s' v sm R' hv
    refine q F' H' v sm R'.sub (fun b o e e0 => R'.fnew b o e e0) (fun b o e => R'.keep b o e (fun p hp => by cases hp) fun p hp => by cases hp) ?_
    cases o with
    | sh d => exact hv
    | ow xs =>
      obtain ⟨a, vs, e1, e2, e3, e4, e5, _⟩ := hv
      exact ⟨a, vs, e1, e2, e3, e4, e5⟩
    | od xs => exact hv.elim
    | oi c xs => exact hv.elim
    | th xs => exact hv.elim
    | exc c => exact hv.elim
  | bk r' => exact fun q => q.elim
  | ct r' => exact fun q => q.elim
  | bad => exact fun q => q.elim
  | ex x r' =>
    intro q
    show exW K ⟨Fz, H, [], [], w, some (fun cls d _ H => E cls d H), none, []⟩ x r'
    intro F' H' s' cls d R' hx
    exact q F' H' cls d R'.f0 R'.sub (fun b o e e0 => R'.fnew b o e e0) (fun b o e => R'.keep b o e (fun p hp => by cases hp) fun p hp => by cases hp) hx
end
structure HasXN (P : Program) (w : World) (K : PySem.W.Frag) (mg : Str → Option Value) (base : Heap) (k : Nat) (x : Str) (n : Nat) (f : List D → FR) : Prop where
  ex : ∃ fa fd ps, FnG P w K mg base (L2N.CX P w) k fa fd ps (spX K n f) ∧ mg x = some (.ref fa) ∧ PySem.W.keepIn K (.ref fa) = true ∧ Binds K fd ps []
section
variable {X : Cx} {g : G} {k n : Nat} {x : Str} {p pos : Pos} {e : Expr} {es : List Expr}
theorem do_callXN {f : List D → FR} {fs : List (En → Rs D)} (h : HasXN X.prog X.w X.K X.mg X.base k x n f) (hgd : X.A.guards = some []) (hr : Room k X.A) (tk : TkGN X g) (ha : DA X g (e :: es) fs) (hg : Gl X x := by rfl)
    (hdb : (x == ("__debug__" : Str)) = false := by decide) (he : starEach (e :: es) X.env = (false, eval e X.env) :: starEach es X.env := by rfl) (hpl : (backTo pos (starEach es X.env)).any (·.1) = false := by rfl) : DO X g (.Call (.Name x p) (e :: es) [] pos) (callX n f fs) := by
  obtain ⟨fa, fd, ps, F, h1, h2, h3⟩ := h.ex
  refine PE.imp (pe_callGS (E := WG g) F hgd hr hg h1 h2 h3 (passGN tk) ha hdb he hpl) fun s H Q ⟨Fz, r, R, q⟩ => ⟨Fz, r, R, post_mono (post_bind q) fun ds r1 q F1 H1 vs sm R1 hvs => ?_⟩
  obtain ⟨hn, q⟩ := post_if q
  exact ⟨F1, ds, R1.sub, hvs, hn, QX.of R1 sm q⟩
end
section
variable {X : Cx} {e : Expr} {es : List Expr} {ta : TA} {p pos : Pos}
/-- C(e, ..), C an own error class with an __init__ of its own: its context is None -/
theorem pmk_oexN {CXq : CXT} {x : Str} {C fI : Addr} {k : Nat} {fd : FuncData} {ps : List Str} {sp : Sp} {ds : List Value} {dvs : List V} (T : OexC X.K C)
    (iC : PySem.W.findIn X.K (.ref C) "__init__" = some (some (.ref fI))) (tI : PySem.W.typeIn X.K (.ref fI) = some (.type "function")) (Fi : FnOk X.prog X.w X.K X.mg X.base CXq k fI fd ps sp)
    (hroom : Room (k + 1) X.A) (hbi : Binds X.K fd ps ds) (hdv : Vals dvs ds) (hpx : Passes CXq X (fun _ _ _ => False)) (hgl : Gl X x) (hmx : X.mg x = some (.ref C))
    (hargs : PA X (e :: es) ta) (hdb : (x == ("__debug__" : Str)) = false := by decide)
    (hst : starEach (e :: es) X.env = (false, eval e X.env) :: starEach es X.env := by rfl) (hpl : (backTo pos (starEach es X.env)).any (·.1) = false := by rfl) :
    L2N.PMk X (.Call (.Name x p) (e :: es) [] pos) (tMkO C sp dvs ta) := by
  intro pins s σ H Q I hq0
  obtain ⟨nm, q, N, bs, bm, sn, sub, ab, col, dd, k0, k1, k2, k3, k5, lookC, refsOk⟩ := T.cls
  refine wpAny_Call_Name_kw (ld_glob I hgl hmx ?_ hdb)
  refine PySem.W.callWith_K (h₀ := X.base) I.ok.mod.kin T.kC (thn (hargs.run pos pins s σ H _ I hq0) fun us sA ⟨vs, HA, IA, rA, short, goal⟩ => ⟨IA.kIn, ?_⟩) hst hpl
  show wpAny _ _ (call (.ref C) us) _ _ _
  obtain ⟨h0, g0, dr0, tk0, os0⟩ := sA
  obtain ⟨hT, eT⟩ : ∃ hT, hT = (h0.push (PySem.W.kdv_tup us)).push (PySem.HandSPX.excO C h0.objs.size) := ⟨_, rfl⟩
  have above : h0.objs.size ≤ h0.objs.size + 1 := Nat.le_succ _
  have noneA : HA (h0.objs.size + 1) = none := IA.hok.fresh above
  have goal := goal (h0.objs.size + 1) noneA
  have kept : ∀ b o, h0.get? b = some o → hT.get? b = some o := fun b o z => by
    rw [eT]
    exact Heap.get?_push_of_some _ (Heap.get?_push_of_some _ z)
  have there : hT.get? (h0.objs.size + 1) = some (PySem.HandSPX.excO C h0.objs.size) := by
    rw [eT]
    heap_get
  have IB : Inv X pins σ (upd HA (h0.objs.size + 1) (exo (h0.objs.size + 1) C none)) ⟨hT, g0, dr0, tk0, os0⟩ :=
    IA.laid (t' := tk0) (a := h0.objs.size + 1) (o := exo (h0.objs.size + 1) C none) (h' := hT) kept above (exo_ok there)
  have rB : Vals (V.ref (h0.objs.size + 1) :: (vs ++ dvs)) (Value.ref (h0.objs.size + 1) :: (us ++ ds)) := .cons rfl (rA.append hdv)
  have lenB : (Value.ref (h0.objs.size + 1) :: us ++ ds).length = ps.length := by
    have z := rB.length
    rw [Fi.len _ _ _ _ goal] at z
    exact z.symm
  have few : us.length ≤ sizeLine := by
    have z := Paired.length rA
    rw [sizeLine_eq]
    omega
  have runI := Fi.run _ X.stack _ _ ⟨Value.ref (h0.objs.size + 1) :: us, []⟩ (Value.ref (h0.objs.size + 1) :: (us ++ ds)) _ _ (fun _ _ _ => False) (hroom.make C us []) (IB.env0.make C us []) (hbi _ (Value.ref (h0.objs.size + 1) :: us) IB.kIn lenB) rB goal
  rw [eT] at runI
  refine wpAny_call (PySem.HandSPX.call_own F.excBase_ValueError (fun Y => PySem.HandSPX.refsVE_contains Y bm refsOk) (IA.kIn _ _ lookC) (PySem.W.looks_findIn IA.kIn iC) (fun self => PySem.W.bind_fn IA.kIn self tI) few (codeAny_mono runI fun r s' hr' => ?_))
  rw [eT] at IB kept
  cases r with
  | error er => exact hpx pins σ _ _ er s' IB hr'
  | ok fl =>
    cases fl with
    | ret u =>
      obtain ⟨v, HB, osB, bareB, unB, hokB, rv, ev, d, fs, ea, ed, nd, goalB⟩ := hr'
      subst ev
      obtain ⟨hB, gB, dB, tB, os'⟩ := s'
      obtain ⟨t0, Gh, J, kG, ge, hoe, na⟩ := mk_end0 (d2 := dB) (t2 := tB) IA above kept unB hokB osB bareB ea ed nd
      refine ⟨rv, _, _, _, ⟨Gh, gB, dB, tB, os'⟩, _, .ref C, some d, rfl, J, kG, ge, hoe, ⟨rfl, rfl, fun vs hv => ?_⟩, rfl, rfl, na, rfl, bareB, raises_own T.exC T.tyC, goalB⟩
      cases hv
      rfl
    | _ => exact False.elim hr'
end
section
variable {X : Cx} {g : G} {e : Expr} {p pos pos2 : Pos} {c f : Str}
theorem ds_raiseN {k : Nat} {fe : En → Rs D} (h : HasE X.prog X.w X.K X.mg X.base c f) (hc : X.calm = true) (hr : Room k X.A) (hk : 2 ≤ k) (tk : TkGN X g) (he : DE X g e fe) (hg : Gl X c := by rfl) (hdb : (c == ("__debug__" : Str)) = false := by decide)
    (hst : starEach [e] X.env = (false, eval e X.env) :: starEach [] X.env := by rfl) (hpl : (backTo pos (starEach [] X.env)).any (·.1) = false := by rfl) : DS X g (.Raise (some (.Call (.Name c p) [e] [] pos)) none pos2) (raiseS c f fe) := by
  obtain ⟨C, fI, fd, ps, hm, hcl, T, hno, iC, tI, F1, hb⟩ := h.ex
  have hr2 : Room (1 + 1) X.A := hr.mono hk
  have main : ∀ W : WX, L2N.Takes X W → (∀ r x, exW X.K g x r → ∀ F' H' s' cls d, Rel X.K g F' H' s' r → RX X.K F' cls d x → W cls d s' H') → DS X g (.Raise (some (.Call (.Name c p) [e] [] pos)) none pos2) (raiseS c f fe) := by
    intro W tW hW
    refine PS.imp (L2N.ps_raise hc tW (pmk_oexN (dvs := []) (ds := []) T iC tI F1 hr2 hb .nil pass0 hg hm (pa_cons he pa_nil hst) hdb hst hpl)) fun E s H ⟨Fz, r, R, q⟩ => ⟨Fz, r, R, post_mono (post_then q) fun d r1 q F1 H1 v sm R1 hv => ?_⟩
    refine ⟨by show 1 ≤ 1000; decide, fun a na => ⟨a, C, v, rfl, T, hno, upd_same, fun dx ndx hne => ?_⟩⟩
    rw [upd_ne hne] at ndx
    refine ⟨rfl, dx, [(f, v)], upd_same, by rw [upd_ne hne, upd_same], ndx, ?_⟩
    have eH : L2.upd (del (L2.upd (L2.upd (L2.upd H1 a (exo a C none)) dx (exd dx [(f, v)])) a (exo a C (some dx))) a) dx (.xd [(f, v)]) = L2.upd H1 dx (.xd [(f, v)]) := by
      funext b
      by_cases hb : b = dx
      · rw [hb, upd_same, upd_same]
      · rw [upd_ne hb, upd_ne hb]
        by_cases ha : b = a
        · rw [ha, del_same, na]
        · rw [del_ne ha, upd_ne ha, upd_ne hb, upd_ne ha]
    rw [eH]
    have sF : Same F1 (L2.upd F1 dx (.xd [(f, v)])) := same_upd (R1.ff ndx)
    exact hW r1 _ q _ _ s (.ref C) (some dx) (R1.alloc ndx) ⟨C, rfl, hcl, .inr ⟨dx, [(f, v)], rfl, upd_same, .cons (RD.mono sF d hv) .nil⟩⟩
  cases eW : g.W with
  | none => exact main (fun _ _ _ _ => False) takesN0 fun r x z => by unfold exW at z; rw [eW] at z; exact z.elim
  | some W => exact main W (tk W eW) fun r x z F' H' s' cls d R' hx => by unfold exW at z; rw [eW] at z; exact z F' H' s' cls d R' hx
end
section
variable {X : Cx} {g : G} {p pos pos2 : Pos} {c : Str}
/-- C() -/
theorem pmk_own0N {C : Addr} {bmB : List Value} {B newId initId : String} {x : Str} (F : PySem.ExcBaseFacts B newId initId bmB) (q : PySem.W.excIn X.K C bmB newId = true) (gC : X.mg x = some (.ref C)) (kC : PySem.W.keepIn X.K (.ref C) = true) (r : Raises X (.ref C)) (hg : Gl X x)
    (hdb : (x == ("__debug__" : Str)) = false := by decide) : L2N.PMk X (.Call (.Name x p) [] [] pos) (fun _ H Q => Q (.ref C) none H) := by
  intro pins s σ H Q I h
  refine PySem.wpAny_Call_Name_kw (ld_glob I hg gC ?_ hdb)
  refine PySem.W.callWith_K0 I.kIn kC ?_
  show wpAny _ _ (call (.ref C) []) _ _ _
  obtain ⟨bm, N, nm, qn, bs, hdct, sn, sub, ab, col, dd, k0, k1, k2, k3, k5, mN, hC, hN, hni, T⟩ := exc_obj I.kIn q
  refine wpAny_call_exc_subT F T hC hN hni (fun h' e hm => ?_) (Nat.zero_le _)
  exact L2N.mk_of I hm r h (I.hok.gone hm.new)
theorem ds_raise0N (h : HasE0 X.K X.mg c) (hc : X.calm = true) (tk : TkGN X g) (hg : Gl X c := by rfl) (hdb : (c == ("__debug__" : Str)) = false := by decide) : DS X g (.Raise (some (.Call (.Name c p) [] [] pos)) none pos2) (raise0S c) := by
  obtain ⟨C, hm, hcl, hx, hk, hs, ht⟩ := h.ex
  have main : ∀ W : WX, L2N.Takes X W → (∀ r x, exW X.K g x r → ∀ F' H' s' cls d, Rel X.K g F' H' s' r → RX X.K F' cls d x → W cls d s' H') → DS X g (.Raise (some (.Call (.Name c p) [] [] pos)) none pos2) (raise0S c) := by
    intro W tW hW
    refine PS.imp (L2N.ps_raise hc tW (pmk_own0N PySem.F.excBase_ValueError hx hm hk (raises_own hs ht) hg hdb)) fun E s H ⟨Fz, r, R, q⟩ => ?_
    exact hW r _ q Fz H s (.ref C) none R ⟨C, rfl, hcl, .inl ⟨rfl, rfl⟩⟩
  cases eW : g.W with
  | none => exact main (fun _ _ _ _ => False) takesN0 fun r x z => by unfold exW at z; rw [eW] at z; exact z.elim
  | some W => exact main W (tk W eW) fun r x z F' H' s' cls d R' hx => by unfold exW at z; rw [eW] at z; exact z F' H' s' cls d R' hx
end
section
variable {X : Cx} {g : G} {xn n : Str} {cv : Value} {i : Nat} {body suite : List Stmt} {b₀ : Stmt} {np pos pos' : Pos} {fb fs : En → SRs} {ct : Str → Option Bool}
theorem ds_tryN (hs : X.stack = X.env :: X.outer) (hf : X.env.frame = some X.env.locals) (hN : X.N.Nodup) (hi : X.N[i]? = some n) (hln : X.env.kindOf n = some .local) (hc : Names X xn cv) (tk : TkGN X g) (hxc : g.xc = none) (hbi : ∀ p ∈ g.B, p.1 ≠ i)
    (hct : ∀ m b C, ct m = some b → ClsAt X.K m C → PySem.W.exmOne X.K (.ref C) cv = some b)
    (hb : ∀ (pn : List (Addr × Obj)) (xe : Value → Shared → Prop) (g' : G), Tri g g' → TkGN (X.tr pn xe) g' → PassesOwn (model X.prog X.w) X.A X.env xe → DSs (X.tr pn xe) g' body fb)
    (hsu : ∀ (a : Addr) (oe : Obj) (cls : Value) (d : Option Addr) (pn : List (Addr × Obj)) (g' : G), Sui g g' a cls d → L2N.Zn cls d oe → (∃ vs, oe.data = .fields vs) → DSs (X.suite a ((a, oe) :: pn)) g' (b₀ :: suite) fs) :
    DS X g (.Try body [.ExceptHandler (some (.Name xn np)) (some n) (b₀ :: suite) pos'] [] [] pos) (tryS ct i fb fs) := by
  have main : ∀ Wout : WX, L2N.Takes X Wout → (∀ x r F' H' s' cls d, exW X.K g x r → Rel X.K g F' H' s' r → RX X.K F' cls d x → Wout cls d s' H') → DS X g (.Try body [.ExceptHandler (some (.Name xn np)) (some n) (b₀ :: suite) pos'] [] [] pos) (tryS ct i fb fs) := by
    intro Wout tkO hW
    refine PS.imp (L2N.ps_try_as (tb := fun W D σ H => ∃ g' : G, Tri g g' ∧ g'.W = some W ∧ tSD X.K g' fb D σ H) (ts := fun a cls d D σ H => ∃ g' : G, Sui g g' a cls d ∧ tSD X.K g' fs D σ H) hs hf hN hi hln hc tkO
      (fun W pn xe tkW po => ⟨fun pins s σ H D I ⟨g', t1, t2, h⟩ => (hb pn xe g' t1 (fun W' e => by rw [t2] at e; cases e; exact tkW) po).run pins s σ H D I h⟩)
      (fun a oe cls d pn hz hv => ⟨fun pins s σ H D I ⟨g', t1, h⟩ => (hsu a oe cls d pn g' t1 hz hv).run pins s σ H D I h⟩)) fun E s H ⟨F, r, R, q⟩ => ?_
    refine ⟨{ g with F0 := F, W := some (wAs X.K cv i (fun a cls d D σ H => ∃ g' : G, Sui g g' a cls d ∧ tSD X.K g' fs D σ H) Wout E) }, ⟨rfl, rfl, rfl⟩, rfl, F, r, ⟨R.sub, Same.refl _, fun b o e e0 => ?_, R.keep, R.slot, R.own, R.dist, R.pin, R.len, R.tb, R.ext⟩, ?_⟩
    · have e0 : F b = none := e0
      rw [e0] at e
      cases e
    have up : ∀ {F' H' : Hp} {s' : L2.St} {r' : En} {W' : Option WX}, Rel X.K { g with F0 := F, W := W' } F' H' s' r' → Rel X.K g F' H' s' r' ∧ Same F F' := fun {F' H' s' r' W'} R' => by
      refine ⟨⟨R'.sub, R.f0.trans R'.f0, fun b o e e0 => ?_, R'.keep, R'.slot, R'.own, R'.dist, R'.pin, R'.len, R'.tb, R'.ext⟩, R'.f0⟩
      cases z : F b with
      | some u => exact R.fnew b u z e0
      | none => exact R'.fnew b o e z
    unfold tryS at q
    revert q
    cases fb r with
    | nx r' => exact fun q F' H' s' sm R' => q F' H' s' sm (up R').1
    | rt o r' =>
      intro q F' H' s' v sm R' hv
      refine q F' H' s' v sm (up R').1 ?_
      cases o <;> exact hv
    | bk r' => exact fun q F' H' s' sm R' => q F' H' s' sm (up R').1
    | ct r' => exact fun q F' H' s' sm R' => q F' H' s' sm (up R').1
    | bad => exact fun q => q
    | ex x r1 =>
      intro q
      suffices hh : exW X.K { g with F0 := F, W := some (wAs X.K cv i (fun a cls d D σ H => ∃ g' : G, Sui g g' a cls d ∧ tSD X.K g' fs D σ H) Wout E) } x r1 from hh
      intro F' H' s' cls d R' hx
      obtain ⟨Rg, sm⟩ := up R'
      obtain ⟨C, rfl, hcl, hd⟩ := id hx
      cases ect : ct x.c with
      | none =>
        simp only [ect] at q
        exact q.elim
      | some b =>
        refine ⟨b, hct _ _ _ ect hcl, fun hb1 a na => ?_, fun hb1 => ?_⟩
        · subst hb1
          simp only [ect] at q
          refine ⟨g.hnd a (.ref C) d, ⟨rfl, rfl, rfl, rfl⟩, F', r1.set i (some (.exc x)), Rg.setX hxc hbi hx, ?_⟩
          have len1 : ∀ (s2 : L2.St), (s2.set i none).length = s2.length := fun s2 => List.length_set ..
          have ne1 : ∀ (s2 : L2.St) (j : Nat), j ≠ i → (s2.set i none)[j]? = s2[j]? := fun s2 j hj => List.getElem?_set_ne fun z => hj z.symm
          revert q
          cases fs (r1.set i (some (.exc x))) with
          | nx r2 =>
            intro q F2 H2 s2 sm2 R2
            by_cases hn : noX (r2.set i none) = true
            · simp only [if_pos hn] at q
              exact q F2 H2 _ (sm.trans sm2) (R2.unX hbi hn (len1 s2) (ne1 s2))
            · simp only [if_neg hn] at q
              exact q.elim
          | bk r2 =>
            intro q F2 H2 s2 sm2 R2
            by_cases hn : noX (r2.set i none) = true
            · simp only [if_pos hn] at q
              exact q F2 H2 _ (sm.trans sm2) (R2.unX hbi hn (len1 s2) (ne1 s2))
            · simp only [if_neg hn] at q
              exact q.elim
          | ct r2 =>
            intro q F2 H2 s2 sm2 R2
            by_cases hn : noX (r2.set i none) = true
            · simp only [if_pos hn] at q
              exact q F2 H2 _ (sm.trans sm2) (R2.unX hbi hn (len1 s2) (ne1 s2))
            · simp only [if_neg hn] at q
              exact q.elim
          | rt o r2 =>
            intro q F2 H2 s2 v sm2 R2 hv
            by_cases hn : noX (r2.set i none) = true
            · simp only [if_pos hn] at q
              refine q F2 H2 s2 v (sm.trans sm2) (R2.unX hbi hn rfl fun _ _ => rfl) ?_
              cases o with
              | sh d => exact hv
              | ow xs =>
                obtain ⟨b, vs, e1, e2, e3, e4, e5, e6, e7⟩ := hv
                exact ⟨b, vs, e1, e2, e3, e4, e5, fun j u ej eo => e6 j u (wipeE_some (vs := [i]) ej).1 eo, e7⟩
              | od xs => exact hv.elim
              | oi c xs => exact hv.elim
              | th xs => exact hv.elim
              | exc c => exact hv.elim
            · simp only [if_neg hn] at q
              exact q.elim
          | bad => exact fun q => q.elim
          | ex y r2 => exact fun q => q.elim
        · subst hb1
          simp only [ect] at q
          exact hW x r1 F' H' s' _ d q Rg hx
  cases eW : g.W with
  | none => exact main (fun _ _ _ _ => False) takesN0 fun x r F' H' s' cls d z => by unfold exW at z; rw [eW] at z; exact z.elim
  | some W => exact main W (tk W eW) fun x r F' H' s' cls d z R' hx => by unfold exW at z; rw [eW] at z; exact z F' H' s' cls d R' hx
end
end DL

/-! Data layer, part 115: [e for x in range(n)] in an except suite (the error's context is None). -/
namespace DL
open PySem L2 PySem.Spec PyProof.Rows
theorem Inv.withPn {Y : Cx} {pins : List (Addr × Obj)} {σ : L2.St} {H : Hp} {s : Shared} {p : Addr × Obj} (I : L2.Inv Y pins σ H s) (hp : s.heap.get? p.1 = some p.2 ∧ H p.1 = none ∧ p.1 ≠ Y.env.locals ∧ p.1 ∉ Y.fs ∧ ∀ v, p.2.data ≠ .cell v) : L2.Inv { Y with pn := p :: Y.pn } pins σ H s :=
  ⟨⟨I.ok.mod, I.ok.kind, I.ok.glob, I.ok.blt, I.ok.above, I.ok.inj, I.ok.has, I.ok.cab, I.ok.hd, I.ok.frames, I.ok.stk, I.ok.exf, I.ok.bs, I.ok.bsz, I.ok.noex, I.ok.exfs, I.ok.funs, I.ok.frf⟩, I.os, I.bare, I.base, I.loc, I.cell, I.free, I.freeC,
    fun q hq => by
      rcases List.mem_cons.mp hq with z | z
      · rw [z]; exact hp
      · exact I.pin q z, I.hok, I.len⟩
theorem Inv.dropPn {Y : Cx} {pins : List (Addr × Obj)} {σ : L2.St} {H : Hp} {s : Shared} {p : Addr × Obj} (I : L2.Inv { Y with pn := p :: Y.pn } pins σ H s) : L2.Inv Y pins σ H s :=
  ⟨⟨I.ok.mod, I.ok.kind, I.ok.glob, I.ok.blt, I.ok.above, I.ok.inj, I.ok.has, I.ok.cab, I.ok.hd, I.ok.frames, I.ok.stk, I.ok.exf, I.ok.bs, I.ok.bsz, I.ok.noex, I.ok.exfs, I.ok.funs, I.ok.frf⟩, I.os, I.bare, I.base, I.loc, I.cell, I.free, I.freeC,
    fun q hq => I.pin q (List.mem_cons_of_mem _ hq), I.hok, I.len⟩
section
variable {X : Cx}
theorem comp_coreH {ah : Addr} {oh : Obj} {vh : Array Value} {Qf : Value → Shared → Prop} {pins : List (Addr × Obj)} {s : Shared} {σ : L2.St} {H : Hp} {Q : VK} {b : Bool} {elt tg iter : Expr} {ifs : List Expr} {scope : Scope} {own : List (PySem.Str × Nat)} {pos pos' : Pos} {wi : TI} {g : TG} {tt : TT} {acc0 : Addr → HO} {tm : Addr → TM} {o0 : Obj} {nw : Sem Value}
    (hnw : ∀ {s : Shared} {Q : Value → Shared → Prop}, Q (.ref s.heap.objs.size) { s with heap := s.heap.push o0 } → wpAny (model X.prog X.w) X.A nw Q X.xe s) (h0 : ∀ (H : Hp) (h : Heap), ObjOk X.prog X.w H (h.push o0) h.objs.size (acc0 h.objs.size))
    (hh : X.A.handled = some (.ref ah)) (hpn : (ah, oh) ∈ X.pn) (hd : oh.data = .fields vh) (hv : vh[2]? = some .none) (hN : X.N.Nodup) (I : L2.Inv X pins σ H s) (hi : L2H.PIH X tg iter wi) (ok : BlkOk X.N X.env.scope scope own) 
    (hg : ∀ (s : Shared) (H : Hp) (C : Addr) (cl : List (PySem.Str × Addr)) (fp : List Addr), PG (X.blk s H scope (compEnvC scope cl C X.env) fp) tg g) (ht : ∀ (s : Shared) (H : Hp) (C : Addr) (cl : List (PySem.Str × Addr)) (fp : List Addr), PTs (X.blk s H scope (compEnvC scope cl C X.env) fp) ifs tt)
    (hm : ∀ (s : Shared) (H : Hp) (C : Addr) (cl : List (PySem.Str × Addr)) (fp : List Addr) (D : Addr), PM (X.blk s H scope (compEnvC scope cl C X.env) fp) b elt (.ref D) (tm D))
    (hs : ∀ x, foldedSetIterable iter X.env x = pure x) (h : tCn acc0 tm wi g tt (own.map (·.2)) [] σ H Q)
    (hRR : ∀ D C s' m H', L2.Inv X pins σ H' s' → Q (.ref D) H' → s'.heap.Ns C m → FpOk X pins H' C → compPost (model X.prog X.w) X.A X.xe none Qf (.ref D) C (.ok .next) s') :
    wpAny (model X.prog X.w) X.A (comprehension (cEx b elt [⟨tg, iter, ifs, 0⟩] scope pos) scope X.env pos' nw false (eval iter X.env) none) Qf X.xe s := by
  have hfree : ∀ y ∈ scope.names, y.2 = .free → ∃ c, X.env.cells.lookup y.1 = some c := fun y hy e => by
    rcases ok.free y hy e with k | k
    · exact I.ok.has _ (.inl k)
    · exact I.ok.has _ (.inr k)
  have hcl : clausesOf (cEx b elt [⟨tg, iter, ifs, 0⟩] scope pos) = [⟨tg, iter, ifs, 0⟩] := by cases b <;> rfl
  have hz2 : ∀ g ∈ ([⟨tg, iter, ifs, 0⟩] : List Comprehension), g.is_async = 0 := fun g hg => by rw [List.mem_singleton.mp hg]
  refine wpAny_comprehension_free (use := none) hcl hs (closure_ok hfree) ok.kind (fun y hy e => by rw [ok.uniq y hy, e]) (thn (hi.run pins s σ H _ I h) fun xv s1 hx => thn hx fun itv s2 h2 => ?_)
  obtain ⟨it, fp, tn, J, H2, e, I2, T, st2, f2, q⟩ := h2
  subst e
  refine hnw (newEnv_comp ?_)
  generalize hD : s2.heap.objs.size = D
  have hDn : H2 D = none := I2.hok.fresh (Nat.le_of_eq hD)
  obtain ⟨W, ⟨m0, w0⟩, turn⟩ := q D hDn
  generalize hs3 : ({ s2 with heap := s2.heap.push o0 } : Shared) = s3
  have I3 : L2.Inv X pins σ (L2.upd H2 D (acc0 D)) s3 := by
    rw [← hs3]
    refine I2.laid (t' := s2.toks) (fun b o e => Heap.get?_push_of_some _ e) (Nat.le_of_eq hD) ?_
    rw [← hD]
    exact h0 _ _
  have h3 : s3.heap = s2.heap.push o0 := by rw [← hs3]
  have f3 : ∀ c ∈ fp, FpOk X pins (L2.upd H2 D (acc0 D)) c ∧ c < s3.heap.objs.size := fun c hb => by
    obtain ⟨o, e, _⟩ := T.obj _ _ st2 c hb
    have hlt := Heap.lt_size e
    refine ⟨⟨?_, (f2 c hb).2⟩, by rw [h3, Heap.size_push]; exact Nat.lt_succ_of_lt hlt⟩
    rw [upd_ne (by rw [← hD]; exact Nat.ne_of_lt hlt)]
    exact (f2 c hb).1
  have st3 : tn 0 s3.heap := T.keep _ _ _ st2 fun c _ o e => by rw [h3]; exact Heap.get?_push_of_some _ e
  have I4 := block_start I3 ok hN f3
  have pg := hg s3 (L2.upd H2 D (acc0 D)) s3.heap.objs.size (cellsFrom (s3.heap.objs.size + 1) scope.names (cloFrom X.env.cells scope.names [])) fp
  have pt := ht s3 (L2.upd H2 D (acc0 D)) s3.heap.objs.size (cellsFrom (s3.heap.objs.size + 1) scope.names (cloFrom X.env.cells scope.names [])) fp
  have pm := hm s3 (L2.upd H2 D (acc0 D)) s3.heap.objs.size (cellsFrom (s3.heap.objs.size + 1) scope.names (cloFrom X.env.cells scope.names [])) fp D
  have nfp : ∀ c ∈ fp, (L2.upd H2 D (acc0 D)) c = none := fun c hb => (f3 c hb).1.1
  show codeAny _ _ (.compStart (cEx b elt [⟨tg, iter, ifs, 0⟩] scope pos) 0 (.ref it) (.ref D) (compEnvC scope (cellsFrom (s3.heap.objs.size + 1) scope.names (cloFrom X.env.cells scope.names [])) s3.heap.objs.size X.env)) (compPost (model X.prog X.w) X.A X.xe none Qf (.ref D) s3.heap.objs.size) { s3 with heap := pushCells (s3.heap.push { cls := .type "dict", data := .dict #[] }) scope.names }
  generalize hce : compEnvC scope (cellsFrom (s3.heap.objs.size + 1) scope.names (cloFrom X.env.cells scope.names [])) s3.heap.objs.size X.env = ce at I4 pg pt pm ⊢
  have cL : ce.locals = s3.heap.objs.size := by subst hce; rfl
  generalize hH3 : L2.upd H2 D (acc0 D) = H3 at I3 I4 pg pt pm w0 nfp f3
  generalize hs4 : ({ s3 with heap := pushCells (s3.heap.push { cls := .type "dict", data := .dict #[] }) scope.names } : Shared) = s4 at I4 ⊢
  have st4 : tn 0 s4.heap := T.keep _ _ _ st3 fun c _ o e => by rw [← hs4]; exact pushCells_keeps _ _ _ _ (Heap.get?_push_of_some _ e)
  have stat : ∀ {σ' : L2.St} {H' : Hp} {s' : Shared}, L2.Inv (X.blk s3 H3 scope ce fp) [] σ' H' s' → (∀ c ∈ fp, H' c = none) → ∀ c ∈ fp, FpOk (X.blk s3 H3 scope ce fp) [] H' c := fun {σ' H' s'} I' hn c hb =>
    ⟨hn c hb, (I'.ok.exf c hb).1, I'.ok.exfs c hb, .inl hb, fun x d e => (I'.ok.exf c hb).2 x d e, fun p hp => absurd (show p ∈ ([] : List (Addr × Obj)) ++ [] from hp) (by simp)⟩
  obtain ⟨q1, q2, q3, q4, q5⟩ := I3.pin (ah, oh) (List.mem_append_left _ hpn)
  have ahfp : ∀ c ∈ fp, ah ≠ c := fun c hb => (f3 c hb).1.2.2.2.2.2 (ah, oh) (List.mem_append_left _ hpn)
  have hot : ∀ {σ' : L2.St} {H' : Hp} {s' : Shared}, L2.Inv (X.blk s3 H3 scope ce fp) [] σ' H' s' → L2.Inv { X.blk s3 H3 scope ce fp with pn := (ah, oh) :: [] } [] σ' H' s' := fun {σ' H' s'} I' => by
    have nf : ah ∉ (X.blk s3 H3 scope ce fp).fs := fun z => (List.mem_cons.mp (I3.stkSub ah z)).elim q3 q4
    have nx : ah ∉ (X.blk s3 H3 scope ce fp).ex := fun z => ahfp ah z rfl
    refine Inv.withPn I' ⟨I'.base.keep ah oh q1 q2 nf nx, I'.base.free ah oh q1 q2 nx, ?_, nf, q5⟩
    show ah ≠ ce.locals
    rw [cL]
    exact Nat.ne_of_lt (Heap.lt_size q1)
  have isHot : L2H.HotC { X.blk s3 H3 scope ce fp with pn := (ah, oh) :: [] } := ⟨(ah, oh), ⟨hh, vh, hd, hv⟩, List.mem_cons_self⟩
  have statH : ∀ {σ' : L2.St} {H' : Hp} {s' : Shared}, L2.Inv (X.blk s3 H3 scope ce fp) [] σ' H' s' → (∀ c ∈ fp, H' c = none) → ∀ c ∈ fp, FpOk { X.blk s3 H3 scope ce fp with pn := (ah, oh) :: [] } [] H' c := fun {σ' H' s'} I' hn c hb => by
    obtain ⟨e1, e2, e3, e4, e5, _⟩ := stat I' hn c hb
    refine ⟨e1, e2, e3, e4, e5, fun p hp => ?_⟩
    have hp : p ∈ (ah, oh) :: ([] : List (Addr × Obj)) ++ [] := hp
    rw [List.append_nil] at hp
    rw [List.mem_singleton.mp hp]
    exact ahfp c hb
  have loop : codeAny (model X.prog X.w) X.A (.compLoop (cEx b elt [⟨tg, iter, ifs, 0⟩] scope pos) 0 (.ref it) (.ref D) ce) (compPost (model X.prog X.w) X.A X.xe none Qf (.ref D) s3.heap.objs.size) s4 := by
    refine loop_n (g := ⟨tg, iter, ifs, 0⟩) rfl hz2 (fun n s' => ∃ i H', L2.Inv (X.blk s3 H3 scope ce fp) [] (wipe σ (own.map (·.2))) H' s' ∧ tn i s'.heap ∧ (∀ c ∈ fp, H' c = none) ∧ W i n H') ?_ m0 ⟨0, H3, I4, st4, nfp, w0⟩
    rintro n s5 ⟨i, H5, I5, st5, n5, w5⟩
    rcases turn i n H5 w5 with ⟨stop, qq⟩ | ⟨go, Nx, hNx, step⟩
    · refine thnF (T.done { X.blk s3 H3 scope ce fp with pn := (ah, oh) :: [] } rfl rfl rfl isHot i [] s5 _ H5 FF (hot I5) (statH I5 n5) st5 stop) fun r s6 ⟨hr, I6h⟩ => ?_
      have I6 := Inv.dropPn I6h
      subst hr
      have I7 : L2.Inv X pins σ H5 s6 := I3.call' (ch := fp) I6.os I6.base I6.hok I6.bare fun c hb => ⟨(f3 c hb).1.2.2.2.1, (f3 c hb).1.2.1, (f3 c hb).1.2.2.2.2.1, (f3 c hb).1.2.2.2.2.2⟩
      have nC : H5 s3.heap.objs.size = none := by
        have z : H5 ce.locals = none := I6.free
        rw [cL] at z
        exact z
      obtain ⟨m, hn, _⟩ := I6.loc
      have hn : s6.heap.Ns ce.locals m := hn
      rw [cL] at hn
      exact hRR D _ s6 m H5 I7 qq hn (I3.fpOk (H' := H5) (Nat.le_refl s3.heap.objs.size) nC)
    · refine thnF (T.item { X.blk s3 H3 scope ce fp with pn := (ah, oh) :: [] } rfl rfl rfl isHot i [] s5 _ H5 FF (hot I5) (statH I5 n5) st5 go) fun r s6 ⟨u, hr, h6⟩ => ?_
      subst hr
      refine thnF h6 fun _ s7 ⟨x, H7, I7h, r7, y7, st7, n7⟩ => ?_
      have I7 := Inv.dropPn I7h
      have I7' := I7.pinned (stat I7 n7) (T.obj _ _ st7)
      refine thnF (pg.run _ s7 _ H7 x u _ I7' r7 (step x H7 y7)) fun _ s8 ⟨σ8, H8, I8, hw8, q8⟩ => ?_
      refine thnF (pt.run _ s8 σ8 H8 _ I8 q8) fun bb s9 ⟨H9, I9, q9⟩ => ?_
      have fin : ∀ {s' : Shared} {H' : Hp}, L2.Inv (X.blk s3 H3 scope ce fp) ([] ++ pinsAt fp s7.heap) (wipe σ8 (own.map (·.2))) H' s' → Nx H' → ∃ m, m < n ∧ ∃ i H', L2.Inv (X.blk s3 H3 scope ce fp) [] (wipe σ (own.map (·.2))) H' s' ∧ tn i s'.heap ∧ (∀ c ∈ fp, H' c = none) ∧ W i m H' := fun {s' H'} I' nx => by
        obtain ⟨m', hm', w'⟩ := hNx H' nx
        have pin' : ∀ c ∈ fp, ∀ o, s7.heap.get? c = some o → s'.heap.get? c = some o ∧ H' c = none := fun c hb o e =>
          let z := I'.pin (c, o) (List.mem_append_right _ (List.mem_append_right _ (mem_pinsAt hb e)))
          ⟨z.1, z.2.1⟩
        rw [hw8] at I'
        refine ⟨m', hm', i + 1, H', I'.unpinned (pins := []), T.keep _ _ _ st7 fun c hb o e => (pin' c hb o e).1, fun c hb => ?_, w'⟩
        obtain ⟨o, e, _⟩ := T.obj _ _ st7 c hb
        exact (pin' c hb o e).2
      cases bb with
      | false =>
        simp only [Bool.false_eq_true, if_false] at q9 ⊢
        exact fin (weakW I9 _) q9
      | true =>
        simp only [if_true] at q9 ⊢
        unfold cIn
        rw [show ([⟨tg, iter, ifs, 0⟩] : List Comprehension)[0 + 1]? = none from rfl]
        exact thnF (pm _ s9 σ8 H9 Nx I9 q9) fun _ s10 ⟨H10, I10, q10⟩ => fin (weakW I10 _) q10
  exact start_n (g := ⟨tg, iter, ifs, 0⟩) rfl hz2 loop (T.self X.A 0 _ _ _ st4 loop)
theorem comp_coreHE {ah : Addr} {oh : Obj} {vh : Array Value} {pins : List (Addr × Obj)} {s : Shared} {σ : L2.St} {H : Hp} {Q : VK} {b : Bool} {elt tg iter : Expr} {ifs : List Expr} {scope : Scope} {own : List (PySem.Str × Nat)} {pos pos' : Pos} {wi : TI} {g : TG} {tt : TT} {acc0 : Addr → HO} {tm : Addr → TM} {o0 : Obj} {nw : Sem Value}
    (hnw : ∀ {s : Shared} {Q : Value → Shared → Prop}, Q (.ref s.heap.objs.size) { s with heap := s.heap.push o0 } → wpAny (model X.prog X.w) X.A nw Q X.xe s) (h0 : ∀ (H : Hp) (h : Heap), ObjOk X.prog X.w H (h.push o0) h.objs.size (acc0 h.objs.size))
    (hh : X.A.handled = some (.ref ah)) (hpn : (ah, oh) ∈ X.pn) (hd : oh.data = .fields vh) (hv : vh[2]? = some .none) (hN : X.N.Nodup) (I : L2.Inv X pins σ H s) (hi : L2H.PIH X tg iter wi) (ok : BlkOk X.N X.env.scope scope own)
    (hg : ∀ (s : Shared) (H : Hp) (C : Addr) (cl : List (PySem.Str × Addr)) (fp : List Addr), PG (X.blk s H scope (compEnvC scope cl C X.env) fp) tg g) (ht : ∀ (s : Shared) (H : Hp) (C : Addr) (cl : List (PySem.Str × Addr)) (fp : List Addr), PTs (X.blk s H scope (compEnvC scope cl C X.env) fp) ifs tt)
    (hm : ∀ (s : Shared) (H : Hp) (C : Addr) (cl : List (PySem.Str × Addr)) (fp : List Addr) (D : Addr), PM (X.blk s H scope (compEnvC scope cl C X.env) fp) b elt (.ref D) (tm D))
    (hs : ∀ x, foldedSetIterable iter X.env x = pure x) (h : tCn acc0 tm wi g tt (own.map (·.2)) [] σ H Q) :
    wpAny (model X.prog X.w) X.A (comprehension (cEx b elt [⟨tg, iter, ifs, 0⟩] scope pos) scope X.env pos' nw false (eval iter X.env) none) (EP X pins σ Q) X.xe s :=
  comp_coreH hnw h0 hh hpn hd hv hN I hi ok hg ht hm hs h fun D C s' m H' I' q hn f => ⟨m, hn, fun h'' sb => by
    obtain ⟨f0, f1, f2, f3, f4, f5⟩ := f
    exact ⟨.ref D, H', I'.turned (t' := s'.toks) (fun c o hb e => (sb.2 c hb).trans e) f0 f1 f3 f4 f5, rfl, q⟩⟩
end
section
variable {X : Cx} {g : G} {a tg : Expr} {pos : Pos}
def DIH (X : Cx) (g : G) (tg e : Expr) (f : En → Rs (List D)) : Prop := L2H.PIH X tg e (tID X.K g f)
theorem di_range1H {f : En → Rs D} {p : Pos} (hm : X.mg "range" = none) (h : DE X g a f) (hg : Gl X "range" := by rfl) (hs : starEach [a] X.env = [(false, eval a X.env)] := by rfl) : DIH X g tg (.Call (.Name "range" p) [a] [] pos) (rg1 f) :=
  ⟨fun pins s σ H Q I q => (L2H.pi_range1H hg hm (pa_cons h pa_nil hs) hs).run pins s σ H Q I (by
    obtain ⟨F, r, R, q⟩ := q
    exact ⟨F, r, R, post_mono (post_bind q) fun d r1 q F1 H1 v sm R1 hv => by
      obtain ⟨i, ed, q⟩ := post_ofO (post_bind q)
      have ed := asI_some ed
      subst ed
      obtain ⟨hi, q⟩ := post_if q
      cases hv
      exact ⟨i, rfl, by omega, by omega, q F1 H1 _ sm R1 wk_range⟩⟩)⟩
end
section
variable {X : Cx} {g : G} {elt tg iter : Expr} {ifs : List Expr} {scope : Scope} {own : List (PySem.Str × Nat)} {pos : Pos} {c : GDt} {fe : En → Rs D} {ah : Addr} {oh : Obj} {cls : Value} {dd : Option Addr}
theorem do_lcH (hh : X.A.handled = some (.ref ah)) (hpn : (ah, oh) ∈ X.pn) (hz : L2N.Zn cls dd oh) (hf : ∃ vs, oh.data = .fields vs) (hN : X.N.Nodup) (hi : DIH X g tg iter c.f) (ok : BlkOk X.N X.env.scope scope own) (hvs : own.map (·.2) = c.vs) (hb : ∀ p ∈ g.B, p.1 ∉ c.vs) (hks : ∀ i ∈ c.ks, i ∈ c.vs)
    (hg : ∀ (s : Shared) (H : Hp) (C : Addr) (cx : List (PySem.Str × Addr)) (fp : List Addr) (g' : G), Blk g g' → DG (X.blk s H scope (compEnvC scope cx C X.env) fp) g' tg c.ks c.h)
    (ht : ∀ (s : Shared) (H : Hp) (C : Addr) (cx : List (PySem.Str × Addr)) (fp : List Addr) (g' : G), Blk g g' → PTs (X.blk s H scope (compEnvC scope cx C X.env) fp) ifs (tTD X.K g' c.t))
    (he : ∀ (s : Shared) (H : Hp) (C : Addr) (cx : List (PySem.Str × Addr)) (fp : List Addr) (g' : G), Blk g g' → DE (X.blk s H scope (compEnvC scope cx C X.env) fp) g' elt fe) (hs : ∀ x, foldedSetIterable iter X.env x = pure x := by intro _; rfl) :
    DO X g (.ListComp elt [⟨tg, iter, ifs, 0⟩] scope pos) (lcND [c] fe) := by
  have pe : PE X (.ListComp elt [⟨tg, iter, ifs, 0⟩] scope pos) (tCn (fun _ => .lst []) (fun A => tmG (fun s H Q => ∃ g' : G, Blk g g' ∧ tD X.K g' fe s H Q) (EmL A) A) (tID X.K g c.f) (fun v s H Q => ∃ g' : G, Blk g g' ∧ tGD X.K g' c.ks c.h v s H Q) (fun s H Q => ∃ g' : G, Blk g g' ∧ tTD X.K g' c.t s H Q) c.vs []) := by
    rw [← hvs]
    obtain ⟨vh, hd⟩ := hf
    refine ⟨fun pins s σ H Q I h => ?_⟩
    rw [eval_ListComp]
    exact comp_coreHE (b := false) (acc0 := fun _ => .lst []) (o0 := { cls := .type "list", data := .seq ([] : List Value).toArray }) (fun {s Q} q => wpAny_newObj_type q (by show 0 ≤ sizeLine; decide)) (fun H h => ⟨Nat.zero_le _, [], 0, .nil, Heap.get?_push_size _ rfl⟩) hh hpn hd (hz.2.2 vh hd) hN I hi ok
      (fun s H C cx fp => ⟨fun pins s2 σ H2 v u Q I rv ⟨g', eg, q⟩ => (hg s H C cx fp g' eg).run pins s2 σ H2 v u Q I rv q⟩)
      (fun s H C cx fp => ⟨fun pins s2 σ H2 Q I ⟨g', eg, q⟩ => (ht s H C cx fp g' eg).run pins s2 σ H2 Q I q⟩)
      (fun s H C cx fp D => pmG_list rfl ⟨fun pins s2 σ H2 Q I ⟨g', eg, q⟩ => (he s H C cx fp g' eg).run pins s2 σ H2 Q I q⟩)
      hs h
  refine PE.imp pe fun s H Q ⟨F, r, R, q⟩ => ?_
  refine top_imp (AR := ARL X.K) (ok := okL) (fun sm ⟨vacc, e, h⟩ => ⟨vacc, e, RDs.mono sm _ h⟩) (fun {A F H acc o v y} _ ⟨vacc, e, h⟩ hv hok => ?_) (fun A F => ⟨[], rfl, .nil⟩) c [] hb hks (fun _ z => by cases z) s H F r _ Q R (post_noE (post_map q)) fun A F' r' acc' o' H' sm R' h1 h2 h3 h4 h5 ⟨vacc, e, h6⟩ qc => ?_
  · subst e
    have hl : acc.length < 1000000 := of_decide_eq_true hok
    exact ⟨_, ⟨vacc, rfl, by rw [h.length]; exact Nat.lt_of_lt_of_le hl mil_line, rfl⟩, vacc ++ [v], rfl, h.app (.cons hv .nil)⟩
  · subst e
    exact qc F' H' (.ref A) sm R' ⟨A, vacc, rfl, h2, h1, h6, h3, h5, h4⟩
end
end DL

/-! Data layer, part 19: plain lemmas about dicts. -/
namespace DL
open PySem L2
theorem semAt_lst (xs : List D) (i : Int) : semAt (.lst xs) (.int i) = atI xs i := rfl
theorem semAt_tup (xs : List D) (i : Int) : semAt (.tup xs) (.int i) = atI xs i := rfl
theorem semAt_str (x : Str) (i : Int) : semAt (.str x) (.int i) = if x.length ≤ 1000000 then (atI x.cps.toList i).map fun c => .str ⟨#[c]⟩ else none := rfl
theorem semAt_dic (ds : List (Key × D)) (y : D) : semAt (.dic ds) y = y.key.bind fun k => valD ds k := rfl
end DL

/-! Tools, part 2: plain data can be shown. -/
namespace DL
open PySem L2
end DL

/-! Tools, part 3: slices by natural numbers, lists. -/
namespace DL
open PySem L2
end DL

/-! Tools, part 4: comprehensions with two fors, dicts that can be shown. -/
namespace DL
open PySem L2
/-! ### dicts -/
end DL

/-! plain tools, part 5: stepping through ifs, returns, whiles. -/
namespace DL
open PySem L2
/-! operations put together -/
end DL

/-! plain tools, part 6: sorted texts, comprehensions with two clauses. -/
namespace DL
open PySem L2
end DL

/-! plain tools, part 7: calls put together. -/
namespace DL
open PySem L2
theorem seqS_assoc (f g h : En → SRs) (r : En) : seqS f (seqS g h) r = seqS (seqS f g) h r := by
  unfold seqS
  cases f r <;> rfl
end DL

/-! plain tools, part 8: errors, instances. -/
namespace DL
open PySem L2
section
variable {ct : Str → Option Bool} {i : Nat} {fb fs : En → SRs} {r r1 r2 : En} {x : Exn} {o : OV}
end
end DL

/-! plain tools, part 9: running by what is wanted of the end. -/
namespace DL
open PySem L2
/-- the expression ends well, with Q, or in an error, with E -/
def wE {α : Type} (f : En → Rs α) (r : En) (Q : α → En → Prop) (E : Exn → En → Prop) : Prop := match f r with
  | .ok a r1 => Q a r1
  | .ex x r1 => E x r1
  | .bad => False
def wS (f : En → SRs) (r : En) (Q : SRs → Prop) : Prop := Q (f r)
/-- no error -/
def nE : Exn → En → Prop := fun _ _ => False
section
variable {α β : Type} {r r1 : En} {Q : α → En → Prop} {E : Exn → En → Prop} {S : SRs → Prop}
theorem wE_ok {f : En → Rs α} {a : α} (e : f r = .ok a r1) (q : Q a r1) : wE f r Q E := by unfold wE; rw [e]; exact q
theorem wE_get {f : En → Rs α} (h : wE f r Q nE) : ∃ a r1, f r = .ok a r1 ∧ Q a r1 := by
  unfold wE at h
  revert h
  cases e : f r with
  | ok a r1 => exact fun h => ⟨a, r1, rfl, h⟩
  | ex x r1 => exact fun h => h.elim
  | bad => exact fun h => h.elim
theorem wE_mono {f : En → Rs α} {Q' : α → En → Prop} {E' : Exn → En → Prop} (h : wE f r Q E) (i : ∀ a r1, Q a r1 → Q' a r1) (j : ∀ x r1, E x r1 → E' x r1) : wE f r Q' E' := by
  unfold wE at *
  cases e : f r with
  | ok a r1 => rw [e] at h; exact i _ _ h
  | ex x r1 => rw [e] at h; exact j _ _ h
  | bad => rw [e] at h; exact h
/-! the parts' rules; the ones of bind's make -/
theorem wE_bind {f : En → Rs β} {k : β → En → Rs α} {g : En → Rs α} (hg : g r = (f r).bind k) (h : wE f r (fun b r1 => wE (k b) r1 Q E) E) : wE g r Q E := by
  unfold wE at *
  rw [hg]
  cases e : f r with
  | ok a r1 => rw [e] at h; exact h
  | ex x r1 => rw [e] at h; exact h
  | bad => rw [e] at h; exact h
theorem wE_map {f : En → Rs β} {k : β → α} {g : En → Rs α} (hg : g r = (f r).map k) (h : wE f r (fun b r1 => Q (k b) r1) E) : wE g r Q E := by
  unfold wE at *
  rw [hg]
  cases e : f r with
  | ok a r1 => rw [e] at h; exact h
  | ex x r1 => rw [e] at h; exact h
  | bad => rw [e] at h; exact h
theorem wE_ofO {o : Option α} {a : α} (e : o = some a) (q : Q a r) : wE (fun r => ofO o r) r Q E := by subst e; exact q
end
section
variable {r : En} {Q : D → En → Prop} {E : Exn → En → Prop}
theorem w_con {d : D} (q : Q d r) : wE (cD d) r Q E := q
theorem w_var {i : Nat} {d : D} (e : r[i]? = some (some (.sh d))) (q : Q d r) : wE (vD i) r Q E := by unfold wE vD; rw [e]; exact q
theorem w_varO {i : Nat} {xs : List D} (e : r[i]? = some (some (.ow xs))) (q : ∀ r1, r.set i (some (.sh (.lst xs))) = r1 → Q (.lst xs) r1) : wE (vD i) r Q E := by unfold wE vD; rw [e]; exact q _ rfl
theorem w_frz {f : En → Rs OV} (h : wE f r (fun o r1 => ∀ d, o.d = d → Q d r1) E) : wE (frzD f) r Q E := wE_map rfl (wE_mono h (fun _ _ h => h _ rfl) fun _ _ h => h)
theorem w_sh {f : En → Rs D} {Q : OV → En → Prop} (h : wE f r (fun d r1 => Q (.sh d) r1) E) : wE (shD f) r Q E := wE_map rfl h
theorem w_mv {i : Nat} {d : D} {Q : OV → En → Prop} (e : r[i]? = some (some (.sh d))) (q : Q (.sh d) r) : wE (mvD i) r Q E := by unfold wE mvD lookV; rw [e]; exact q
theorem w_mvO {i : Nat} {xs : List D} {Q : OV → En → Prop} (e : r[i]? = some (some (.ow xs))) (q : ∀ r1, r.set i none = r1 → Q (.ow xs) r1) : wE (mvD i) r Q E := by unfold wE mvD lookV; rw [e]; exact q _ rfl
end
/-! operands -/
section
variable {r : En} {E : Exn → En → Prop}
theorem w_oex {f : En → Rs D} {Q : Sum D Nat → En → Prop} (h : wE f r (fun d r1 => Q (.inl d) r1) E) : wE (Opd.ex f).run r Q E := wE_map (g := (Opd.ex f).run) rfl h
theorem w_ova {i : Nat} {o : OV} {Q : Sum D Nat → En → Prop} (e : r[i]? = some (some o)) (q : Q (.inr i) r) : wE (Opd.va i).run r Q E := by
  refine wE_ok (r1 := r) (a := .inr i) ?_ q
  show (fill r i).bind (fun _ r => Rs.ok (Sum.inr i) r) = _
  unfold fill
  rw [e]
  rfl
theorem lk_l {d : D} : look r (.inl d) = some d := rfl
theorem lk_sh {i : Nat} {d : D} (e : r[i]? = some (some (.sh d))) : look r (.inr i) = some d := by show (lookV r i).map OV.d = _; unfold lookV; rw [e]; rfl
theorem lk_ow {i : Nat} {xs : List D} (e : r[i]? = some (some (.ow xs))) : look r (.inr i) = some (.lst xs) := by show (lookV r i).map OV.d = _; unfold lookV; rw [e]; rfl
variable {Q : D → En → Prop}
/-- what an operation gives: to be shown, and what follows -/
def Gi {β : Type} (o : Option β) (k : β → Prop) : Prop := ∃ z, o = some z ∧ k z
theorem Gi.of {β : Type} {o : Option β} {k : β → Prop} {z : β} (e : o = some z) (q : k z) : Gi o k := ⟨z, e, q⟩
theorem gi_l {d : D} {k : D → Prop} (q : k d) : Gi (look r (.inl d)) k := ⟨d, rfl, q⟩
theorem w_op1 {p : Opd} {sem : D → Option D} (h : wE p.run r (fun a r1 => Gi (look r1 a) fun x => Gi (sem x) fun z => Q z r1) E) : wE (op1 p sem) r Q E :=
  wE_bind rfl (wE_mono h (fun a r1 ⟨x, e1, z, e2, q⟩ => wE_ok (r1 := r1) (a := z) (by simp only [e1, Option.bind_some, e2, ofO]) q) fun _ _ h => h)
theorem w_op2 {p u : Opd} {sem : D → D → Option D} (h : wE p.run r (fun a r1 => wE u.run r1 (fun b r2 => Gi (look r2 a) fun x => Gi (look r2 b) fun y => Gi (sem x y) fun z => Q z r2) E) E) : wE (op2 p u sem) r Q E :=
  wE_bind rfl (wE_mono h (fun a r1 h => wE_bind rfl (wE_mono h (fun b r2 ⟨x, e1, y, e2, z, e3, q⟩ => wE_ok (r1 := r2) (a := z) (by simp only [e1, e2, Option.bind_some, e3, ofO]) q) fun _ _ h => h)) fun _ _ h => h)
theorem w_op2O {p u : Opd} {sem : D → D → Option (List D)} {Q : OV → En → Prop} (h : wE p.run r (fun a r1 => wE u.run r1 (fun b r2 => Gi (look r2 a) fun x => Gi (look r2 b) fun y => Gi (sem x y) fun z => Q (.ow z) r2) E) E) : wE (op2O p u sem) r Q E :=
  wE_bind rfl (wE_mono h (fun a r1 h => wE_bind rfl (wE_mono h (fun b r2 ⟨x, e1, y, e2, z, e3, q⟩ => wE_ok (r1 := r2) (a := .ow z) (by simp only [e1, e2, Option.bind_some, e3, Option.map_some, ofO]) q) fun _ _ h => h)) fun _ _ h => h)
/-! lists of operands -/
theorem w_rnil {Q : List (Sum D Nat) → En → Prop} (q : Q [] r) : wE (runs []) r Q E := q
theorem w_rcons {p : Opd} {ps : List Opd} {Q : List (Sum D Nat) → En → Prop} (h : wE p.run r (fun a r1 => wE (runs ps) r1 (fun as r2 => Q (a :: as) r2) E) E) : wE (runs (p :: ps)) r Q E :=
  wE_bind (g := runs (p :: ps)) (k := fun x r1 => (runs ps r1).bind fun xs r2 => .ok (x :: xs) r2) rfl (wE_mono h (fun a r1 h => wE_bind (k := fun xs r2 => Rs.ok (a :: xs) r2) rfl (wE_mono h (fun as r2 q => q) fun _ _ h => h)) fun _ _ h => h)
theorem lks_nil : looks r [] = some [] := rfl
theorem lks_cons {a : Sum D Nat} {as : List (Sum D Nat)} {x : D} {xs : List D} (h : look r a = some x) (h2 : looks r as = some xs) : looks r (a :: as) = some (x :: xs) := by
  show ((look r a).bind fun d => (looks r as).map fun ds => d :: ds) = _
  rw [h, h2]
  rfl
theorem w_opN {ps : List Opd} {sem : List D → Option D} (h : wE (runs ps) r (fun as r1 => Gi (looks r1 as) fun xs => Gi (sem xs) fun z => Q z r1) E) : wE (opN ps sem) r Q E :=
  wE_bind rfl (wE_mono h (fun a r1 ⟨x, e1, z, e2, q⟩ => wE_ok (r1 := r1) (a := z) (by simp only [e1, Option.bind_some, e2, ofO]) q) fun _ _ h => h)
theorem w_opNO {ps : List Opd} {sem : List D → Option (List D)} {Q : OV → En → Prop} (h : wE (runs ps) r (fun as r1 => Gi (looks r1 as) fun xs => Gi (sem xs) fun z => Q (.ow z) r1) E) : wE (opNO ps sem) r Q E :=
  wE_bind rfl (wE_mono h (fun a r1 ⟨x, e1, z, e2, q⟩ => wE_ok (r1 := r1) (a := .ow z) (by simp only [e1, Option.bind_some, e2, Option.map_some, ofO]) q) fun _ _ h => h)
/-- neither an instance nor the script -/
def _root_.DL.D.isk : D → Bool
  | .scr _ => false
  | .obj _ _ => false
  | _ => true
theorem w_isi {p : Opd} {Ts : List String} (h : wE p.run r (fun a r1 => Gi (look r1 a) fun x => x.isk = true ∧ Q (.bl (x.isi Ts)) r1) E) : wE (isiD p Ts) r Q E :=
  wE_bind rfl (wE_mono h (fun a r1 ⟨x, e1, h2, q⟩ => wE_ok (r1 := r1) (a := .bl (x.isi Ts)) (by
    rw [e1]
    cases x with
    | scr _ => exact absurd h2 Bool.false_ne_true
    | obj _ _ => exact absurd h2 Bool.false_ne_true
    | _ => rfl) q) fun _ _ h => h)
theorem w_m1 {p u : Opd} {sem : D → D → Option D} (h : wE p.run r (fun a r1 => ∃ y, look r1 a = some (.str y) ∧ wE u.run r1 (fun b r2 => Gi (look r2 b) fun d => Gi (sem (.str y) d) fun z => Q z r2) E) E) : wE (m1D p u sem) r Q E :=
  wE_bind rfl (wE_mono h (fun a r1 ⟨y, e1, h⟩ => by
    have : wE (fun r => (u.run r).bind fun z r2 => ofO ((look r2 z).bind fun d => sem (.str y) d) r2) r1 Q E := wE_bind rfl (wE_mono h (fun b r2 ⟨x, e2, z, e3, q⟩ => wE_ok (r1 := r2) (a := z) (by simp only [e2, Option.bind_some, e3, ofO]) q) fun _ _ h => h)
    unfold wE at this ⊢
    simp only [e1]
    exact this) fun _ _ h => h)
/-! lists of expressions -/
theorem w_enil {Q : List D → En → Prop} (q : Q [] r) : wE (evs []) r Q E := q
theorem w_econs {f : En → Rs D} {fs : List (En → Rs D)} {Q : List D → En → Prop} (h : wE f r (fun a r1 => wE (evs fs) r1 (fun as r2 => Q (a :: as) r2) E) E) : wE (evs (f :: fs)) r Q E :=
  wE_bind (g := evs (f :: fs)) (k := fun x r1 => (evs fs r1).bind fun xs r2 => .ok (x :: xs) r2) rfl (wE_mono h (fun a r1 h => wE_bind (k := fun xs r2 => Rs.ok (a :: xs) r2) rfl (wE_mono h (fun as r2 q => q) fun _ _ h => h)) fun _ _ h => h)
theorem w_tup {fs : List (En → Rs D)} (h : wE (evs fs) r (fun ds r1 => ds.length ≤ 1000 ∧ Q (.tup ds) r1) E) : wE (tupD fs) r Q E :=
  wE_bind rfl (wE_mono h (fun ds r1 ⟨hl, q⟩ => wE_ok (r1 := r1) (a := .tup ds) (by rw [if_pos hl]) q) fun _ _ h => h)
theorem w_lst {fs : List (En → Rs D)} {Q : OV → En → Prop} (h : wE (evs fs) r (fun ds r1 => ds.length ≤ 1000 ∧ Q (.ow ds) r1) E) : wE (lstD fs) r Q E :=
  wE_bind rfl (wE_mono h (fun ds r1 ⟨hl, q⟩ => wE_ok (r1 := r1) (a := .ow ds) (by rw [if_pos hl]) q) fun _ _ h => h)
theorem w_znil {Q : List D → En → Prop} (q : Q [] r) : wE nlZ r Q E := q
theorem w_zcons {f : En → Rs D} {fs : En → Rs (List D)} {Q : List D → En → Prop} (h : wE f r (fun a r1 => wE fs r1 (fun as r2 => Q (a :: as) r2) E) E) : wE (cnZ f fs) r Q E :=
  wE_bind (k := fun x r1 => (fs r1).bind fun xs r2 => .ok (x :: xs) r2) rfl (wE_mono h (fun a r1 h => wE_bind (k := fun xs r2 => Rs.ok (a :: xs) r2) rfl (wE_mono h (fun as r2 q => q) fun _ _ h => h)) fun _ _ h => h)
theorem w_zst {f : En → Rs D} {fs : En → Rs (List D)} {Q : List D → En → Prop} (h : wE f r (fun a r1 => Gi a.sq fun xs => wE fs r1 (fun as r2 => Q (xs ++ as) r2) E) E) : wE (stZ f fs) r Q E :=
  wE_bind (k := fun d r1 => (ofO d.sq r1).bind fun xs r1 => (fs r1).bind fun ds r2 => .ok (xs ++ ds) r2) rfl (wE_mono h (fun a r1 ⟨xs, e, h⟩ => wE_bind (f := fun r => ofO a.sq r) (k := fun xs r1 => (fs r1).bind fun ds r2 => .ok (xs ++ ds) r2) rfl (wE_ofO e (wE_bind (k := fun ds r2 => Rs.ok (xs ++ ds) r2) rfl (wE_mono h (fun as r2 q => q) fun _ _ h => h)))) fun _ _ h => h)
theorem w_lstZ {fs : En → Rs (List D)} {Q : OV → En → Prop} (h : wE fs r (fun ds r1 => ds.length ≤ 1000 ∧ Q (.ow ds) r1) E) : wE (lstZ fs) r Q E :=
  wE_bind rfl (wE_mono h (fun ds r1 ⟨hl, q⟩ => wE_ok (r1 := r1) (a := .ow ds) (by rw [if_pos hl]) q) fun _ _ h => h)
theorem w_tupZ {fs : En → Rs (List D)} (h : wE fs r (fun ds r1 => ds.length ≤ 1000 ∧ Q (.tup ds) r1) E) : wE (tupZ fs) r Q E :=
  wE_bind rfl (wE_mono h (fun ds r1 ⟨hl, q⟩ => wE_ok (r1 := r1) (a := .tup ds) (by rw [if_pos hl]) q) fun _ _ h => h)
/-! slices -/
theorem w_poN {Q : Option Int → En → Prop} (q : Q none r) : wE poN r Q E := q
theorem w_poS {f : En → Rs D} {Q : Option Int → En → Prop} (h : wE f r (fun d r1 => Gi d.asI fun i => Q (some i) r1) E) : wE (poS f) r Q E :=
  wE_bind rfl (wE_mono h (fun d r1 ⟨i, e, q⟩ => wE_ok (r1 := r1) (a := some i) (by rw [e]; rfl) q) fun _ _ h => h)
theorem w_sl {p : Opd} {lo hi : En → Rs (Option Int)} {sem : D → Option Int → Option Int → Option D} (h : wE p.run r (fun a r1 => wE lo r1 (fun l r2 => wE hi r2 (fun h r3 => Gi (look r3 a) fun x => Gi (sem x l h) fun z => Q z r3) E) E) E) : wE (slD p lo hi sem) r Q E :=
  wE_bind rfl (wE_mono h (fun a r1 h => wE_bind rfl (wE_mono h (fun l r2 h => wE_bind rfl (wE_mono h (fun u r3 ⟨x, e1, z, e2, q⟩ => wE_ok (r1 := r3) (a := z) (by simp only [e1, Option.bind_some, e2, ofO]) q) fun _ _ h => h)) fun _ _ h => h)) fun _ _ h => h)
end
end DL

/-! plain tools, part 10: running by what is wanted of the end: tests, calls, statements. -/
namespace DL
open PySem L2
section
variable {r : En} {E : Exn → En → Prop}
/-! tests -/
theorem w_yes {Q : Bool → En → Prop} (q : Q true r) : wE yesT r Q E := q
theorem w_toB {f : En → Rs D} {Q : Bool → En → Prop} (h : wE f r (fun d r1 => Gi d.asB fun b => Q b r1) E) : wE (toB f) r Q E :=
  wE_bind rfl (wE_mono h (fun d r1 ⟨i, e, q⟩ => wE_ok (r1 := r1) (a := i) (by rw [e]; rfl) q) fun _ _ h => h)
theorem w_toT {p : Opd} {Q : Bool → En → Prop} (h : wE p.run r (fun a r1 => Gi (look r1 a) fun x => Gi x.tru fun b => Q b r1) E) : wE (toT p) r Q E :=
  wE_bind rfl (wE_mono h (fun a r1 ⟨x, e1, z, e2, q⟩ => wE_ok (r1 := r1) (a := z) (by simp only [e1, Option.bind_some, e2, ofO]) q) fun _ _ h => h)
theorem w_notT {f : En → Rs Bool} {Q : Bool → En → Prop} (h : wE f r (fun b r1 => Q (!b) r1) E) : wE (notT f) r Q E := wE_map rfl h
theorem w_notD {f : En → Rs D} {Q : D → En → Prop} (h : wE f r (fun d r1 => Gi d.asB fun b => Q (.bl (!b)) r1) E) : wE (notD f) r Q E :=
  wE_bind rfl (wE_mono h (fun d r1 ⟨i, e, q⟩ => wE_ok (r1 := r1) (a := .bl (!i)) (by rw [e]; rfl) q) fun _ _ h => h)
theorem w_notV {p : Opd} {Q : D → En → Prop} (h : wE (toT p) r (fun b r1 => Q (.bl (!b)) r1) E) : wE (notV p) r Q E := wE_map rfl h
/-- a choice by a truth -/
def Ch (b : Bool) (P P' : Prop) : Prop := if b = true then P else P'
theorem Ch.t {P P' : Prop} (h : P) : Ch true P P' := h
theorem Ch.f {P P' : Prop} (h : P') : Ch false P P' := h
theorem Ch.ty {b : Bool} {P P' : Prop} (e : b = true) (h : P) : Ch b P P' := by subst e; exact h
theorem Ch.fy {b : Bool} {P P' : Prop} (e : b = false) (h : P') : Ch b P P' := by subst e; exact h
theorem Ch.dt {p : Prop} [Decidable p] {P P' : Prop} (e : p) (h : P) : Ch (decide p) P P' := Ch.ty (decide_eq_true e) h
theorem Ch.df {p : Prop} [Decidable p] {P P' : Prop} (e : ¬ p) (h : P') : Ch (decide p) P P' := Ch.fy (decide_eq_false e) h
theorem Ch.nt {b : Bool} {P P' : Prop} (h : Ch b P' P) : Ch (!b) P P' := by cases b <;> exact h
theorem Ch.by {b : Bool} {P P' : Prop} (h1 : b = true → P) (h2 : b = false → P') : Ch b P P' := by
  cases b with
  | true => exact h1 rfl
  | false => exact h2 rfl
theorem w_andT {f h : En → Rs Bool} {Q : Bool → En → Prop} (q : wE f r (fun b r1 => Ch b (wE h r1 Q E) (Q false r1)) E) : wE (andT f h) r Q E :=
  wE_bind rfl (wE_mono q (fun b r1 q => by cases b <;> exact q) fun _ _ h => h)
theorem w_orT {f h : En → Rs Bool} {Q : Bool → En → Prop} (q : wE f r (fun b r1 => Ch b (Q true r1) (wE h r1 Q E)) E) : wE (orT f h) r Q E :=
  wE_bind rfl (wE_mono q (fun b r1 q => by cases b <;> exact q) fun _ _ h => h)
theorem w_andD {f h : En → Rs D} {Q : D → En → Prop} (q : wE f r (fun d r1 => Gi d.asB fun b => Ch b (wE h r1 Q E) (Q (.bl false) r1)) E) : wE (andD f h) r Q E :=
  wE_bind rfl (wE_mono q (fun d r1 ⟨b, e, q⟩ => by
    unfold wE at *
    rw [e]
    cases b <;> exact q) fun _ _ h => h)
theorem w_orD {f h : En → Rs D} {Q : D → En → Prop} (q : wE f r (fun d r1 => Gi d.asB fun b => Ch b (Q (.bl true) r1) (wE h r1 Q E)) E) : wE (orD f h) r Q E :=
  wE_bind rfl (wE_mono q (fun d r1 ⟨b, e, q⟩ => by
    unfold wE at *
    rw [e]
    cases b <;> exact q) fun _ _ h => h)
theorem w_andV {f h : En → Rs D} {Q : D → En → Prop} (q : wE f r (fun d r1 => Gi d.tru fun b => Ch b (wE h r1 Q E) (Q d r1)) E) : wE (andV f h) r Q E :=
  wE_bind rfl (wE_mono q (fun d r1 ⟨b, e, q⟩ => by
    unfold wE at *
    rw [e]
    cases b <;> exact q) fun _ _ h => h)
theorem w_orV {f h : En → Rs D} {Q : D → En → Prop} (q : wE f r (fun d r1 => Gi d.tru fun b => Ch b (Q d r1) (wE h r1 Q E)) E) : wE (orV f h) r Q E :=
  wE_bind rfl (wE_mono q (fun d r1 ⟨b, e, q⟩ => by
    unfold wE at *
    rw [e]
    cases b <;> exact q) fun _ _ h => h)
theorem w_if {α : Type} {c : En → Rs Bool} {f h : En → Rs α} {Q : α → En → Prop} (q : wE c r (fun b r1 => Ch b (wE f r1 Q E) (wE h r1 Q E)) E) : wE (ifD c f h) r Q E :=
  wE_bind rfl (wE_mono q (fun b r1 q => by cases b <;> exact q) fun _ _ h => h)
theorem w_chain {p u v : Opd} {sem sem' : D → D → Option D} {Q : D → En → Prop} (h : wE p.run r (fun a r1 => wE u.run r1 (fun b r2 => Gi (look r2 a) fun x => Gi (look r2 b) fun y => Gi (sem x y) fun z => Gi z.asB fun k => Ch k (wE v.run r2 (fun c r3 => Gi (look r3 b) fun y => Gi (look r3 c) fun z => Gi (sem' y z) fun w => Q w r3) E) (Q (.bl false) r2)) E) E) : wE (chD p u v sem sem') r Q E :=
  wE_bind rfl (wE_mono h (fun a r1 h => wE_bind rfl (wE_mono h (fun b r2 ⟨x, e1, y, e2, z, e3, k, e4, q⟩ => by
    have hb : ofO (((look r2 a).bind fun dx => (look r2 b).bind fun dy => sem dx dy).bind D.asB) r2 = .ok k r2 := by simp only [e1, e2, e3, e4, Option.bind_some, ofO]
    refine wE_bind (f := fun r2 => ofO (((look r2 a).bind fun dx => (look r2 b).bind fun dy => sem dx dy).bind D.asB) r2) rfl (wE_ok hb ?_)
    cases k with
    | false => exact q
    | true => exact wE_bind (f := v.run) rfl (wE_mono q (fun c r3 ⟨y', f1, z', f2, w, f3, q⟩ => wE_ok (r1 := r3) (a := w) (by simp only [f1, f2, Option.bind_some, f3, ofO]) q) fun _ _ h => h)) fun _ _ h => h)) fun _ _ h => h)
/-! calls -/
theorem w_call {n : Nat} {f : List D → Option OV} {fs : List (En → Rs D)} {Q : OV → En → Prop} (h : wE (evs fs) r (fun ds r1 => ds.length = n ∧ Gi (f ds) fun o => Q o r1) E) : wE (callP n f fs) r Q E :=
  wE_bind rfl (wE_mono h (fun ds r1 ⟨hl, o, e, q⟩ => wE_ok (r1 := r1) (a := o) (by rw [if_pos hl, e]; rfl) q) fun _ _ h => h)
theorem w_callL {n : Nat} {f : List D → Option OV} {ps : List Opd} {Q : OV → En → Prop} (h : wE (runs ps) r (fun as r1 => Gi (looks r1 as) fun ds => ds.length = n ∧ Gi (f ds) fun o => o.flt = true ∧ Q o r1) E) : wE (callL n f ps) r Q E :=
  wE_bind rfl (wE_mono h (fun a r1 ⟨x, e1, hn, o, e2, hf, q⟩ => wE_ok (r1 := r1) (a := o) (by simp only [e1, Option.bind_some, hn, if_true, e2, hf, ofO]) q) fun _ _ h => h)
/-- what a def gives that changes its first list -/
def Gb (o : Option (OV × List D)) (k : OV → List D → Prop) : Prop := ∃ a b, o = some (a, b) ∧ k a b
theorem Gb.of {o : Option (OV × List D)} {k : OV → List D → Prop} {a : OV} {b : List D} (e : o = some (a, b)) (q : k a b) : Gb o k := ⟨a, b, e, q⟩
theorem w_callB {n j : Nat} {f : List D → List D → Option (OV × List D)} {fs : List (En → Rs D)} {Q : OV → En → Prop} (hj : ∃ o, r[j]? = some (some o)) (h : wE (evs fs) r (fun ds r1 => ds.length = n ∧ ∃ bs, r1[j]? = some (some (.ow bs)) ∧ Gb (f bs ds) fun o b' => ∀ r2, r1.set j (some (.ow b')) = r2 → Q o r2) E) : wE (callB n f j fs) r Q E := by
  obtain ⟨o, hj⟩ := hj
  have hf : fill r j = .ok () r := by unfold fill; rw [hj]
  refine wE_bind (f := fun r => fill r j) rfl (wE_ok hf ?_)
  refine wE_bind rfl (wE_mono h (fun ds r1 ⟨hl, bs, e1, o, b', e2, q⟩ => wE_ok (r1 := r1.set j (some (.ow b'))) (a := o) ?_ (q _ rfl)) fun _ _ h => h)
  have : (lookV r1 j).bind OV.lst? = some bs := by unfold lookV; rw [e1]; rfl
  rw [if_pos hl, this]
  simp only [Option.bind_some, e2, ofO, Rs.bind]
/-- what a def gives that may raise -/
def Gx (z : FR) (k : OV → Prop) (e : Exn → Prop) : Prop := match z with
  | .ok o => k o
  | .ex x => e x
  | .bad => False
theorem Gx.o {z : FR} {k : OV → Prop} {e : Exn → Prop} {o : OV} (h : z = .ok o) (q : k o) : Gx z k e := by subst h; exact q
theorem Gx.x {z : FR} {k : OV → Prop} {e : Exn → Prop} {x : Exn} (h : z = .ex x) (q : e x) : Gx z k e := by subst h; exact q
theorem wE_fr {z : FR} {Q : OV → En → Prop} (h : Gx z (fun o => Q o r) (fun x => E x r)) : wE (frR z) r Q E := by cases z <;> exact h
theorem w_callX {n : Nat} {f : List D → FR} {fs : List (En → Rs D)} {Q : OV → En → Prop} (h : wE (evs fs) r (fun ds r1 => ds.length = n ∧ Gx (f ds) (fun o => Q o r1) (fun x => E x r1)) E) : wE (callX n f fs) r Q E :=
  wE_bind rfl (wE_mono h (fun ds r1 ⟨hl, q⟩ => by
    show wE (fun r1 => if ds.length = n then frR (f ds) r1 else .bad) r1 Q E
    simp only [if_pos hl]
    exact wE_fr q) fun _ _ h => h)
/-- what __init__ gives -/
def Gy (z : FI) (k : List (Str × D) → Prop) (e : Exn → Prop) : Prop := match z with
  | .ok o => k o
  | .ex x => e x
  | .bad => False
theorem Gy.o {z : FI} {k : List (Str × D) → Prop} {e : Exn → Prop} {o : List (Str × D)} (h : z = .ok o) (q : k o) : Gy z k e := by subst h; exact q
theorem Gy.x {z : FI} {k : List (Str × D) → Prop} {e : Exn → Prop} {x : Exn} (h : z = .ex x) (q : e x) : Gy z k e := by subst h; exact q
theorem wE_fi {c : Str} {z : FI} {Q : OV → En → Prop} (h : Gy z (fun fl => Q (.sh (.obj c fl)) r) (fun x => E x r)) : wE (fiR c z) r Q E := by cases z <;> exact h
theorem w_make {c : Str} {n : Nat} {f : List D → FI} {fs : List (En → Rs D)} {Q : OV → En → Prop} (h : wE (evs fs) r (fun ds r1 => ds.length = n ∧ Gy (f ds) (fun fl => Q (.sh (.obj c fl)) r1) (fun x => E x r1)) E) : wE (makeD c n f fs) r Q E :=
  wE_bind rfl (wE_mono h (fun ds r1 ⟨hl, q⟩ => by
    show wE (fun r1 => if ds.length = n then fiR c (f ds) r1 else .bad) r1 Q E
    simp only [if_pos hl]
    exact wE_fi q) fun _ _ h => h)
theorem w_meth {c m : Str} {n : Nat} {f : List D → FR} {fo : En → Rs D} {fs : List (En → Rs D)} {Q : OV → En → Prop} (h : wE fo r (fun x r1 => objOk c m x = true ∧ wE (evs fs) r1 (fun ds r2 => ds.length + 1 = n ∧ Gx (f (x :: ds)) (fun o => Q o r2) (fun x => E x r2)) E) E) : wE (methX c m n f fo fs) r Q E :=
  wE_bind rfl (wE_mono h (fun x r1 ⟨hk, h⟩ => by
    show wE (fun r1 => if objOk c m x = true then (evs fs r1).bind fun ds r2 => if ds.length + 1 = n then frR (f (x :: ds)) r2 else .bad else .bad) r1 Q E
    simp only [if_pos hk]
    exact wE_bind rfl (wE_mono h (fun ds r2 ⟨hl, q⟩ => by
      show wE (fun r1 => if ds.length + 1 = n then frR (f (x :: ds)) r1 else .bad) r2 Q E
      simp only [if_pos hl]
      exact wE_fr q) fun _ _ h => h)) fun _ _ h => h)
theorem Gx_P {f : List D → Option OV} {ds : List D} {k : OV → Prop} {e : Exn → Prop} (h : Gi (f ds) k) : Gx ((fun ds => toFR (f ds)) ds) k e := by
  obtain ⟨o, h1, h2⟩ := h
  show Gx (toFR (f ds)) k e
  rw [h1]
  exact h2
theorem w_lenM {c : Str} {f : List D → Option OV} {fo : En → Rs D} {Q : D → En → Prop} (h : wE fo r (fun x r1 => Gi (lenF c f x) fun z => Q z r1) E) : wE (lenM c f fo) r Q E :=
  wE_bind rfl (wE_mono h (fun d r1 ⟨i, e, q⟩ => wE_ok (r1 := r1) (a := i) (by rw [e]; rfl) q) fun _ _ h => h)
/-! the error at hand -/
theorem w_isx {i : Nat} {t : Str → Option Bool} {x : Exn} {b : Bool} {Q : D → En → Prop} (e : r[i]? = some (some (.exc x))) (h : t x.c = some b) (q : Q (.bl b) r) : wE (isxD i t) r Q E := by
  unfold wE isxD
  rw [e]
  simp only [h, Option.map_some, ofO]
  exact q
theorem w_xf {i : Nat} {f : Str} {cs : List Str} {x : Exn} {d : D} {Q : D → En → Prop} (e : r[i]? = some (some (.exc x))) (h : x.c ∈ cs) (h2 : x.fs.lookup f = some d) (q : Q d r) : wE (xfD' i f cs) r Q E := by
  unfold wE xfD'
  rw [e]
  simp only [h, if_true, h2, ofO]
  exact q
theorem w_fldO {i : Nat} {c f : Str} {fl : List (Str × D)} {d : D} {Q : D → En → Prop} (e : r[i]? = some (some (.oi c fl))) (h2 : fl.lookup f = some d) (q : Q d r) : wE (fldO i c f) r Q E := by
  unfold wE fldO
  rw [e]
  simp only [if_true, h2, ofO]
  exact q
end
/-! statements -/
section
variable {r : En} {Q : SRs → Prop}
/-- the statements that follow -/
def Th (g : En → SRs) (Q : SRs → Prop) (x : SRs) : Prop := match x with
  | .nx r1 => wS g r1 Q
  | y => Q y
theorem Th.n {g : En → SRs} {r1 : En} (h : wS g r1 Q) : Th g Q (.nx r1) := h
theorem Th.t {g : En → SRs} {r1 : En} {o : OV} (h : Q (.rt o r1)) : Th g Q (.rt o r1) := h
theorem Th.x {g : En → SRs} {r1 : En} {x : Exn} (h : Q (.ex x r1)) : Th g Q (.ex x r1) := h
theorem Th.b {g : En → SRs} {r1 : En} (h : Q (.bk r1)) : Th g Q (.bk r1) := h
theorem Th.c {g : En → SRs} {r1 : En} (h : Q (.ct r1)) : Th g Q (.ct r1) := h
theorem s_seq {f g : En → SRs} (h : wS f r (Th g Q)) : wS (seqS f g) r Q := by
  unfold wS seqS at *
  cases e : f r <;> (rw [e] at h; exact h)
theorem s_nx (h : Q (.nx r)) : wS nxS r Q := h
theorem s_bk (h : Q (.bk r)) : wS bkS r Q := h
theorem s_ct (h : Q (.ct r)) : wS ctS r Q := h
theorem wS_then {α : Type} {f : En → Rs α} {k : α → En → SRs} {g : En → SRs} (hg : g r = thenS (f r) k) (h : wE f r (fun a r1 => wS (k a) r1 Q) (fun x r1 => Q (.ex x r1))) : wS g r Q := by
  unfold wS wE at *
  rw [hg]
  cases e : f r with
  | ok a r1 => rw [e] at h; exact h
  | ex x r1 => rw [e] at h; exact h
  | bad => rw [e] at h; exact h.elim
theorem s_rt {f : En → Rs OV} (h : wE f r (fun o r1 => Q (.rt o r1)) (fun x r1 => Q (.ex x r1))) : wS (rtS f) r Q := wS_then rfl h
theorem s_rtN (h : Q (.rt (.sh .non) r)) : wS rtN r Q := h
theorem s_ex {f : En → Rs D} (h : wE f r (fun o r1 => Q (.nx r1)) (fun x r1 => Q (.ex x r1))) : wS (exS f) r Q := wS_then rfl h
theorem s_set {i : Nat} {f : En → Rs OV} (h : wE f r (fun o r1 => ∀ r2, r1.set i (some o) = r2 → Q (.nx r2)) (fun x r1 => Q (.ex x r1))) : wS (setS i f) r Q := wS_then rfl (wE_mono h (fun o r1 h => h _ rfl) fun _ _ h => h)
theorem s_if {c : En → Rs Bool} {f g : En → SRs} (h : wE c r (fun b r1 => Ch b (wS f r1 Q) (wS g r1 Q)) (fun x r1 => Q (.ex x r1))) : wS (ifS c f g) r Q := wS_then rfl (wE_mono h (fun b r1 h => by cases b <;> exact h) fun _ _ h => h)
theorem s_raise {c f : Str} {fe : En → Rs D} (h : wE fe r (fun d r1 => Q (.ex ⟨c, [(f, d)]⟩ r1)) (fun x r1 => Q (.ex x r1))) : wS (raiseS c f fe) r Q := wS_then rfl h
theorem s_fld {i : Nat} {c f : Str} {fe : En → Rs D} (h : wE fe r (fun d r1 => ∃ fl, r1[i]? = some (some (.oi c fl)) ∧ fl.length < 900 ∧ ∀ r2, r1.set i (some (.oi c (putFd f d fl))) = r2 → Q (.nx r2)) (fun x r1 => Q (.ex x r1))) : wS (fldS i c f fe) r Q :=
  wS_then rfl (wE_mono h (fun d r1 ⟨fl, e, hl, h⟩ => by
    unfold wS
    simp only [e, true_and, if_pos hl]
    exact h _ rfl) fun _ _ h => h)
theorem s_par2 {i j : Nat} {f : En → Rs D} {g : En → Rs OV} (h : wE f r (fun d r1 => wE g r1 (fun o r2 => ∀ r3, (r2.set i (some (.sh d))).set j (some o) = r3 → Q (.nx r3)) (fun x r1 => Q (.ex x r1))) (fun x r1 => Q (.ex x r1))) : wS (par2 i j f g) r Q :=
  wS_then rfl (wE_mono h (fun d r1 h => wS_then rfl (wE_mono h (fun o r2 h => h _ rfl) fun _ _ h => h)) fun _ _ h => h)
theorem s_par3 {i j l : Nat} {f f2 : En → Rs D} {g : En → Rs OV} (h : wE f r (fun d r1 => wE f2 r1 (fun d2 r2 => wE g r2 (fun o r3 => ∀ r4, ((r3.set i (some (.sh d))).set j (some (.sh d2))).set l (some o) = r4 → Q (.nx r4)) (fun x r1 => Q (.ex x r1))) (fun x r1 => Q (.ex x r1))) (fun x r1 => Q (.ex x r1))) : wS (par3 i j l f f2 g) r Q :=
  wS_then rfl (wE_mono h (fun d r1 h => wS_then rfl (wE_mono h (fun o r2 h => wS_then rfl (wE_mono h (fun o r2 h => h _ rfl) fun _ _ h => h)) fun _ _ h => h)) fun _ _ h => h)
theorem wE_noE {α : Type} {f : En → Rs α} {Q : α → En → Prop} {E : Exn → En → Prop} (h : wE f r Q nE) : wE (fun r => (f r).noE) r Q E := by
  obtain ⟨a, r1, e, q⟩ := wE_get h
  exact wE_ok (r1 := r1) (a := a) (by rw [e]; rfl) q
theorem s_par2o {i j : Nat} {f g : En → Rs OV} (h : wE f r (fun d r1 => wE g r1 (fun o r2 => ∀ r3, (r2.set i (some d)).set j (some o) = r3 → Q (.nx r3)) nE) (fun x r1 => Q (.ex x r1))) : wS (par2o i j f g) r Q :=
  wS_then rfl (wE_mono h (fun d r1 h => wS_then (f := fun r => (g r).noE) rfl (wE_noE (wE_mono h (fun o r2 h => h _ rfl) fun _ _ h => h))) fun _ _ h => h)
theorem s_asg {f : En → Rs D} {h : D → En → Option En} (q : wE f r (fun d r1 => Gi (h d r1) fun r2 => ∀ r3, r2 = r3 → Q (.nx r3)) (fun x r1 => Q (.ex x r1))) : wS (asgS f h) r Q :=
  wS_then rfl (wE_mono q (fun d r1 ⟨r2, e, q⟩ => by unfold wS; simp only [e]; exact q _ rfl) fun _ _ h => h)
theorem wS_chg {i : Nat} {f : List D → Option (List D)} {xs : List D} (e : r[i]? = some (some (.ow xs))) (h : Gi (f xs) fun ys => ∀ r2, r.set i (some (.ow ys)) = r2 → Q (.nx r2)) : wS (chgS i f) r Q := by
  obtain ⟨ys, e2, h⟩ := h
  have : (lookV r i).bind OV.lst? = some xs := by unfold lookV; rw [e]; rfl
  unfold wS chgS
  simp only [this, e2]
  exact h _ rfl
theorem fillW_ok {i : Nat} {xs : List D} (e : r[i]? = some (some (.ow xs))) : fillW r i = .ok () r := by unfold fillW lookV; rw [e]
theorem s_app {i : Nat} {f : En → Rs D} (h0 : ∃ xs, r[i]? = some (some (.ow xs))) (h : wE f r (fun d r1 => ∃ xs, r1[i]? = some (some (.ow xs)) ∧ xs.length ≤ 1000000 ∧ ∀ r2, r1.set i (some (.ow (xs ++ [d]))) = r2 → Q (.nx r2)) (fun x r1 => Q (.ex x r1))) : wS (appS i f) r Q := by
  obtain ⟨xs, h0⟩ := h0
  refine wS_then (f := fun r => fillW r i) rfl (wE_ok (fillW_ok h0) (wS_then rfl (wE_mono h (fun d r1 ⟨xs, e, hl, q⟩ => wS_chg e ⟨xs ++ [d], by unfold appF; rw [if_pos hl], q⟩) fun _ _ h => h)))
theorem s_ext {i : Nat} {f : En → Rs D} (h0 : ∃ xs, r[i]? = some (some (.ow xs))) (h : wE f r (fun d r1 => ∃ xs, r1[i]? = some (some (.ow xs)) ∧ Gi (extF d xs) fun ys => ∀ r2, r1.set i (some (.ow ys)) = r2 → Q (.nx r2)) (fun x r1 => Q (.ex x r1))) : wS (extS i f) r Q := by
  obtain ⟨xs, h0⟩ := h0
  refine wS_then (f := fun r => fillW r i) rfl (wE_ok (fillW_ok h0) (wS_then rfl (wE_mono h (fun d r1 ⟨xs, e, q⟩ => wS_chg e q) fun _ _ h => h)))
theorem s_pop {i : Nat} {f : En → Rs D} (h0 : ∃ xs, r[i]? = some (some (.ow xs))) (h : wE f r (fun d r1 => ∃ xs, r1[i]? = some (some (.ow xs)) ∧ Gi (popF d xs) fun ys => ∀ r2, r1.set i (some (.ow ys)) = r2 → Q (.nx r2)) (fun x r1 => Q (.ex x r1))) : wS (popS i f) r Q := by
  obtain ⟨xs, h0⟩ := h0
  refine wS_then (f := fun r => fillW r i) rfl (wE_ok (fillW_ok h0) (wS_then rfl (wE_mono h (fun d r1 ⟨xs, e, q⟩ => wS_chg e q) fun _ _ h => h)))
theorem s_ins {i : Nat} {f g : En → Rs D} (h0 : ∃ xs, r[i]? = some (some (.ow xs))) (h : wE f r (fun k r1 => wE g r1 (fun d r2 => ∃ xs, r2[i]? = some (some (.ow xs)) ∧ Gi (insF k d xs) fun ys => ∀ r3, r2.set i (some (.ow ys)) = r3 → Q (.nx r3)) (fun x r1 => Q (.ex x r1))) (fun x r1 => Q (.ex x r1))) : wS (insS i f g) r Q := by
  obtain ⟨xs, h0⟩ := h0
  refine wS_then (f := fun r => fillW r i) rfl (wE_ok (fillW_ok h0) (wS_then rfl (wE_mono h (fun k r1 h => wS_then rfl (wE_mono h (fun d r2 ⟨xs, e, q⟩ => wS_chg e q) fun _ _ h => h)) fun _ _ h => h)))
theorem s_put {i : Nat} {fi f : En → Rs D} (h : wE f r (fun d r1 => (∃ xs, r1[i]? = some (some (.ow xs))) ∧ wE fi r1 (fun k r2 => ∃ xs, r2[i]? = some (some (.ow xs)) ∧ Gi (DL.putF k d xs) fun ys => ∀ r3, r2.set i (some (.ow ys)) = r3 → Q (.nx r3)) (fun x r1 => Q (.ex x r1))) (fun x r1 => Q (.ex x r1))) : wS (putS i fi f) r Q := by
  refine wS_then rfl (wE_mono h (fun d r1 ⟨⟨xs, h0⟩, h⟩ => wS_then (f := fun r => fillW r i) rfl (wE_ok (fillW_ok h0) (wS_then rfl (wE_mono h (fun k r2 ⟨xs, e, q⟩ => wS_chg e q) fun _ _ h => h)))) fun _ _ h => h)
/-! loops -/
/-- behind a turn -/
def Tn (I : En → Prop) (Q : SRs → Prop) (x : SRs) : Prop := match x with
  | .nx r => I r
  | .ct r => I r
  | .bk r => Q (.nx r)
  | y => Q y
theorem Tn.n {I : En → Prop} {r1 : En} (h : I r1) : Tn I Q (.nx r1) := h
theorem Tn.t {I : En → Prop} {r1 : En} {o : OV} (h : Q (.rt o r1)) : Tn I Q (.rt o r1) := h
theorem wS_for {h : D → En → Option En} {body : En → SRs} (ds : List D) (I : Nat → En → Prop) (st : ∀ (i : Nat) (d : D), ds[i]? = some d → ∀ r, I i r → Gi (h d r) fun r1 => ∀ r2, r1 = r2 → wS body r2 (Tn (I (i + 1)) Q)) (hq : ∀ r, I ds.length r → Q (.nx r)) (h0 : I 0 r) : wS (forS h body ds) r Q := by
  induction ds generalizing I r with
  | nil => exact hq r h0
  | cons d ds ih =>
    obtain ⟨r1, e1, w1⟩ := st 0 d rfl r h0
    have w1 : Tn (I 1) Q (body r1) := w1 _ rfl
    have ih' : ∀ r0, I 1 r0 → Q (forS h body ds r0) := fun r0 h0 => ih (r := r0) (fun i => I (i + 1)) (fun i d hd r hr => st (i + 1) d hd r hr) (fun r hr => hq r hr) h0
    show Q (forS h body (d :: ds) r)
    unfold forS
    simp only [e1]
    revert w1
    cases body r1 with
    | nx r2 => exact fun w => ih' r2 w
    | ct r2 => exact fun w => ih' r2 w
    | bk r2 => exact fun w => w
    | rt o r2 => exact fun w => w
    | ex x r2 => exact fun w => w
    | bad => exact fun w => w
theorem s_for {it : En → Rs (List D)} {h : D → En → Option En} {body : En → SRs} (q : wE it r (fun ds r1 => wS (forS h body ds) r1 Q) (fun x r1 => Q (.ex x r1))) : wS (forD it h body) r Q := wS_then rfl q
/-! a turn that may not matter for a list of known things -/
/-- behind an except clause's suite -/
def Hq (i : Nat) (Q : SRs → Prop) (y : SRs) : Prop := match y with
  | .nx r3 => noX (r3.set i none) = true ∧ ∀ r4, r3.set i none = r4 → Q (.nx r4)
  | .rt o r3 => noX (r3.set i none) = true ∧ ∀ r4, r3.set i none = r4 → Q (.rt o r4)
  | .bk r3 => noX (r3.set i none) = true ∧ ∀ r4, r3.set i none = r4 → Q (.bk r4)
  | .ct r3 => noX (r3.set i none) = true ∧ ∀ r4, r3.set i none = r4 → Q (.ct r4)
  | _ => False
theorem Hq.n {i : Nat} {r3 : En} (h1 : noX (r3.set i none) = true) (h2 : ∀ r4, r3.set i none = r4 → Q (.nx r4)) : Hq i Q (.nx r3) := ⟨h1, h2⟩
theorem Hq.t {i : Nat} {o : OV} {r3 : En} (h1 : noX (r3.set i none) = true) (h2 : ∀ r4, r3.set i none = r4 → Q (.rt o r4)) : Hq i Q (.rt o r3) := ⟨h1, h2⟩
/-- behind what is tried -/
def Tq (ct : Str → Option Bool) (i : Nat) (fs : En → SRs) (Q : SRs → Prop) (x : SRs) : Prop := match x with
  | .ex x r1 => Gi (ct x.c) fun b => Ch b (∀ r2, r1.set i (some (.exc x)) = r2 → wS fs r2 (Hq i Q)) (Q (.ex x r1))
  | y => Q y
theorem Tq.n {ct : Str → Option Bool} {i : Nat} {fs : En → SRs} {r1 : En} (h : Q (.nx r1)) : Tq ct i fs Q (.nx r1) := h
theorem Tq.t {ct : Str → Option Bool} {i : Nat} {fs : En → SRs} {r1 : En} {o : OV} (h : Q (.rt o r1)) : Tq ct i fs Q (.rt o r1) := h
theorem s_try {ct : Str → Option Bool} {i : Nat} {fb fs : En → SRs} (h : wS fb r (Tq ct i fs Q)) : wS (tryS ct i fb fs) r Q := by
  unfold wS tryS at *
  revert h
  cases fb r with
  | ex x r1 =>
    rintro ⟨b, e, h⟩
    simp only [e]
    cases b with
    | false => exact h
    | true =>
      have h : Hq i Q (fs (r1.set i (some (.exc x)))) := h _ rfl
      simp only
      revert h
      cases fs (r1.set i (some (.exc x))) with
      | nx r3 => exact fun ⟨h1, h2⟩ => by simp only [h1, if_true]; exact h2 _ rfl
      | rt o r3 => exact fun ⟨h1, h2⟩ => by simp only [h1, if_true]; exact h2 _ rfl
      | bk r3 => exact fun ⟨h1, h2⟩ => by simp only [h1, if_true]; exact h2 _ rfl
      | ct r3 => exact fun ⟨h1, h2⟩ => by simp only [h1, if_true]; exact h2 _ rfl
      | ex x r3 => exact fun h => h.elim
      | bad => exact fun h => h.elim
  | nx r1 => exact fun h => h
  | rt o r1 => exact fun h => h
  | bk r1 => exact fun h => h
  | ct r1 => exact fun h => h
  | bad => exact fun h => h
end
/-! defs -/
theorem fnP_w {n : Nat} {m : En → SRs} {ds : List D} {o : OV} (h : ∀ r, startE n (ds.map OV.sh) = r → wS m r (fun x => match x with | .nx _ => o = .sh .non | .rt o' _ => o' = o | _ => False)) : fnP n m ds = some o := by
  unfold fnP
  have h := h _ rfl
  unfold wS at h
  revert h
  cases m (startE n (ds.map OV.sh)) with
  | nx r => exact fun h => by rw [h]
  | rt o' r => exact fun h => by rw [h]
  | _ => exact fun h => h.elim
/-! comprehensions and what is walked -/
section
variable {r : En} {E : Exn → En → Prop}
theorem w_itA {f : En → Rs D} {Q : List D → En → Prop} (h : wE f r (fun d r1 => Gi d.items fun ds => Q ds r1) E) : wE (itA f) r Q E :=
  wE_bind rfl (wE_mono h (fun d r1 ⟨i, e, q⟩ => wE_ok (r1 := r1) (a := i) (by rw [e]; rfl) q) fun _ _ h => h)
theorem w_enD {f : En → Rs D} {Q : List D → En → Prop} (h : wE f r (fun d r1 => Gi d.asL fun ds => Q (enumD 0 ds) r1) E) : wE (enD f) r Q E :=
  wE_bind rfl (wE_mono h (fun d r1 ⟨i, e, q⟩ => wE_ok (r1 := r1) (a := enumD 0 i) (by rw [e]; rfl) q) fun _ _ h => h)
theorem w_zpD {f g : En → Rs D} {Q : List D → En → Prop} (h : wE f r (fun d r1 => wE g r1 (fun e r2 => Gi (zip2 d e) fun ds => Q ds r2) E) E) : wE (zpD f g) r Q E :=
  wE_bind rfl (wE_mono h (fun d r1 h => wE_bind rfl (wE_mono h (fun d' r1 ⟨i, e, q⟩ => wE_ok (r1 := r1) (a := i) (by rw [e]; rfl) q) fun _ _ h => h)) fun _ _ h => h)
theorem w_rg1 {f : En → Rs D} {Q : List D → En → Prop} (h : wE f r (fun d r1 => ∃ i : Int, d = .int i ∧ (-1000000 ≤ i ∧ i ≤ 1000000) ∧ Q (rangeD 0 i.toNat) r1) E) : wE (rg1 f) r Q E :=
  wE_bind rfl (wE_mono h (fun d r1 ⟨i, e, hb, q⟩ => wE_ok (r1 := r1) (a := rangeD 0 i.toNat) (by subst e; show (if -1000000 ≤ i ∧ i ≤ 1000000 then _ else _) = _; rw [if_pos hb]) q) fun _ _ h => h)
theorem w_vaD {f : En → Rs D} {Q : List D → En → Prop} (h : wE f r (fun d r1 => Gi d.vals fun ds => Q ds r1) E) : wE (vaD f) r Q E :=
  wE_bind rfl (wE_mono h (fun d r1 ⟨i, e, q⟩ => wE_ok (r1 := r1) (a := i) (by rw [e]; rfl) q) fun _ _ h => h)
theorem w_its {f : En → Rs D} {Q : OV → En → Prop} (h : wE f r (fun d r1 => Gi d.itms fun ds => Q (.ow ds) r1) E) : wE (itsO f) r Q E :=
  wE_bind rfl (wE_mono h (fun d r1 ⟨i, e, q⟩ => wE_ok (r1 := r1) (a := .ow i) (by rw [e]; rfl) q) fun _ _ h => h)
end
end DL

/-! plain tools, part 11: running comprehensions with several clauses. -/
namespace DL
open PySem L2
section
variable {ok : List D → D → Bool} {fe : En → Rs D} {B : Nat} {r : En} {R : En → Prop}
end
section
variable {r : En} {Q : OV → En → Prop} {E : Exn → En → Prop} {cs : List GDt} {fe : En → Rs D}
/-! two clauses -/
end
section
variable {r : En} {E : Exn → En → Prop}
/-! more operations -/
theorem w_sum {p : Opd} {Q : OV → En → Prop} (h : wE p.run r (fun a r1 => Gi (look r1 a) fun x => Gi (semSumL x) fun z => Q (.ow z) r1) E) : wE (sumO p) r Q E :=
  wE_bind rfl (wE_mono h (fun a r1 ⟨x, e1, z, e2, q⟩ => wE_ok (r1 := r1) (a := .ow z) (by simp only [e1, Option.bind_some, e2, Option.map_some, ofO]) q) fun _ _ h => h)
theorem w_pnil {Q : List (Key × D) → En → Prop} (q : Q [] r) : wE (evPs []) r Q E := q
theorem w_pcons {f g : En → Rs D} {fs : List ((En → Rs D) × (En → Rs D))} {Q : List (Key × D) → En → Prop} (h : wE f r (fun k r1 => wE g r1 (fun d r2 => Gi k.key fun k => wE (evPs fs) r2 (fun kds r3 => Q ((k, d) :: kds) r3) E) E) E) : wE (evPs ((f, g) :: fs)) r Q E :=
  wE_bind (g := evPs ((f, g) :: fs)) (k := fun k r1 => (g r1).bind fun d r2 => (ofO k.key r2).bind fun k r2 => (evPs fs r2).bind fun kds r3 => .ok ((k, d) :: kds) r3) rfl (wE_mono h (fun k r1 h =>
    wE_bind (f := g) (k := fun d r2 => (ofO k.key r2).bind fun k r2 => (evPs fs r2).bind fun kds r3 => .ok ((k, d) :: kds) r3) rfl (wE_mono h (fun d r2 ⟨k', e, h⟩ =>
      wE_bind (f := fun r2 => ofO k.key r2) (k := fun k r2 => (evPs fs r2).bind fun kds r3 => .ok ((k, d) :: kds) r3) rfl (wE_ofO e (wE_bind (f := evPs fs) (k := fun kds r3 => .ok ((k', d) :: kds) r3) rfl (wE_mono h (fun kds r3 h => h) fun _ _ h => h)))) fun _ _ h => h)) fun _ _ h => h)
theorem w_dic {fs : List ((En → Rs D) × (En → Rs D))} {Q : D → En → Prop} (h : wE (evPs fs) r (fun kds r1 => kds.length ≤ 15 ∧ ∀ d, D.dic (mergeD [] kds) = d → Q d r1) nE) : wE (dicD fs) r Q E := by
  obtain ⟨kds, r1, e, hl, q⟩ := wE_get h
  exact wE_ok (r1 := r1) (a := .dic (mergeD [] kds)) (by unfold dicD; rw [e]; show (if _ then _ else _) = _; rw [if_pos hl]) (q _ rfl)
theorem w_dst {f : En → Rs D} {fs : List ((En → Rs D) × (En → Rs D))} {Q : D → En → Prop} (h : wE f r (fun d r1 => ∃ kds, d = .dic kds ∧ kds.length ≤ 1000 ∧ wE (evPs fs) r1 (fun rs r2 => rs.length ≤ 15 ∧ ∀ d, D.dic (mergeD (mergeD [] kds) (mergeD [] rs)) = d → Q d r2) nE) nE) : wE (dstD f fs) r Q E := by
  obtain ⟨d, r1, e, kds, rfl, hl, h⟩ := wE_get h
  obtain ⟨rs, r2, e2, hl2, q⟩ := wE_get h
  refine wE_ok (r1 := r2) (a := .dic (mergeD (mergeD [] kds) (mergeD [] rs))) ?_ (q _ rfl)
  unfold dstD
  rw [e]
  show (if kds.length ≤ 1000 then _ else _) = _
  rw [if_pos hl, e2]
  show (if rs.length ≤ 15 then _ else _) = _
  rw [if_pos hl2]
theorem w_stL {f : En → Rs D} {fs : List (En → Rs D)} {Q : OV → En → Prop} (h : wE f r (fun d r1 => ∃ xs, d = .lst xs ∧ wE (evs fs) r1 (fun ds r2 => (xs ++ ds).length ≤ 1000 ∧ Q (.ow (xs ++ ds)) r2) E) E) : wE (stL f fs) r Q E :=
  wE_bind rfl (wE_mono h (fun d r1 ⟨xs, e, h⟩ => by
    subst e
    exact wE_bind (f := evs fs) (k := fun ds r2 => if (xs ++ ds).length ≤ 1000 then .ok (.ow (xs ++ ds)) r2 else .bad) rfl (wE_mono h (fun ds r2 ⟨hl, q⟩ => wE_ok (r1 := r2) (a := .ow (xs ++ ds)) (by rw [if_pos hl]) q) fun _ _ h => h)) fun _ _ h => h)
theorem w_rg2 {f g : En → Rs D} {Q : List D → En → Prop} (h : wE f r (fun d r1 => wE g r1 (fun d' r2 => ∃ i j : Int, d = .int i ∧ d' = .int j ∧ ((-1000000 ≤ i ∧ i ≤ 1000000) ∧ -1000000 ≤ j ∧ j ≤ 1000000) ∧ Q (rangeD i (j - i).toNat) r2) E) E) : wE (rg2 f g) r Q E :=
  wE_bind rfl (wE_mono h (fun d r1 h => wE_bind rfl (wE_mono h (fun d' r2 ⟨i, j, e, e', hb, q⟩ => wE_ok (r1 := r2) (a := rangeD i (j - i).toNat) (by subst e; subst e'; show (if (-1000000 ≤ i ∧ i ≤ 1000000) ∧ -1000000 ≤ j ∧ j ≤ 1000000 then _ else _) = _; rw [if_pos hb]) q) fun _ _ h => h)) fun _ _ h => h)
end
theorem semAdd_l {xs ys : List D} (h : xs.length + ys.length ≤ 1000000) : semAdd (.lst xs) (.lst ys) = some (.lst (xs ++ ys)) := by
  show (if _ then _ else _) = _
  rw [if_pos h]
theorem semAdd_t {xs ys : List D} (h : xs.length + ys.length ≤ 1000000) : semAdd (.tup xs) (.tup ys) = some (.tup (xs ++ ys)) := by
  show (if _ then _ else _) = _
  rw [if_pos h]
theorem semAdd_s {x y : Str} (h : x.length + y.length ≤ 1000000) : semAdd (.str x) (.str y) = some (.str (x ++ y)) := by
  show (if _ then _ else _) = _
  rw [if_pos h]
end DL

/-! plain tools, part 12: running with sets of tuples. -/
namespace DL
open PySem L2
theorem wS_mono {f : En → SRs} {r : En} {Q Q' : SRs → Prop} (h : wS f r Q) (i : ∀ y, Q y → Q' y) : wS f r Q' := i _ h
theorem s_clr {i : Nat} {r : En} {Q : SRs → Prop} {xs : List D} (e : r[i]? = some (some (.ow xs))) (q : ∀ r1, r.set i (some (.ow [])) = r1 → Q (.nx r1)) : wS (clrS i) r Q := by
  exact wS_then (f := fun r => fillW r i) rfl (wE_ok (fillW_ok e) (wS_chg e ⟨[], rfl, q⟩))
theorem hide_sh {d : D} : hideO (some (.sh d)) = some (.sh d) := rfl
theorem hide_ow {xs : List D} : hideO (some (.ow xs)) = none := rfl
theorem hide_no : hideO none = none := rfl
theorem w_bw {i : Nat} {f : En → Rs D} {r : En} {xs : List D} {Q : D → En → Prop} {E : Exn → En → Prop} (e : r[i]? = some (some (.ow xs))) (h : ∀ r1, (r.map hideO).set i (some (.sh (.lst xs))) = r1 → wE f r1 (fun d _ => d.flt = true ∧ Q d r) nE) : wE (bwD i f) r Q E := by
  obtain ⟨d, r1, e1, h1, q⟩ := wE_get (h _ rfl)
  refine wE_ok (r1 := r) (a := d) ?_ q
  unfold bwD
  rw [e]
  show bwR (f _) r = _
  rw [e1]
  exact if_pos h1
end DL

/-! plain tools, part 13: d.get(k, x), dict(zip(..)). -/
namespace DL
open PySem L2
theorem w_get {p k x : Opd} {r : En} {Q : D → En → Prop} {E : Exn → En → Prop} (h : wE p.run r (fun z r1 => Gi (look r1 z) fun d0 => d0.isDic = true ∧ wE k.run r1 (fun y r2 => wE x.run r2 (fun u r3 => Gi (look r3 z) fun d => Gi (look r3 y) fun e => Gi (look r3 u) fun c => Gi (semGet d e c) fun v => Q v r3) E) E) E) : wE (getD2 p k x) r Q E := by
  refine wE_bind rfl (wE_mono h (fun z r1 ⟨d0, e0, hd, h⟩ => ?_) fun _ _ h => h)
  have e1 : (ofO ((look r1 z).bind fun d => if d.isDic = true then some d else none) r1 : Rs D) = .ok d0 r1 := by simp only [e0, Option.bind_some, if_pos hd, ofO]
  refine wE_bind (f := fun r1 => ofO ((look r1 z).bind fun d => if d.isDic = true then some d else none) r1) rfl (wE_ok e1 ?_)
  exact wE_bind rfl (wE_mono h (fun y r2 h => wE_bind rfl (wE_mono h (fun u r3 ⟨d, e1, e, e2, c, e3, v, e4, q⟩ => wE_ok (r1 := r3) (a := v) (by simp only [e1, e2, e3, Option.bind_some, e4, ofO]) q) fun _ _ h => h)) fun _ _ h => h)
end DL

/-! plain tools, part 14: dict comprehensions, owned dicts, two fields at once, isinstance of an own class. -/
namespace DL
open PySem L2
section
variable {r : En} {E : Exn → En → Prop}
theorem putFd_len (f : Str) (d : D) : ∀ fl : List (Str × D), (putFd f d fl).length ≤ fl.length + 1
  | [] => Nat.le_refl _
  | (g, x) :: fl => by
    unfold putFd
    have := putFd_len f d fl
    split
    · simp
    · simp only [List.length_cons]; omega
theorem s_fld2 {i : Nat} {c f1 f2 : Str} {h1 h2 : En → Rs D} {Q : SRs → Prop} (h : wE h1 r (fun d1 r1 => wE h2 r1 (fun d2 r2 => ∃ fl, r2[i]? = some (some (.oi c fl)) ∧ fl.length < 800 ∧ ∀ r3, r2.set i (some (.oi c (putFd f2 d2 (putFd f1 d1 fl)))) = r3 → Q (.nx r3)) (fun x r1 => Q (.ex x r1))) (fun x r1 => Q (.ex x r1))) : wS (fld2S i c f1 f2 h1 h2) r Q :=
  wS_then rfl (wE_mono h (fun d1 r1 h => wS_then rfl (wE_mono h (fun d2 r2 ⟨fl, e, hl, q⟩ => by
    have hi : i < r2.length := (List.getElem?_eq_some_iff.mp e).1
    have pl : (putFd f1 d1 fl).length < 900 := by
      have := putFd_len f1 d1 fl
      omega
    have e1 : putFs i c f1 d1 r2 = some (r2.set i (some (.oi c (putFd f1 d1 fl)))) := by
      unfold putFs
      simp only [e, true_and, if_pos (show fl.length < 900 by omega)]
    have e2 : putFs i c f2 d2 (r2.set i (some (.oi c (putFd f1 d1 fl)))) = some (r2.set i (some (.oi c (putFd f2 d2 (putFd f1 d1 fl))))) := by
      unfold putFs
      simp only [List.getElem?_set_self hi, true_and, if_pos pl, List.set_set]
    have e3 : (ofO ((putFs i c f1 d1 r2).bind fun r3 => putFs i c f2 d2 r3) r2 : Rs En) = .ok (r2.set i (some (.oi c (putFd f2 d2 (putFd f1 d1 fl))))) r2 := by
      rw [e1, Option.bind_some, e2]
      rfl
    exact wS_then (f := fun r2 => ofO ((putFs i c f1 d1 r2).bind fun r3 => putFs i c f2 d2 r3) r2) rfl (wE_ok e3 (q _ rfl))) fun _ _ h => h)) fun _ _ h => h)
theorem w_iso {p : Opd} {c : Str} {Q : D → En → Prop} (h : wE p.run r (fun a r1 => Gi (look r1 a) fun x => Gi (isoB c x) fun b => Q (.bl b) r1) E) : wE (isoD p c) r Q E :=
  wE_bind rfl (wE_mono h (fun a r1 ⟨x, e1, b, e2, q⟩ => wE_ok (r1 := r1) (a := .bl b) (by simp only [e1, Option.bind_some, e2, Option.map_some, ofO]) q) fun _ _ h => h)
/-! owned dicts -/
theorem s_newDk {i : Nat} {Q : SRs → Prop} (q : ∀ r1, r.set i (some (.th (.dk []))) = r1 → Q (.nx r1)) : wS (newDk i) r Q := q _ rfl
theorem slDk_at {i : Nat} {kvs : List (Key × D)} (e : r[i]? = some (some (.th (.dk kvs)))) : slDk r i = some kvs := by unfold slDk; rw [e]; rfl
theorem s_putDk {i : Nat} {fi f : En → Rs D} {Q : SRs → Prop} (h : wE f r (fun d r1 => (∃ kvs, r1[i]? = some (some (.th (.dk kvs)))) ∧ wE fi r1 (fun kd r2 => ∃ kvs, r2[i]? = some (some (.th (.dk kvs))) ∧ kvs.length ≤ 1000000 ∧ Gi kd.key fun k => ∀ r3, r2.set i (some (.th (.dk (putD kvs k d)))) = r3 → Q (.nx r3)) (fun x r1 => Q (.ex x r1))) (fun x r1 => Q (.ex x r1))) : wS (putDk i fi f) r Q :=
  wS_then rfl (wE_mono h (fun d r1 ⟨⟨kvs, e0⟩, h⟩ => by
    have hf : fill r1 i = .ok () r1 := by unfold fill; rw [e0]
    refine wS_then (f := fun r => fill r i) rfl (wE_ok hf (wS_then rfl (wE_mono h (fun kd r2 ⟨kvs, e1, hl, k, ek, q⟩ => ?_) fun _ _ h => h)))
    have e2 : (ofO ((slDk r2 i).bind fun kvs => if kvs.length ≤ 1000000 then kd.key.map fun k => putD kvs k d else none) r2 : Rs (List (Key × D))) = .ok (putD kvs k d) r2 := by
      rw [slDk_at e1, Option.bind_some, if_pos hl, ek]
      rfl
    exact wS_then (f := fun r2 => ofO ((slDk r2 i).bind fun kvs => if kvs.length ≤ 1000000 then kd.key.map fun k => putD kvs k d else none) r2) rfl (wE_ok e2 (q _ rfl))) fun _ _ h => h)
end
end DL

/-! Tools, part 15: own == and &. -/
namespace DL
open PySem L2
variable {r : En} {E : Exn → En → Prop}
theorem w_opM {c : Str} {ok : D → Bool} {f : List D → FR} {fo fe : En → Rs D} {Q : OV → En → Prop} (h : wE fo r (fun x r1 => wE fe r1 (fun y r2 => (isC c x && ok y) = true ∧ Gx (f [x, y]) (fun o => Q o r2) (fun x => E x r2)) E) E) : wE (opM c ok f fo fe) r Q E :=
  wE_bind rfl (wE_mono h (fun x r1 h => wE_bind (f := fe) rfl (wE_mono h (fun y r2 ⟨hk, q⟩ => by
    show wE (fun r2 => if (isC c x && ok y) = true then frR (f [x, y]) r2 else .bad) r2 Q E
    simp only [if_pos hk]
    exact wE_fr q) fun _ _ h => h)) fun _ _ h => h)
end DL

/-! Tools, part 16: running with owned dicts: dict(d), d[k], defs that hand out their own dict; own !=. -/
namespace DL
open PySem L2
variable {r : En} {E : Exn → En → Prop}
theorem w_vDk {i : Nat} {kvs : List (Key × D)} {Q : D → En → Prop} (e : r[i]? = some (some (.th (.dk kvs)))) (q : ∀ r1, r.set i (some (.sh (.dic kvs))) = r1 → Q (.dic kvs) r1) : wE (vDk i) r Q E := by unfold wE vDk; rw [e]; exact q _ rfl
theorem w_vDkS {i : Nat} {d : D} {Q : D → En → Prop} (e : r[i]? = some (some (.sh d))) (q : Q d r) : wE (vDk i) r Q E := by unfold wE vDk; rw [e]; exact q
theorem w_getDk {i : Nat} {f : En → Rs D} {Q : D → En → Prop} (h0 : ∃ o, r[i]? = some (some o)) (h : wE f r (fun kd r1 => ∃ kvs, r1[i]? = some (some (.th (.dk kvs))) ∧ Gi (semAt (.dic kvs) kd) fun d => Q d r1) E) : wE (getDk i f) r Q E := by
  obtain ⟨o, h0⟩ := h0
  have hf : fill r i = .ok () r := by unfold fill; rw [h0]
  refine wE_bind (f := fun r => fill r i) rfl (wE_ok hf ?_)
  refine wE_bind rfl (wE_mono h (fun kd r1 ⟨kvs, e1, z, e2, q⟩ => ?_) fun _ _ h => h)
  refine wE_ok (r1 := r1) (a := z) ?_ q
  rw [slDk_at e1]
  show ofO (semAt (.dic kvs) kd) r1 = _
  rw [e2]
  rfl
theorem s_setK {i : Nat} {f : En → Rs (List (Key × D))} {Q : SRs → Prop} (h : wE f r (fun kvs r1 => ∀ r2, r1.set i (some (.th (.dk kvs))) = r2 → Q (.nx r2)) (fun x r1 => Q (.ex x r1))) : wS (setK i f) r Q := wS_then rfl (wE_mono h (fun o r1 h => h _ rfl) fun _ _ h => h)
theorem w_cpK {f : En → Rs D} {Q : List (Key × D) → En → Prop} (h : wE f r (fun d r1 => ∃ kvs, d = .dic kvs ∧ Q kvs r1) E) : wE (cpK f) r Q E :=
  wE_bind rfl (wE_mono h (fun d r1 ⟨kvs, e, q⟩ => by subst e; exact wE_ok (r1 := r1) (a := kvs) rfl q) fun _ _ h => h)
theorem w_ifK {t : En → Rs Bool} {f h : En → Rs (List (Key × D))} {Q : List (Key × D) → En → Prop} (q : wE t r (fun b r1 => Ch b (wE f r1 Q E) (wE h r1 Q E)) E) : wE (ifK t f h) r Q E :=
  wE_bind rfl (wE_mono q (fun b r1 q => by cases b <;> exact q) fun _ _ h => h)
theorem w_frzK {f : En → Rs (List (Key × D))} {Q : D → En → Prop} (h : wE f r (fun kvs r1 => Q (.dic kvs) r1) E) : wE (frzK f) r Q E :=
  wE_bind rfl (wE_mono h (fun kvs r1 q => wE_ok (r1 := r1) (a := D.dic kvs) rfl q) fun _ _ h => h)
def Gk (o : Option (List (Key × D) × List D)) (k : List (Key × D) → List D → Prop) : Prop := ∃ a b, o = some (a, b) ∧ k a b
theorem Gk.of {o : Option (List (Key × D) × List D)} {k : List (Key × D) → List D → Prop} {a : List (Key × D)} {b : List D} (e : o = some (a, b)) (q : k a b) : Gk o k := ⟨a, b, e, q⟩
theorem w_callBD {n j : Nat} {f : List D → List D → Option (List (Key × D) × List D)} {fs : List (En → Rs D)} {Q : List (Key × D) → En → Prop} (hj : ∃ o, r[j]? = some (some o)) (h : wE (evs fs) r (fun ds r1 => ds.length = n ∧ ∃ bs, r1[j]? = some (some (.ow bs)) ∧ Gk (f bs ds) fun o b' => ∀ r2, r1.set j (some (.ow b')) = r2 → Q o r2) E) : wE (callBD n f j fs) r Q E := by
  obtain ⟨o, hj⟩ := hj
  have hf : fill r j = .ok () r := by unfold fill; rw [hj]
  refine wE_bind (f := fun r => fill r j) rfl (wE_ok hf ?_)
  refine wE_bind rfl (wE_mono h (fun ds r1 ⟨hl, bs, e1, o, b', e2, q⟩ => wE_ok (r1 := r1.set j (some (.ow b'))) (a := o) ?_ (q _ rfl)) fun _ _ h => h)
  have : (lookV r1 j).bind OV.lst? = some bs := by unfold lookV; rw [e1]; rfl
  rw [if_pos hl, this]
  simp only [Option.bind_some, e2, ofO, Rs.bind]
theorem w_neM {c : Str} {f : List D → Option OV} {fo fe : En → Rs D} {Q : D → En → Prop} (h : wE fo r (fun x r1 => wE fe r1 (fun y r2 => (isC c x && eqArg c y) = true ∧ ∃ b, f [x, y] = some (.sh (.bl b)) ∧ Q (.bl (!b)) r2) E) E) : wE (neM c f fo fe) r Q E :=
  wE_bind rfl (wE_mono h (fun x r1 h => wE_bind (f := fe) rfl (wE_mono h (fun y r2 ⟨hk, b, e, q⟩ => by
    refine wE_ok (r1 := r2) (a := .bl (!b)) ?_ q
    rw [if_pos hk]
    simp only [e]) fun _ _ h => h)) fun _ _ h => h)
/-! a for over a literal list, turn by turn -/
theorem hasDk {i : Nat} {kvs : List (Key × D)} {P : Prop} (e : r[i]? = some (some (.th (.dk kvs)))) (p : P) : (∃ kvs, r[i]? = some (some (OV.th (Tg.dk kvs)))) ∧ P := ⟨⟨kvs, e⟩, p⟩
theorem getsDk {i : Nat} {kvs : List (Key × D)} {P : List (Key × D) → Prop} (e : r[i]? = some (some (.th (.dk kvs)))) (h : kvs.length ≤ 1000000) (p : P kvs) : ∃ kvs, r[i]? = some (some (OV.th (Tg.dk kvs))) ∧ kvs.length ≤ 1000000 ∧ P kvs := ⟨kvs, e, h, p⟩
theorem getDk' {i : Nat} {kvs : List (Key × D)} {P : List (Key × D) → Prop} (e : r[i]? = some (some (.th (.dk kvs)))) (p : P kvs) : ∃ kvs, r[i]? = some (some (OV.th (Tg.dk kvs))) ∧ P kvs := ⟨kvs, e, p⟩
end DL

/-! plain tools, part 17: running pop as a value, owned dicts with tuples as keys, while, sorted(a | b). -/
namespace DL
open PySem L2
section
variable {r : En} {E : Exn → En → Prop}
theorem w_enX {f : En → Rs D} {Q : List D → En → Prop} (h : wE f r (fun d r1 => Gi d.asE fun ds => Q (enumD 0 ds) r1) E) : wE (enX f) r Q E :=
  wE_bind rfl (wE_mono h (fun d r1 ⟨i, e, q⟩ => wE_ok (r1 := r1) (a := enumD 0 i) (by rw [e]; rfl) q) fun _ _ h => h)
theorem w_popV {i : Nat} {f : En → Rs D} {Q : D → En → Prop} (h0 : ∃ xs, r[i]? = some (some (.ow xs))) (h : wE f r (fun d r1 => ∃ xs, r1[i]? = some (some (.ow xs)) ∧ Gi (popP d xs) fun z => ∀ r2, r1.set i (some (.ow z.2)) = r2 → Q z.1 r2) E) : wE (popV i f) r Q E := by
  obtain ⟨xs, h0⟩ := h0
  refine wE_bind (f := fun r => fillW r i) rfl (wE_ok (fillW_ok h0) ?_)
  refine wE_bind rfl (wE_mono h (fun d r1 ⟨ys, e1, z, e2, q⟩ => ?_) fun _ _ h => h)
  refine wE_ok (r1 := r1.set i (some (.ow z.2))) (a := z.1) ?_ (q _ rfl)
  rw [e1]
  simp only [e2]
theorem w_getOd {i : Nat} {f : En → Rs D} {Q : D → En → Prop} (h0 : ∃ o, r[i]? = some (some o)) (h : wE f r (fun kd r1 => ∃ kvs, r1[i]? = some (some (.od kvs)) ∧ Gi (kd.key8.bind fun k => odAt kvs k) fun d => Q d r1) E) : wE (getOd i f) r Q E := by
  obtain ⟨o, h0⟩ := h0
  have hf : fill r i = .ok () r := by unfold fill; rw [h0]
  refine wE_bind (f := fun r => fill r i) rfl (wE_ok hf ?_)
  refine wE_bind rfl (wE_mono h (fun kd r1 ⟨kvs, e1, z, e2, q⟩ => ?_) fun _ _ h => h)
  refine wE_ok (r1 := r1) (a := z) ?_ q
  rw [e1]
  show ofO (kd.key8.bind fun k => odAt kvs k) r1 = _
  rw [e2]
  rfl
theorem w_inOd {n : Bool → Bool} {i : Nat} {f : En → Rs D} {Q : Bool → En → Prop} (h : wE f r (fun kd r1 => ∃ kvs, r1[i]? = some (some (.od kvs)) ∧ Gi kd.key8 fun k => Q (n (odHas kvs k)) r1) E) : wE (inOd n i f) r Q E := by
  refine wE_bind rfl (wE_mono h (fun kd r1 ⟨kvs, e1, k, e2, q⟩ => ?_) fun _ _ h => h)
  refine wE_ok (r1 := r1) (a := n (odHas kvs k)) ?_ q
  rw [e1]
  show ofO (kd.key8.map fun k => n (odHas kvs k)) r1 = _
  rw [e2]
  rfl
theorem s_putOd {i : Nat} {fi f : En → Rs D} {Q : SRs → Prop} (h : wE f r (fun d r1 => (∃ o, r1[i]? = some (some o)) ∧ wE fi r1 (fun kd r2 => ∃ kvs, r2[i]? = some (some (.od kvs)) ∧ Gi kd.key8 fun k => (odHas kvs k = false ∧ kvs.length ≤ 1000000) ∧ ∀ r3, r2.set i (some (.od (kvs ++ [(kd, d)]))) = r3 → Q (.nx r3)) (fun x r1 => Q (.ex x r1))) (fun x r1 => Q (.ex x r1))) : wS (putOd i fi f) r Q := by
  refine wS_then rfl (wE_mono h (fun d r1 ⟨⟨o, h0⟩, h⟩ => ?_) fun _ _ h => h)
  have hf : fill r1 i = .ok () r1 := by unfold fill; rw [h0]
  refine wS_then (f := fun r => fill r i) rfl (wE_ok hf (wS_then rfl (wE_mono h (fun kd r2 ⟨kvs, e1, k, e2, hc, q⟩ => ?_) fun _ _ h => h)))
  unfold wS
  simp only [e1, e2, hc, and_self, if_true]
  exact q _ rfl
theorem s_parOd1 {i j : Nat} {fk fv : En → Rs D} {h : En → Rs OV} {Q : SRs → Prop} (w : wE fk r (fun kd r1 => wE fv r1 (fun d r2 => Gi kd.key8 fun _ => wE h r2 (fun o r3 => ∀ r4, (r3.set i (some (.od [(kd, d)]))).set j (some o) = r4 → Q (.nx r4)) nE) nE) nE) : wS (parOd1 i j fk fv h) r Q := by
  obtain ⟨kd, r1, e1, w⟩ := wE_get w
  obtain ⟨d, r2, e2, k, e3, w⟩ := wE_get w
  obtain ⟨o, r3, e4, w⟩ := wE_get w
  unfold wS parOd1
  rw [e1]
  show Q (thenS ((fv r1).noE) _)
  rw [e2]
  show Q (thenS (ofO kd.key8 r2) _)
  rw [e3]
  show Q (thenS ((h r2).noE) _)
  rw [e4]
  exact w _ rfl
theorem w_orS {fa fb : En → Rs (List Str)} {Q : OV → En → Prop} (h : wE fa r (fun ts r1 => wE fb r1 (fun us r2 => ((addT [] ts).length ≤ 15 ∧ (addT [] us).length ≤ 15) ∧ Q (.ow ((srtT (ts ++ us)).map D.str)) r2) E) E) : wE (orS fa fb) r Q E := by
  refine wE_bind rfl (wE_mono h (fun ts r1 h => ?_) fun _ _ h => h)
  refine wE_bind rfl (wE_mono h (fun us r2 ⟨hc, q⟩ => ?_) fun _ _ h => h)
  refine wE_ok (r1 := r2) (a := OV.ow ((srtT (ts ++ us)).map D.str)) ?_ q
  rw [if_pos hc]
  rfl
theorem w_lenDk {i : Nat} {Q : D → En → Prop} {kvs : List (Key × D)} (e : r[i]? = some (some (.th (.dk kvs)))) (q : Q (.int (kvs.length : Nat)) r) : wE (lenDk i) r Q E := by
  refine wE_ok (r1 := r) ?_ q
  unfold lenDk
  rw [slDk_at e]
  rfl
end
end DL

/-! plain tools, part 18: T.get(k, n), heard(lambda: e), x += k, xs.count(..). -/
namespace DL
open PySem L2
def getT (t : List (Str × D)) (e c : D) : Option D := match e, c with
  | .str z, .int n => some ((t.lookup z).getD (.int n))
  | _, _ => none
section
variable {r : En} {E : Exn → En → Prop}
theorem w_tabGet {t : List (Str × D)} {k x : Opd} {Q : D → En → Prop} (h : wE k.run r (fun y r1 => wE x.run r1 (fun u r2 => Gi (look r2 y) fun e => Gi (look r2 u) fun c => Gi (getT t e c) fun d => Q d r2) E) E) : wE (tabGetD t k x) r Q E :=
  wE_bind rfl (wE_mono h (fun y r1 h => wE_bind rfl (wE_mono h (fun u r2 ⟨e, e1, c, e2, d, e3, q⟩ => wE_ok (r1 := r2) (a := d) (by
    simp only [e1, e2, Option.bind_some]
    show ofO (getT t e c) r2 = _
    rw [e3]
    rfl) q) fun _ _ h => h)) fun _ _ h => h)
theorem s_augN {i : Nat} {y : Int} {Q : SRs → Prop} (h : ∃ z, r[i]? = some (some (.sh (.int z))) ∧ ∀ r2, r.set i (some (.sh (.int (z + y)))) = r2 → Q (.nx r2)) : wS (augN i y) r Q := by
  obtain ⟨z, e, q⟩ := h
  unfold wS augN
  simp only [e]
  exact q _ rfl
end
end DL

/-! plain tools, part 19: bodies that clear a dict frozen in them; defs with the bag that hand out the dict of a display. -/
namespace DL
open PySem L2
section
variable {r : En} {E : Exn → En → Prop}
theorem isWE {α : Type} {f : En → Rs α} {Q : α → En → Prop} (h : wE f r Q E) : wE f r Q E := h
theorem isWS {f : En → SRs} {Q : SRs → Prop} (h : wS f r Q) : wS f r Q := h
theorem isGi {α : Type} {o : Option α} {k : α → Prop} (h : Gi o k) : Gi o k := h
theorem s_extT {i : Nat} {f : En → Rs D} {Q : SRs → Prop} (h0 : ∃ xs, r[i]? = some (some (.ow xs))) (h : wE f r (fun d r1 => ∃ xs, r1[i]? = some (some (.ow xs)) ∧ Gi (extFT d xs) fun ys => ∀ r2, r1.set i (some (.ow ys)) = r2 → Q (.nx r2)) (fun x r1 => Q (.ex x r1))) : wS (extST i f) r Q := by
  obtain ⟨xs, h0⟩ := h0
  refine wS_then (f := fun r => fillW r i) rfl (wE_ok (fillW_ok h0) (wS_then rfl (wE_mono h (fun d r1 ⟨xs, e, q⟩ => wS_chg e q) fun _ _ h => h)))
end
end DL

/-! All lists within a thing changed: none stands twice. -/
namespace DL
open PySem L2
/-- f(x), x given away: True where no list stands twice in it -/
def spRu (K : PySem.W.Frag) : Sp := fun vs H Q _ => ∃ F v d l, vs = [v] ∧ Same F H ∧ LR K F v d l ∧ d.dp < 20 ∧ l.length ≤ 1000 ∧ l.Nodup ∧ (∀ c ∈ l, ∀ xs, F c = some (.lst xs) → xs.length ≤ 1000) ∧ ∀ H', (∀ b o, H b = some o → b ∉ l → H' b = some o) → Q (.bl true) H'
/-! ### what is read behind it -/
mutual
/-- what was read is read still, if each list of it has something -/
theorem LR.any {K : PySem.W.Frag} {F F2 : Hp} {S : List Addr} (keep : ∀ b o, F b = some o → (∀ xs, o ≠ .lst xs) → F2 b = some o) (new : ∀ c ∈ S, ∀ xs, F c = some (.lst xs) → ∃ i, F2 c = some (.lst (xs ++ [.int i]))) : ∀ {v : V} {d : D} {l : List Addr}, LR K F v d l → (∀ b ∈ l, b ∈ S) → ∃ d', RD K F2 v d'
  | _, d, _, .flat h1 h2, _ => by
    cases d with
    | non => cases h2; exact ⟨_, .non⟩
    | bl b => cases h2; exact ⟨_, .bl _⟩
    | int i => cases h2; exact ⟨_, .int _⟩
    | str x => cases h2; exact ⟨_, .str _⟩
    | _ => cases h1
  | _, _, _, .lst h1 h2, hs => by
    obtain ⟨i, e⟩ := new _ (hs _ List.mem_cons_self) _ h1
    obtain ⟨ds', h⟩ := LRs.any keep new h2 fun b hb => hs b (List.mem_cons_of_mem _ hb)
    exact ⟨_, .lst e (h.app (.cons (.int i) .nil))⟩
  | _, _, _, .tup h1 h2, hs => by
    obtain ⟨ds', h⟩ := LRs.any keep new h2 hs
    refine ⟨.tup ds', .tup ?_ h⟩
    rcases h1 with (h1 | ⟨o, h1⟩) | h1
    · exact .inl (.inl (keep _ _ h1 fun xs z => by cases z))
    · exact .inl (.inr ⟨o, keep _ _ h1 fun xs z => by cases z⟩)
    · exact .inr h1
theorem LRs.any {K : PySem.W.Frag} {F F2 : Hp} {S : List Addr} (keep : ∀ b o, F b = some o → (∀ xs, o ≠ .lst xs) → F2 b = some o) (new : ∀ c ∈ S, ∀ xs, F c = some (.lst xs) → ∃ i, F2 c = some (.lst (xs ++ [.int i]))) : ∀ {v : List V} {d : List D} {l : List (List Addr)}, LRs K F v d l → (∀ b ∈ l.flatten, b ∈ S) → ∃ ds', RDs K F2 v ds'
  | _, _, _, .nil, _ => ⟨_, .nil⟩
  | _, _, _, .cons h1 h2, hs => by
    obtain ⟨d', e1⟩ := LR.any keep new h1 fun b hb => hs b (by rw [List.flatten_cons]; exact List.mem_append_left _ hb)
    obtain ⟨ds', e2⟩ := LRs.any keep new h2 fun b hb => hs b (by rw [List.flatten_cons]; exact List.mem_append_right _ hb)
    exact ⟨_, .cons e1 e2⟩
end
section
variable {P : Program} {w : World} {K : PySem.W.Frag} {mg : Str → Option Value} {base : Heap}
end
/-! ### the last row's value -/
structure HasRu (P : Program) (w : World) (K : PySem.W.Frag) (mg : Str → Option Value) (base : Heap) (k : Nat) (x : Str) : Prop where
  ex : ∃ fa fd ps, FnG P w K mg base CX0 k fa fd ps (spRu K) ∧ mg x = some (.ref fa) ∧ PySem.W.keepIn K (.ref fa) = true ∧ Binds K fd ps []
end DL

/-! not f(list(x[1])), x a name whose value's lists are new, f the def that changes all lists. -/
namespace DL
open PySem L2
section
variable {K : PySem.W.Frag} {F : Hp}
end
end DL

/-! x = heard(..); if not alike(x, due) or t: return False; if x[0] == "told" and not ruined(list(x[1])): return False -/
namespace DL
open PySem L2
section
variable {X : Cx} {g : G} {i j : Nat} {hT : En → Rs D} {fa : List D → Option OV} {t2 : En → Rs Bool} {st1 st2 st3 : Stmt} {rest : List Stmt} {fr : En → SRs} {tb2 tb3 : TS}
end
end DL

/-! plain tools, part 23: running rows beside a name whose value's lists are new. -/
namespace DL
open PySem L2
section
variable {r : En} {E : Exn → En → Prop}
variable {Q : SRs → Prop}
end
end DL

local macro_rules | `(tactic| walk_at "lenb") => `(tactic| first | omega | (simp only [List.length_append, List.length_map, List.length_cons, List.length_nil, List.length_range, List.length_take, List.length_drop, List.length_zipIdx, List.length_reverse]; omega))
local macro_rules | `(tactic| walk_at "lks") => `(tactic| first | exact DL.lks_nil | (refine' DL.lks_cons ?a ?b; (case a => first | exact DL.lk_l | exact DL.lk_sh rfl | exact DL.lk_ow rfl); (case b => walk_at "lks")))
local macro_rules | `(tactic| walk_at "dk") => `(tactic| first
  | ((with_reducible refine' DL.hasDk ?e ?q); (case e => rfl))
  | ((with_reducible refine' DL.getsDk ?e ?l ?q); (case e => rfl); (case l => first | exact Nat.le_of_ble_eq_true rfl | assumption | omega))
  | ((with_reducible refine' DL.getDk' ?e ?q); (case e => rfl)))
local macro_rules | `(tactic| walk_at "go1ws") => `(tactic| first
  | (with_reducible refine DL.s_seq ?_)
  | (with_reducible refine DL.s_augN ?_)
  | (with_reducible refine DL.s_putOd ?_)
  | (with_reducible refine DL.s_parOd1 ?_)
  | (with_reducible refine DL.s_setK ?_)
  | (with_reducible refine DL.s_set ?_)
  | (with_reducible refine DL.s_fld2 ?_)
  | (with_reducible refine DL.s_newDk ?_)
  | (with_reducible refine DL.s_putDk ?_)
  | (with_reducible refine DL.s_if ?_)
  | (with_reducible refine DL.s_rt ?_)
  | (with_reducible refine DL.s_rtN ?_)
  | (with_reducible refine DL.s_nx ?_)
  | (with_reducible refine DL.s_ex ?_)
  | (with_reducible refine DL.s_raise ?_)
  | ((with_reducible refine' DL.s_clr ?e ?q); (case e => rfl))
  | ((with_reducible refine DL.s_app ?e ?q); (case e => exact ⟨_, rfl⟩))
  | ((with_reducible refine DL.s_ext ?e ?q); (case e => exact ⟨_, rfl⟩))
  | ((with_reducible refine DL.s_extT ?e ?q); (case e => exact ⟨_, rfl⟩))
  | ((with_reducible refine DL.s_pop ?e ?q); (case e => exact ⟨_, rfl⟩))
  | ((with_reducible refine DL.s_ins ?e ?q); (case e => exact ⟨_, rfl⟩))
  | (with_reducible refine DL.s_put ?_)
  | (with_reducible refine DL.s_par2 ?_)
  | (with_reducible refine DL.s_par3 ?_)
  | (with_reducible refine DL.s_par2o ?_)
  | (with_reducible refine DL.s_asg ?_)
  | (with_reducible refine DL.s_fld ?_)
  | (with_reducible refine DL.s_for ?_)
  | (with_reducible refine DL.s_try ?_)
  | (with_reducible refine DL.s_bk ?_)
  | (with_reducible refine DL.s_ct ?_))
local macro_rules | `(tactic| walk_at "go1we") => `(tactic| first
  | (with_reducible refine DL.w_con ?_)
  | ((with_reducible refine' DL.w_var ?e ?q); (case e => rfl))
  | ((with_reducible refine' DL.w_varO ?e ?q); (case e => rfl))
  | (with_reducible refine DL.w_frz ?_)
  | (with_reducible refine DL.w_sh ?_)
  | ((with_reducible refine' DL.w_mv ?e ?q); (case e => rfl))
  | ((with_reducible refine' DL.w_mvO ?e ?q); (case e => rfl))
  | (with_reducible refine DL.w_oex ?_)
  | ((with_reducible refine' DL.w_ova ?e ?q); (case e => rfl))
  | (with_reducible refine DL.w_op2 ?_)
  | (with_reducible refine DL.w_op1 ?_)
  | (with_reducible refine DL.w_rnil ?_)
  | (with_reducible refine DL.w_rcons ?_)
  | (with_reducible refine DL.w_opN ?_)
  | (with_reducible refine DL.w_get ?_)
  | (with_reducible refine DL.w_opNO ?_)
  | (with_reducible refine DL.w_op2O ?_)
  | (with_reducible refine DL.w_enil ?_)
  | (with_reducible refine DL.w_econs ?_)
  | (with_reducible refine DL.w_tup ?_)
  | (with_reducible refine DL.w_lst ?_)
  | (with_reducible refine DL.w_call ?_)
  | ((with_reducible refine DL.w_callB ?e ?q); (case e => exact ⟨_, rfl⟩))
  | (with_reducible refine DL.w_callL ?_)
  | (with_reducible refine DL.w_callX ?_)
  | (with_reducible refine DL.w_make ?_)
  | (with_reducible refine DL.w_meth ?_)
  | (with_reducible refine DL.w_lenM ?_)
  | (with_reducible refine DL.w_toB ?_)
  | (with_reducible refine DL.w_toT ?_)
  | (with_reducible refine DL.w_notT ?_)
  | (with_reducible refine DL.w_notD ?_)
  | (with_reducible refine DL.w_notV ?_)
  | (with_reducible refine DL.w_andT ?_)
  | (with_reducible refine DL.w_orT ?_)
  | (with_reducible refine DL.w_andD ?_)
  | (with_reducible refine DL.w_orD ?_)
  | (with_reducible refine DL.w_andV ?_)
  | (with_reducible refine DL.w_orV ?_)
  | (with_reducible refine DL.w_if ?_)
  | (with_reducible refine DL.w_chain ?_)
  | (with_reducible refine DL.w_isi ?_)
  | (with_reducible refine DL.w_iso ?_)
  | (with_reducible refine DL.w_m1 ?_)
  | (with_reducible refine DL.w_znil ?_)
  | (with_reducible refine DL.w_zcons ?_)
  | (with_reducible refine DL.w_zst ?_)
  | (with_reducible refine DL.w_lstZ ?_)
  | (with_reducible refine DL.w_tupZ ?_)
  | (with_reducible refine DL.w_poN ?_)
  | (with_reducible refine DL.w_poS ?_)
  | (with_reducible refine DL.w_sl ?_)
  | (with_reducible refine DL.w_yes ?_)
  | (with_reducible refine DL.w_itA ?_)
  | (with_reducible refine DL.w_enD ?_)
  | (with_reducible refine DL.w_zpD ?_)
  | (with_reducible refine DL.w_enX ?_)
  | (with_reducible refine DL.w_tabGet ?_)
  | ((with_reducible refine DL.w_popV ?e ?q); (case e => exact ⟨_, rfl⟩))
  | ((with_reducible refine DL.w_getOd ?e ?q); (case e => exact ⟨_, rfl⟩))
  | (with_reducible refine DL.w_inOd ?_)
  | (with_reducible refine DL.w_orS ?_)
  | ((with_reducible refine' DL.w_lenDk ?e ?q); (case e => rfl))
  | (with_reducible refine DL.w_rg1 ?_)
  | (with_reducible refine DL.w_vaD ?_)
  | (with_reducible refine DL.w_its ?_)
  | (with_reducible refine DL.w_sum ?_)
  | (with_reducible refine DL.w_pnil ?_)
  | (with_reducible refine DL.w_pcons ?_)
  | (with_reducible refine DL.w_dic ?_)
  | (with_reducible refine DL.w_dst ?_)
  | (with_reducible refine DL.w_stL ?_)
  | (with_reducible refine DL.w_rg2 ?_)
  | ((with_reducible refine' DL.w_xf ?e ?m ?l ?q); (case e => rfl); (case m => decide +kernel); (case l => rfl))
  | ((with_reducible refine' DL.w_isx (b := true) ?e ?m ?q); (case e => rfl); (case m => decide +kernel))
  | ((with_reducible refine' DL.w_isx (b := false) ?e ?m ?q); (case e => rfl); (case m => decide +kernel))
  | ((with_reducible refine' DL.w_fldO ?e ?l ?q); (case e => rfl); (case l => rfl))
  | ((with_reducible refine' DL.w_vDkS ?e ?q); (case e => rfl))
  | ((with_reducible refine' DL.w_vDk ?e ?q); (case e => rfl))
  | ((with_reducible refine DL.w_getDk ?e ?q); (case e => exact ⟨_, rfl⟩))
  | (with_reducible refine DL.w_cpK ?_)
  | (with_reducible refine DL.w_ifK ?_)
  | (with_reducible refine DL.w_frzK ?_)
  | ((with_reducible refine DL.w_callBD ?e ?q); (case e => exact ⟨_, rfl⟩))
  | (with_reducible refine DL.w_opM ?_)
  | (with_reducible refine DL.w_neM ?_)
  | ((with_reducible refine' DL.w_bw ?e ?q); (case e => rfl); (intro r2 hr2); (simp only [List.map_cons, List.map_nil, DL.hide_sh, DL.hide_ow, DL.hide_no, List.set_cons_succ, List.set_cons_zero] at hr2); subst hr2))
local macro_rules | `(tactic| walk_at "go1gi") => `(tactic| first
  | ((with_reducible refine' DL.Gi.of (o := DL.getT _ _ _) ?e ?q); (case e => rfl))
  | ((with_reducible refine' DL.Gi.of (o := DL.D.asE _) ?e ?q); (case e => rfl))
  | (with_reducible apply DL.gi_l)
  | ((with_reducible refine' DL.Gi.of (DL.lk_sh ?e) ?q); (case e => rfl))
  | ((with_reducible refine' DL.Gi.of (DL.lk_ow ?e) ?q); (case e => rfl))
  | ((with_reducible refine' DL.Gi.of (o := DL.looks _ _) ?e ?q); (case e => walk_at "lks"))
  | (with_reducible refine DL.Gi.of (DL.semEq_str _ _) ?_)
  | (with_reducible refine DL.Gi.of (DL.semNe_str _ _) ?_)
  | (with_reducible refine DL.Gi.of (DL.semEq_int _ _) ?_)
  | (with_reducible refine DL.Gi.of (DL.semNe_int _ _) ?_)
  | (with_reducible refine DL.Gi.of (DL.semEq_bl _ _) ?_)
  | (with_reducible refine DL.Gi.of (DL.semNe_bl _ _) ?_)
  | ((with_reducible refine' DL.Gi.of (o := DL.semAt _ _) ?e ?q); (case e => rfl))
  | ((with_reducible refine DL.Gi.of (DL.semAdd_l ?h) ?q); (case h => walk_at "lenb"))
  | ((with_reducible refine DL.Gi.of (DL.semAdd_t ?h) ?q); (case h => walk_at "lenb"))
  | ((with_reducible refine DL.Gi.of (DL.semAdd_s ?h) ?q); (case h => walk_at "lenb"))
  | ((with_reducible refine' DL.Gi.of (o := DL.semAdd _ _) ?e ?q); (case e => rfl))
  | ((with_reducible refine' DL.Gi.of (o := DL.semSub _ _) ?e ?q); (case e => rfl))
  | ((with_reducible refine' DL.Gi.of (o := DL.semMod _ _) ?e ?q); (case e => rfl))
  | ((with_reducible refine' DL.Gi.of (o := DL.semFdiv _ _) ?e ?q); (case e => rfl))
  | ((with_reducible refine' DL.Gi.of (o := DL.semLt _ _) ?e ?q); (case e => rfl))
  | ((with_reducible refine' DL.Gi.of (o := DL.semLe _ _) ?e ?q); (case e => rfl))
  | ((with_reducible refine' DL.Gi.of (o := DL.semGt _ _) ?e ?q); (case e => rfl))
  | ((with_reducible refine' DL.Gi.of (o := DL.semGe _ _) ?e ?q); (case e => rfl))
  | ((with_reducible refine' DL.Gi.of (o := DL.semIs _ _) ?e ?q); (case e => rfl))
  | ((with_reducible refine' DL.Gi.of (o := DL.semIsNot _ _) ?e ?q); (case e => rfl))
  | ((with_reducible refine' DL.Gi.of (o := DL.semLen _) ?e ?q); (case e => rfl))
  | ((with_reducible refine' DL.Gi.of (o := DL.semTuple _) ?e ?q); (case e => rfl))
  | ((with_reducible refine' DL.Gi.of (o := DL.semList _) ?e ?q); (case e => rfl))
  | ((with_reducible refine' DL.Gi.of (o := DL.semInt _) ?e ?q); (case e => rfl))
  | ((with_reducible refine' DL.Gi.of (o := DL.semAbs _) ?e ?q); (case e => rfl))
  | ((with_reducible refine' DL.Gi.of (o := DL.semFld _ _ _) ?e ?q); (case e => rfl))
  | ((with_reducible refine' DL.Gi.of (o := DL.semSl _ _ _) ?e ?q); (case e => rfl))
  | ((with_reducible refine' DL.Gi.of (o := DL.D.asB _) ?e ?q); (case e => rfl))
  | ((with_reducible refine' DL.Gi.of (o := DL.D.asI _) ?e ?q); (case e => rfl))
  | ((with_reducible refine' DL.Gi.of (o := DL.D.tru _) ?e ?q); (case e => rfl))
  | ((with_reducible refine' DL.Gi.of (o := DL.D.sq _) ?e ?q); (case e => rfl))
  | ((with_reducible refine' DL.Gi.of (o := DL.D.items _) ?e ?q); (case e => rfl))
  | ((with_reducible refine' DL.Gi.of (o := DL.D.asL _) ?e ?q); (case e => rfl))
  | ((with_reducible refine' DL.Gi.of (o := DL.D.vals _) ?e ?q); (case e => rfl))
  | ((with_reducible refine' DL.Gi.of (o := DL.D.itms _) ?e ?q); (case e => rfl))
  | ((with_reducible refine' DL.Gi.of (o := DL.zip2 _ _) ?e ?q); (case e => rfl))
  | ((with_reducible refine' DL.Gi.of (o := DL.semAddL _ _) ?e ?q); (case e => rfl))
  | ((with_reducible refine' DL.Gi.of (o := DL.semListL _) ?e ?q); (case e => rfl))
  | ((with_reducible refine' DL.Gi.of (o := DL.gN _ _ _) ?e ?q); (case e => rfl))
  | ((with_reducible refine' DL.Gi.of (o := DL.gT _ _ _ _) ?e ?q); (case e => rfl))
  | ((with_reducible refine' DL.Gi.of (o := DL.extF _ _) ?e ?q); (case e => rfl))
  | ((with_reducible refine' DL.Gi.of (o := DL.popF _ _) ?e ?q); (case e => rfl))
  | ((with_reducible refine' DL.Gi.of (o := DL.semNeg _) ?e ?q); (case e => rfl))
  | ((with_reducible refine' DL.Gi.of (o := DL.D.key _) ?e ?q); (case e => rfl)))
local macro_rules | `(tactic| walk_at "go1gr") => `(tactic| first
  | (with_reducible refine DL.Th.n ?_)
  | ((with_reducible refine' ⟨_, ?e, ?q⟩); (case e => ((with_reducible show _ = some (some (DL.OV.sh (DL.D.int _)))); rfl)))
  | ((with_reducible refine' ⟨_, ?e, ?q⟩); (case e => ((with_reducible show _ = some (some (DL.OV.od _))); rfl)))
  | ((with_reducible refine' ⟨⟨_, ?e⟩, ?q⟩); (case e => ((with_reducible show _ = some (some (_ : DL.OV))); rfl)))
  | ((with_reducible refine' ⟨?e, ?q⟩); (case e => ((with_reducible show DL.D.flt _ = true); rfl)))
  | ((with_reducible refine' ⟨?e, ?q⟩); (case e => ((with_reducible show DL.OV.flt _ = true); rfl)))
  | (with_reducible refine DL.Th.t ?_)
  | (with_reducible refine DL.Th.x ?_)
  | (with_reducible refine DL.Tn.n ?_)
  | (with_reducible refine DL.Tq.n ?_)
  | (with_reducible refine DL.Tq.t ?_)
  | ((with_reducible refine DL.Hq.n ?e ?q); (case e => rfl))
  | ((with_reducible refine DL.Hq.t ?e ?q); (case e => rfl))
  | (with_reducible refine DL.Tn.t ?_)
  | (with_reducible refine DL.Gx_P ?_)
  | ((with_reducible refine' ⟨?e, ?q⟩); (case e => ((with_reducible show List.length _ = _); rfl)))
  | ((with_reducible refine' ⟨?e, ?q⟩); (case e => ((with_reducible show List.length _ + 1 = _); rfl)))
  | ((with_reducible refine' ⟨?e, ?q⟩); (case e => ((with_reducible show List.length _ ≤ _); exact Nat.le_of_ble_eq_true rfl)))
  | ((with_reducible refine' ⟨?e, ?q⟩); (case e => ((with_reducible show DL.D.isk _ = true); rfl)))
  | ((with_reducible refine' ⟨_, ?e, ?q⟩); (case e => ((with_reducible show DL.look _ _ = some (DL.D.str _)); rfl)))
  | ((with_reducible refine' ⟨_, ?e, ?q⟩); (case e => ((with_reducible show _ = some (some (DL.OV.ow _))); rfl)))
  | ((with_reducible refine' ⟨_, ?e, ?q⟩); (case e => ((with_reducible show _ = some (some (DL.OV.oi _ _))); rfl)))
  | (with_reducible refine DL.Ch.t ?_)
  | (with_reducible refine DL.Ch.f ?_)
  | (with_reducible refine DL.Ch.nt ?_)
  | (with_reducible refine DL.Ch.ty (by with_reducible assumption) ?_)
  | (with_reducible refine DL.Ch.fy (by with_reducible assumption) ?_)
  | (with_reducible refine DL.Ch.dt (by with_reducible assumption) ?_)
  | (with_reducible refine DL.Ch.df (by with_reducible assumption) ?_)
  | ((with_reducible refine' ⟨?e, ?q⟩); (case e => ((with_reducible show DL.wipeE _ _ = _); rfl)))
  | ((with_reducible refine' ⟨?e, ?q⟩); (case e => rfl); (case q => rfl))
  | (with_reducible intro r2 hr2; first | (simp only [List.set_cons_succ, List.set_cons_zero, DL.wipeE] at hr2; subst hr2) | (simp only [DL.startE, List.map_cons, List.map_nil, List.length_cons, List.length_nil, Nat.zero_add, Nat.reduceAdd, Nat.reduceSub, Nat.sub_self, List.replicate, List.cons_append, List.nil_append, List.append_nil] at hr2; subst hr2) | (simp only [DL.OV.d] at hr2; subst hr2) | subst hr2))
local macro_rules | `(tactic| walk_at "go1") => `(tactic| first
  | ((with_reducible refine DL.isWE ?_); walk_at "go1we")
  | ((with_reducible refine DL.isGi ?_); walk_at "go1gi")
  | ((with_reducible refine DL.isWS ?_); walk_at "go1ws")
  | walk_at "go1gr")

/-! printed by gen.py: the defs of the linked text, by the data layer -/
namespace T
noncomputable section
open PySem L2 DL
def topS (i : Nat) : Stmt := PySem.Challenge.pw_scriptpicks_k10_errors_kept.main.body.getD i (.Pass ⟨0, 0, 0, 0⟩)
abbrev e_BadEdit : Stmt := inClass (topS 10) 0
theorem esc_BadEdit : FnScope ["self", "index"] ["self", "index"] (defScope e_BadEdit) := ⟨rfl, rfl, rfl, by decide +kernel, rfl, by decide +kernel, by decide +kernel⟩
abbrev e_BadStep : Stmt := inClass (topS 4) 0
theorem esc_BadStep : FnScope ["self", "index"] ["self", "index"] (defScope e_BadStep) := ⟨rfl, rfl, rfl, by decide +kernel, rfl, by decide +kernel, by decide +kernel⟩
abbrev e_Full : Stmt := inClass (topS 16) 0
theorem esc_Full : FnScope ["self", "limit"] ["self", "limit"] (defScope e_Full) := ⟨rfl, rfl, rfl, by decide +kernel, rfl, by decide +kernel, by decide +kernel⟩
abbrev e_HasPlace : Stmt := inClass (topS 12) 0
theorem esc_HasPlace : FnScope ["self", "index"] ["self", "index"] (defScope e_HasPlace) := ⟨rfl, rfl, rfl, by decide +kernel, rfl, by decide +kernel, by decide +kernel⟩
abbrev e_NoEntry : Stmt := inClass (topS 18) 0
theorem esc_NoEntry : FnScope ["self", "many"] ["self", "many"] (defScope e_NoEntry) := ⟨rfl, rfl, rfl, by decide +kernel, rfl, by decide +kernel, by decide +kernel⟩
abbrev e_NoRow : Stmt := inClass (topS 3) 0
theorem esc_NoRow : FnScope ["self", "at"] ["self", "at"] (defScope e_NoRow) := ⟨rfl, rfl, rfl, by decide +kernel, rfl, by decide +kernel, by decide +kernel⟩
abbrev e_NoStep : Stmt := inClass (topS 5) 0
theorem esc_NoStep : FnScope ["self", "index"] ["self", "index"] (defScope e_NoStep) := ⟨rfl, rfl, rfl, by decide +kernel, rfl, by decide +kernel, by decide +kernel⟩
abbrev e_NotPicked : Stmt := inClass (topS 6) 0
theorem esc_NotPicked : FnScope ["self", "number"] ["self", "number"] (defScope e_NotPicked) := ⟨rfl, rfl, rfl, by decide +kernel, rfl, by decide +kernel, by decide +kernel⟩
abbrev e_Refused : Stmt := inClass (topS 17) 0
theorem esc_Refused : FnScope ["self", "deed"] ["self", "deed"] (defScope e_Refused) := ⟨rfl, rfl, rfl, by decide +kernel, rfl, by decide +kernel, by decide +kernel⟩
abbrev e_Stopped : Stmt := inClass (topS 8) 0
theorem esc_Stopped : FnScope ["self", "index"] ["self", "index"] (defScope e_Stopped) := ⟨rfl, rfl, rfl, by decide +kernel, rfl, by decide +kernel, by decide +kernel⟩
abbrev e_TooMany : Stmt := inClass (topS 13) 0
theorem esc_TooMany : FnScope ["self", "most"] ["self", "most"] (defScope e_TooMany) := ⟨rfl, rfl, rfl, by decide +kernel, rfl, by decide +kernel, by decide +kernel⟩
abbrev e_Wrong : Stmt := inClass (topS 2) 0
theorem esc_Wrong : FnScope ["self", "place"] ["self", "place"] (defScope e_Wrong) := ⟨rfl, rfl, rfl, by decide +kernel, rfl, by decide +kernel, by decide +kernel⟩
def tb_BadEdit : List (Str × Bool) := [("Wrong", false), ("NoRow", false), ("BadStep", false), ("NoStep", false), ("NotPicked", false), ("Stuck", false), ("Stopped", false), ("Closed", false), ("BadEdit", true), ("Unlike", false), ("HasPlace", false), ("TooMany", false), ("Nothing", false), ("NoDeed", false), ("Full", false), ("Refused", false), ("NoEntry", false), ("NoText", false), ("NoCommand", false)]
def tb_BadStep : List (Str × Bool) := [("Wrong", false), ("NoRow", false), ("BadStep", true), ("NoStep", false), ("NotPicked", false), ("Stuck", false), ("Stopped", false), ("Closed", false), ("BadEdit", false), ("Unlike", false), ("HasPlace", false), ("TooMany", false), ("Nothing", false), ("NoDeed", false), ("Full", false), ("Refused", false), ("NoEntry", false), ("NoText", false), ("NoCommand", false)]
def tb_Closed : List (Str × Bool) := [("Wrong", false), ("NoRow", false), ("BadStep", false), ("NoStep", false), ("NotPicked", false), ("Stuck", false), ("Stopped", false), ("Closed", true), ("BadEdit", false), ("Unlike", false), ("HasPlace", false), ("TooMany", false), ("Nothing", false), ("NoDeed", false), ("Full", false), ("Refused", false), ("NoEntry", false), ("NoText", false), ("NoCommand", false)]
def tb_Full : List (Str × Bool) := [("Wrong", false), ("NoRow", false), ("BadStep", false), ("NoStep", false), ("NotPicked", false), ("Stuck", false), ("Stopped", false), ("Closed", false), ("BadEdit", false), ("Unlike", false), ("HasPlace", false), ("TooMany", false), ("Nothing", false), ("NoDeed", false), ("Full", true), ("Refused", false), ("NoEntry", false), ("NoText", false), ("NoCommand", false)]
def tb_HasPlace : List (Str × Bool) := [("Wrong", false), ("NoRow", false), ("BadStep", false), ("NoStep", false), ("NotPicked", false), ("Stuck", false), ("Stopped", false), ("Closed", false), ("BadEdit", false), ("Unlike", false), ("HasPlace", true), ("TooMany", false), ("Nothing", false), ("NoDeed", false), ("Full", false), ("Refused", false), ("NoEntry", false), ("NoText", false), ("NoCommand", false)]
def tb_NoCommand : List (Str × Bool) := [("Wrong", false), ("NoRow", false), ("BadStep", false), ("NoStep", false), ("NotPicked", false), ("Stuck", false), ("Stopped", false), ("Closed", false), ("BadEdit", false), ("Unlike", false), ("HasPlace", false), ("TooMany", false), ("Nothing", false), ("NoDeed", false), ("Full", false), ("Refused", false), ("NoEntry", false), ("NoText", false), ("NoCommand", true)]
def tb_NoDeed : List (Str × Bool) := [("Wrong", false), ("NoRow", false), ("BadStep", false), ("NoStep", false), ("NotPicked", false), ("Stuck", false), ("Stopped", false), ("Closed", false), ("BadEdit", false), ("Unlike", false), ("HasPlace", false), ("TooMany", false), ("Nothing", false), ("NoDeed", true), ("Full", false), ("Refused", false), ("NoEntry", false), ("NoText", false), ("NoCommand", false)]
def tb_NoEntry : List (Str × Bool) := [("Wrong", false), ("NoRow", false), ("BadStep", false), ("NoStep", false), ("NotPicked", false), ("Stuck", false), ("Stopped", false), ("Closed", false), ("BadEdit", false), ("Unlike", false), ("HasPlace", false), ("TooMany", false), ("Nothing", false), ("NoDeed", false), ("Full", false), ("Refused", false), ("NoEntry", true), ("NoText", false), ("NoCommand", false)]
def tb_NoRow : List (Str × Bool) := [("Wrong", false), ("NoRow", true), ("BadStep", false), ("NoStep", false), ("NotPicked", false), ("Stuck", false), ("Stopped", false), ("Closed", false), ("BadEdit", false), ("Unlike", false), ("HasPlace", false), ("TooMany", false), ("Nothing", false), ("NoDeed", false), ("Full", false), ("Refused", false), ("NoEntry", false), ("NoText", false), ("NoCommand", false)]
def tb_NoStep : List (Str × Bool) := [("Wrong", false), ("NoRow", false), ("BadStep", false), ("NoStep", true), ("NotPicked", false), ("Stuck", false), ("Stopped", false), ("Closed", false), ("BadEdit", false), ("Unlike", false), ("HasPlace", false), ("TooMany", false), ("Nothing", false), ("NoDeed", false), ("Full", false), ("Refused", false), ("NoEntry", false), ("NoText", false), ("NoCommand", false)]
def tb_NoText : List (Str × Bool) := [("Wrong", false), ("NoRow", false), ("BadStep", false), ("NoStep", false), ("NotPicked", false), ("Stuck", false), ("Stopped", false), ("Closed", false), ("BadEdit", false), ("Unlike", false), ("HasPlace", false), ("TooMany", false), ("Nothing", false), ("NoDeed", false), ("Full", false), ("Refused", false), ("NoEntry", false), ("NoText", true), ("NoCommand", false)]
def tb_NotPicked : List (Str × Bool) := [("Wrong", false), ("NoRow", false), ("BadStep", false), ("NoStep", false), ("NotPicked", true), ("Stuck", false), ("Stopped", false), ("Closed", false), ("BadEdit", false), ("Unlike", false), ("HasPlace", false), ("TooMany", false), ("Nothing", false), ("NoDeed", false), ("Full", false), ("Refused", false), ("NoEntry", false), ("NoText", false), ("NoCommand", false)]
def tb_Nothing : List (Str × Bool) := [("Wrong", false), ("NoRow", false), ("BadStep", false), ("NoStep", false), ("NotPicked", false), ("Stuck", false), ("Stopped", false), ("Closed", false), ("BadEdit", false), ("Unlike", false), ("HasPlace", false), ("TooMany", false), ("Nothing", true), ("NoDeed", false), ("Full", false), ("Refused", false), ("NoEntry", false), ("NoText", false), ("NoCommand", false)]
def tb_PickError : List (Str × Bool) := [("Wrong", true), ("NoRow", true), ("BadStep", true), ("NoStep", true), ("NotPicked", true), ("Stuck", true), ("Stopped", true), ("Closed", true), ("BadEdit", true), ("Unlike", true), ("HasPlace", true), ("TooMany", true), ("Nothing", true), ("NoDeed", true), ("Full", true), ("Refused", true), ("NoEntry", true), ("NoText", true), ("NoCommand", true)]
def tb_Refused : List (Str × Bool) := [("Wrong", false), ("NoRow", false), ("BadStep", false), ("NoStep", false), ("NotPicked", false), ("Stuck", false), ("Stopped", false), ("Closed", false), ("BadEdit", false), ("Unlike", false), ("HasPlace", false), ("TooMany", false), ("Nothing", false), ("NoDeed", false), ("Full", false), ("Refused", true), ("NoEntry", false), ("NoText", false), ("NoCommand", false)]
def tb_Stopped : List (Str × Bool) := [("Wrong", false), ("NoRow", false), ("BadStep", false), ("NoStep", false), ("NotPicked", false), ("Stuck", false), ("Stopped", true), ("Closed", false), ("BadEdit", false), ("Unlike", false), ("HasPlace", false), ("TooMany", false), ("Nothing", false), ("NoDeed", false), ("Full", false), ("Refused", false), ("NoEntry", false), ("NoText", false), ("NoCommand", false)]
def tb_Stuck : List (Str × Bool) := [("Wrong", false), ("NoRow", false), ("BadStep", false), ("NoStep", false), ("NotPicked", false), ("Stuck", true), ("Stopped", false), ("Closed", false), ("BadEdit", false), ("Unlike", false), ("HasPlace", false), ("TooMany", false), ("Nothing", false), ("NoDeed", false), ("Full", false), ("Refused", false), ("NoEntry", false), ("NoText", false), ("NoCommand", false)]
def tb_TooMany : List (Str × Bool) := [("Wrong", false), ("NoRow", false), ("BadStep", false), ("NoStep", false), ("NotPicked", false), ("Stuck", false), ("Stopped", false), ("Closed", false), ("BadEdit", false), ("Unlike", false), ("HasPlace", false), ("TooMany", true), ("Nothing", false), ("NoDeed", false), ("Full", false), ("Refused", false), ("NoEntry", false), ("NoText", false), ("NoCommand", false)]
def tb_Unlike : List (Str × Bool) := [("Wrong", false), ("NoRow", false), ("BadStep", false), ("NoStep", false), ("NotPicked", false), ("Stuck", false), ("Stopped", false), ("Closed", false), ("BadEdit", false), ("Unlike", true), ("HasPlace", false), ("TooMany", false), ("Nothing", false), ("NoDeed", false), ("Full", false), ("Refused", false), ("NoEntry", false), ("NoText", false), ("NoCommand", false)]
def tb_ValueError : List (Str × Bool) := [("Wrong", true), ("NoRow", true), ("BadStep", true), ("NoStep", true), ("NotPicked", true), ("Stuck", true), ("Stopped", true), ("Closed", true), ("BadEdit", true), ("Unlike", true), ("HasPlace", true), ("TooMany", true), ("Nothing", true), ("NoDeed", true), ("Full", true), ("Refused", true), ("NoEntry", true), ("NoText", true), ("NoCommand", true)]
def tb_Wrong : List (Str × Bool) := [("Wrong", true), ("NoRow", false), ("BadStep", false), ("NoStep", false), ("NotPicked", false), ("Stuck", false), ("Stopped", false), ("Closed", false), ("BadEdit", false), ("Unlike", false), ("HasPlace", false), ("TooMany", false), ("Nothing", false), ("NoDeed", false), ("Full", false), ("Refused", false), ("NoEntry", false), ("NoText", false), ("NoCommand", false)]
structure Fa (K : PySem.W.Frag) (w : World) (mg : Str → Option Value) (base : Heap) where
  sy : SysAt base
  C_BadEdit : Addr
  mc_BadEdit : mg "BadEdit" = some (.ref C_BadEdit)
  C_BadStep : Addr
  mc_BadStep : mg "BadStep" = some (.ref C_BadStep)
  C_Closed : Addr
  mc_Closed : mg "Closed" = some (.ref C_Closed)
  C_Full : Addr
  mc_Full : mg "Full" = some (.ref C_Full)
  C_HasPlace : Addr
  mc_HasPlace : mg "HasPlace" = some (.ref C_HasPlace)
  C_NoCommand : Addr
  mc_NoCommand : mg "NoCommand" = some (.ref C_NoCommand)
  C_NoDeed : Addr
  mc_NoDeed : mg "NoDeed" = some (.ref C_NoDeed)
  C_NoEntry : Addr
  mc_NoEntry : mg "NoEntry" = some (.ref C_NoEntry)
  C_NoRow : Addr
  mc_NoRow : mg "NoRow" = some (.ref C_NoRow)
  C_NoStep : Addr
  mc_NoStep : mg "NoStep" = some (.ref C_NoStep)
  C_NoText : Addr
  mc_NoText : mg "NoText" = some (.ref C_NoText)
  C_NotPicked : Addr
  mc_NotPicked : mg "NotPicked" = some (.ref C_NotPicked)
  C_Nothing : Addr
  mc_Nothing : mg "Nothing" = some (.ref C_Nothing)
  C_PickError : Addr
  mc_PickError : mg "PickError" = some (.ref C_PickError)
  C_Refused : Addr
  mc_Refused : mg "Refused" = some (.ref C_Refused)
  C_Stopped : Addr
  mc_Stopped : mg "Stopped" = some (.ref C_Stopped)
  C_Stuck : Addr
  mc_Stuck : mg "Stuck" = some (.ref C_Stuck)
  C_TooMany : Addr
  mc_TooMany : mg "TooMany" = some (.ref C_TooMany)
  C_Unlike : Addr
  mc_Unlike : mg "Unlike" = some (.ref C_Unlike)
  C_Wrong : Addr
  mc_Wrong : mg "Wrong" = some (.ref C_Wrong)
  ct_PickError : ∀ m b C, tabB tb_PickError m = some b → ClsAt K m C → PySem.W.exmOne K (.ref C) (.ref C_PickError) = some b
  ix_BadEdit : IsT K (.ref C_BadEdit) (tabB tb_BadEdit)
  ix_BadStep : IsT K (.ref C_BadStep) (tabB tb_BadStep)
  ix_Closed : IsT K (.ref C_Closed) (tabB tb_Closed)
  ix_Full : IsT K (.ref C_Full) (tabB tb_Full)
  ix_HasPlace : IsT K (.ref C_HasPlace) (tabB tb_HasPlace)
  ix_NoCommand : IsT K (.ref C_NoCommand) (tabB tb_NoCommand)
  ix_NoDeed : IsT K (.ref C_NoDeed) (tabB tb_NoDeed)
  ix_NoEntry : IsT K (.ref C_NoEntry) (tabB tb_NoEntry)
  ix_NoRow : IsT K (.ref C_NoRow) (tabB tb_NoRow)
  ix_NoStep : IsT K (.ref C_NoStep) (tabB tb_NoStep)
  ix_NoText : IsT K (.ref C_NoText) (tabB tb_NoText)
  ix_NotPicked : IsT K (.ref C_NotPicked) (tabB tb_NotPicked)
  ix_Nothing : IsT K (.ref C_Nothing) (tabB tb_Nothing)
  ix_Refused : IsT K (.ref C_Refused) (tabB tb_Refused)
  ix_Stopped : IsT K (.ref C_Stopped) (tabB tb_Stopped)
  ix_Stuck : IsT K (.ref C_Stuck) (tabB tb_Stuck)
  ix_TooMany : IsT K (.ref C_TooMany) (tabB tb_TooMany)
  ix_Unlike : IsT K (.ref C_Unlike) (tabB tb_Unlike)
  ix_Wrong : IsT K (.ref C_Wrong) (tabB tb_Wrong)
  ix_ValueError : IsT K (.type "ValueError") (tabB tb_ValueError)
  nz : noZ K = true
  xf_at : XfT K "at" ["NoRow"]
  xf_deed : XfT K "deed" ["Refused"]
  xf_index : XfT K "index" ["BadStep", "NoStep", "Stopped", "BadEdit", "HasPlace"]
  xf_limit : XfT K "limit" ["Full"]
  xf_many : XfT K "many" ["NoEntry"]
  xf_most : XfT K "most" ["TooMany"]
  xf_number : XfT K "number" ["NotPicked"]
  xf_place : XfT K "place" ["Wrong"]
  b_ValueError : mg "ValueError" = none
  b_abs : mg "abs" = none
  b_int : mg "int" = none
  b_isinstance : mg "isinstance" = none
  b_len : mg "len" = none
  b_range : mg "range" = none
section
variable {P : Program} {w : World} {K : PySem.W.Frag} {mg : Str → Option Value} {base : Heap}
abbrev s__law_bag : Stmt := topS 22
abbrev s__law_bag_sc : Scope := defScope s__law_bag
abbrev n__law_bag : List Str := ["_law_script", "_law_cell"]
theorem sc__law_bag : FnScope n__law_bag ["_law_script"] (defScope s__law_bag) := ⟨rfl, rfl, rfl, by decide +kernel, rfl, by decide +kernel, by decide +kernel⟩
abbrev it__law_bag_1 : En → Rs (List D) := (itA (slD (.va 0) poN (poS (cD (.int 63))) semSl))
abbrev el__law_bag_1 : En → Rs D := (opN [(.va 1)] semAbs)
abbrev lc__law_bag_1 : En → Rs OV := lcD it__law_bag_1 [1] (gN 1) yesT el__law_bag_1
def m__law_bag : En → SRs :=
    (rtS (lstD [(cD (.int 0)), (cD (.int 1234567891)), (cD (.int 0)), (frzD lc__law_bag_1)]))
def f__law_bag : List D → Option OV := fnP 2 m__law_bag
theorem ok__law_bag {f : Addr} {fd : FuncData} (fa : Fa K w mg base)  (F : Fun K "_law_bag" "_law_bag" s__law_bag f fd) : FnG P w K mg base CX0 1 f fd ["_law_script"] (spP K 1 f__law_bag) := by
  have nd := sc__law_bag.nd
  unfold f__law_bag
  refine fnP_ok (k := 0) (m := m__law_bag) F sc__law_bag rfl rfl fun cdv A outer s H E g hgd hr hB0 hW hWn hxc => ?_
  have hB := nb00 hB0
  unfold m__law_bag
  exact (ds_one (ds_ret (do_lst (da_cons de_int (da_cons de_int (da_cons de_int (da_cons (DO.fz (do_lc (own := [("_law_cell", 1)]) (ks := [1]) rfl nd (di_any (de_slice (db_var 0 (pv 0)) dpo_none (dpo_some de_int))) (blkOk_by (N := n__law_bag) (sc := s__law_bag_sc) (by decide +kernel)) rfl (nbs hB (by decide)) (by decide) (fun _ _ _ _ _ g1 e1 => (dg_name (i := 1) (nb (nbt e1 hB) 1 (by decide)) nd)) (fun _ _ _ _ _ g1 e1 => pts_nilD) (fun _ _ _ _ _ g1 e1 => (de_callB cd_abs fa.b_abs (dbs_cons (db_var 1 (pv 1)) dbs_nil))))) da_nil)))))))
theorem has__law_bag (fa : Fa K w mg base)  (F : FnAt K mg "_law_bag" s__law_bag) : HasP P w K mg base 1 "_law_bag" 1 f__law_bag := by
  obtain ⟨f, fd, F, hm⟩ := F
  exact ⟨f, fd, ["_law_script"], ok__law_bag fa  F, hm, F.kp, F.binds fun _ _ _ _ _ _ us hl => match us, hl with | [_], _ => rfl⟩
abbrev s__law_raised_too : Stmt := topS 27
abbrev n__law_raised_too : List Str := ["_law_kind", "_law_thing"]
theorem sc__law_raised_too : FnScope n__law_raised_too ["_law_kind", "_law_thing"] (defScope s__law_raised_too) := ⟨rfl, rfl, rfl, by decide +kernel, rfl, by decide +kernel, by decide +kernel⟩
def m__law_raised_too : En → SRs :=
    (seqS (ifS (toB (op2 (.va 0) (.ex (cD (.int 10))) semEq)) (raiseS "Refused" "deed" (vD 1)) nxS)
    (seqS (ifS (toB (op2 (.va 0) (.ex (cD (.int 11))) semEq)) (raiseS "NoEntry" "many" (vD 1)) nxS)
    (seqS (ifS (toB (op2 (.va 0) (.ex (cD (.int 12))) semEq)) (raise0S "Stuck") nxS)
    (seqS (ifS (toB (op2 (.va 0) (.ex (cD (.int 13))) semEq)) (raise0S "Closed") nxS)
    (seqS (ifS (toB (op2 (.va 0) (.ex (cD (.int 14))) semEq)) (raise0S "Unlike") nxS)
    (seqS (ifS (toB (op2 (.va 0) (.ex (cD (.int 15))) semEq)) (raise0S "Nothing") nxS)
    (seqS (ifS (toB (op2 (.va 0) (.ex (cD (.int 16))) semEq)) (raise0S "NoDeed") nxS)
    (seqS (ifS (toB (op2 (.va 0) (.ex (cD (.int 17))) semEq)) (raise0S "NoText") nxS)
    (raise0S "NoCommand")))))))))
def f__law_raised_too : List D → FR := fnX 2 m__law_raised_too
theorem ok__law_raised_too {f : Addr} {fd : FuncData} (fa : Fa K w mg base) (h_E_Refused : HasE P w K mg base "Refused" "deed") (h_E_NoEntry : HasE P w K mg base "NoEntry" "many") (h_E0_Stuck : HasE0 K mg "Stuck") (h_E0_Closed : HasE0 K mg "Closed") (h_E0_Unlike : HasE0 K mg "Unlike") (h_E0_Nothing : HasE0 K mg "Nothing") (h_E0_NoDeed : HasE0 K mg "NoDeed") (h_E0_NoText : HasE0 K mg "NoText") (h_E0_NoCommand : HasE0 K mg "NoCommand") (F : Fun K "_law_raised_too" "_law_raised_too" s__law_raised_too f fd) : FnG P w K mg base (L2N.CX P w) 3 f fd ["_law_kind", "_law_thing"] (spX K 2 f__law_raised_too) := by
  have nd := sc__law_raised_too.nd
  unfold f__law_raised_too
  refine fnX_okN (k := 2) (m := m__law_raised_too) F sc__law_raised_too rfl rfl fun cdv A outer s H E g hgd hr hB0 hW hxc tk po => ?_
  have hB := nb00 hB0
  unfold m__law_raised_too
  exact (ds_cons (ds_if (dt_cmp (opd_eq hr.units) (db_var 0 (pv 0)) (DE.opd de_int) (nomark _)) (ds_one (ds_raiseN h_E_Refused rfl hr (by decide) tk (de_var 1 (nb hB 1 (by decide)) (pv 1)))) ds_nil)
    (ds_cons (ds_if (dt_cmp (opd_eq hr.units) (db_var 0 (pv 0)) (DE.opd de_int) (nomark _)) (ds_one (ds_raiseN h_E_NoEntry rfl hr (by decide) tk (de_var 1 (nb hB 1 (by decide)) (pv 1)))) ds_nil)
    (ds_cons (ds_if (dt_cmp (opd_eq hr.units) (db_var 0 (pv 0)) (DE.opd de_int) (nomark _)) (ds_one (ds_raise0N h_E0_Stuck rfl tk)) ds_nil)
    (ds_cons (ds_if (dt_cmp (opd_eq hr.units) (db_var 0 (pv 0)) (DE.opd de_int) (nomark _)) (ds_one (ds_raise0N h_E0_Closed rfl tk)) ds_nil)
    (ds_cons (ds_if (dt_cmp (opd_eq hr.units) (db_var 0 (pv 0)) (DE.opd de_int) (nomark _)) (ds_one (ds_raise0N h_E0_Unlike rfl tk)) ds_nil)
    (ds_cons (ds_if (dt_cmp (opd_eq hr.units) (db_var 0 (pv 0)) (DE.opd de_int) (nomark _)) (ds_one (ds_raise0N h_E0_Nothing rfl tk)) ds_nil)
    (ds_cons (ds_if (dt_cmp (opd_eq hr.units) (db_var 0 (pv 0)) (DE.opd de_int) (nomark _)) (ds_one (ds_raise0N h_E0_NoDeed rfl tk)) ds_nil)
    (ds_cons (ds_if (dt_cmp (opd_eq hr.units) (db_var 0 (pv 0)) (DE.opd de_int) (nomark _)) (ds_one (ds_raise0N h_E0_NoText rfl tk)) ds_nil)
    (ds_one (ds_raise0N h_E0_NoCommand rfl tk))))))))))
theorem has__law_raised_too (fa : Fa K w mg base) (h_E_Refused : HasE P w K mg base "Refused" "deed") (h_E_NoEntry : HasE P w K mg base "NoEntry" "many") (h_E0_Stuck : HasE0 K mg "Stuck") (h_E0_Closed : HasE0 K mg "Closed") (h_E0_Unlike : HasE0 K mg "Unlike") (h_E0_Nothing : HasE0 K mg "Nothing") (h_E0_NoDeed : HasE0 K mg "NoDeed") (h_E0_NoText : HasE0 K mg "NoText") (h_E0_NoCommand : HasE0 K mg "NoCommand") (F : FnAt K mg "_law_raised_too" s__law_raised_too) : HasXN P w K mg base 3 "_law_raised_too" 2 f__law_raised_too := by
  obtain ⟨f, fd, F, hm⟩ := F
  exact ⟨f, fd, ["_law_kind", "_law_thing"], ok__law_raised_too fa h_E_Refused h_E_NoEntry h_E0_Stuck h_E0_Closed h_E0_Unlike h_E0_Nothing h_E0_NoDeed h_E0_NoText h_E0_NoCommand F, hm, F.kp, F.binds fun _ _ _ _ _ _ us hl => match us, hl with | [_, _], _ => rfl⟩
abbrev s__law_raised : Stmt := topS 26
abbrev n__law_raised : List Str := ["_law_kind", "_law_thing"]
theorem sc__law_raised : FnScope n__law_raised ["_law_kind", "_law_thing"] (defScope s__law_raised) := ⟨rfl, rfl, rfl, by decide +kernel, rfl, by decide +kernel, by decide +kernel⟩
def m__law_raised : En → SRs :=
    (seqS (ifS (toB (op2 (.va 0) (.ex (cD (.int 0))) semEq)) (raiseS "Wrong" "place" (vD 1)) nxS)
    (seqS (ifS (toB (op2 (.va 0) (.ex (cD (.int 1))) semEq)) (raiseS "NoRow" "at" (vD 1)) nxS)
    (seqS (ifS (toB (op2 (.va 0) (.ex (cD (.int 2))) semEq)) (raiseS "BadStep" "index" (vD 1)) nxS)
    (seqS (ifS (toB (op2 (.va 0) (.ex (cD (.int 3))) semEq)) (raiseS "NoStep" "index" (vD 1)) nxS)
    (seqS (ifS (toB (op2 (.va 0) (.ex (cD (.int 4))) semEq)) (raiseS "NotPicked" "number" (vD 1)) nxS)
    (seqS (ifS (toB (op2 (.va 0) (.ex (cD (.int 5))) semEq)) (raiseS "Stopped" "index" (vD 1)) nxS)
    (seqS (ifS (toB (op2 (.va 0) (.ex (cD (.int 6))) semEq)) (raiseS "BadEdit" "index" (vD 1)) nxS)
    (seqS (ifS (toB (op2 (.va 0) (.ex (cD (.int 7))) semEq)) (raiseS "HasPlace" "index" (vD 1)) nxS)
    (seqS (ifS (toB (op2 (.va 0) (.ex (cD (.int 8))) semEq)) (raiseS "TooMany" "most" (vD 1)) nxS)
    (raiseS "Full" "limit" (vD 1)))))))))))
def f__law_raised : List D → FR := fnX 2 m__law_raised
theorem ok__law_raised {f : Addr} {fd : FuncData} (fa : Fa K w mg base) (h_E_Wrong : HasE P w K mg base "Wrong" "place") (h_E_NoRow : HasE P w K mg base "NoRow" "at") (h_E_BadStep : HasE P w K mg base "BadStep" "index") (h_E_NoStep : HasE P w K mg base "NoStep" "index") (h_E_NotPicked : HasE P w K mg base "NotPicked" "number") (h_E_Stopped : HasE P w K mg base "Stopped" "index") (h_E_BadEdit : HasE P w K mg base "BadEdit" "index") (h_E_HasPlace : HasE P w K mg base "HasPlace" "index") (h_E_TooMany : HasE P w K mg base "TooMany" "most") (h_E_Full : HasE P w K mg base "Full" "limit") (F : Fun K "_law_raised" "_law_raised" s__law_raised f fd) : FnG P w K mg base (L2N.CX P w) 3 f fd ["_law_kind", "_law_thing"] (spX K 2 f__law_raised) := by
  have nd := sc__law_raised.nd
  unfold f__law_raised
  refine fnX_okN (k := 2) (m := m__law_raised) F sc__law_raised rfl rfl fun cdv A outer s H E g hgd hr hB0 hW hxc tk po => ?_
  have hB := nb00 hB0
  unfold m__law_raised
  exact (ds_cons (ds_if (dt_cmp (opd_eq hr.units) (db_var 0 (pv 0)) (DE.opd de_int) (nomark _)) (ds_one (ds_raiseN h_E_Wrong rfl hr (by decide) tk (de_var 1 (nb hB 1 (by decide)) (pv 1)))) ds_nil)
    (ds_cons (ds_if (dt_cmp (opd_eq hr.units) (db_var 0 (pv 0)) (DE.opd de_int) (nomark _)) (ds_one (ds_raiseN h_E_NoRow rfl hr (by decide) tk (de_var 1 (nb hB 1 (by decide)) (pv 1)))) ds_nil)
    (ds_cons (ds_if (dt_cmp (opd_eq hr.units) (db_var 0 (pv 0)) (DE.opd de_int) (nomark _)) (ds_one (ds_raiseN h_E_BadStep rfl hr (by decide) tk (de_var 1 (nb hB 1 (by decide)) (pv 1)))) ds_nil)
    (ds_cons (ds_if (dt_cmp (opd_eq hr.units) (db_var 0 (pv 0)) (DE.opd de_int) (nomark _)) (ds_one (ds_raiseN h_E_NoStep rfl hr (by decide) tk (de_var 1 (nb hB 1 (by decide)) (pv 1)))) ds_nil)
    (ds_cons (ds_if (dt_cmp (opd_eq hr.units) (db_var 0 (pv 0)) (DE.opd de_int) (nomark _)) (ds_one (ds_raiseN h_E_NotPicked rfl hr (by decide) tk (de_var 1 (nb hB 1 (by decide)) (pv 1)))) ds_nil)
    (ds_cons (ds_if (dt_cmp (opd_eq hr.units) (db_var 0 (pv 0)) (DE.opd de_int) (nomark _)) (ds_one (ds_raiseN h_E_Stopped rfl hr (by decide) tk (de_var 1 (nb hB 1 (by decide)) (pv 1)))) ds_nil)
    (ds_cons (ds_if (dt_cmp (opd_eq hr.units) (db_var 0 (pv 0)) (DE.opd de_int) (nomark _)) (ds_one (ds_raiseN h_E_BadEdit rfl hr (by decide) tk (de_var 1 (nb hB 1 (by decide)) (pv 1)))) ds_nil)
    (ds_cons (ds_if (dt_cmp (opd_eq hr.units) (db_var 0 (pv 0)) (DE.opd de_int) (nomark _)) (ds_one (ds_raiseN h_E_HasPlace rfl hr (by decide) tk (de_var 1 (nb hB 1 (by decide)) (pv 1)))) ds_nil)
    (ds_cons (ds_if (dt_cmp (opd_eq hr.units) (db_var 0 (pv 0)) (DE.opd de_int) (nomark _)) (ds_one (ds_raiseN h_E_TooMany rfl hr (by decide) tk (de_var 1 (nb hB 1 (by decide)) (pv 1)))) ds_nil)
    (ds_one (ds_raiseN h_E_Full rfl hr (by decide) tk (de_var 1 (nb hB 1 (by decide)) (pv 1)))))))))))))
theorem has__law_raised (fa : Fa K w mg base) (h_E_Wrong : HasE P w K mg base "Wrong" "place") (h_E_NoRow : HasE P w K mg base "NoRow" "at") (h_E_BadStep : HasE P w K mg base "BadStep" "index") (h_E_NoStep : HasE P w K mg base "NoStep" "index") (h_E_NotPicked : HasE P w K mg base "NotPicked" "number") (h_E_Stopped : HasE P w K mg base "Stopped" "index") (h_E_BadEdit : HasE P w K mg base "BadEdit" "index") (h_E_HasPlace : HasE P w K mg base "HasPlace" "index") (h_E_TooMany : HasE P w K mg base "TooMany" "most") (h_E_Full : HasE P w K mg base "Full" "limit") (F : FnAt K mg "_law_raised" s__law_raised) : HasXN P w K mg base 3 "_law_raised" 2 f__law_raised := by
  obtain ⟨f, fd, F, hm⟩ := F
  exact ⟨f, fd, ["_law_kind", "_law_thing"], ok__law_raised fa h_E_Wrong h_E_NoRow h_E_BadStep h_E_NoStep h_E_NotPicked h_E_Stopped h_E_BadEdit h_E_HasPlace h_E_TooMany h_E_Full F, hm, F.kp, F.binds fun _ _ _ _ _ _ us hl => match us, hl with | [_, _], _ => rfl⟩
abbrev s__law_flags : Stmt := topS 28
abbrev n__law_flags : List Str := ["_law_e", "_law_found"]
theorem sc__law_flags : FnScope n__law_flags ["_law_e"] (defScope s__law_flags) := ⟨rfl, rfl, rfl, by decide +kernel, rfl, by decide +kernel, by decide +kernel⟩
def m__law_flags : En → SRs :=
    (seqS (setS 1 (lstD [(isxD 0 (tabB tb_Wrong)), (isxD 0 (tabB tb_NoRow)), (isxD 0 (tabB tb_BadStep)), (isxD 0 (tabB tb_NoStep))]))
    (seqS (extS 1 (frzD (lstD [(isxD 0 (tabB tb_NotPicked)), (isxD 0 (tabB tb_Stopped)), (isxD 0 (tabB tb_BadEdit)), (isxD 0 (tabB tb_HasPlace))])))
    (seqS (extS 1 (frzD (lstD [(isxD 0 (tabB tb_TooMany)), (isxD 0 (tabB tb_Full)), (isxD 0 (tabB tb_Refused)), (isxD 0 (tabB tb_NoEntry))])))
    (seqS (extS 1 (frzD (lstD [(isxD 0 (tabB tb_Stuck)), (isxD 0 (tabB tb_Closed)), (isxD 0 (tabB tb_Unlike)), (isxD 0 (tabB tb_Nothing))])))
    (rtS (shD (op2 (.va 1) (.ex (frzD (lstD [(isxD 0 (tabB tb_NoDeed)), (isxD 0 (tabB tb_NoText)), (isxD 0 (tabB tb_NoCommand))]))) semAdd)))))))
def f__law_flags : Exn → Option D := fnE 2 m__law_flags
theorem ok__law_flags {f : Addr} {fd : FuncData} (fa : Fa K w mg base) (F : Fun K "_law_flags" "_law_flags" s__law_flags f fd) : FnE P w K mg base 1 f fd "_law_e" f__law_flags := by
  have nd := sc__law_flags.nd
  unfold f__law_flags
  refine fnE_ok (k := 0) (m := m__law_flags) F sc__law_flags rfl fun cdv A outer s H p cls d g hr hgd hz hf hB0 hW hWn hxc => ?_
  have hB := nb00 hB0
  unfold m__law_flags
  exact (ds_cons (ds_set (i := 1) (nb hB 1 (by decide)) nd (do_lst (da_cons (de_isxY (v := .ref fa.C_Wrong) (a := p.1) (oe := p.2) fa.ix_Wrong hz hf List.mem_cons_self hxc fa.b_isinstance (pv 0) fa.mc_Wrong rfl (fun _ z => z)) (da_cons (de_isxY (v := .ref fa.C_NoRow) (a := p.1) (oe := p.2) fa.ix_NoRow hz hf List.mem_cons_self hxc fa.b_isinstance (pv 0) fa.mc_NoRow rfl (fun _ z => z)) (da_cons (de_isxY (v := .ref fa.C_BadStep) (a := p.1) (oe := p.2) fa.ix_BadStep hz hf List.mem_cons_self hxc fa.b_isinstance (pv 0) fa.mc_BadStep rfl (fun _ z => z)) (da_cons (de_isxY (v := .ref fa.C_NoStep) (a := p.1) (oe := p.2) fa.ix_NoStep hz hf List.mem_cons_self hxc fa.b_isinstance (pv 0) fa.mc_NoStep rfl (fun _ z => z)) da_nil))))))
    (ds_cons (ds_extend (i := 1) (pv 1) (DO.fz (do_lst (da_cons (de_isxY (v := .ref fa.C_NotPicked) (a := p.1) (oe := p.2) fa.ix_NotPicked hz hf List.mem_cons_self hxc fa.b_isinstance (pv 0) fa.mc_NotPicked rfl (fun _ z => z)) (da_cons (de_isxY (v := .ref fa.C_Stopped) (a := p.1) (oe := p.2) fa.ix_Stopped hz hf List.mem_cons_self hxc fa.b_isinstance (pv 0) fa.mc_Stopped rfl (fun _ z => z)) (da_cons (de_isxY (v := .ref fa.C_BadEdit) (a := p.1) (oe := p.2) fa.ix_BadEdit hz hf List.mem_cons_self hxc fa.b_isinstance (pv 0) fa.mc_BadEdit rfl (fun _ z => z)) (da_cons (de_isxY (v := .ref fa.C_HasPlace) (a := p.1) (oe := p.2) fa.ix_HasPlace hz hf List.mem_cons_self hxc fa.b_isinstance (pv 0) fa.mc_HasPlace rfl (fun _ z => z)) da_nil)))))))
    (ds_cons (ds_extend (i := 1) (pv 1) (DO.fz (do_lst (da_cons (de_isxY (v := .ref fa.C_TooMany) (a := p.1) (oe := p.2) fa.ix_TooMany hz hf List.mem_cons_self hxc fa.b_isinstance (pv 0) fa.mc_TooMany rfl (fun _ z => z)) (da_cons (de_isxY (v := .ref fa.C_Full) (a := p.1) (oe := p.2) fa.ix_Full hz hf List.mem_cons_self hxc fa.b_isinstance (pv 0) fa.mc_Full rfl (fun _ z => z)) (da_cons (de_isxY (v := .ref fa.C_Refused) (a := p.1) (oe := p.2) fa.ix_Refused hz hf List.mem_cons_self hxc fa.b_isinstance (pv 0) fa.mc_Refused rfl (fun _ z => z)) (da_cons (de_isxY (v := .ref fa.C_NoEntry) (a := p.1) (oe := p.2) fa.ix_NoEntry hz hf List.mem_cons_self hxc fa.b_isinstance (pv 0) fa.mc_NoEntry rfl (fun _ z => z)) da_nil)))))))
    (ds_cons (ds_extend (i := 1) (pv 1) (DO.fz (do_lst (da_cons (de_isxY (v := .ref fa.C_Stuck) (a := p.1) (oe := p.2) fa.ix_Stuck hz hf List.mem_cons_self hxc fa.b_isinstance (pv 0) fa.mc_Stuck rfl (fun _ z => z)) (da_cons (de_isxY (v := .ref fa.C_Closed) (a := p.1) (oe := p.2) fa.ix_Closed hz hf List.mem_cons_self hxc fa.b_isinstance (pv 0) fa.mc_Closed rfl (fun _ z => z)) (da_cons (de_isxY (v := .ref fa.C_Unlike) (a := p.1) (oe := p.2) fa.ix_Unlike hz hf List.mem_cons_self hxc fa.b_isinstance (pv 0) fa.mc_Unlike rfl (fun _ z => z)) (da_cons (de_isxY (v := .ref fa.C_Nothing) (a := p.1) (oe := p.2) fa.ix_Nothing hz hf List.mem_cons_self hxc fa.b_isinstance (pv 0) fa.mc_Nothing rfl (fun _ z => z)) da_nil)))))))
    (ds_one (ds_ret (DE.shd (de_op opd_add (db_var 1 (pv 1)) (DE.opd (DO.fz (do_lst (da_cons (de_isxY (v := .ref fa.C_NoDeed) (a := p.1) (oe := p.2) fa.ix_NoDeed hz hf List.mem_cons_self hxc fa.b_isinstance (pv 0) fa.mc_NoDeed rfl (fun _ z => z)) (da_cons (de_isxY (v := .ref fa.C_NoText) (a := p.1) (oe := p.2) fa.ix_NoText hz hf List.mem_cons_self hxc fa.b_isinstance (pv 0) fa.mc_NoText rfl (fun _ z => z)) (da_cons (de_isxY (v := .ref fa.C_NoCommand) (a := p.1) (oe := p.2) fa.ix_NoCommand hz hf List.mem_cons_self hxc fa.b_isinstance (pv 0) fa.mc_NoCommand rfl (fun _ z => z)) da_nil))))))))))))))
theorem has__law_flags (fa : Fa K w mg base) (F : FnAt K mg "_law_flags" s__law_flags) : HasEx P w K mg base 1 "_law_flags" f__law_flags := by
  obtain ⟨f, fd, F, hm⟩ := F
  exact ⟨f, fd, "_law_e", ok__law_flags fa F, hm, F.kp, F.binds fun _ _ _ _ _ _ us hl => match us, hl with | [_], _ => rfl⟩
abbrev s__law_field : Stmt := topS 29
abbrev n__law_field : List Str := ["_law_kind", "_law_e"]
theorem sc__law_field : FnScope n__law_field ["_law_kind", "_law_e"] (defScope s__law_field) := ⟨rfl, rfl, rfl, by decide +kernel, rfl, by decide +kernel, by decide +kernel⟩
def m__law_field : En → SRs :=
    (seqS (ifS (toB (op2 (.va 0) (.ex (cD (.int 0))) semEq)) (rtS (shD (xfD' 1 "place" ["Wrong"]))) nxS)
    (seqS (ifS (toB (op2 (.va 0) (.ex (cD (.int 1))) semEq)) (rtS (shD (xfD' 1 "at" ["NoRow"]))) nxS)
    (seqS (ifS (toB (op2 (.va 0) (.ex (tupD [(cD (.int 2)), (cD (.int 3)), (cD (.int 5)), (cD (.int 6)), (cD (.int 7))])) semIn2)) (rtS (shD (xfD' 1 "index" ["BadStep", "NoStep", "Stopped", "BadEdit", "HasPlace"]))) nxS)
    (seqS (ifS (toB (op2 (.va 0) (.ex (cD (.int 4))) semEq)) (rtS (shD (xfD' 1 "number" ["NotPicked"]))) nxS)
    (seqS (ifS (toB (op2 (.va 0) (.ex (cD (.int 8))) semEq)) (rtS (shD (xfD' 1 "most" ["TooMany"]))) nxS)
    (seqS (ifS (toB (op2 (.va 0) (.ex (cD (.int 9))) semEq)) (rtS (shD (xfD' 1 "limit" ["Full"]))) nxS)
    (rtS (shD (ifD (toB (op2 (.va 0) (.ex (cD (.int 10))) semEq)) (xfD' 1 "deed" ["Refused"]) (xfD' 1 "many" ["NoEntry"]))))))))))
def f__law_field : D → Exn → Option D := fnE2 2 m__law_field
theorem ok__law_field {f : Addr} {fd : FuncData} (fa : Fa K w mg base) (F : Fun K "_law_field" "_law_field" s__law_field f fd) : FnE2 P w K mg base 1 f fd "_law_kind" "_law_e" f__law_field := by
  have nd := sc__law_field.nd
  unfold f__law_field
  refine fnE2_ok (k := 0) (m := m__law_field) F sc__law_field rfl fun cdv A outer s H p cls d g hr hgd hz hf hB0 hW hWn hxc => ?_
  have hB := nb00 hB0
  unfold m__law_field
  exact (ds_cons (ds_if (dt_cmp (opd_eq (unH hr)) (db_var 0 (pv 0)) (DE.opd de_int) (nomark _)) (ds_one (ds_ret (DE.shd (de_xfY (a := p.1) (oe := p.2) fa.xf_place hz hf List.mem_cons_self hxc (pv 1))))) ds_nil)
    (ds_cons (ds_if (dt_cmp (opd_eq (unH hr)) (db_var 0 (pv 0)) (DE.opd de_int) (nomark _)) (ds_one (ds_ret (DE.shd (de_xfY (a := p.1) (oe := p.2) fa.xf_at hz hf List.mem_cons_self hxc (pv 1))))) ds_nil)
    (ds_cons (ds_if (dt_cmp (opd_in2 (u65H hr)) (db_var 0 (pv 0)) (DE.opd (de_tup (da_cons de_int (da_cons de_int (da_cons de_int (da_cons de_int (da_cons de_int da_nil))))))) rfl) (ds_one (ds_ret (DE.shd (de_xfY (a := p.1) (oe := p.2) fa.xf_index hz hf List.mem_cons_self hxc (pv 1))))) ds_nil)
    (ds_cons (ds_if (dt_cmp (opd_eq (unH hr)) (db_var 0 (pv 0)) (DE.opd de_int) (nomark _)) (ds_one (ds_ret (DE.shd (de_xfY (a := p.1) (oe := p.2) fa.xf_number hz hf List.mem_cons_self hxc (pv 1))))) ds_nil)
    (ds_cons (ds_if (dt_cmp (opd_eq (unH hr)) (db_var 0 (pv 0)) (DE.opd de_int) (nomark _)) (ds_one (ds_ret (DE.shd (de_xfY (a := p.1) (oe := p.2) fa.xf_most hz hf List.mem_cons_self hxc (pv 1))))) ds_nil)
    (ds_cons (ds_if (dt_cmp (opd_eq (unH hr)) (db_var 0 (pv 0)) (DE.opd de_int) (nomark _)) (ds_one (ds_ret (DE.shd (de_xfY (a := p.1) (oe := p.2) fa.xf_limit hz hf List.mem_cons_self hxc (pv 1))))) ds_nil)
    (ds_one (ds_ret (DE.shd (de_if (dt_cmp (opd_eq (unH hr)) (db_var 0 (pv 0)) (DE.opd de_int) (nomark _)) (de_xfY (a := p.1) (oe := p.2) fa.xf_deed hz hf List.mem_cons_self hxc (pv 1)) (de_xfY (a := p.1) (oe := p.2) fa.xf_many hz hf List.mem_cons_self hxc (pv 1))))))))))))
theorem has__law_field (fa : Fa K w mg base) (F : FnAt K mg "_law_field" s__law_field) : HasEx2 P w K mg base 1 "_law_field" f__law_field := by
  obtain ⟨f, fd, F, hm⟩ := F
  exact ⟨f, fd, "_law_kind", "_law_e", ok__law_field fa F, hm, F.kp, F.binds fun _ _ _ _ _ _ us hl => match us, hl with | [_, _], _ => rfl⟩
abbrev s__law_right : Stmt := topS 30
abbrev s__law_right_sc : Scope := defScope s__law_right
abbrev n__law_right : List Str := ["_law_kind", "_law_thing", "_law_held", "_law_at", "_law_e"]
theorem sc__law_right : FnScope n__law_right ["_law_kind", "_law_thing"] (defScope s__law_right) := ⟨rfl, rfl, rfl, by decide +kernel, rfl, by decide +kernel, by decide +kernel⟩
abbrev it__law_right_1 : En → Rs (List D) := (rg1 (cD (.int 19)))
abbrev cl__law_right_1 : GDt := ⟨it__law_right_1, (gN 3), yesT, [3], [3]⟩
abbrev el__law_right_1 : En → Rs D := (op2 (.va 3) (.va 0) semEq)
abbrev lc__law_right_1 : En → Rs OV := lcND [cl__law_right_1] el__law_right_1
abbrev tb__law_right_1 : Addr → En → SRs := fun aq => (seqS (ifS (toB (op2 (.va 0) (.ex (cD (.int 10))) semLt)) (exS (frzD (callX 2 f__law_raised [(vD 0), (itV aq)]))) nxS)
    (exS (frzD (callX 2 f__law_raised_too [(vD 0), (itV aq)]))))
abbrev sx__law_right_1 : Addr → En → SRs := fun aq => (seqS (ifS (orT (toB (op2 (.ex (callEx f__law_flags 4)) (.ex (frzD lc__law_right_1)) semNe)) (notT (toB (isxD 4 (tabB tb_ValueError))))) (rtS (shD (cD (.bl false)))) nxS)
    (seqS (appS 2 (vD 0))
    (rtS (shD (orD (op2 (.va 0) (.ex (cD (.int 11))) semGt) (eqIt 2 aq (callEx2 f__law_field (vD 0) 4) (.ex (frzD (lstD [(vD 1), (vD 0)]))) semEqX))))))
abbrev pr__law_right_1 : Addr → En → SRs := fun aq => (seqS (tryS (tabB tb_PickError) 4 (tb__law_right_1 aq) (sx__law_right_1 aq))
    (rtS (shD (cD (.bl false)))))
def m__law_right : En → SRs :=
    (seqS (setS 2 (lstD [(vD 1)]))
    (pinS 2 pr__law_right_1))
def f__law_right : List D → Option OV := fnP 5 m__law_right
theorem ok__law_right {f : Addr} {fd : FuncData} (fa : Fa K w mg base) (h__law_raised : HasXN P w K mg base 3 "_law_raised" 2 f__law_raised) (h__law_raised_too : HasXN P w K mg base 3 "_law_raised_too" 2 f__law_raised_too) (h__law_flags : HasEx P w K mg base 1 "_law_flags" f__law_flags) (h__law_field : HasEx2 P w K mg base 1 "_law_field" f__law_field) (F : Fun K "_law_right" "_law_right" s__law_right f fd) : FnG P w K mg base CX0 4 f fd ["_law_kind", "_law_thing"] (spP K 2 f__law_right) := by
  have nd := sc__law_right.nd
  unfold f__law_right
  refine fnP_ok (k := 3) (m := m__law_right) F sc__law_right rfl rfl fun cdv A outer s H E g hgd hr hB0 hW hWn hxc => ?_
  have hB := nb00 hB0
  unfold m__law_right
  exact (ds_cons (ds_set (i := 2) (nb hB 2 (by decide)) nd (do_lst (da_cons (de_var 1 (nb hB 1 (by decide)) (pv 1)) da_nil)))
    (dss_pin (i := 2) fun aq => have hBp : (g.at 2 aq).B.map (·.1) = [2] := by { show 2 :: g.B.map (·.1) = _; rw [hB] }; (ds_cons (ds_tryN rfl rfl nd rfl rfl ⟨rfl, by decide, .inl fa.mc_PickError⟩ (TkGN.none hWn) hxc (nb hBp 4 (by decide)) fa.ct_PickError (fun _ _ g1 t1 tk1 po1 => (ds_cons (ds_if (dt_cmp opd_lt (db_var 0 (pv 0)) (DE.opd de_int) (nomark _)) (ds_one (ds_expr (DO.fz (do_callXN h__law_raised hgd (hr.mono (by decide)) tk1 (da_cons (de_var 0 (nb (nbT t1 hBp) 0 (by decide)) (pv 0)) (da_cons (de_it (i := 2) (by rw [t1.B]; exact List.mem_cons_self) (noZ_it fa.nz _) (pv 2)) da_nil)))))) ds_nil)
    (ds_one (ds_expr (DO.fz (do_callXN h__law_raised_too hgd (hr.mono (by decide)) tk1 (da_cons (de_var 0 (nb (nbT t1 hBp) 0 (by decide)) (pv 0)) (da_cons (de_it (i := 2) (by rw [t1.B]; exact List.mem_cons_self) (noZ_it fa.nz _) (pv 2)) da_nil)))))))) (fun _ _ _ _ _ g1 t1 hz hv => (ds_cons (ds_if (DW.dt (dw_or (dt_cmp (opd_ne hr.units) (DE.opd (de_callEx (k := 1) h__law_flags hgd (roomHM (k := 1) (hr.mono (by decide))) hz.zc hv List.mem_cons_self t1.xc (pv 4))) (DE.opd (DO.fz (do_lcH (own := [("_law_at", 3)]) (c := cl__law_right_1) rfl List.mem_cons_self hz hv nd (di_range1H fa.b_range de_int) (blkOk_by (N := n__law_right) (sc := s__law_right_sc) (by decide +kernel)) rfl (nbs (nbS t1 hBp) (by decide)) (by decide) (fun _ _ _ _ _ g2 e2 => (dg_name (i := 3) (nb (nbt e2 (nbS t1 hBp)) 3 (by decide)) nd)) (fun _ _ _ _ _ g2 e2 => pts_nilD) (fun _ _ _ _ _ g2 e2 => (de_cmp (opd_eq hr.units) (db_var 3 (pv 3)) (db_var 0 (pv 0)) (nomark _)))))) (nomark _)) (dw_or1 (dt_not (dt_val (de_isxB (T := "ValueError") fa.ix_ValueError hz.zc hv List.mem_cons_self t1.xc fa.b_isinstance (pv 4) fa.b_ValueError)))))) (ds_one (ds_ret (DE.shd de_bl))) ds_nil)
    (ds_cons (ds_append (i := 2) (pv 2) (de_var 0 (nb (nbS t1 hBp) 0 (by decide)) (pv 0)))
    (ds_one (ds_ret (DE.shd (de_or (de_cmp opd_gt (db_var 0 (pv 0)) (DE.opd de_int) (nomark _)) (de_one (de_eqIt (i := 2) (by rw [t1.B]; exact List.mem_cons_self) (noZ_it fa.nz _) (opd_eqX hr.units) (de_callEx2 (k := 1) h__law_field hgd (roomHM (k := 1) (hr.mono (by decide))) hz.zc hv List.mem_cons_self t1.xc (de_var 0 (nb (nbS t1 hBp) 0 (by decide)) (pv 0)) (pv 4)) (DE.opd (DO.fz (do_lst (da_cons (de_var 1 (nb (nbS t1 hBp) 1 (by decide)) (pv 1)) (da_cons (de_var 0 (nb (nbS t1 hBp) 0 (by decide)) (pv 0)) da_nil))))) (nomark _)))))))))))
    (ds_one (ds_ret (DE.shd de_bl))))))
theorem has__law_right (fa : Fa K w mg base) (h__law_raised : HasXN P w K mg base 3 "_law_raised" 2 f__law_raised) (h__law_raised_too : HasXN P w K mg base 3 "_law_raised_too" 2 f__law_raised_too) (h__law_flags : HasEx P w K mg base 1 "_law_flags" f__law_flags) (h__law_field : HasEx2 P w K mg base 1 "_law_field" f__law_field) (F : FnAt K mg "_law_right" s__law_right) : HasP P w K mg base 4 "_law_right" 2 f__law_right := by
  obtain ⟨f, fd, F, hm⟩ := F
  exact ⟨f, fd, ["_law_kind", "_law_thing"], ok__law_right fa h__law_raised h__law_raised_too h__law_flags h__law_field F, hm, F.kp, F.binds fun _ _ _ _ _ _ us hl => match us, hl with | [_, _], _ => rfl⟩
abbrev s__law_take : Stmt := topS 23
abbrev n__law_take : List Str := ["_law_bag_here", "_law_many", "_law_cell", "_law_mixed", "_law_value", "_law_begin", "_law_second"]
theorem sc__law_take : FnScope n__law_take ["_law_bag_here", "_law_many"] (defScope s__law_take) := ⟨rfl, rfl, rfl, by decide +kernel, rfl, by decide +kernel, by decide +kernel⟩
def m__law_take : En → SRs :=
    (seqS (ifS (toB (op2 (.ex (op2 (.va 0) (.ex (cD (.int 0))) semAt)) (.ex (cD (.int 0))) semEq)) (seqS (setS 2 (shD (op2 (.ex (op2 (.ex (slD (.ex (op2 (.va 0) (.ex (cD (.int 3))) semAt)) (poS (op2 (.va 0) (.ex (cD (.int 2))) semAt)) poN semSl)) (.ex (frzD (lstD [(cD (.int 0))]))) semAdd)) (.ex (cD (.int 0))) semAt)))
    (seqS (augS 0 2 1)
    (seqS (ifS (toB (op2 (.va 2) (.ex (cD (.int 1000000000000000000))) semGe)) (putS 0 (cD (.int 0)) (vD 2)) nxS)
    (seqS (setS 3 (shD (op2 (.ex (op2 (.ex (op2 (.ex (op2 (.va 0) (.ex (cD (.int 1))) semAt)) (.ex (cD (.int 48271))) semMul)) (.ex (op2 (.ex (opN [(.va 2)] semInt)) (.ex (cD (.int 2147483647))) semMod)) semAdd)) (.ex (op2 (.ex (cD (.int 7919))) (.ex (op2 (.va 0) (.ex (cD (.int 2))) semAt)) semMul)) semAdd)))
    (putS 0 (cD (.int 1)) (op2 (.ex (opN [(.va 3)] semInt)) (.ex (cD (.int 2147483647))) semMod)))))) nxS)
    (seqS (ifS (toB (op2 (.ex (op2 (.va 0) (.ex (cD (.int 0))) semAt)) (.ex (cD (.int 0))) semGt)) (seqS (setS 4 (shD (op2 (.ex (opN [(.ex (op2 (.va 0) (.ex (cD (.int 0))) semAt))] semInt)) (.va 1) semMod)))
    (seqS (putS 0 (cD (.int 0)) (op2 (.ex (op2 (.va 0) (.ex (cD (.int 0))) semAt)) (.va 1) semFdiv))
    (rtS (mvD 4)))) nxS)
    (seqS (setS 5 (shD (op2 (.ex (opN [(.ex (op2 (.ex (op2 (.ex (op2 (.va 0) (.ex (cD (.int 1))) semAt)) (.ex (cD (.int 1))) semAdd)) (.ex (cD (.int 39373))) semMul))] semInt)) (.ex (cD (.int 1000000007))) semMod)))
    (seqS (setS 6 (shD (op2 (.ex (opN [(.ex (op2 (.ex (op2 (.ex (opN [(.ex (op2 (.va 5) (.va 5) semMul))] semInt)) (.ex (cD (.int 998244353))) semMod)) (.ex (cD (.int 30011))) semMul))] semInt)) (.ex (cD (.int 998244353))) semMod)))
    (rtS (shD (op2 (.ex (opN [(.ex (op2 (.va 6) (.ex (cD (.int 7))) semFdiv))] semInt)) (.va 1) semMod)))))))
def f__law_take : List D → List D → Option (OV × List D) := fnB 7 m__law_take
theorem ok__law_take {f : Addr} {fd : FuncData} (fa : Fa K w mg base)  (F : Fun K "_law_take" "_law_take" s__law_take f fd) : FnG P w K mg base CX0 1 f fd ["_law_bag_here", "_law_many"] (spB K 1 f__law_take) := by
  have nd := sc__law_take.nd
  unfold f__law_take
  refine fnB_ok (k := 0) (m := m__law_take) F sc__law_take rfl rfl fun cdv A outer s H E g hgd hr hB hW hWn hxc => ?_
  unfold m__law_take
  exact (ds_cons (ds_if (dt_cmp (opd_eq hr.units) (DE.opd (de_ix (ixAt (u65 hr)) (db_var 0 (pv 0)) (DE.opd de_int) (fun _ _ => rfl))) (DE.opd de_int) (nomark _)) (ds_cons (ds_set (i := 2) (nb hB 2 (by decide)) nd (DE.shd (de_ix (ixAt (u65 hr)) (DE.opd (de_op opd_add (DE.opd (de_slice (DE.opd (de_ix (ixAt (u65 hr)) (db_var 0 (pv 0)) (DE.opd de_int) (fun _ _ => rfl))) (dpo_some (de_ix (ixAt (u65 hr)) (db_var 0 (pv 0)) (DE.opd de_int) (fun _ _ => rfl))) dpo_none)) (DE.opd (DO.fz (do_lst (da_cons de_int da_nil)))))) (DE.opd de_int) (fun _ _ => rfl))))
    (ds_cons (ds_augI (i := 0) (pv 0))
    (ds_cons (ds_if (dt_cmp opd_ge (db_var 2 (pv 2)) (DE.opd de_int) (nomark _)) (ds_one (ds_put (i := 0) (pv 0) de_int (de_var 2 (nb hB 2 (by decide)) (pv 2)))) ds_nil)
    (ds_cons (ds_set (i := 3) (nb hB 3 (by decide)) nd (DE.shd (de_op opd_add (DE.opd (de_op opd_add (DE.opd (de_op opd_mul (DE.opd (de_ix (ixAt (u65 hr)) (db_var 0 (pv 0)) (DE.opd de_int) (fun _ _ => rfl))) (DE.opd de_int))) (DE.opd (de_op opd_mod (DE.opd (de_callT cd_int fa.b_int (dbs_cons (db_var 2 (pv 2)) dbs_nil))) (DE.opd de_int))))) (DE.opd (de_op opd_mul (DE.opd de_int) (DE.opd (de_ix (ixAt (u65 hr)) (db_var 0 (pv 0)) (DE.opd de_int) (fun _ _ => rfl))))))))
    (ds_one (ds_put (i := 0) (pv 0) de_int (de_op opd_mod (DE.opd (de_callT cd_int fa.b_int (dbs_cons (db_var 3 (pv 3)) dbs_nil))) (DE.opd de_int)))))))) ds_nil)
    (ds_cons (ds_if (dt_cmp opd_gt (DE.opd (de_ix (ixAt (u65 hr)) (db_var 0 (pv 0)) (DE.opd de_int) (fun _ _ => rfl))) (DE.opd de_int) (nomark _)) (ds_cons (ds_set (i := 4) (nb hB 4 (by decide)) nd (DE.shd (de_op opd_mod (DE.opd (de_callT cd_int fa.b_int (dbs_cons (DE.opd (de_ix (ixAt (u65 hr)) (db_var 0 (pv 0)) (DE.opd de_int) (fun _ _ => rfl))) dbs_nil))) (db_var 1 (pv 1)))))
    (ds_cons (ds_put (i := 0) (pv 0) de_int (de_op opd_fdiv (DE.opd (de_ix (ixAt (u65 hr)) (db_var 0 (pv 0)) (DE.opd de_int) (fun _ _ => rfl))) (db_var 1 (pv 1))))
    (ds_one (ds_ret (do_var 4 (nb hB 4 (by decide)) (pv 4)))))) ds_nil)
    (ds_cons (ds_set (i := 5) (nb hB 5 (by decide)) nd (DE.shd (de_op opd_mod (DE.opd (de_callT cd_int fa.b_int (dbs_cons (DE.opd (de_op opd_mul (DE.opd (de_op opd_add (DE.opd (de_ix (ixAt (u65 hr)) (db_var 0 (pv 0)) (DE.opd de_int) (fun _ _ => rfl))) (DE.opd de_int))) (DE.opd de_int))) dbs_nil))) (DE.opd de_int))))
    (ds_cons (ds_set (i := 6) (nb hB 6 (by decide)) nd (DE.shd (de_op opd_mod (DE.opd (de_callT cd_int fa.b_int (dbs_cons (DE.opd (de_op opd_mul (DE.opd (de_op opd_mod (DE.opd (de_callT cd_int fa.b_int (dbs_cons (DE.opd (de_op opd_mul (db_var 5 (pv 5)) (db_var 5 (pv 5)))) dbs_nil))) (DE.opd de_int))) (DE.opd de_int))) dbs_nil))) (DE.opd de_int))))
    (ds_one (ds_ret (DE.shd (de_op opd_mod (DE.opd (de_callT cd_int fa.b_int (dbs_cons (DE.opd (de_op opd_fdiv (db_var 6 (pv 6)) (DE.opd de_int))) dbs_nil))) (db_var 1 (pv 1))))))))))
theorem has__law_take (fa : Fa K w mg base)  (F : FnAt K mg "_law_take" s__law_take) : HasB P w K mg base 1 "_law_take" 1 f__law_take := by
  obtain ⟨f, fd, F, hm⟩ := F
  exact ⟨f, fd, ["_law_bag_here", "_law_many"], ok__law_take fa  F, hm, F.kp, F.binds fun _ _ _ _ _ _ us hl => match us, hl with | [_, _], _ => rfl⟩
abbrev s__law_some : Stmt := topS 24
abbrev n__law_some : List Str := ["_law_bag_here", "_law_things"]
theorem sc__law_some : FnScope n__law_some ["_law_bag_here", "_law_things"] (defScope s__law_some) := ⟨rfl, rfl, rfl, by decide +kernel, rfl, by decide +kernel, by decide +kernel⟩
def m__law_some : En → SRs :=
    (rtS (shD (op2 (.va 1) (.ex (frzD (callB 1 f__law_take 0 [(opN [(.va 1)] semLen)]))) semAt)))
def f__law_some : List D → List D → Option (OV × List D) := fnB 2 m__law_some
theorem ok__law_some {f : Addr} {fd : FuncData} (fa : Fa K w mg base) (h__law_take : HasB P w K mg base 1 "_law_take" 1 f__law_take) (F : Fun K "_law_some" "_law_some" s__law_some f fd) : FnG P w K mg base CX0 2 f fd ["_law_bag_here", "_law_things"] (spB K 1 f__law_some) := by
  have nd := sc__law_some.nd
  unfold f__law_some
  refine fnB_ok (k := 1) (m := m__law_some) F sc__law_some rfl rfl fun cdv A outer s H E g hgd hr hB hW hWn hxc => ?_
  unfold m__law_some
  exact (ds_one (ds_ret (DE.shd (de_ix (ixAt (u65 hr)) (db_var 1 (pv 1)) (DE.opd (DO.fz (do_callB h__law_take hgd (hr.mono (by decide)) (pv 0) (da_cons (de_callB cd_len fa.b_len (dbs_cons (db_var 1 (pv 1)) dbs_nil)) da_nil)))) (fun _ _ => rfl)))))
theorem has__law_some (fa : Fa K w mg base) (h__law_take : HasB P w K mg base 1 "_law_take" 1 f__law_take) (F : FnAt K mg "_law_some" s__law_some) : HasB P w K mg base 2 "_law_some" 1 f__law_some := by
  obtain ⟨f, fd, F, hm⟩ := F
  exact ⟨f, fd, ["_law_bag_here", "_law_things"], ok__law_some fa h__law_take F, hm, F.kp, F.binds fun _ _ _ _ _ _ us hl => match us, hl with | [_, _], _ => rfl⟩
abbrev s__law_odd : Stmt := topS 25
abbrev n__law_odd : List Str := ["_law_bag_here", "_law_some_here"]
theorem sc__law_odd : FnScope n__law_odd ["_law_bag_here"] (defScope s__law_odd) := ⟨rfl, rfl, rfl, by decide +kernel, rfl, by decide +kernel, by decide +kernel⟩
def m__law_odd : En → SRs :=
    (seqS (setS 1 (shD (frzD (lstD [(cD .non), (cD (.int 5)), (cD (.str "a")), (cD (.str "")), (tupD []), (frzD (lstD [])), (cD (.dic [])), (tupD [(cD (.str "eq"))]), (cD (.bl true)), (op2 (.ex (cD (.int 10))) (.ex (cD (.int 39))) semPow), (frzD (lstD [(cD .non)])), (tupD [(cD (.str "name")), (cD (.str "a"))]), (cD (.str "eq")), (op1 (.ex (cD (.int 1))) semNeg), (tupD [(cD (.int 0)), (cD (.int 1))])]))))
    (seqS (setS 1 (shD (op2 (.va 1) (.ex (frzD (lstD [(cD (.str "a1")), (cD (.str "aB")), (cD (.str "a_")), (cD (.str "a{")), (cD (.str "a\n"))]))) semAdd)))
    (rtS (callB 1 f__law_some 0 [(op2 (.va 1) (.ex (frzD (lstD [(dicD [((cD (.str "a")), (cD (.int 1)))]), (cD (.str "ab b")), (cD (.str "abcdefghi")), (tupD [(cD (.str "last"))]), (tupD [(cD (.str "")), (cD (.str "")), (cD (.str ""))])]))) semAdd)]))))
def f__law_odd : List D → List D → Option (OV × List D) := fnB 2 m__law_odd
theorem ok__law_odd {f : Addr} {fd : FuncData} (fa : Fa K w mg base) (h__law_some : HasB P w K mg base 2 "_law_some" 1 f__law_some) (F : Fun K "_law_odd" "_law_odd" s__law_odd f fd) : FnG P w K mg base CX0 3 f fd ["_law_bag_here"] (spB K 0 f__law_odd) := by
  have nd := sc__law_odd.nd
  unfold f__law_odd
  refine fnB_ok (k := 2) (m := m__law_odd) F sc__law_odd rfl rfl fun cdv A outer s H E g hgd hr hB hW hWn hxc => ?_
  unfold m__law_odd
  exact (ds_cons (ds_set (i := 1) (nb hB 1 (by decide)) nd (DE.shd (DO.fz (do_lst (da_cons de_non (da_cons de_int (da_cons de_str (da_cons de_str (da_cons (de_tup da_nil) (da_cons (DO.fz (do_lst da_nil)) (da_cons de_dict0 (da_cons (de_tup (da_cons de_str da_nil)) (da_cons de_bl (da_cons (de_op opd_pow (DE.opd de_int) (DE.opd de_int)) (da_cons (DO.fz (do_lst (da_cons de_non da_nil))) (da_cons (de_tup (da_cons de_str (da_cons de_str da_nil))) (da_cons de_str (da_cons (de_un und_neg (DE.opd de_int)) (da_cons (de_tup (da_cons de_int (da_cons de_int da_nil))) da_nil)))))))))))))))))))
    (ds_cons (ds_set (i := 1) (nb hB 1 (by decide)) nd (DE.shd (de_op opd_add (db_var 1 (pv 1)) (DE.opd (DO.fz (do_lst (da_cons de_str (da_cons de_str (da_cons de_str (da_cons de_str (da_cons de_str da_nil)))))))))))
    (ds_one (ds_ret (do_callB h__law_some hgd (hr.mono (by decide)) (pv 0) (da_cons (de_op opd_add (db_var 1 (pv 1)) (DE.opd (DO.fz (do_lst (da_cons (de_disp (dps_cons (fun g1 e1 => de_str) (fun g1 e1 => de_int) dps_nil)) (da_cons de_str (da_cons de_str (da_cons (de_tup (da_cons de_str da_nil)) (da_cons (de_tup (da_cons de_str (da_cons de_str (da_cons de_str da_nil)))) da_nil))))))))) da_nil))))))
theorem has__law_odd (fa : Fa K w mg base) (h__law_some : HasB P w K mg base 2 "_law_some" 1 f__law_some) (F : FnAt K mg "_law_odd" s__law_odd) : HasB P w K mg base 3 "_law_odd" 0 f__law_odd := by
  obtain ⟨f, fd, F, hm⟩ := F
  exact ⟨f, fd, ["_law_bag_here"], ok__law_odd fa h__law_some F, hm, F.kp, F.binds fun _ _ _ _ _ _ us hl => match us, hl with | [_], _ => rfl⟩
abbrev s_law : Stmt := topS 31
abbrev n_law : List Str := ["_law_script", "_law_bag_here", "_law_kind"]
theorem sc_law : FnScope n_law ["_law_script"] (defScope s_law) := ⟨rfl, rfl, rfl, by decide +kernel, rfl, by decide +kernel, by decide +kernel⟩
abbrev it_law_1 : En → Rs (List D) := (rg1 (cD (.int 19)))
abbrev bd_law_1 : En → SRs := (ifS (orT (notT (toB (frzD (callP 2 f__law_right [(vD 2), (frzD (callB 0 f__law_odd 1 []))])))) (notT (toB (frzD (callP 2 f__law_right [(vD 2), (frzD (lstD [(op2 (.ex (cD (.int 10))) (.ex (cD (.int 59))) semPow), (cD (.str "a"))]))]))))) (rtS (shD (cD (.bl false)))) nxS)
abbrev fr_law_1 : En → SRs := forD it_law_1 (gN 2) bd_law_1
def m_law : En → SRs :=
    (seqS (setS 1 (callP 1 f__law_bag [(vD 0)]))
    (seqS fr_law_1
    (rtS (shD (cD (.bl true))))))
def f_law : List D → Option OV := fnP 3 m_law
theorem ok_law {f : Addr} {fd : FuncData} (fa : Fa K w mg base) (h__law_bag : HasP P w K mg base 1 "_law_bag" 1 f__law_bag) (h__law_right : HasP P w K mg base 4 "_law_right" 2 f__law_right) (h__law_odd : HasB P w K mg base 3 "_law_odd" 0 f__law_odd) (F : Fun K "law" "law" s_law f fd) : FnG P w K mg base CX0 5 f fd ["_law_script"] (spP K 1 f_law) := by
  have nd := sc_law.nd
  unfold f_law
  refine fnP_ok (k := 4) (m := m_law) F sc_law rfl rfl fun cdv A outer s H E g hgd hr hB0 hW hWn hxc => ?_
  have hB := nb00 hB0
  unfold m_law
  exact (ds_cons (ds_set (i := 1) (nb hB 1 (by decide)) nd (do_callP h__law_bag hgd (hr.mono (by decide)) (da_cons (de_var 0 (nb hB 0 (by decide)) (pv 0)) da_nil)))
    (ds_cons (ds_for PassesOwn.never rfl (di_range1 rfl fa.b_range de_int) (dg_name (i := 2) (nb hB 2 (by decide)) nd) (ds_one (ds_if (DW.dt (dw_or (dt_not (dt_val (DO.fz (do_callP h__law_right hgd (hr.mono (by decide)) (da_cons (de_var 2 (nb hB 2 (by decide)) (pv 2)) (da_cons (DO.fz (do_callB h__law_odd hgd (hr.mono (by decide)) (pv 1) da_nil)) da_nil)))))) (dw_or1 (dt_not (dt_val (DO.fz (do_callP h__law_right hgd (hr.mono (by decide)) (da_cons (de_var 2 (nb hB 2 (by decide)) (pv 2)) (da_cons (DO.fz (do_lst (da_cons (de_op opd_pow (DE.opd de_int) (DE.opd de_int)) (da_cons de_str da_nil)))) da_nil))))))))) (ds_one (ds_ret (DE.shd de_bl))) ds_nil)))
    (ds_one (ds_ret (DE.shd de_bl)))))
end
theorem all_mk {l : PySem.W.OpenLaw} {w : World} {K : PySem.W.Frag} {h : Heap} {mg : Str → Option Value} {fz : Addr} (inK : K.In h) (ns : h.Ns mainGlobals mg) (hfz : mg "law" = some (.ref fz))
    {od1 an1 : Option Addr} {sl1 : Array (Option Value)} {oc1 kV1 dc1 pm1 cd1 ct1 : Value} {x1 : Addr}
    {od2 an2 : Option Addr} {sl2 : Array (Option Value)} {oc2 kV2 dc2 pm2 cd2 ct2 : Value} {x2 : Addr}
    {od3 an3 : Option Addr} {sl3 : Array (Option Value)} {oc3 kV3 dc3 pm3 cd3 ct3 : Value} {x3 : Addr}
    {od4 an4 : Option Addr} {sl4 : Array (Option Value)} {oc4 kV4 dc4 pm4 cd4 ct4 : Value} {x4 : Addr}
    {od5 an5 : Option Addr} {sl5 : Array (Option Value)} {oc5 kV5 dc5 pm5 cd5 ct5 : Value} {x5 : Addr}
    {od6 an6 : Option Addr} {sl6 : Array (Option Value)} {oc6 kV6 dc6 pm6 cd6 ct6 : Value} {x6 : Addr}
    {od7 an7 : Option Addr} {sl7 : Array (Option Value)} {oc7 kV7 dc7 pm7 cd7 ct7 : Value} {x7 : Addr}
    {od8 an8 : Option Addr} {sl8 : Array (Option Value)} {oc8 kV8 dc8 pm8 cd8 ct8 : Value} {x8 : Addr}
    {od9 an9 : Option Addr} {sl9 : Array (Option Value)} {oc9 kV9 dc9 pm9 cd9 ct9 : Value} {x9 : Addr}
    {od10 an10 : Option Addr} {sl10 : Array (Option Value)} {oc10 kV10 dc10 pm10 cd10 ct10 : Value} {x10 : Addr}
    {x_PickError : Addr} (ea_PickError : PySem.W.nsIn K mainGlobals "PickError" = some (some (.ref x_PickError)))
    {x_Wrong : Addr} (ea_Wrong : PySem.W.nsIn K mainGlobals "Wrong" = some (some (.ref x_Wrong)))
    {x_NoRow : Addr} (ea_NoRow : PySem.W.nsIn K mainGlobals "NoRow" = some (some (.ref x_NoRow)))
    {x_BadStep : Addr} (ea_BadStep : PySem.W.nsIn K mainGlobals "BadStep" = some (some (.ref x_BadStep)))
    {x_NoStep : Addr} (ea_NoStep : PySem.W.nsIn K mainGlobals "NoStep" = some (some (.ref x_NoStep)))
    {x_NotPicked : Addr} (ea_NotPicked : PySem.W.nsIn K mainGlobals "NotPicked" = some (some (.ref x_NotPicked)))
    {x_Stuck : Addr} (ea_Stuck : PySem.W.nsIn K mainGlobals "Stuck" = some (some (.ref x_Stuck)))
    {x_Stopped : Addr} (ea_Stopped : PySem.W.nsIn K mainGlobals "Stopped" = some (some (.ref x_Stopped)))
    {x_Closed : Addr} (ea_Closed : PySem.W.nsIn K mainGlobals "Closed" = some (some (.ref x_Closed)))
    {x_BadEdit : Addr} (ea_BadEdit : PySem.W.nsIn K mainGlobals "BadEdit" = some (some (.ref x_BadEdit)))
    {x_Unlike : Addr} (ea_Unlike : PySem.W.nsIn K mainGlobals "Unlike" = some (some (.ref x_Unlike)))
    {x_HasPlace : Addr} (ea_HasPlace : PySem.W.nsIn K mainGlobals "HasPlace" = some (some (.ref x_HasPlace)))
    {x_TooMany : Addr} (ea_TooMany : PySem.W.nsIn K mainGlobals "TooMany" = some (some (.ref x_TooMany)))
    {x_Nothing : Addr} (ea_Nothing : PySem.W.nsIn K mainGlobals "Nothing" = some (some (.ref x_Nothing)))
    {x_NoDeed : Addr} (ea_NoDeed : PySem.W.nsIn K mainGlobals "NoDeed" = some (some (.ref x_NoDeed)))
    {x_Full : Addr} (ea_Full : PySem.W.nsIn K mainGlobals "Full" = some (some (.ref x_Full)))
    {x_Refused : Addr} (ea_Refused : PySem.W.nsIn K mainGlobals "Refused" = some (some (.ref x_Refused)))
    {x_NoEntry : Addr} (ea_NoEntry : PySem.W.nsIn K mainGlobals "NoEntry" = some (some (.ref x_NoEntry)))
    {x_NoText : Addr} (ea_NoText : PySem.W.nsIn K mainGlobals "NoText" = some (some (.ref x_NoText)))
    {x_NoCommand : Addr} (ea_NoCommand : PySem.W.nsIn K mainGlobals "NoCommand" = some (some (.ref x_NoCommand)))
    (a1 : PySem.W.nsIn K mainGlobals "_law_bag" = some (some (.ref x1))) (l1 : K.lookup x1 = some ⟨oc1, od1, .func (PySem.W.fnOf "_law_bag" "_law_bag" (defArgs s__law_bag) (defBody s__law_bag) (defScope s__law_bag) .none kV1 dc1 pm1 an1 cd1 ct1), sl1⟩) (c1 : PySem.W.codeIn K cd1 "_law_bag" = true) (k1 : PySem.W.keepIn K (.ref x1) = true)
    (a2 : PySem.W.nsIn K mainGlobals "_law_raised_too" = some (some (.ref x2))) (l2 : K.lookup x2 = some ⟨oc2, od2, .func (PySem.W.fnOf "_law_raised_too" "_law_raised_too" (defArgs s__law_raised_too) (defBody s__law_raised_too) (defScope s__law_raised_too) .none kV2 dc2 pm2 an2 cd2 ct2), sl2⟩) (c2 : PySem.W.codeIn K cd2 "_law_raised_too" = true) (k2 : PySem.W.keepIn K (.ref x2) = true)
    (a3 : PySem.W.nsIn K mainGlobals "_law_raised" = some (some (.ref x3))) (l3 : K.lookup x3 = some ⟨oc3, od3, .func (PySem.W.fnOf "_law_raised" "_law_raised" (defArgs s__law_raised) (defBody s__law_raised) (defScope s__law_raised) .none kV3 dc3 pm3 an3 cd3 ct3), sl3⟩) (c3 : PySem.W.codeIn K cd3 "_law_raised" = true) (k3 : PySem.W.keepIn K (.ref x3) = true)
    (a4 : PySem.W.nsIn K mainGlobals "_law_flags" = some (some (.ref x4))) (l4 : K.lookup x4 = some ⟨oc4, od4, .func (PySem.W.fnOf "_law_flags" "_law_flags" (defArgs s__law_flags) (defBody s__law_flags) (defScope s__law_flags) .none kV4 dc4 pm4 an4 cd4 ct4), sl4⟩) (c4 : PySem.W.codeIn K cd4 "_law_flags" = true) (k4 : PySem.W.keepIn K (.ref x4) = true)
    (a5 : PySem.W.nsIn K mainGlobals "_law_field" = some (some (.ref x5))) (l5 : K.lookup x5 = some ⟨oc5, od5, .func (PySem.W.fnOf "_law_field" "_law_field" (defArgs s__law_field) (defBody s__law_field) (defScope s__law_field) .none kV5 dc5 pm5 an5 cd5 ct5), sl5⟩) (c5 : PySem.W.codeIn K cd5 "_law_field" = true) (k5 : PySem.W.keepIn K (.ref x5) = true)
    (a6 : PySem.W.nsIn K mainGlobals "_law_right" = some (some (.ref x6))) (l6 : K.lookup x6 = some ⟨oc6, od6, .func (PySem.W.fnOf "_law_right" "_law_right" (defArgs s__law_right) (defBody s__law_right) (defScope s__law_right) .none kV6 dc6 pm6 an6 cd6 ct6), sl6⟩) (c6 : PySem.W.codeIn K cd6 "_law_right" = true) (k6 : PySem.W.keepIn K (.ref x6) = true)
    (a7 : PySem.W.nsIn K mainGlobals "_law_take" = some (some (.ref x7))) (l7 : K.lookup x7 = some ⟨oc7, od7, .func (PySem.W.fnOf "_law_take" "_law_take" (defArgs s__law_take) (defBody s__law_take) (defScope s__law_take) .none kV7 dc7 pm7 an7 cd7 ct7), sl7⟩) (c7 : PySem.W.codeIn K cd7 "_law_take" = true) (k7 : PySem.W.keepIn K (.ref x7) = true)
    (a8 : PySem.W.nsIn K mainGlobals "_law_some" = some (some (.ref x8))) (l8 : K.lookup x8 = some ⟨oc8, od8, .func (PySem.W.fnOf "_law_some" "_law_some" (defArgs s__law_some) (defBody s__law_some) (defScope s__law_some) .none kV8 dc8 pm8 an8 cd8 ct8), sl8⟩) (c8 : PySem.W.codeIn K cd8 "_law_some" = true) (k8 : PySem.W.keepIn K (.ref x8) = true)
    (a9 : PySem.W.nsIn K mainGlobals "_law_odd" = some (some (.ref x9))) (l9 : K.lookup x9 = some ⟨oc9, od9, .func (PySem.W.fnOf "_law_odd" "_law_odd" (defArgs s__law_odd) (defBody s__law_odd) (defScope s__law_odd) .none kV9 dc9 pm9 an9 cd9 ct9), sl9⟩) (c9 : PySem.W.codeIn K cd9 "_law_odd" = true) (k9 : PySem.W.keepIn K (.ref x9) = true)
    (a10 : PySem.W.nsIn K mainGlobals "law" = some (some (.ref x10))) (l10 : K.lookup x10 = some ⟨oc10, od10, .func (PySem.W.fnOf "law" "law" (defArgs s_law) (defBody s_law) (defScope s_law) .none kV10 dc10 pm10 an10 cd10 ct10), sl10⟩) (c10 : PySem.W.codeIn K cd10 "law" = true) (k10 : PySem.W.keepIn K (.ref x10) = true)
    (ec_Stuck : PySem.W.subIn K (.ref x_Stuck) (.type "BaseException") = some true)
    (et_Stuck : PySem.W.typeIn K (.ref x_Stuck) = some (.type "type"))
    (ek_Stuck : PySem.W.keepIn K (.ref x_Stuck) = true)
    (xx_Stuck : PySem.W.excIn K x_Stuck [.type "ValueError", .type "Exception", .type "BaseException", .type "object"] "ValueError.__new__" = true)
    (ec_Closed : PySem.W.subIn K (.ref x_Closed) (.type "BaseException") = some true)
    (et_Closed : PySem.W.typeIn K (.ref x_Closed) = some (.type "type"))
    (ek_Closed : PySem.W.keepIn K (.ref x_Closed) = true)
    (xx_Closed : PySem.W.excIn K x_Closed [.type "ValueError", .type "Exception", .type "BaseException", .type "object"] "ValueError.__new__" = true)
    (ec_Unlike : PySem.W.subIn K (.ref x_Unlike) (.type "BaseException") = some true)
    (et_Unlike : PySem.W.typeIn K (.ref x_Unlike) = some (.type "type"))
    (ek_Unlike : PySem.W.keepIn K (.ref x_Unlike) = true)
    (xx_Unlike : PySem.W.excIn K x_Unlike [.type "ValueError", .type "Exception", .type "BaseException", .type "object"] "ValueError.__new__" = true)
    (ec_Nothing : PySem.W.subIn K (.ref x_Nothing) (.type "BaseException") = some true)
    (et_Nothing : PySem.W.typeIn K (.ref x_Nothing) = some (.type "type"))
    (ek_Nothing : PySem.W.keepIn K (.ref x_Nothing) = true)
    (xx_Nothing : PySem.W.excIn K x_Nothing [.type "ValueError", .type "Exception", .type "BaseException", .type "object"] "ValueError.__new__" = true)
    (ec_NoDeed : PySem.W.subIn K (.ref x_NoDeed) (.type "BaseException") = some true)
    (et_NoDeed : PySem.W.typeIn K (.ref x_NoDeed) = some (.type "type"))
    (ek_NoDeed : PySem.W.keepIn K (.ref x_NoDeed) = true)
    (xx_NoDeed : PySem.W.excIn K x_NoDeed [.type "ValueError", .type "Exception", .type "BaseException", .type "object"] "ValueError.__new__" = true)
    (ec_NoText : PySem.W.subIn K (.ref x_NoText) (.type "BaseException") = some true)
    (et_NoText : PySem.W.typeIn K (.ref x_NoText) = some (.type "type"))
    (ek_NoText : PySem.W.keepIn K (.ref x_NoText) = true)
    (xx_NoText : PySem.W.excIn K x_NoText [.type "ValueError", .type "Exception", .type "BaseException", .type "object"] "ValueError.__new__" = true)
    (ec_NoCommand : PySem.W.subIn K (.ref x_NoCommand) (.type "BaseException") = some true)
    (et_NoCommand : PySem.W.typeIn K (.ref x_NoCommand) = some (.type "type"))
    (ek_NoCommand : PySem.W.keepIn K (.ref x_NoCommand) = true)
    (xx_NoCommand : PySem.W.excIn K x_NoCommand [.type "ValueError", .type "Exception", .type "BaseException", .type "object"] "ValueError.__new__" = true)
    {nm_Wrong qn_Wrong : Str} {nN_Wrong : Addr} {bs_Wrong : List Value} {sn_Wrong : List Str} {su_Wrong : List Value} {ab_Wrong : Bool} {co_Wrong : Option Bool} {dd_Wrong : Option Addr} {m0_Wrong m1_Wrong m2_Wrong m3_Wrong m5_Wrong : Option Value}
    (xl_Wrong : K.lookup x_Wrong = some (excClassObj nm_Wrong qn_Wrong x_Wrong nN_Wrong bs_Wrong [.ref x_PickError, .type "ValueError", .type "Exception", .type "BaseException", .type "object"] true sn_Wrong su_Wrong ab_Wrong co_Wrong dd_Wrong m0_Wrong m1_Wrong m2_Wrong m3_Wrong m5_Wrong "ValueError.__new__"))
    (es_Wrong : PySem.W.findIn K (.ref x_Wrong) "__setattr__" = some (some (.builtin "object.__setattr__")))
    (ec_Wrong : PySem.W.subIn K (.ref x_Wrong) (.type "BaseException") = some true)
    (et_Wrong : PySem.W.typeIn K (.ref x_Wrong) = some (.type "type"))
    (ek_Wrong : PySem.W.keepIn K (.ref x_Wrong) = true)
    (en_Wrong : PySem.W.findIn K (.ref x_Wrong) "place" = some none)
    {ei_Wrong : Addr} {eod_Wrong ean_Wrong : Option Addr} {esl_Wrong : Array (Option Value)} {eoc_Wrong ekV_Wrong edc_Wrong epm_Wrong ecd_Wrong ect_Wrong : Value}
    (ia_Wrong : PySem.W.findIn K (.ref x_Wrong) "__init__" = some (some (.ref ei_Wrong)))
    (it_Wrong : PySem.W.typeIn K (.ref ei_Wrong) = some (.type "function"))
    (il_Wrong : K.lookup ei_Wrong = some ⟨eoc_Wrong, eod_Wrong, .func (PySem.W.fnOf "__init__" "Wrong.__init__" (defArgs e_Wrong) (defBody e_Wrong) (defScope e_Wrong) .none ekV_Wrong edc_Wrong epm_Wrong ean_Wrong ecd_Wrong ect_Wrong), esl_Wrong⟩)
    (ic_Wrong : PySem.W.codeIn K ecd_Wrong "Wrong.__init__" = true)
    (ik_Wrong : PySem.W.keepIn K (.ref ei_Wrong) = true)
    {nm_NoRow qn_NoRow : Str} {nN_NoRow : Addr} {bs_NoRow : List Value} {sn_NoRow : List Str} {su_NoRow : List Value} {ab_NoRow : Bool} {co_NoRow : Option Bool} {dd_NoRow : Option Addr} {m0_NoRow m1_NoRow m2_NoRow m3_NoRow m5_NoRow : Option Value}
    (xl_NoRow : K.lookup x_NoRow = some (excClassObj nm_NoRow qn_NoRow x_NoRow nN_NoRow bs_NoRow [.ref x_PickError, .type "ValueError", .type "Exception", .type "BaseException", .type "object"] true sn_NoRow su_NoRow ab_NoRow co_NoRow dd_NoRow m0_NoRow m1_NoRow m2_NoRow m3_NoRow m5_NoRow "ValueError.__new__"))
    (es_NoRow : PySem.W.findIn K (.ref x_NoRow) "__setattr__" = some (some (.builtin "object.__setattr__")))
    (ec_NoRow : PySem.W.subIn K (.ref x_NoRow) (.type "BaseException") = some true)
    (et_NoRow : PySem.W.typeIn K (.ref x_NoRow) = some (.type "type"))
    (ek_NoRow : PySem.W.keepIn K (.ref x_NoRow) = true)
    (en_NoRow : PySem.W.findIn K (.ref x_NoRow) "at" = some none)
    {ei_NoRow : Addr} {eod_NoRow ean_NoRow : Option Addr} {esl_NoRow : Array (Option Value)} {eoc_NoRow ekV_NoRow edc_NoRow epm_NoRow ecd_NoRow ect_NoRow : Value}
    (ia_NoRow : PySem.W.findIn K (.ref x_NoRow) "__init__" = some (some (.ref ei_NoRow)))
    (it_NoRow : PySem.W.typeIn K (.ref ei_NoRow) = some (.type "function"))
    (il_NoRow : K.lookup ei_NoRow = some ⟨eoc_NoRow, eod_NoRow, .func (PySem.W.fnOf "__init__" "NoRow.__init__" (defArgs e_NoRow) (defBody e_NoRow) (defScope e_NoRow) .none ekV_NoRow edc_NoRow epm_NoRow ean_NoRow ecd_NoRow ect_NoRow), esl_NoRow⟩)
    (ic_NoRow : PySem.W.codeIn K ecd_NoRow "NoRow.__init__" = true)
    (ik_NoRow : PySem.W.keepIn K (.ref ei_NoRow) = true)
    {nm_BadStep qn_BadStep : Str} {nN_BadStep : Addr} {bs_BadStep : List Value} {sn_BadStep : List Str} {su_BadStep : List Value} {ab_BadStep : Bool} {co_BadStep : Option Bool} {dd_BadStep : Option Addr} {m0_BadStep m1_BadStep m2_BadStep m3_BadStep m5_BadStep : Option Value}
    (xl_BadStep : K.lookup x_BadStep = some (excClassObj nm_BadStep qn_BadStep x_BadStep nN_BadStep bs_BadStep [.ref x_PickError, .type "ValueError", .type "Exception", .type "BaseException", .type "object"] true sn_BadStep su_BadStep ab_BadStep co_BadStep dd_BadStep m0_BadStep m1_BadStep m2_BadStep m3_BadStep m5_BadStep "ValueError.__new__"))
    (es_BadStep : PySem.W.findIn K (.ref x_BadStep) "__setattr__" = some (some (.builtin "object.__setattr__")))
    (ec_BadStep : PySem.W.subIn K (.ref x_BadStep) (.type "BaseException") = some true)
    (et_BadStep : PySem.W.typeIn K (.ref x_BadStep) = some (.type "type"))
    (ek_BadStep : PySem.W.keepIn K (.ref x_BadStep) = true)
    (en_BadStep : PySem.W.findIn K (.ref x_BadStep) "index" = some none)
    {ei_BadStep : Addr} {eod_BadStep ean_BadStep : Option Addr} {esl_BadStep : Array (Option Value)} {eoc_BadStep ekV_BadStep edc_BadStep epm_BadStep ecd_BadStep ect_BadStep : Value}
    (ia_BadStep : PySem.W.findIn K (.ref x_BadStep) "__init__" = some (some (.ref ei_BadStep)))
    (it_BadStep : PySem.W.typeIn K (.ref ei_BadStep) = some (.type "function"))
    (il_BadStep : K.lookup ei_BadStep = some ⟨eoc_BadStep, eod_BadStep, .func (PySem.W.fnOf "__init__" "BadStep.__init__" (defArgs e_BadStep) (defBody e_BadStep) (defScope e_BadStep) .none ekV_BadStep edc_BadStep epm_BadStep ean_BadStep ecd_BadStep ect_BadStep), esl_BadStep⟩)
    (ic_BadStep : PySem.W.codeIn K ecd_BadStep "BadStep.__init__" = true)
    (ik_BadStep : PySem.W.keepIn K (.ref ei_BadStep) = true)
    {nm_NoStep qn_NoStep : Str} {nN_NoStep : Addr} {bs_NoStep : List Value} {sn_NoStep : List Str} {su_NoStep : List Value} {ab_NoStep : Bool} {co_NoStep : Option Bool} {dd_NoStep : Option Addr} {m0_NoStep m1_NoStep m2_NoStep m3_NoStep m5_NoStep : Option Value}
    (xl_NoStep : K.lookup x_NoStep = some (excClassObj nm_NoStep qn_NoStep x_NoStep nN_NoStep bs_NoStep [.ref x_PickError, .type "ValueError", .type "Exception", .type "BaseException", .type "object"] true sn_NoStep su_NoStep ab_NoStep co_NoStep dd_NoStep m0_NoStep m1_NoStep m2_NoStep m3_NoStep m5_NoStep "ValueError.__new__"))
    (es_NoStep : PySem.W.findIn K (.ref x_NoStep) "__setattr__" = some (some (.builtin "object.__setattr__")))
    (ec_NoStep : PySem.W.subIn K (.ref x_NoStep) (.type "BaseException") = some true)
    (et_NoStep : PySem.W.typeIn K (.ref x_NoStep) = some (.type "type"))
    (ek_NoStep : PySem.W.keepIn K (.ref x_NoStep) = true)
    (en_NoStep : PySem.W.findIn K (.ref x_NoStep) "index" = some none)
    {ei_NoStep : Addr} {eod_NoStep ean_NoStep : Option Addr} {esl_NoStep : Array (Option Value)} {eoc_NoStep ekV_NoStep edc_NoStep epm_NoStep ecd_NoStep ect_NoStep : Value}
    (ia_NoStep : PySem.W.findIn K (.ref x_NoStep) "__init__" = some (some (.ref ei_NoStep)))
    (it_NoStep : PySem.W.typeIn K (.ref ei_NoStep) = some (.type "function"))
    (il_NoStep : K.lookup ei_NoStep = some ⟨eoc_NoStep, eod_NoStep, .func (PySem.W.fnOf "__init__" "NoStep.__init__" (defArgs e_NoStep) (defBody e_NoStep) (defScope e_NoStep) .none ekV_NoStep edc_NoStep epm_NoStep ean_NoStep ecd_NoStep ect_NoStep), esl_NoStep⟩)
    (ic_NoStep : PySem.W.codeIn K ecd_NoStep "NoStep.__init__" = true)
    (ik_NoStep : PySem.W.keepIn K (.ref ei_NoStep) = true)
    {nm_NotPicked qn_NotPicked : Str} {nN_NotPicked : Addr} {bs_NotPicked : List Value} {sn_NotPicked : List Str} {su_NotPicked : List Value} {ab_NotPicked : Bool} {co_NotPicked : Option Bool} {dd_NotPicked : Option Addr} {m0_NotPicked m1_NotPicked m2_NotPicked m3_NotPicked m5_NotPicked : Option Value}
    (xl_NotPicked : K.lookup x_NotPicked = some (excClassObj nm_NotPicked qn_NotPicked x_NotPicked nN_NotPicked bs_NotPicked [.ref x_PickError, .type "ValueError", .type "Exception", .type "BaseException", .type "object"] true sn_NotPicked su_NotPicked ab_NotPicked co_NotPicked dd_NotPicked m0_NotPicked m1_NotPicked m2_NotPicked m3_NotPicked m5_NotPicked "ValueError.__new__"))
    (es_NotPicked : PySem.W.findIn K (.ref x_NotPicked) "__setattr__" = some (some (.builtin "object.__setattr__")))
    (ec_NotPicked : PySem.W.subIn K (.ref x_NotPicked) (.type "BaseException") = some true)
    (et_NotPicked : PySem.W.typeIn K (.ref x_NotPicked) = some (.type "type"))
    (ek_NotPicked : PySem.W.keepIn K (.ref x_NotPicked) = true)
    (en_NotPicked : PySem.W.findIn K (.ref x_NotPicked) "number" = some none)
    {ei_NotPicked : Addr} {eod_NotPicked ean_NotPicked : Option Addr} {esl_NotPicked : Array (Option Value)} {eoc_NotPicked ekV_NotPicked edc_NotPicked epm_NotPicked ecd_NotPicked ect_NotPicked : Value}
    (ia_NotPicked : PySem.W.findIn K (.ref x_NotPicked) "__init__" = some (some (.ref ei_NotPicked)))
    (it_NotPicked : PySem.W.typeIn K (.ref ei_NotPicked) = some (.type "function"))
    (il_NotPicked : K.lookup ei_NotPicked = some ⟨eoc_NotPicked, eod_NotPicked, .func (PySem.W.fnOf "__init__" "NotPicked.__init__" (defArgs e_NotPicked) (defBody e_NotPicked) (defScope e_NotPicked) .none ekV_NotPicked edc_NotPicked epm_NotPicked ean_NotPicked ecd_NotPicked ect_NotPicked), esl_NotPicked⟩)
    (ic_NotPicked : PySem.W.codeIn K ecd_NotPicked "NotPicked.__init__" = true)
    (ik_NotPicked : PySem.W.keepIn K (.ref ei_NotPicked) = true)
    {nm_Stopped qn_Stopped : Str} {nN_Stopped : Addr} {bs_Stopped : List Value} {sn_Stopped : List Str} {su_Stopped : List Value} {ab_Stopped : Bool} {co_Stopped : Option Bool} {dd_Stopped : Option Addr} {m0_Stopped m1_Stopped m2_Stopped m3_Stopped m5_Stopped : Option Value}
    (xl_Stopped : K.lookup x_Stopped = some (excClassObj nm_Stopped qn_Stopped x_Stopped nN_Stopped bs_Stopped [.ref x_PickError, .type "ValueError", .type "Exception", .type "BaseException", .type "object"] true sn_Stopped su_Stopped ab_Stopped co_Stopped dd_Stopped m0_Stopped m1_Stopped m2_Stopped m3_Stopped m5_Stopped "ValueError.__new__"))
    (es_Stopped : PySem.W.findIn K (.ref x_Stopped) "__setattr__" = some (some (.builtin "object.__setattr__")))
    (ec_Stopped : PySem.W.subIn K (.ref x_Stopped) (.type "BaseException") = some true)
    (et_Stopped : PySem.W.typeIn K (.ref x_Stopped) = some (.type "type"))
    (ek_Stopped : PySem.W.keepIn K (.ref x_Stopped) = true)
    (en_Stopped : PySem.W.findIn K (.ref x_Stopped) "index" = some none)
    {ei_Stopped : Addr} {eod_Stopped ean_Stopped : Option Addr} {esl_Stopped : Array (Option Value)} {eoc_Stopped ekV_Stopped edc_Stopped epm_Stopped ecd_Stopped ect_Stopped : Value}
    (ia_Stopped : PySem.W.findIn K (.ref x_Stopped) "__init__" = some (some (.ref ei_Stopped)))
    (it_Stopped : PySem.W.typeIn K (.ref ei_Stopped) = some (.type "function"))
    (il_Stopped : K.lookup ei_Stopped = some ⟨eoc_Stopped, eod_Stopped, .func (PySem.W.fnOf "__init__" "Stopped.__init__" (defArgs e_Stopped) (defBody e_Stopped) (defScope e_Stopped) .none ekV_Stopped edc_Stopped epm_Stopped ean_Stopped ecd_Stopped ect_Stopped), esl_Stopped⟩)
    (ic_Stopped : PySem.W.codeIn K ecd_Stopped "Stopped.__init__" = true)
    (ik_Stopped : PySem.W.keepIn K (.ref ei_Stopped) = true)
    {nm_BadEdit qn_BadEdit : Str} {nN_BadEdit : Addr} {bs_BadEdit : List Value} {sn_BadEdit : List Str} {su_BadEdit : List Value} {ab_BadEdit : Bool} {co_BadEdit : Option Bool} {dd_BadEdit : Option Addr} {m0_BadEdit m1_BadEdit m2_BadEdit m3_BadEdit m5_BadEdit : Option Value}
    (xl_BadEdit : K.lookup x_BadEdit = some (excClassObj nm_BadEdit qn_BadEdit x_BadEdit nN_BadEdit bs_BadEdit [.ref x_PickError, .type "ValueError", .type "Exception", .type "BaseException", .type "object"] true sn_BadEdit su_BadEdit ab_BadEdit co_BadEdit dd_BadEdit m0_BadEdit m1_BadEdit m2_BadEdit m3_BadEdit m5_BadEdit "ValueError.__new__"))
    (es_BadEdit : PySem.W.findIn K (.ref x_BadEdit) "__setattr__" = some (some (.builtin "object.__setattr__")))
    (ec_BadEdit : PySem.W.subIn K (.ref x_BadEdit) (.type "BaseException") = some true)
    (et_BadEdit : PySem.W.typeIn K (.ref x_BadEdit) = some (.type "type"))
    (ek_BadEdit : PySem.W.keepIn K (.ref x_BadEdit) = true)
    (en_BadEdit : PySem.W.findIn K (.ref x_BadEdit) "index" = some none)
    {ei_BadEdit : Addr} {eod_BadEdit ean_BadEdit : Option Addr} {esl_BadEdit : Array (Option Value)} {eoc_BadEdit ekV_BadEdit edc_BadEdit epm_BadEdit ecd_BadEdit ect_BadEdit : Value}
    (ia_BadEdit : PySem.W.findIn K (.ref x_BadEdit) "__init__" = some (some (.ref ei_BadEdit)))
    (it_BadEdit : PySem.W.typeIn K (.ref ei_BadEdit) = some (.type "function"))
    (il_BadEdit : K.lookup ei_BadEdit = some ⟨eoc_BadEdit, eod_BadEdit, .func (PySem.W.fnOf "__init__" "BadEdit.__init__" (defArgs e_BadEdit) (defBody e_BadEdit) (defScope e_BadEdit) .none ekV_BadEdit edc_BadEdit epm_BadEdit ean_BadEdit ecd_BadEdit ect_BadEdit), esl_BadEdit⟩)
    (ic_BadEdit : PySem.W.codeIn K ecd_BadEdit "BadEdit.__init__" = true)
    (ik_BadEdit : PySem.W.keepIn K (.ref ei_BadEdit) = true)
    {nm_HasPlace qn_HasPlace : Str} {nN_HasPlace : Addr} {bs_HasPlace : List Value} {sn_HasPlace : List Str} {su_HasPlace : List Value} {ab_HasPlace : Bool} {co_HasPlace : Option Bool} {dd_HasPlace : Option Addr} {m0_HasPlace m1_HasPlace m2_HasPlace m3_HasPlace m5_HasPlace : Option Value}
    (xl_HasPlace : K.lookup x_HasPlace = some (excClassObj nm_HasPlace qn_HasPlace x_HasPlace nN_HasPlace bs_HasPlace [.ref x_PickError, .type "ValueError", .type "Exception", .type "BaseException", .type "object"] true sn_HasPlace su_HasPlace ab_HasPlace co_HasPlace dd_HasPlace m0_HasPlace m1_HasPlace m2_HasPlace m3_HasPlace m5_HasPlace "ValueError.__new__"))
    (es_HasPlace : PySem.W.findIn K (.ref x_HasPlace) "__setattr__" = some (some (.builtin "object.__setattr__")))
    (ec_HasPlace : PySem.W.subIn K (.ref x_HasPlace) (.type "BaseException") = some true)
    (et_HasPlace : PySem.W.typeIn K (.ref x_HasPlace) = some (.type "type"))
    (ek_HasPlace : PySem.W.keepIn K (.ref x_HasPlace) = true)
    (en_HasPlace : PySem.W.findIn K (.ref x_HasPlace) "index" = some none)
    {ei_HasPlace : Addr} {eod_HasPlace ean_HasPlace : Option Addr} {esl_HasPlace : Array (Option Value)} {eoc_HasPlace ekV_HasPlace edc_HasPlace epm_HasPlace ecd_HasPlace ect_HasPlace : Value}
    (ia_HasPlace : PySem.W.findIn K (.ref x_HasPlace) "__init__" = some (some (.ref ei_HasPlace)))
    (it_HasPlace : PySem.W.typeIn K (.ref ei_HasPlace) = some (.type "function"))
    (il_HasPlace : K.lookup ei_HasPlace = some ⟨eoc_HasPlace, eod_HasPlace, .func (PySem.W.fnOf "__init__" "HasPlace.__init__" (defArgs e_HasPlace) (defBody e_HasPlace) (defScope e_HasPlace) .none ekV_HasPlace edc_HasPlace epm_HasPlace ean_HasPlace ecd_HasPlace ect_HasPlace), esl_HasPlace⟩)
    (ic_HasPlace : PySem.W.codeIn K ecd_HasPlace "HasPlace.__init__" = true)
    (ik_HasPlace : PySem.W.keepIn K (.ref ei_HasPlace) = true)
    {nm_TooMany qn_TooMany : Str} {nN_TooMany : Addr} {bs_TooMany : List Value} {sn_TooMany : List Str} {su_TooMany : List Value} {ab_TooMany : Bool} {co_TooMany : Option Bool} {dd_TooMany : Option Addr} {m0_TooMany m1_TooMany m2_TooMany m3_TooMany m5_TooMany : Option Value}
    (xl_TooMany : K.lookup x_TooMany = some (excClassObj nm_TooMany qn_TooMany x_TooMany nN_TooMany bs_TooMany [.ref x_PickError, .type "ValueError", .type "Exception", .type "BaseException", .type "object"] true sn_TooMany su_TooMany ab_TooMany co_TooMany dd_TooMany m0_TooMany m1_TooMany m2_TooMany m3_TooMany m5_TooMany "ValueError.__new__"))
    (es_TooMany : PySem.W.findIn K (.ref x_TooMany) "__setattr__" = some (some (.builtin "object.__setattr__")))
    (ec_TooMany : PySem.W.subIn K (.ref x_TooMany) (.type "BaseException") = some true)
    (et_TooMany : PySem.W.typeIn K (.ref x_TooMany) = some (.type "type"))
    (ek_TooMany : PySem.W.keepIn K (.ref x_TooMany) = true)
    (en_TooMany : PySem.W.findIn K (.ref x_TooMany) "most" = some none)
    {ei_TooMany : Addr} {eod_TooMany ean_TooMany : Option Addr} {esl_TooMany : Array (Option Value)} {eoc_TooMany ekV_TooMany edc_TooMany epm_TooMany ecd_TooMany ect_TooMany : Value}
    (ia_TooMany : PySem.W.findIn K (.ref x_TooMany) "__init__" = some (some (.ref ei_TooMany)))
    (it_TooMany : PySem.W.typeIn K (.ref ei_TooMany) = some (.type "function"))
    (il_TooMany : K.lookup ei_TooMany = some ⟨eoc_TooMany, eod_TooMany, .func (PySem.W.fnOf "__init__" "TooMany.__init__" (defArgs e_TooMany) (defBody e_TooMany) (defScope e_TooMany) .none ekV_TooMany edc_TooMany epm_TooMany ean_TooMany ecd_TooMany ect_TooMany), esl_TooMany⟩)
    (ic_TooMany : PySem.W.codeIn K ecd_TooMany "TooMany.__init__" = true)
    (ik_TooMany : PySem.W.keepIn K (.ref ei_TooMany) = true)
    {nm_Full qn_Full : Str} {nN_Full : Addr} {bs_Full : List Value} {sn_Full : List Str} {su_Full : List Value} {ab_Full : Bool} {co_Full : Option Bool} {dd_Full : Option Addr} {m0_Full m1_Full m2_Full m3_Full m5_Full : Option Value}
    (xl_Full : K.lookup x_Full = some (excClassObj nm_Full qn_Full x_Full nN_Full bs_Full [.ref x_PickError, .type "ValueError", .type "Exception", .type "BaseException", .type "object"] true sn_Full su_Full ab_Full co_Full dd_Full m0_Full m1_Full m2_Full m3_Full m5_Full "ValueError.__new__"))
    (es_Full : PySem.W.findIn K (.ref x_Full) "__setattr__" = some (some (.builtin "object.__setattr__")))
    (ec_Full : PySem.W.subIn K (.ref x_Full) (.type "BaseException") = some true)
    (et_Full : PySem.W.typeIn K (.ref x_Full) = some (.type "type"))
    (ek_Full : PySem.W.keepIn K (.ref x_Full) = true)
    (en_Full : PySem.W.findIn K (.ref x_Full) "limit" = some none)
    {ei_Full : Addr} {eod_Full ean_Full : Option Addr} {esl_Full : Array (Option Value)} {eoc_Full ekV_Full edc_Full epm_Full ecd_Full ect_Full : Value}
    (ia_Full : PySem.W.findIn K (.ref x_Full) "__init__" = some (some (.ref ei_Full)))
    (it_Full : PySem.W.typeIn K (.ref ei_Full) = some (.type "function"))
    (il_Full : K.lookup ei_Full = some ⟨eoc_Full, eod_Full, .func (PySem.W.fnOf "__init__" "Full.__init__" (defArgs e_Full) (defBody e_Full) (defScope e_Full) .none ekV_Full edc_Full epm_Full ean_Full ecd_Full ect_Full), esl_Full⟩)
    (ic_Full : PySem.W.codeIn K ecd_Full "Full.__init__" = true)
    (ik_Full : PySem.W.keepIn K (.ref ei_Full) = true)
    {nm_Refused qn_Refused : Str} {nN_Refused : Addr} {bs_Refused : List Value} {sn_Refused : List Str} {su_Refused : List Value} {ab_Refused : Bool} {co_Refused : Option Bool} {dd_Refused : Option Addr} {m0_Refused m1_Refused m2_Refused m3_Refused m5_Refused : Option Value}
    (xl_Refused : K.lookup x_Refused = some (excClassObj nm_Refused qn_Refused x_Refused nN_Refused bs_Refused [.ref x_PickError, .type "ValueError", .type "Exception", .type "BaseException", .type "object"] true sn_Refused su_Refused ab_Refused co_Refused dd_Refused m0_Refused m1_Refused m2_Refused m3_Refused m5_Refused "ValueError.__new__"))
    (es_Refused : PySem.W.findIn K (.ref x_Refused) "__setattr__" = some (some (.builtin "object.__setattr__")))
    (ec_Refused : PySem.W.subIn K (.ref x_Refused) (.type "BaseException") = some true)
    (et_Refused : PySem.W.typeIn K (.ref x_Refused) = some (.type "type"))
    (ek_Refused : PySem.W.keepIn K (.ref x_Refused) = true)
    (en_Refused : PySem.W.findIn K (.ref x_Refused) "deed" = some none)
    {ei_Refused : Addr} {eod_Refused ean_Refused : Option Addr} {esl_Refused : Array (Option Value)} {eoc_Refused ekV_Refused edc_Refused epm_Refused ecd_Refused ect_Refused : Value}
    (ia_Refused : PySem.W.findIn K (.ref x_Refused) "__init__" = some (some (.ref ei_Refused)))
    (it_Refused : PySem.W.typeIn K (.ref ei_Refused) = some (.type "function"))
    (il_Refused : K.lookup ei_Refused = some ⟨eoc_Refused, eod_Refused, .func (PySem.W.fnOf "__init__" "Refused.__init__" (defArgs e_Refused) (defBody e_Refused) (defScope e_Refused) .none ekV_Refused edc_Refused epm_Refused ean_Refused ecd_Refused ect_Refused), esl_Refused⟩)
    (ic_Refused : PySem.W.codeIn K ecd_Refused "Refused.__init__" = true)
    (ik_Refused : PySem.W.keepIn K (.ref ei_Refused) = true)
    {nm_NoEntry qn_NoEntry : Str} {nN_NoEntry : Addr} {bs_NoEntry : List Value} {sn_NoEntry : List Str} {su_NoEntry : List Value} {ab_NoEntry : Bool} {co_NoEntry : Option Bool} {dd_NoEntry : Option Addr} {m0_NoEntry m1_NoEntry m2_NoEntry m3_NoEntry m5_NoEntry : Option Value}
    (xl_NoEntry : K.lookup x_NoEntry = some (excClassObj nm_NoEntry qn_NoEntry x_NoEntry nN_NoEntry bs_NoEntry [.ref x_PickError, .type "ValueError", .type "Exception", .type "BaseException", .type "object"] true sn_NoEntry su_NoEntry ab_NoEntry co_NoEntry dd_NoEntry m0_NoEntry m1_NoEntry m2_NoEntry m3_NoEntry m5_NoEntry "ValueError.__new__"))
    (es_NoEntry : PySem.W.findIn K (.ref x_NoEntry) "__setattr__" = some (some (.builtin "object.__setattr__")))
    (ec_NoEntry : PySem.W.subIn K (.ref x_NoEntry) (.type "BaseException") = some true)
    (et_NoEntry : PySem.W.typeIn K (.ref x_NoEntry) = some (.type "type"))
    (ek_NoEntry : PySem.W.keepIn K (.ref x_NoEntry) = true)
    (en_NoEntry : PySem.W.findIn K (.ref x_NoEntry) "many" = some none)
    {ei_NoEntry : Addr} {eod_NoEntry ean_NoEntry : Option Addr} {esl_NoEntry : Array (Option Value)} {eoc_NoEntry ekV_NoEntry edc_NoEntry epm_NoEntry ecd_NoEntry ect_NoEntry : Value}
    (ia_NoEntry : PySem.W.findIn K (.ref x_NoEntry) "__init__" = some (some (.ref ei_NoEntry)))
    (it_NoEntry : PySem.W.typeIn K (.ref ei_NoEntry) = some (.type "function"))
    (il_NoEntry : K.lookup ei_NoEntry = some ⟨eoc_NoEntry, eod_NoEntry, .func (PySem.W.fnOf "__init__" "NoEntry.__init__" (defArgs e_NoEntry) (defBody e_NoEntry) (defScope e_NoEntry) .none ekV_NoEntry edc_NoEntry epm_NoEntry ean_NoEntry ecd_NoEntry ect_NoEntry), esl_NoEntry⟩)
    (ic_NoEntry : PySem.W.codeIn K ecd_NoEntry "NoEntry.__init__" = true)
    (ik_NoEntry : PySem.W.keepIn K (.ref ei_NoEntry) = true)
    (eg_Wrong : PySem.W.findIn K (.ref x_Wrong) "__getattribute__" = some (some (.builtin "BaseException.__getattribute__")))
    (eh_Wrong : PySem.W.findIn K (.ref x_Wrong) "__getattr__" = some none)
    (ed_Wrong : PySem.W.hasDictIn K x_Wrong = true)
    (eg_NoRow : PySem.W.findIn K (.ref x_NoRow) "__getattribute__" = some (some (.builtin "BaseException.__getattribute__")))
    (eh_NoRow : PySem.W.findIn K (.ref x_NoRow) "__getattr__" = some none)
    (ed_NoRow : PySem.W.hasDictIn K x_NoRow = true)
    (eg_BadStep : PySem.W.findIn K (.ref x_BadStep) "__getattribute__" = some (some (.builtin "BaseException.__getattribute__")))
    (eh_BadStep : PySem.W.findIn K (.ref x_BadStep) "__getattr__" = some none)
    (ed_BadStep : PySem.W.hasDictIn K x_BadStep = true)
    (eg_NoStep : PySem.W.findIn K (.ref x_NoStep) "__getattribute__" = some (some (.builtin "BaseException.__getattribute__")))
    (eh_NoStep : PySem.W.findIn K (.ref x_NoStep) "__getattr__" = some none)
    (ed_NoStep : PySem.W.hasDictIn K x_NoStep = true)
    (eg_NotPicked : PySem.W.findIn K (.ref x_NotPicked) "__getattribute__" = some (some (.builtin "BaseException.__getattribute__")))
    (eh_NotPicked : PySem.W.findIn K (.ref x_NotPicked) "__getattr__" = some none)
    (ed_NotPicked : PySem.W.hasDictIn K x_NotPicked = true)
    (eg_Stuck : PySem.W.findIn K (.ref x_Stuck) "__getattribute__" = some (some (.builtin "BaseException.__getattribute__")))
    (eh_Stuck : PySem.W.findIn K (.ref x_Stuck) "__getattr__" = some none)
    (ed_Stuck : PySem.W.hasDictIn K x_Stuck = true)
    (eg_Stopped : PySem.W.findIn K (.ref x_Stopped) "__getattribute__" = some (some (.builtin "BaseException.__getattribute__")))
    (eh_Stopped : PySem.W.findIn K (.ref x_Stopped) "__getattr__" = some none)
    (ed_Stopped : PySem.W.hasDictIn K x_Stopped = true)
    (eg_Closed : PySem.W.findIn K (.ref x_Closed) "__getattribute__" = some (some (.builtin "BaseException.__getattribute__")))
    (eh_Closed : PySem.W.findIn K (.ref x_Closed) "__getattr__" = some none)
    (ed_Closed : PySem.W.hasDictIn K x_Closed = true)
    (eg_BadEdit : PySem.W.findIn K (.ref x_BadEdit) "__getattribute__" = some (some (.builtin "BaseException.__getattribute__")))
    (eh_BadEdit : PySem.W.findIn K (.ref x_BadEdit) "__getattr__" = some none)
    (ed_BadEdit : PySem.W.hasDictIn K x_BadEdit = true)
    (eg_Unlike : PySem.W.findIn K (.ref x_Unlike) "__getattribute__" = some (some (.builtin "BaseException.__getattribute__")))
    (eh_Unlike : PySem.W.findIn K (.ref x_Unlike) "__getattr__" = some none)
    (ed_Unlike : PySem.W.hasDictIn K x_Unlike = true)
    (eg_HasPlace : PySem.W.findIn K (.ref x_HasPlace) "__getattribute__" = some (some (.builtin "BaseException.__getattribute__")))
    (eh_HasPlace : PySem.W.findIn K (.ref x_HasPlace) "__getattr__" = some none)
    (ed_HasPlace : PySem.W.hasDictIn K x_HasPlace = true)
    (eg_TooMany : PySem.W.findIn K (.ref x_TooMany) "__getattribute__" = some (some (.builtin "BaseException.__getattribute__")))
    (eh_TooMany : PySem.W.findIn K (.ref x_TooMany) "__getattr__" = some none)
    (ed_TooMany : PySem.W.hasDictIn K x_TooMany = true)
    (eg_Nothing : PySem.W.findIn K (.ref x_Nothing) "__getattribute__" = some (some (.builtin "BaseException.__getattribute__")))
    (eh_Nothing : PySem.W.findIn K (.ref x_Nothing) "__getattr__" = some none)
    (ed_Nothing : PySem.W.hasDictIn K x_Nothing = true)
    (eg_NoDeed : PySem.W.findIn K (.ref x_NoDeed) "__getattribute__" = some (some (.builtin "BaseException.__getattribute__")))
    (eh_NoDeed : PySem.W.findIn K (.ref x_NoDeed) "__getattr__" = some none)
    (ed_NoDeed : PySem.W.hasDictIn K x_NoDeed = true)
    (eg_Full : PySem.W.findIn K (.ref x_Full) "__getattribute__" = some (some (.builtin "BaseException.__getattribute__")))
    (eh_Full : PySem.W.findIn K (.ref x_Full) "__getattr__" = some none)
    (ed_Full : PySem.W.hasDictIn K x_Full = true)
    (eg_Refused : PySem.W.findIn K (.ref x_Refused) "__getattribute__" = some (some (.builtin "BaseException.__getattribute__")))
    (eh_Refused : PySem.W.findIn K (.ref x_Refused) "__getattr__" = some none)
    (ed_Refused : PySem.W.hasDictIn K x_Refused = true)
    (eg_NoEntry : PySem.W.findIn K (.ref x_NoEntry) "__getattribute__" = some (some (.builtin "BaseException.__getattribute__")))
    (eh_NoEntry : PySem.W.findIn K (.ref x_NoEntry) "__getattr__" = some none)
    (ed_NoEntry : PySem.W.hasDictIn K x_NoEntry = true)
    (eg_NoText : PySem.W.findIn K (.ref x_NoText) "__getattribute__" = some (some (.builtin "BaseException.__getattribute__")))
    (eh_NoText : PySem.W.findIn K (.ref x_NoText) "__getattr__" = some none)
    (ed_NoText : PySem.W.hasDictIn K x_NoText = true)
    (eg_NoCommand : PySem.W.findIn K (.ref x_NoCommand) "__getattribute__" = some (some (.builtin "BaseException.__getattribute__")))
    (eh_NoCommand : PySem.W.findIn K (.ref x_NoCommand) "__getattr__" = some none)
    (ed_NoCommand : PySem.W.hasDictIn K x_NoCommand = true)
    (sg : PySem.W.specialIn K (.builtin "object.__class__") "__get__" = some (some (.builtin "getset_descriptor.__get__")))
    (tg : PySem.W.takesIn K (.builtin "object.__class__") = some true)
    (ea2_Wrong : PySem.W.findIn K (.ref x_Wrong) "__class__" = some (some (.builtin "object.__class__")))
    (em_Wrong : PySem.W.mroIn K x_Wrong (.type "object") = some true)
    (ea2_NoRow : PySem.W.findIn K (.ref x_NoRow) "__class__" = some (some (.builtin "object.__class__")))
    (em_NoRow : PySem.W.mroIn K x_NoRow (.type "object") = some true)
    (ea2_BadStep : PySem.W.findIn K (.ref x_BadStep) "__class__" = some (some (.builtin "object.__class__")))
    (em_BadStep : PySem.W.mroIn K x_BadStep (.type "object") = some true)
    (ea2_NoStep : PySem.W.findIn K (.ref x_NoStep) "__class__" = some (some (.builtin "object.__class__")))
    (em_NoStep : PySem.W.mroIn K x_NoStep (.type "object") = some true)
    (ea2_NotPicked : PySem.W.findIn K (.ref x_NotPicked) "__class__" = some (some (.builtin "object.__class__")))
    (em_NotPicked : PySem.W.mroIn K x_NotPicked (.type "object") = some true)
    (ea2_Stuck : PySem.W.findIn K (.ref x_Stuck) "__class__" = some (some (.builtin "object.__class__")))
    (em_Stuck : PySem.W.mroIn K x_Stuck (.type "object") = some true)
    (ea2_Stopped : PySem.W.findIn K (.ref x_Stopped) "__class__" = some (some (.builtin "object.__class__")))
    (em_Stopped : PySem.W.mroIn K x_Stopped (.type "object") = some true)
    (ea2_Closed : PySem.W.findIn K (.ref x_Closed) "__class__" = some (some (.builtin "object.__class__")))
    (em_Closed : PySem.W.mroIn K x_Closed (.type "object") = some true)
    (ea2_BadEdit : PySem.W.findIn K (.ref x_BadEdit) "__class__" = some (some (.builtin "object.__class__")))
    (em_BadEdit : PySem.W.mroIn K x_BadEdit (.type "object") = some true)
    (ea2_Unlike : PySem.W.findIn K (.ref x_Unlike) "__class__" = some (some (.builtin "object.__class__")))
    (em_Unlike : PySem.W.mroIn K x_Unlike (.type "object") = some true)
    (ea2_HasPlace : PySem.W.findIn K (.ref x_HasPlace) "__class__" = some (some (.builtin "object.__class__")))
    (em_HasPlace : PySem.W.mroIn K x_HasPlace (.type "object") = some true)
    (ea2_TooMany : PySem.W.findIn K (.ref x_TooMany) "__class__" = some (some (.builtin "object.__class__")))
    (em_TooMany : PySem.W.mroIn K x_TooMany (.type "object") = some true)
    (ea2_Nothing : PySem.W.findIn K (.ref x_Nothing) "__class__" = some (some (.builtin "object.__class__")))
    (em_Nothing : PySem.W.mroIn K x_Nothing (.type "object") = some true)
    (ea2_NoDeed : PySem.W.findIn K (.ref x_NoDeed) "__class__" = some (some (.builtin "object.__class__")))
    (em_NoDeed : PySem.W.mroIn K x_NoDeed (.type "object") = some true)
    (ea2_Full : PySem.W.findIn K (.ref x_Full) "__class__" = some (some (.builtin "object.__class__")))
    (em_Full : PySem.W.mroIn K x_Full (.type "object") = some true)
    (ea2_Refused : PySem.W.findIn K (.ref x_Refused) "__class__" = some (some (.builtin "object.__class__")))
    (em_Refused : PySem.W.mroIn K x_Refused (.type "object") = some true)
    (ea2_NoEntry : PySem.W.findIn K (.ref x_NoEntry) "__class__" = some (some (.builtin "object.__class__")))
    (em_NoEntry : PySem.W.mroIn K x_NoEntry (.type "object") = some true)
    (ea2_NoText : PySem.W.findIn K (.ref x_NoText) "__class__" = some (some (.builtin "object.__class__")))
    (em_NoText : PySem.W.mroIn K x_NoText (.type "object") = some true)
    (ea2_NoCommand : PySem.W.findIn K (.ref x_NoCommand) "__class__" = some (some (.builtin "object.__class__")))
    (em_NoCommand : PySem.W.mroIn K x_NoCommand (.type "object") = some true)
    (tc_PickError : PySem.W.subIn K (.ref x_PickError) (.type "BaseException") = some true)
    (td_PickError : PySem.W.hasDictIn K x_PickError = true)
    (tt_PickError : PySem.W.typeIn K (.ref x_PickError) = some (.type "type"))
    (ts_PickError_Wrong : PySem.W.subIn K (.ref x_Wrong) (.ref x_PickError) = some true)
    (ts_PickError_NoRow : PySem.W.subIn K (.ref x_NoRow) (.ref x_PickError) = some true)
    (ts_PickError_BadStep : PySem.W.subIn K (.ref x_BadStep) (.ref x_PickError) = some true)
    (ts_PickError_NoStep : PySem.W.subIn K (.ref x_NoStep) (.ref x_PickError) = some true)
    (ts_PickError_NotPicked : PySem.W.subIn K (.ref x_NotPicked) (.ref x_PickError) = some true)
    (ts_PickError_Stuck : PySem.W.subIn K (.ref x_Stuck) (.ref x_PickError) = some true)
    (ts_PickError_Stopped : PySem.W.subIn K (.ref x_Stopped) (.ref x_PickError) = some true)
    (ts_PickError_Closed : PySem.W.subIn K (.ref x_Closed) (.ref x_PickError) = some true)
    (ts_PickError_BadEdit : PySem.W.subIn K (.ref x_BadEdit) (.ref x_PickError) = some true)
    (ts_PickError_Unlike : PySem.W.subIn K (.ref x_Unlike) (.ref x_PickError) = some true)
    (ts_PickError_HasPlace : PySem.W.subIn K (.ref x_HasPlace) (.ref x_PickError) = some true)
    (ts_PickError_TooMany : PySem.W.subIn K (.ref x_TooMany) (.ref x_PickError) = some true)
    (ts_PickError_Nothing : PySem.W.subIn K (.ref x_Nothing) (.ref x_PickError) = some true)
    (ts_PickError_NoDeed : PySem.W.subIn K (.ref x_NoDeed) (.ref x_PickError) = some true)
    (ts_PickError_Full : PySem.W.subIn K (.ref x_Full) (.ref x_PickError) = some true)
    (ts_PickError_Refused : PySem.W.subIn K (.ref x_Refused) (.ref x_PickError) = some true)
    (ts_PickError_NoEntry : PySem.W.subIn K (.ref x_NoEntry) (.ref x_PickError) = some true)
    (ts_PickError_NoText : PySem.W.subIn K (.ref x_NoText) (.ref x_PickError) = some true)
    (ts_PickError_NoCommand : PySem.W.subIn K (.ref x_NoCommand) (.ref x_PickError) = some true)
    (kd_BadEdit : PySem.W.hasDictIn K x_BadEdit = true)
    (ky_BadEdit : PySem.W.typeIn K (.ref x_BadEdit) = some (.type "type"))
    (ks_BadEdit : PySem.W.subIn K (.ref x_BadEdit) (.ref x_BadEdit) = some true)
    (kt_BadEdit_Wrong : PySem.W.subIn K (.ref x_Wrong) (.ref x_BadEdit) = some false)
    (kt_BadEdit_NoRow : PySem.W.subIn K (.ref x_NoRow) (.ref x_BadEdit) = some false)
    (kt_BadEdit_BadStep : PySem.W.subIn K (.ref x_BadStep) (.ref x_BadEdit) = some false)
    (kt_BadEdit_NoStep : PySem.W.subIn K (.ref x_NoStep) (.ref x_BadEdit) = some false)
    (kt_BadEdit_NotPicked : PySem.W.subIn K (.ref x_NotPicked) (.ref x_BadEdit) = some false)
    (kt_BadEdit_Stuck : PySem.W.subIn K (.ref x_Stuck) (.ref x_BadEdit) = some false)
    (kt_BadEdit_Stopped : PySem.W.subIn K (.ref x_Stopped) (.ref x_BadEdit) = some false)
    (kt_BadEdit_Closed : PySem.W.subIn K (.ref x_Closed) (.ref x_BadEdit) = some false)
    (kt_BadEdit_BadEdit : PySem.W.subIn K (.ref x_BadEdit) (.ref x_BadEdit) = some true)
    (kt_BadEdit_Unlike : PySem.W.subIn K (.ref x_Unlike) (.ref x_BadEdit) = some false)
    (kt_BadEdit_HasPlace : PySem.W.subIn K (.ref x_HasPlace) (.ref x_BadEdit) = some false)
    (kt_BadEdit_TooMany : PySem.W.subIn K (.ref x_TooMany) (.ref x_BadEdit) = some false)
    (kt_BadEdit_Nothing : PySem.W.subIn K (.ref x_Nothing) (.ref x_BadEdit) = some false)
    (kt_BadEdit_NoDeed : PySem.W.subIn K (.ref x_NoDeed) (.ref x_BadEdit) = some false)
    (kt_BadEdit_Full : PySem.W.subIn K (.ref x_Full) (.ref x_BadEdit) = some false)
    (kt_BadEdit_Refused : PySem.W.subIn K (.ref x_Refused) (.ref x_BadEdit) = some false)
    (kt_BadEdit_NoEntry : PySem.W.subIn K (.ref x_NoEntry) (.ref x_BadEdit) = some false)
    (kt_BadEdit_NoText : PySem.W.subIn K (.ref x_NoText) (.ref x_BadEdit) = some false)
    (kt_BadEdit_NoCommand : PySem.W.subIn K (.ref x_NoCommand) (.ref x_BadEdit) = some false)
    (kd_BadStep : PySem.W.hasDictIn K x_BadStep = true)
    (ky_BadStep : PySem.W.typeIn K (.ref x_BadStep) = some (.type "type"))
    (ks_BadStep : PySem.W.subIn K (.ref x_BadStep) (.ref x_BadStep) = some true)
    (kt_BadStep_Wrong : PySem.W.subIn K (.ref x_Wrong) (.ref x_BadStep) = some false)
    (kt_BadStep_NoRow : PySem.W.subIn K (.ref x_NoRow) (.ref x_BadStep) = some false)
    (kt_BadStep_BadStep : PySem.W.subIn K (.ref x_BadStep) (.ref x_BadStep) = some true)
    (kt_BadStep_NoStep : PySem.W.subIn K (.ref x_NoStep) (.ref x_BadStep) = some false)
    (kt_BadStep_NotPicked : PySem.W.subIn K (.ref x_NotPicked) (.ref x_BadStep) = some false)
    (kt_BadStep_Stuck : PySem.W.subIn K (.ref x_Stuck) (.ref x_BadStep) = some false)
    (kt_BadStep_Stopped : PySem.W.subIn K (.ref x_Stopped) (.ref x_BadStep) = some false)
    (kt_BadStep_Closed : PySem.W.subIn K (.ref x_Closed) (.ref x_BadStep) = some false)
    (kt_BadStep_BadEdit : PySem.W.subIn K (.ref x_BadEdit) (.ref x_BadStep) = some false)
    (kt_BadStep_Unlike : PySem.W.subIn K (.ref x_Unlike) (.ref x_BadStep) = some false)
    (kt_BadStep_HasPlace : PySem.W.subIn K (.ref x_HasPlace) (.ref x_BadStep) = some false)
    (kt_BadStep_TooMany : PySem.W.subIn K (.ref x_TooMany) (.ref x_BadStep) = some false)
    (kt_BadStep_Nothing : PySem.W.subIn K (.ref x_Nothing) (.ref x_BadStep) = some false)
    (kt_BadStep_NoDeed : PySem.W.subIn K (.ref x_NoDeed) (.ref x_BadStep) = some false)
    (kt_BadStep_Full : PySem.W.subIn K (.ref x_Full) (.ref x_BadStep) = some false)
    (kt_BadStep_Refused : PySem.W.subIn K (.ref x_Refused) (.ref x_BadStep) = some false)
    (kt_BadStep_NoEntry : PySem.W.subIn K (.ref x_NoEntry) (.ref x_BadStep) = some false)
    (kt_BadStep_NoText : PySem.W.subIn K (.ref x_NoText) (.ref x_BadStep) = some false)
    (kt_BadStep_NoCommand : PySem.W.subIn K (.ref x_NoCommand) (.ref x_BadStep) = some false)
    (kd_Closed : PySem.W.hasDictIn K x_Closed = true)
    (ky_Closed : PySem.W.typeIn K (.ref x_Closed) = some (.type "type"))
    (ks_Closed : PySem.W.subIn K (.ref x_Closed) (.ref x_Closed) = some true)
    (kt_Closed_Wrong : PySem.W.subIn K (.ref x_Wrong) (.ref x_Closed) = some false)
    (kt_Closed_NoRow : PySem.W.subIn K (.ref x_NoRow) (.ref x_Closed) = some false)
    (kt_Closed_BadStep : PySem.W.subIn K (.ref x_BadStep) (.ref x_Closed) = some false)
    (kt_Closed_NoStep : PySem.W.subIn K (.ref x_NoStep) (.ref x_Closed) = some false)
    (kt_Closed_NotPicked : PySem.W.subIn K (.ref x_NotPicked) (.ref x_Closed) = some false)
    (kt_Closed_Stuck : PySem.W.subIn K (.ref x_Stuck) (.ref x_Closed) = some false)
    (kt_Closed_Stopped : PySem.W.subIn K (.ref x_Stopped) (.ref x_Closed) = some false)
    (kt_Closed_Closed : PySem.W.subIn K (.ref x_Closed) (.ref x_Closed) = some true)
    (kt_Closed_BadEdit : PySem.W.subIn K (.ref x_BadEdit) (.ref x_Closed) = some false)
    (kt_Closed_Unlike : PySem.W.subIn K (.ref x_Unlike) (.ref x_Closed) = some false)
    (kt_Closed_HasPlace : PySem.W.subIn K (.ref x_HasPlace) (.ref x_Closed) = some false)
    (kt_Closed_TooMany : PySem.W.subIn K (.ref x_TooMany) (.ref x_Closed) = some false)
    (kt_Closed_Nothing : PySem.W.subIn K (.ref x_Nothing) (.ref x_Closed) = some false)
    (kt_Closed_NoDeed : PySem.W.subIn K (.ref x_NoDeed) (.ref x_Closed) = some false)
    (kt_Closed_Full : PySem.W.subIn K (.ref x_Full) (.ref x_Closed) = some false)
    (kt_Closed_Refused : PySem.W.subIn K (.ref x_Refused) (.ref x_Closed) = some false)
    (kt_Closed_NoEntry : PySem.W.subIn K (.ref x_NoEntry) (.ref x_Closed) = some false)
    (kt_Closed_NoText : PySem.W.subIn K (.ref x_NoText) (.ref x_Closed) = some false)
    (kt_Closed_NoCommand : PySem.W.subIn K (.ref x_NoCommand) (.ref x_Closed) = some false)
    (kd_Full : PySem.W.hasDictIn K x_Full = true)
    (ky_Full : PySem.W.typeIn K (.ref x_Full) = some (.type "type"))
    (ks_Full : PySem.W.subIn K (.ref x_Full) (.ref x_Full) = some true)
    (kt_Full_Wrong : PySem.W.subIn K (.ref x_Wrong) (.ref x_Full) = some false)
    (kt_Full_NoRow : PySem.W.subIn K (.ref x_NoRow) (.ref x_Full) = some false)
    (kt_Full_BadStep : PySem.W.subIn K (.ref x_BadStep) (.ref x_Full) = some false)
    (kt_Full_NoStep : PySem.W.subIn K (.ref x_NoStep) (.ref x_Full) = some false)
    (kt_Full_NotPicked : PySem.W.subIn K (.ref x_NotPicked) (.ref x_Full) = some false)
    (kt_Full_Stuck : PySem.W.subIn K (.ref x_Stuck) (.ref x_Full) = some false)
    (kt_Full_Stopped : PySem.W.subIn K (.ref x_Stopped) (.ref x_Full) = some false)
    (kt_Full_Closed : PySem.W.subIn K (.ref x_Closed) (.ref x_Full) = some false)
    (kt_Full_BadEdit : PySem.W.subIn K (.ref x_BadEdit) (.ref x_Full) = some false)
    (kt_Full_Unlike : PySem.W.subIn K (.ref x_Unlike) (.ref x_Full) = some false)
    (kt_Full_HasPlace : PySem.W.subIn K (.ref x_HasPlace) (.ref x_Full) = some false)
    (kt_Full_TooMany : PySem.W.subIn K (.ref x_TooMany) (.ref x_Full) = some false)
    (kt_Full_Nothing : PySem.W.subIn K (.ref x_Nothing) (.ref x_Full) = some false)
    (kt_Full_NoDeed : PySem.W.subIn K (.ref x_NoDeed) (.ref x_Full) = some false)
    (kt_Full_Full : PySem.W.subIn K (.ref x_Full) (.ref x_Full) = some true)
    (kt_Full_Refused : PySem.W.subIn K (.ref x_Refused) (.ref x_Full) = some false)
    (kt_Full_NoEntry : PySem.W.subIn K (.ref x_NoEntry) (.ref x_Full) = some false)
    (kt_Full_NoText : PySem.W.subIn K (.ref x_NoText) (.ref x_Full) = some false)
    (kt_Full_NoCommand : PySem.W.subIn K (.ref x_NoCommand) (.ref x_Full) = some false)
    (kd_HasPlace : PySem.W.hasDictIn K x_HasPlace = true)
    (ky_HasPlace : PySem.W.typeIn K (.ref x_HasPlace) = some (.type "type"))
    (ks_HasPlace : PySem.W.subIn K (.ref x_HasPlace) (.ref x_HasPlace) = some true)
    (kt_HasPlace_Wrong : PySem.W.subIn K (.ref x_Wrong) (.ref x_HasPlace) = some false)
    (kt_HasPlace_NoRow : PySem.W.subIn K (.ref x_NoRow) (.ref x_HasPlace) = some false)
    (kt_HasPlace_BadStep : PySem.W.subIn K (.ref x_BadStep) (.ref x_HasPlace) = some false)
    (kt_HasPlace_NoStep : PySem.W.subIn K (.ref x_NoStep) (.ref x_HasPlace) = some false)
    (kt_HasPlace_NotPicked : PySem.W.subIn K (.ref x_NotPicked) (.ref x_HasPlace) = some false)
    (kt_HasPlace_Stuck : PySem.W.subIn K (.ref x_Stuck) (.ref x_HasPlace) = some false)
    (kt_HasPlace_Stopped : PySem.W.subIn K (.ref x_Stopped) (.ref x_HasPlace) = some false)
    (kt_HasPlace_Closed : PySem.W.subIn K (.ref x_Closed) (.ref x_HasPlace) = some false)
    (kt_HasPlace_BadEdit : PySem.W.subIn K (.ref x_BadEdit) (.ref x_HasPlace) = some false)
    (kt_HasPlace_Unlike : PySem.W.subIn K (.ref x_Unlike) (.ref x_HasPlace) = some false)
    (kt_HasPlace_HasPlace : PySem.W.subIn K (.ref x_HasPlace) (.ref x_HasPlace) = some true)
    (kt_HasPlace_TooMany : PySem.W.subIn K (.ref x_TooMany) (.ref x_HasPlace) = some false)
    (kt_HasPlace_Nothing : PySem.W.subIn K (.ref x_Nothing) (.ref x_HasPlace) = some false)
    (kt_HasPlace_NoDeed : PySem.W.subIn K (.ref x_NoDeed) (.ref x_HasPlace) = some false)
    (kt_HasPlace_Full : PySem.W.subIn K (.ref x_Full) (.ref x_HasPlace) = some false)
    (kt_HasPlace_Refused : PySem.W.subIn K (.ref x_Refused) (.ref x_HasPlace) = some false)
    (kt_HasPlace_NoEntry : PySem.W.subIn K (.ref x_NoEntry) (.ref x_HasPlace) = some false)
    (kt_HasPlace_NoText : PySem.W.subIn K (.ref x_NoText) (.ref x_HasPlace) = some false)
    (kt_HasPlace_NoCommand : PySem.W.subIn K (.ref x_NoCommand) (.ref x_HasPlace) = some false)
    (kd_NoCommand : PySem.W.hasDictIn K x_NoCommand = true)
    (ky_NoCommand : PySem.W.typeIn K (.ref x_NoCommand) = some (.type "type"))
    (ks_NoCommand : PySem.W.subIn K (.ref x_NoCommand) (.ref x_NoCommand) = some true)
    (kt_NoCommand_Wrong : PySem.W.subIn K (.ref x_Wrong) (.ref x_NoCommand) = some false)
    (kt_NoCommand_NoRow : PySem.W.subIn K (.ref x_NoRow) (.ref x_NoCommand) = some false)
    (kt_NoCommand_BadStep : PySem.W.subIn K (.ref x_BadStep) (.ref x_NoCommand) = some false)
    (kt_NoCommand_NoStep : PySem.W.subIn K (.ref x_NoStep) (.ref x_NoCommand) = some false)
    (kt_NoCommand_NotPicked : PySem.W.subIn K (.ref x_NotPicked) (.ref x_NoCommand) = some false)
    (kt_NoCommand_Stuck : PySem.W.subIn K (.ref x_Stuck) (.ref x_NoCommand) = some false)
    (kt_NoCommand_Stopped : PySem.W.subIn K (.ref x_Stopped) (.ref x_NoCommand) = some false)
    (kt_NoCommand_Closed : PySem.W.subIn K (.ref x_Closed) (.ref x_NoCommand) = some false)
    (kt_NoCommand_BadEdit : PySem.W.subIn K (.ref x_BadEdit) (.ref x_NoCommand) = some false)
    (kt_NoCommand_Unlike : PySem.W.subIn K (.ref x_Unlike) (.ref x_NoCommand) = some false)
    (kt_NoCommand_HasPlace : PySem.W.subIn K (.ref x_HasPlace) (.ref x_NoCommand) = some false)
    (kt_NoCommand_TooMany : PySem.W.subIn K (.ref x_TooMany) (.ref x_NoCommand) = some false)
    (kt_NoCommand_Nothing : PySem.W.subIn K (.ref x_Nothing) (.ref x_NoCommand) = some false)
    (kt_NoCommand_NoDeed : PySem.W.subIn K (.ref x_NoDeed) (.ref x_NoCommand) = some false)
    (kt_NoCommand_Full : PySem.W.subIn K (.ref x_Full) (.ref x_NoCommand) = some false)
    (kt_NoCommand_Refused : PySem.W.subIn K (.ref x_Refused) (.ref x_NoCommand) = some false)
    (kt_NoCommand_NoEntry : PySem.W.subIn K (.ref x_NoEntry) (.ref x_NoCommand) = some false)
    (kt_NoCommand_NoText : PySem.W.subIn K (.ref x_NoText) (.ref x_NoCommand) = some false)
    (kt_NoCommand_NoCommand : PySem.W.subIn K (.ref x_NoCommand) (.ref x_NoCommand) = some true)
    (kd_NoDeed : PySem.W.hasDictIn K x_NoDeed = true)
    (ky_NoDeed : PySem.W.typeIn K (.ref x_NoDeed) = some (.type "type"))
    (ks_NoDeed : PySem.W.subIn K (.ref x_NoDeed) (.ref x_NoDeed) = some true)
    (kt_NoDeed_Wrong : PySem.W.subIn K (.ref x_Wrong) (.ref x_NoDeed) = some false)
    (kt_NoDeed_NoRow : PySem.W.subIn K (.ref x_NoRow) (.ref x_NoDeed) = some false)
    (kt_NoDeed_BadStep : PySem.W.subIn K (.ref x_BadStep) (.ref x_NoDeed) = some false)
    (kt_NoDeed_NoStep : PySem.W.subIn K (.ref x_NoStep) (.ref x_NoDeed) = some false)
    (kt_NoDeed_NotPicked : PySem.W.subIn K (.ref x_NotPicked) (.ref x_NoDeed) = some false)
    (kt_NoDeed_Stuck : PySem.W.subIn K (.ref x_Stuck) (.ref x_NoDeed) = some false)
    (kt_NoDeed_Stopped : PySem.W.subIn K (.ref x_Stopped) (.ref x_NoDeed) = some false)
    (kt_NoDeed_Closed : PySem.W.subIn K (.ref x_Closed) (.ref x_NoDeed) = some false)
    (kt_NoDeed_BadEdit : PySem.W.subIn K (.ref x_BadEdit) (.ref x_NoDeed) = some false)
    (kt_NoDeed_Unlike : PySem.W.subIn K (.ref x_Unlike) (.ref x_NoDeed) = some false)
    (kt_NoDeed_HasPlace : PySem.W.subIn K (.ref x_HasPlace) (.ref x_NoDeed) = some false)
    (kt_NoDeed_TooMany : PySem.W.subIn K (.ref x_TooMany) (.ref x_NoDeed) = some false)
    (kt_NoDeed_Nothing : PySem.W.subIn K (.ref x_Nothing) (.ref x_NoDeed) = some false)
    (kt_NoDeed_NoDeed : PySem.W.subIn K (.ref x_NoDeed) (.ref x_NoDeed) = some true)
    (kt_NoDeed_Full : PySem.W.subIn K (.ref x_Full) (.ref x_NoDeed) = some false)
    (kt_NoDeed_Refused : PySem.W.subIn K (.ref x_Refused) (.ref x_NoDeed) = some false)
    (kt_NoDeed_NoEntry : PySem.W.subIn K (.ref x_NoEntry) (.ref x_NoDeed) = some false)
    (kt_NoDeed_NoText : PySem.W.subIn K (.ref x_NoText) (.ref x_NoDeed) = some false)
    (kt_NoDeed_NoCommand : PySem.W.subIn K (.ref x_NoCommand) (.ref x_NoDeed) = some false)
    (kd_NoEntry : PySem.W.hasDictIn K x_NoEntry = true)
    (ky_NoEntry : PySem.W.typeIn K (.ref x_NoEntry) = some (.type "type"))
    (ks_NoEntry : PySem.W.subIn K (.ref x_NoEntry) (.ref x_NoEntry) = some true)
    (kt_NoEntry_Wrong : PySem.W.subIn K (.ref x_Wrong) (.ref x_NoEntry) = some false)
    (kt_NoEntry_NoRow : PySem.W.subIn K (.ref x_NoRow) (.ref x_NoEntry) = some false)
    (kt_NoEntry_BadStep : PySem.W.subIn K (.ref x_BadStep) (.ref x_NoEntry) = some false)
    (kt_NoEntry_NoStep : PySem.W.subIn K (.ref x_NoStep) (.ref x_NoEntry) = some false)
    (kt_NoEntry_NotPicked : PySem.W.subIn K (.ref x_NotPicked) (.ref x_NoEntry) = some false)
    (kt_NoEntry_Stuck : PySem.W.subIn K (.ref x_Stuck) (.ref x_NoEntry) = some false)
    (kt_NoEntry_Stopped : PySem.W.subIn K (.ref x_Stopped) (.ref x_NoEntry) = some false)
    (kt_NoEntry_Closed : PySem.W.subIn K (.ref x_Closed) (.ref x_NoEntry) = some false)
    (kt_NoEntry_BadEdit : PySem.W.subIn K (.ref x_BadEdit) (.ref x_NoEntry) = some false)
    (kt_NoEntry_Unlike : PySem.W.subIn K (.ref x_Unlike) (.ref x_NoEntry) = some false)
    (kt_NoEntry_HasPlace : PySem.W.subIn K (.ref x_HasPlace) (.ref x_NoEntry) = some false)
    (kt_NoEntry_TooMany : PySem.W.subIn K (.ref x_TooMany) (.ref x_NoEntry) = some false)
    (kt_NoEntry_Nothing : PySem.W.subIn K (.ref x_Nothing) (.ref x_NoEntry) = some false)
    (kt_NoEntry_NoDeed : PySem.W.subIn K (.ref x_NoDeed) (.ref x_NoEntry) = some false)
    (kt_NoEntry_Full : PySem.W.subIn K (.ref x_Full) (.ref x_NoEntry) = some false)
    (kt_NoEntry_Refused : PySem.W.subIn K (.ref x_Refused) (.ref x_NoEntry) = some false)
    (kt_NoEntry_NoEntry : PySem.W.subIn K (.ref x_NoEntry) (.ref x_NoEntry) = some true)
    (kt_NoEntry_NoText : PySem.W.subIn K (.ref x_NoText) (.ref x_NoEntry) = some false)
    (kt_NoEntry_NoCommand : PySem.W.subIn K (.ref x_NoCommand) (.ref x_NoEntry) = some false)
    (kd_NoRow : PySem.W.hasDictIn K x_NoRow = true)
    (ky_NoRow : PySem.W.typeIn K (.ref x_NoRow) = some (.type "type"))
    (ks_NoRow : PySem.W.subIn K (.ref x_NoRow) (.ref x_NoRow) = some true)
    (kt_NoRow_Wrong : PySem.W.subIn K (.ref x_Wrong) (.ref x_NoRow) = some false)
    (kt_NoRow_NoRow : PySem.W.subIn K (.ref x_NoRow) (.ref x_NoRow) = some true)
    (kt_NoRow_BadStep : PySem.W.subIn K (.ref x_BadStep) (.ref x_NoRow) = some false)
    (kt_NoRow_NoStep : PySem.W.subIn K (.ref x_NoStep) (.ref x_NoRow) = some false)
    (kt_NoRow_NotPicked : PySem.W.subIn K (.ref x_NotPicked) (.ref x_NoRow) = some false)
    (kt_NoRow_Stuck : PySem.W.subIn K (.ref x_Stuck) (.ref x_NoRow) = some false)
    (kt_NoRow_Stopped : PySem.W.subIn K (.ref x_Stopped) (.ref x_NoRow) = some false)
    (kt_NoRow_Closed : PySem.W.subIn K (.ref x_Closed) (.ref x_NoRow) = some false)
    (kt_NoRow_BadEdit : PySem.W.subIn K (.ref x_BadEdit) (.ref x_NoRow) = some false)
    (kt_NoRow_Unlike : PySem.W.subIn K (.ref x_Unlike) (.ref x_NoRow) = some false)
    (kt_NoRow_HasPlace : PySem.W.subIn K (.ref x_HasPlace) (.ref x_NoRow) = some false)
    (kt_NoRow_TooMany : PySem.W.subIn K (.ref x_TooMany) (.ref x_NoRow) = some false)
    (kt_NoRow_Nothing : PySem.W.subIn K (.ref x_Nothing) (.ref x_NoRow) = some false)
    (kt_NoRow_NoDeed : PySem.W.subIn K (.ref x_NoDeed) (.ref x_NoRow) = some false)
    (kt_NoRow_Full : PySem.W.subIn K (.ref x_Full) (.ref x_NoRow) = some false)
    (kt_NoRow_Refused : PySem.W.subIn K (.ref x_Refused) (.ref x_NoRow) = some false)
    (kt_NoRow_NoEntry : PySem.W.subIn K (.ref x_NoEntry) (.ref x_NoRow) = some false)
    (kt_NoRow_NoText : PySem.W.subIn K (.ref x_NoText) (.ref x_NoRow) = some false)
    (kt_NoRow_NoCommand : PySem.W.subIn K (.ref x_NoCommand) (.ref x_NoRow) = some false)
    (kd_NoStep : PySem.W.hasDictIn K x_NoStep = true)
    (ky_NoStep : PySem.W.typeIn K (.ref x_NoStep) = some (.type "type"))
    (ks_NoStep : PySem.W.subIn K (.ref x_NoStep) (.ref x_NoStep) = some true)
    (kt_NoStep_Wrong : PySem.W.subIn K (.ref x_Wrong) (.ref x_NoStep) = some false)
    (kt_NoStep_NoRow : PySem.W.subIn K (.ref x_NoRow) (.ref x_NoStep) = some false)
    (kt_NoStep_BadStep : PySem.W.subIn K (.ref x_BadStep) (.ref x_NoStep) = some false)
    (kt_NoStep_NoStep : PySem.W.subIn K (.ref x_NoStep) (.ref x_NoStep) = some true)
    (kt_NoStep_NotPicked : PySem.W.subIn K (.ref x_NotPicked) (.ref x_NoStep) = some false)
    (kt_NoStep_Stuck : PySem.W.subIn K (.ref x_Stuck) (.ref x_NoStep) = some false)
    (kt_NoStep_Stopped : PySem.W.subIn K (.ref x_Stopped) (.ref x_NoStep) = some false)
    (kt_NoStep_Closed : PySem.W.subIn K (.ref x_Closed) (.ref x_NoStep) = some false)
    (kt_NoStep_BadEdit : PySem.W.subIn K (.ref x_BadEdit) (.ref x_NoStep) = some false)
    (kt_NoStep_Unlike : PySem.W.subIn K (.ref x_Unlike) (.ref x_NoStep) = some false)
    (kt_NoStep_HasPlace : PySem.W.subIn K (.ref x_HasPlace) (.ref x_NoStep) = some false)
    (kt_NoStep_TooMany : PySem.W.subIn K (.ref x_TooMany) (.ref x_NoStep) = some false)
    (kt_NoStep_Nothing : PySem.W.subIn K (.ref x_Nothing) (.ref x_NoStep) = some false)
    (kt_NoStep_NoDeed : PySem.W.subIn K (.ref x_NoDeed) (.ref x_NoStep) = some false)
    (kt_NoStep_Full : PySem.W.subIn K (.ref x_Full) (.ref x_NoStep) = some false)
    (kt_NoStep_Refused : PySem.W.subIn K (.ref x_Refused) (.ref x_NoStep) = some false)
    (kt_NoStep_NoEntry : PySem.W.subIn K (.ref x_NoEntry) (.ref x_NoStep) = some false)
    (kt_NoStep_NoText : PySem.W.subIn K (.ref x_NoText) (.ref x_NoStep) = some false)
    (kt_NoStep_NoCommand : PySem.W.subIn K (.ref x_NoCommand) (.ref x_NoStep) = some false)
    (kd_NoText : PySem.W.hasDictIn K x_NoText = true)
    (ky_NoText : PySem.W.typeIn K (.ref x_NoText) = some (.type "type"))
    (ks_NoText : PySem.W.subIn K (.ref x_NoText) (.ref x_NoText) = some true)
    (kt_NoText_Wrong : PySem.W.subIn K (.ref x_Wrong) (.ref x_NoText) = some false)
    (kt_NoText_NoRow : PySem.W.subIn K (.ref x_NoRow) (.ref x_NoText) = some false)
    (kt_NoText_BadStep : PySem.W.subIn K (.ref x_BadStep) (.ref x_NoText) = some false)
    (kt_NoText_NoStep : PySem.W.subIn K (.ref x_NoStep) (.ref x_NoText) = some false)
    (kt_NoText_NotPicked : PySem.W.subIn K (.ref x_NotPicked) (.ref x_NoText) = some false)
    (kt_NoText_Stuck : PySem.W.subIn K (.ref x_Stuck) (.ref x_NoText) = some false)
    (kt_NoText_Stopped : PySem.W.subIn K (.ref x_Stopped) (.ref x_NoText) = some false)
    (kt_NoText_Closed : PySem.W.subIn K (.ref x_Closed) (.ref x_NoText) = some false)
    (kt_NoText_BadEdit : PySem.W.subIn K (.ref x_BadEdit) (.ref x_NoText) = some false)
    (kt_NoText_Unlike : PySem.W.subIn K (.ref x_Unlike) (.ref x_NoText) = some false)
    (kt_NoText_HasPlace : PySem.W.subIn K (.ref x_HasPlace) (.ref x_NoText) = some false)
    (kt_NoText_TooMany : PySem.W.subIn K (.ref x_TooMany) (.ref x_NoText) = some false)
    (kt_NoText_Nothing : PySem.W.subIn K (.ref x_Nothing) (.ref x_NoText) = some false)
    (kt_NoText_NoDeed : PySem.W.subIn K (.ref x_NoDeed) (.ref x_NoText) = some false)
    (kt_NoText_Full : PySem.W.subIn K (.ref x_Full) (.ref x_NoText) = some false)
    (kt_NoText_Refused : PySem.W.subIn K (.ref x_Refused) (.ref x_NoText) = some false)
    (kt_NoText_NoEntry : PySem.W.subIn K (.ref x_NoEntry) (.ref x_NoText) = some false)
    (kt_NoText_NoText : PySem.W.subIn K (.ref x_NoText) (.ref x_NoText) = some true)
    (kt_NoText_NoCommand : PySem.W.subIn K (.ref x_NoCommand) (.ref x_NoText) = some false)
    (kd_NotPicked : PySem.W.hasDictIn K x_NotPicked = true)
    (ky_NotPicked : PySem.W.typeIn K (.ref x_NotPicked) = some (.type "type"))
    (ks_NotPicked : PySem.W.subIn K (.ref x_NotPicked) (.ref x_NotPicked) = some true)
    (kt_NotPicked_Wrong : PySem.W.subIn K (.ref x_Wrong) (.ref x_NotPicked) = some false)
    (kt_NotPicked_NoRow : PySem.W.subIn K (.ref x_NoRow) (.ref x_NotPicked) = some false)
    (kt_NotPicked_BadStep : PySem.W.subIn K (.ref x_BadStep) (.ref x_NotPicked) = some false)
    (kt_NotPicked_NoStep : PySem.W.subIn K (.ref x_NoStep) (.ref x_NotPicked) = some false)
    (kt_NotPicked_NotPicked : PySem.W.subIn K (.ref x_NotPicked) (.ref x_NotPicked) = some true)
    (kt_NotPicked_Stuck : PySem.W.subIn K (.ref x_Stuck) (.ref x_NotPicked) = some false)
    (kt_NotPicked_Stopped : PySem.W.subIn K (.ref x_Stopped) (.ref x_NotPicked) = some false)
    (kt_NotPicked_Closed : PySem.W.subIn K (.ref x_Closed) (.ref x_NotPicked) = some false)
    (kt_NotPicked_BadEdit : PySem.W.subIn K (.ref x_BadEdit) (.ref x_NotPicked) = some false)
    (kt_NotPicked_Unlike : PySem.W.subIn K (.ref x_Unlike) (.ref x_NotPicked) = some false)
    (kt_NotPicked_HasPlace : PySem.W.subIn K (.ref x_HasPlace) (.ref x_NotPicked) = some false)
    (kt_NotPicked_TooMany : PySem.W.subIn K (.ref x_TooMany) (.ref x_NotPicked) = some false)
    (kt_NotPicked_Nothing : PySem.W.subIn K (.ref x_Nothing) (.ref x_NotPicked) = some false)
    (kt_NotPicked_NoDeed : PySem.W.subIn K (.ref x_NoDeed) (.ref x_NotPicked) = some false)
    (kt_NotPicked_Full : PySem.W.subIn K (.ref x_Full) (.ref x_NotPicked) = some false)
    (kt_NotPicked_Refused : PySem.W.subIn K (.ref x_Refused) (.ref x_NotPicked) = some false)
    (kt_NotPicked_NoEntry : PySem.W.subIn K (.ref x_NoEntry) (.ref x_NotPicked) = some false)
    (kt_NotPicked_NoText : PySem.W.subIn K (.ref x_NoText) (.ref x_NotPicked) = some false)
    (kt_NotPicked_NoCommand : PySem.W.subIn K (.ref x_NoCommand) (.ref x_NotPicked) = some false)
    (kd_Nothing : PySem.W.hasDictIn K x_Nothing = true)
    (ky_Nothing : PySem.W.typeIn K (.ref x_Nothing) = some (.type "type"))
    (ks_Nothing : PySem.W.subIn K (.ref x_Nothing) (.ref x_Nothing) = some true)
    (kt_Nothing_Wrong : PySem.W.subIn K (.ref x_Wrong) (.ref x_Nothing) = some false)
    (kt_Nothing_NoRow : PySem.W.subIn K (.ref x_NoRow) (.ref x_Nothing) = some false)
    (kt_Nothing_BadStep : PySem.W.subIn K (.ref x_BadStep) (.ref x_Nothing) = some false)
    (kt_Nothing_NoStep : PySem.W.subIn K (.ref x_NoStep) (.ref x_Nothing) = some false)
    (kt_Nothing_NotPicked : PySem.W.subIn K (.ref x_NotPicked) (.ref x_Nothing) = some false)
    (kt_Nothing_Stuck : PySem.W.subIn K (.ref x_Stuck) (.ref x_Nothing) = some false)
    (kt_Nothing_Stopped : PySem.W.subIn K (.ref x_Stopped) (.ref x_Nothing) = some false)
    (kt_Nothing_Closed : PySem.W.subIn K (.ref x_Closed) (.ref x_Nothing) = some false)
    (kt_Nothing_BadEdit : PySem.W.subIn K (.ref x_BadEdit) (.ref x_Nothing) = some false)
    (kt_Nothing_Unlike : PySem.W.subIn K (.ref x_Unlike) (.ref x_Nothing) = some false)
    (kt_Nothing_HasPlace : PySem.W.subIn K (.ref x_HasPlace) (.ref x_Nothing) = some false)
    (kt_Nothing_TooMany : PySem.W.subIn K (.ref x_TooMany) (.ref x_Nothing) = some false)
    (kt_Nothing_Nothing : PySem.W.subIn K (.ref x_Nothing) (.ref x_Nothing) = some true)
    (kt_Nothing_NoDeed : PySem.W.subIn K (.ref x_NoDeed) (.ref x_Nothing) = some false)
    (kt_Nothing_Full : PySem.W.subIn K (.ref x_Full) (.ref x_Nothing) = some false)
    (kt_Nothing_Refused : PySem.W.subIn K (.ref x_Refused) (.ref x_Nothing) = some false)
    (kt_Nothing_NoEntry : PySem.W.subIn K (.ref x_NoEntry) (.ref x_Nothing) = some false)
    (kt_Nothing_NoText : PySem.W.subIn K (.ref x_NoText) (.ref x_Nothing) = some false)
    (kt_Nothing_NoCommand : PySem.W.subIn K (.ref x_NoCommand) (.ref x_Nothing) = some false)
    (kd_Refused : PySem.W.hasDictIn K x_Refused = true)
    (ky_Refused : PySem.W.typeIn K (.ref x_Refused) = some (.type "type"))
    (ks_Refused : PySem.W.subIn K (.ref x_Refused) (.ref x_Refused) = some true)
    (kt_Refused_Wrong : PySem.W.subIn K (.ref x_Wrong) (.ref x_Refused) = some false)
    (kt_Refused_NoRow : PySem.W.subIn K (.ref x_NoRow) (.ref x_Refused) = some false)
    (kt_Refused_BadStep : PySem.W.subIn K (.ref x_BadStep) (.ref x_Refused) = some false)
    (kt_Refused_NoStep : PySem.W.subIn K (.ref x_NoStep) (.ref x_Refused) = some false)
    (kt_Refused_NotPicked : PySem.W.subIn K (.ref x_NotPicked) (.ref x_Refused) = some false)
    (kt_Refused_Stuck : PySem.W.subIn K (.ref x_Stuck) (.ref x_Refused) = some false)
    (kt_Refused_Stopped : PySem.W.subIn K (.ref x_Stopped) (.ref x_Refused) = some false)
    (kt_Refused_Closed : PySem.W.subIn K (.ref x_Closed) (.ref x_Refused) = some false)
    (kt_Refused_BadEdit : PySem.W.subIn K (.ref x_BadEdit) (.ref x_Refused) = some false)
    (kt_Refused_Unlike : PySem.W.subIn K (.ref x_Unlike) (.ref x_Refused) = some false)
    (kt_Refused_HasPlace : PySem.W.subIn K (.ref x_HasPlace) (.ref x_Refused) = some false)
    (kt_Refused_TooMany : PySem.W.subIn K (.ref x_TooMany) (.ref x_Refused) = some false)
    (kt_Refused_Nothing : PySem.W.subIn K (.ref x_Nothing) (.ref x_Refused) = some false)
    (kt_Refused_NoDeed : PySem.W.subIn K (.ref x_NoDeed) (.ref x_Refused) = some false)
    (kt_Refused_Full : PySem.W.subIn K (.ref x_Full) (.ref x_Refused) = some false)
    (kt_Refused_Refused : PySem.W.subIn K (.ref x_Refused) (.ref x_Refused) = some true)
    (kt_Refused_NoEntry : PySem.W.subIn K (.ref x_NoEntry) (.ref x_Refused) = some false)
    (kt_Refused_NoText : PySem.W.subIn K (.ref x_NoText) (.ref x_Refused) = some false)
    (kt_Refused_NoCommand : PySem.W.subIn K (.ref x_NoCommand) (.ref x_Refused) = some false)
    (kd_Stopped : PySem.W.hasDictIn K x_Stopped = true)
    (ky_Stopped : PySem.W.typeIn K (.ref x_Stopped) = some (.type "type"))
    (ks_Stopped : PySem.W.subIn K (.ref x_Stopped) (.ref x_Stopped) = some true)
    (kt_Stopped_Wrong : PySem.W.subIn K (.ref x_Wrong) (.ref x_Stopped) = some false)
    (kt_Stopped_NoRow : PySem.W.subIn K (.ref x_NoRow) (.ref x_Stopped) = some false)
    (kt_Stopped_BadStep : PySem.W.subIn K (.ref x_BadStep) (.ref x_Stopped) = some false)
    (kt_Stopped_NoStep : PySem.W.subIn K (.ref x_NoStep) (.ref x_Stopped) = some false)
    (kt_Stopped_NotPicked : PySem.W.subIn K (.ref x_NotPicked) (.ref x_Stopped) = some false)
    (kt_Stopped_Stuck : PySem.W.subIn K (.ref x_Stuck) (.ref x_Stopped) = some false)
    (kt_Stopped_Stopped : PySem.W.subIn K (.ref x_Stopped) (.ref x_Stopped) = some true)
    (kt_Stopped_Closed : PySem.W.subIn K (.ref x_Closed) (.ref x_Stopped) = some false)
    (kt_Stopped_BadEdit : PySem.W.subIn K (.ref x_BadEdit) (.ref x_Stopped) = some false)
    (kt_Stopped_Unlike : PySem.W.subIn K (.ref x_Unlike) (.ref x_Stopped) = some false)
    (kt_Stopped_HasPlace : PySem.W.subIn K (.ref x_HasPlace) (.ref x_Stopped) = some false)
    (kt_Stopped_TooMany : PySem.W.subIn K (.ref x_TooMany) (.ref x_Stopped) = some false)
    (kt_Stopped_Nothing : PySem.W.subIn K (.ref x_Nothing) (.ref x_Stopped) = some false)
    (kt_Stopped_NoDeed : PySem.W.subIn K (.ref x_NoDeed) (.ref x_Stopped) = some false)
    (kt_Stopped_Full : PySem.W.subIn K (.ref x_Full) (.ref x_Stopped) = some false)
    (kt_Stopped_Refused : PySem.W.subIn K (.ref x_Refused) (.ref x_Stopped) = some false)
    (kt_Stopped_NoEntry : PySem.W.subIn K (.ref x_NoEntry) (.ref x_Stopped) = some false)
    (kt_Stopped_NoText : PySem.W.subIn K (.ref x_NoText) (.ref x_Stopped) = some false)
    (kt_Stopped_NoCommand : PySem.W.subIn K (.ref x_NoCommand) (.ref x_Stopped) = some false)
    (kd_Stuck : PySem.W.hasDictIn K x_Stuck = true)
    (ky_Stuck : PySem.W.typeIn K (.ref x_Stuck) = some (.type "type"))
    (ks_Stuck : PySem.W.subIn K (.ref x_Stuck) (.ref x_Stuck) = some true)
    (kt_Stuck_Wrong : PySem.W.subIn K (.ref x_Wrong) (.ref x_Stuck) = some false)
    (kt_Stuck_NoRow : PySem.W.subIn K (.ref x_NoRow) (.ref x_Stuck) = some false)
    (kt_Stuck_BadStep : PySem.W.subIn K (.ref x_BadStep) (.ref x_Stuck) = some false)
    (kt_Stuck_NoStep : PySem.W.subIn K (.ref x_NoStep) (.ref x_Stuck) = some false)
    (kt_Stuck_NotPicked : PySem.W.subIn K (.ref x_NotPicked) (.ref x_Stuck) = some false)
    (kt_Stuck_Stuck : PySem.W.subIn K (.ref x_Stuck) (.ref x_Stuck) = some true)
    (kt_Stuck_Stopped : PySem.W.subIn K (.ref x_Stopped) (.ref x_Stuck) = some false)
    (kt_Stuck_Closed : PySem.W.subIn K (.ref x_Closed) (.ref x_Stuck) = some false)
    (kt_Stuck_BadEdit : PySem.W.subIn K (.ref x_BadEdit) (.ref x_Stuck) = some false)
    (kt_Stuck_Unlike : PySem.W.subIn K (.ref x_Unlike) (.ref x_Stuck) = some false)
    (kt_Stuck_HasPlace : PySem.W.subIn K (.ref x_HasPlace) (.ref x_Stuck) = some false)
    (kt_Stuck_TooMany : PySem.W.subIn K (.ref x_TooMany) (.ref x_Stuck) = some false)
    (kt_Stuck_Nothing : PySem.W.subIn K (.ref x_Nothing) (.ref x_Stuck) = some false)
    (kt_Stuck_NoDeed : PySem.W.subIn K (.ref x_NoDeed) (.ref x_Stuck) = some false)
    (kt_Stuck_Full : PySem.W.subIn K (.ref x_Full) (.ref x_Stuck) = some false)
    (kt_Stuck_Refused : PySem.W.subIn K (.ref x_Refused) (.ref x_Stuck) = some false)
    (kt_Stuck_NoEntry : PySem.W.subIn K (.ref x_NoEntry) (.ref x_Stuck) = some false)
    (kt_Stuck_NoText : PySem.W.subIn K (.ref x_NoText) (.ref x_Stuck) = some false)
    (kt_Stuck_NoCommand : PySem.W.subIn K (.ref x_NoCommand) (.ref x_Stuck) = some false)
    (kd_TooMany : PySem.W.hasDictIn K x_TooMany = true)
    (ky_TooMany : PySem.W.typeIn K (.ref x_TooMany) = some (.type "type"))
    (ks_TooMany : PySem.W.subIn K (.ref x_TooMany) (.ref x_TooMany) = some true)
    (kt_TooMany_Wrong : PySem.W.subIn K (.ref x_Wrong) (.ref x_TooMany) = some false)
    (kt_TooMany_NoRow : PySem.W.subIn K (.ref x_NoRow) (.ref x_TooMany) = some false)
    (kt_TooMany_BadStep : PySem.W.subIn K (.ref x_BadStep) (.ref x_TooMany) = some false)
    (kt_TooMany_NoStep : PySem.W.subIn K (.ref x_NoStep) (.ref x_TooMany) = some false)
    (kt_TooMany_NotPicked : PySem.W.subIn K (.ref x_NotPicked) (.ref x_TooMany) = some false)
    (kt_TooMany_Stuck : PySem.W.subIn K (.ref x_Stuck) (.ref x_TooMany) = some false)
    (kt_TooMany_Stopped : PySem.W.subIn K (.ref x_Stopped) (.ref x_TooMany) = some false)
    (kt_TooMany_Closed : PySem.W.subIn K (.ref x_Closed) (.ref x_TooMany) = some false)
    (kt_TooMany_BadEdit : PySem.W.subIn K (.ref x_BadEdit) (.ref x_TooMany) = some false)
    (kt_TooMany_Unlike : PySem.W.subIn K (.ref x_Unlike) (.ref x_TooMany) = some false)
    (kt_TooMany_HasPlace : PySem.W.subIn K (.ref x_HasPlace) (.ref x_TooMany) = some false)
    (kt_TooMany_TooMany : PySem.W.subIn K (.ref x_TooMany) (.ref x_TooMany) = some true)
    (kt_TooMany_Nothing : PySem.W.subIn K (.ref x_Nothing) (.ref x_TooMany) = some false)
    (kt_TooMany_NoDeed : PySem.W.subIn K (.ref x_NoDeed) (.ref x_TooMany) = some false)
    (kt_TooMany_Full : PySem.W.subIn K (.ref x_Full) (.ref x_TooMany) = some false)
    (kt_TooMany_Refused : PySem.W.subIn K (.ref x_Refused) (.ref x_TooMany) = some false)
    (kt_TooMany_NoEntry : PySem.W.subIn K (.ref x_NoEntry) (.ref x_TooMany) = some false)
    (kt_TooMany_NoText : PySem.W.subIn K (.ref x_NoText) (.ref x_TooMany) = some false)
    (kt_TooMany_NoCommand : PySem.W.subIn K (.ref x_NoCommand) (.ref x_TooMany) = some false)
    (kd_Unlike : PySem.W.hasDictIn K x_Unlike = true)
    (ky_Unlike : PySem.W.typeIn K (.ref x_Unlike) = some (.type "type"))
    (ks_Unlike : PySem.W.subIn K (.ref x_Unlike) (.ref x_Unlike) = some true)
    (kt_Unlike_Wrong : PySem.W.subIn K (.ref x_Wrong) (.ref x_Unlike) = some false)
    (kt_Unlike_NoRow : PySem.W.subIn K (.ref x_NoRow) (.ref x_Unlike) = some false)
    (kt_Unlike_BadStep : PySem.W.subIn K (.ref x_BadStep) (.ref x_Unlike) = some false)
    (kt_Unlike_NoStep : PySem.W.subIn K (.ref x_NoStep) (.ref x_Unlike) = some false)
    (kt_Unlike_NotPicked : PySem.W.subIn K (.ref x_NotPicked) (.ref x_Unlike) = some false)
    (kt_Unlike_Stuck : PySem.W.subIn K (.ref x_Stuck) (.ref x_Unlike) = some false)
    (kt_Unlike_Stopped : PySem.W.subIn K (.ref x_Stopped) (.ref x_Unlike) = some false)
    (kt_Unlike_Closed : PySem.W.subIn K (.ref x_Closed) (.ref x_Unlike) = some false)
    (kt_Unlike_BadEdit : PySem.W.subIn K (.ref x_BadEdit) (.ref x_Unlike) = some false)
    (kt_Unlike_Unlike : PySem.W.subIn K (.ref x_Unlike) (.ref x_Unlike) = some true)
    (kt_Unlike_HasPlace : PySem.W.subIn K (.ref x_HasPlace) (.ref x_Unlike) = some false)
    (kt_Unlike_TooMany : PySem.W.subIn K (.ref x_TooMany) (.ref x_Unlike) = some false)
    (kt_Unlike_Nothing : PySem.W.subIn K (.ref x_Nothing) (.ref x_Unlike) = some false)
    (kt_Unlike_NoDeed : PySem.W.subIn K (.ref x_NoDeed) (.ref x_Unlike) = some false)
    (kt_Unlike_Full : PySem.W.subIn K (.ref x_Full) (.ref x_Unlike) = some false)
    (kt_Unlike_Refused : PySem.W.subIn K (.ref x_Refused) (.ref x_Unlike) = some false)
    (kt_Unlike_NoEntry : PySem.W.subIn K (.ref x_NoEntry) (.ref x_Unlike) = some false)
    (kt_Unlike_NoText : PySem.W.subIn K (.ref x_NoText) (.ref x_Unlike) = some false)
    (kt_Unlike_NoCommand : PySem.W.subIn K (.ref x_NoCommand) (.ref x_Unlike) = some false)
    (kd_Wrong : PySem.W.hasDictIn K x_Wrong = true)
    (ky_Wrong : PySem.W.typeIn K (.ref x_Wrong) = some (.type "type"))
    (ks_Wrong : PySem.W.subIn K (.ref x_Wrong) (.ref x_Wrong) = some true)
    (kt_Wrong_Wrong : PySem.W.subIn K (.ref x_Wrong) (.ref x_Wrong) = some true)
    (kt_Wrong_NoRow : PySem.W.subIn K (.ref x_NoRow) (.ref x_Wrong) = some false)
    (kt_Wrong_BadStep : PySem.W.subIn K (.ref x_BadStep) (.ref x_Wrong) = some false)
    (kt_Wrong_NoStep : PySem.W.subIn K (.ref x_NoStep) (.ref x_Wrong) = some false)
    (kt_Wrong_NotPicked : PySem.W.subIn K (.ref x_NotPicked) (.ref x_Wrong) = some false)
    (kt_Wrong_Stuck : PySem.W.subIn K (.ref x_Stuck) (.ref x_Wrong) = some false)
    (kt_Wrong_Stopped : PySem.W.subIn K (.ref x_Stopped) (.ref x_Wrong) = some false)
    (kt_Wrong_Closed : PySem.W.subIn K (.ref x_Closed) (.ref x_Wrong) = some false)
    (kt_Wrong_BadEdit : PySem.W.subIn K (.ref x_BadEdit) (.ref x_Wrong) = some false)
    (kt_Wrong_Unlike : PySem.W.subIn K (.ref x_Unlike) (.ref x_Wrong) = some false)
    (kt_Wrong_HasPlace : PySem.W.subIn K (.ref x_HasPlace) (.ref x_Wrong) = some false)
    (kt_Wrong_TooMany : PySem.W.subIn K (.ref x_TooMany) (.ref x_Wrong) = some false)
    (kt_Wrong_Nothing : PySem.W.subIn K (.ref x_Nothing) (.ref x_Wrong) = some false)
    (kt_Wrong_NoDeed : PySem.W.subIn K (.ref x_NoDeed) (.ref x_Wrong) = some false)
    (kt_Wrong_Full : PySem.W.subIn K (.ref x_Full) (.ref x_Wrong) = some false)
    (kt_Wrong_Refused : PySem.W.subIn K (.ref x_Refused) (.ref x_Wrong) = some false)
    (kt_Wrong_NoEntry : PySem.W.subIn K (.ref x_NoEntry) (.ref x_Wrong) = some false)
    (kt_Wrong_NoText : PySem.W.subIn K (.ref x_NoText) (.ref x_Wrong) = some false)
    (kt_Wrong_NoCommand : PySem.W.subIn K (.ref x_NoCommand) (.ref x_Wrong) = some false)
    (kb_ValueError_Wrong : PySem.W.kitOne K (.ref x_Wrong) (.type "ValueError") = some true)
    (kb_ValueError_NoRow : PySem.W.kitOne K (.ref x_NoRow) (.type "ValueError") = some true)
    (kb_ValueError_BadStep : PySem.W.kitOne K (.ref x_BadStep) (.type "ValueError") = some true)
    (kb_ValueError_NoStep : PySem.W.kitOne K (.ref x_NoStep) (.type "ValueError") = some true)
    (kb_ValueError_NotPicked : PySem.W.kitOne K (.ref x_NotPicked) (.type "ValueError") = some true)
    (kb_ValueError_Stuck : PySem.W.kitOne K (.ref x_Stuck) (.type "ValueError") = some true)
    (kb_ValueError_Stopped : PySem.W.kitOne K (.ref x_Stopped) (.type "ValueError") = some true)
    (kb_ValueError_Closed : PySem.W.kitOne K (.ref x_Closed) (.type "ValueError") = some true)
    (kb_ValueError_BadEdit : PySem.W.kitOne K (.ref x_BadEdit) (.type "ValueError") = some true)
    (kb_ValueError_Unlike : PySem.W.kitOne K (.ref x_Unlike) (.type "ValueError") = some true)
    (kb_ValueError_HasPlace : PySem.W.kitOne K (.ref x_HasPlace) (.type "ValueError") = some true)
    (kb_ValueError_TooMany : PySem.W.kitOne K (.ref x_TooMany) (.type "ValueError") = some true)
    (kb_ValueError_Nothing : PySem.W.kitOne K (.ref x_Nothing) (.type "ValueError") = some true)
    (kb_ValueError_NoDeed : PySem.W.kitOne K (.ref x_NoDeed) (.type "ValueError") = some true)
    (kb_ValueError_Full : PySem.W.kitOne K (.ref x_Full) (.type "ValueError") = some true)
    (kb_ValueError_Refused : PySem.W.kitOne K (.ref x_Refused) (.type "ValueError") = some true)
    (kb_ValueError_NoEntry : PySem.W.kitOne K (.ref x_NoEntry) (.type "ValueError") = some true)
    (kb_ValueError_NoText : PySem.W.kitOne K (.ref x_NoText) (.type "ValueError") = some true)
    (kb_ValueError_NoCommand : PySem.W.kitOne K (.ref x_NoCommand) (.type "ValueError") = some true)
    (nz : noZ K = true)
    (z_ValueError : PySem.W.nsIn K mainGlobals "ValueError" = some none)
    (z_abs : PySem.W.nsIn K mainGlobals "abs" = some none)
    (z_int : PySem.W.nsIn K mainGlobals "int" = some none)
    (z_isinstance : PySem.W.nsIn K mainGlobals "isinstance" = some none)
    (z_len : PySem.W.nsIn K mainGlobals "len" = some none)
    (z_range : PySem.W.nsIn K mainGlobals "range" = some none) :
    ∃ fd : FuncData, (∀ (s : Shared) (v : Value), BindsTo s fd ⟨[v], []⟩ [("_law_script", v)]) ∧ ∀ base : Heap, K.In base → base.Ns mainGlobals mg → SysAt base → FnG l.prog w K mg base CX0 5 fz fd ["_law_script"] (spP K 1 f_law) := by
  have ez := hfz.symm.trans (PySem.W.mg_of inK ns a10)
  cases ez
  have F1 := fun_mk (st := s__law_bag) l1 c1 k1
  have F2 := fun_mk (st := s__law_raised_too) l2 c2 k2
  have F3 := fun_mk (st := s__law_raised) l3 c3 k3
  have F4 := fun_mk (st := s__law_flags) l4 c4 k4
  have F5 := fun_mk (st := s__law_field) l5 c5 k5
  have F6 := fun_mk (st := s__law_right) l6 c6 k6
  have F7 := fun_mk (st := s__law_take) l7 c7 k7
  have F8 := fun_mk (st := s__law_some) l8 c8 k8
  have F9 := fun_mk (st := s__law_odd) l9 c9 k9
  have F10 := fun_mk (st := s_law) l10 c10 k10
  refine ⟨PySem.W.fnOf "law" "law" (defArgs s_law) (defBody s_law) (defScope s_law) .none kV10 dc10 pm10 an10 cd10 ct10, fun s v => .of_eq rfl, fun base _ _ sy => ?_⟩
  have fa : Fa K w mg base := {
    sy := sy,
    C_BadEdit := x_BadEdit,
    mc_BadEdit := PySem.W.mg_of inK ns ea_BadEdit,
    C_BadStep := x_BadStep,
    mc_BadStep := PySem.W.mg_of inK ns ea_BadStep,
    C_Closed := x_Closed,
    mc_Closed := PySem.W.mg_of inK ns ea_Closed,
    C_Full := x_Full,
    mc_Full := PySem.W.mg_of inK ns ea_Full,
    C_HasPlace := x_HasPlace,
    mc_HasPlace := PySem.W.mg_of inK ns ea_HasPlace,
    C_NoCommand := x_NoCommand,
    mc_NoCommand := PySem.W.mg_of inK ns ea_NoCommand,
    C_NoDeed := x_NoDeed,
    mc_NoDeed := PySem.W.mg_of inK ns ea_NoDeed,
    C_NoEntry := x_NoEntry,
    mc_NoEntry := PySem.W.mg_of inK ns ea_NoEntry,
    C_NoRow := x_NoRow,
    mc_NoRow := PySem.W.mg_of inK ns ea_NoRow,
    C_NoStep := x_NoStep,
    mc_NoStep := PySem.W.mg_of inK ns ea_NoStep,
    C_NoText := x_NoText,
    mc_NoText := PySem.W.mg_of inK ns ea_NoText,
    C_NotPicked := x_NotPicked,
    mc_NotPicked := PySem.W.mg_of inK ns ea_NotPicked,
    C_Nothing := x_Nothing,
    mc_Nothing := PySem.W.mg_of inK ns ea_Nothing,
    C_PickError := x_PickError,
    mc_PickError := PySem.W.mg_of inK ns ea_PickError,
    C_Refused := x_Refused,
    mc_Refused := PySem.W.mg_of inK ns ea_Refused,
    C_Stopped := x_Stopped,
    mc_Stopped := PySem.W.mg_of inK ns ea_Stopped,
    C_Stuck := x_Stuck,
    mc_Stuck := PySem.W.mg_of inK ns ea_Stuck,
    C_TooMany := x_TooMany,
    mc_TooMany := PySem.W.mg_of inK ns ea_TooMany,
    C_Unlike := x_Unlike,
    mc_Unlike := PySem.W.mg_of inK ns ea_Unlike,
    C_Wrong := x_Wrong,
    mc_Wrong := PySem.W.mg_of inK ns ea_Wrong,
    ct_PickError := ct_of (fun p hp => by
      simp only [tb_PickError, List.mem_cons, List.not_mem_nil, or_false] at hp
      rcases hp with rfl | rfl | rfl | rfl | rfl | rfl | rfl | rfl | rfl | rfl | rfl | rfl | rfl | rfl | rfl | rfl | rfl | rfl | rfl
      · exact ⟨x_Wrong, ea_Wrong, PySem.W.exm_ref tc_PickError td_PickError tt_PickError ts_PickError_Wrong⟩
      · exact ⟨x_NoRow, ea_NoRow, PySem.W.exm_ref tc_PickError td_PickError tt_PickError ts_PickError_NoRow⟩
      · exact ⟨x_BadStep, ea_BadStep, PySem.W.exm_ref tc_PickError td_PickError tt_PickError ts_PickError_BadStep⟩
      · exact ⟨x_NoStep, ea_NoStep, PySem.W.exm_ref tc_PickError td_PickError tt_PickError ts_PickError_NoStep⟩
      · exact ⟨x_NotPicked, ea_NotPicked, PySem.W.exm_ref tc_PickError td_PickError tt_PickError ts_PickError_NotPicked⟩
      · exact ⟨x_Stuck, ea_Stuck, PySem.W.exm_ref tc_PickError td_PickError tt_PickError ts_PickError_Stuck⟩
      · exact ⟨x_Stopped, ea_Stopped, PySem.W.exm_ref tc_PickError td_PickError tt_PickError ts_PickError_Stopped⟩
      · exact ⟨x_Closed, ea_Closed, PySem.W.exm_ref tc_PickError td_PickError tt_PickError ts_PickError_Closed⟩
      · exact ⟨x_BadEdit, ea_BadEdit, PySem.W.exm_ref tc_PickError td_PickError tt_PickError ts_PickError_BadEdit⟩
      · exact ⟨x_Unlike, ea_Unlike, PySem.W.exm_ref tc_PickError td_PickError tt_PickError ts_PickError_Unlike⟩
      · exact ⟨x_HasPlace, ea_HasPlace, PySem.W.exm_ref tc_PickError td_PickError tt_PickError ts_PickError_HasPlace⟩
      · exact ⟨x_TooMany, ea_TooMany, PySem.W.exm_ref tc_PickError td_PickError tt_PickError ts_PickError_TooMany⟩
      · exact ⟨x_Nothing, ea_Nothing, PySem.W.exm_ref tc_PickError td_PickError tt_PickError ts_PickError_Nothing⟩
      · exact ⟨x_NoDeed, ea_NoDeed, PySem.W.exm_ref tc_PickError td_PickError tt_PickError ts_PickError_NoDeed⟩
      · exact ⟨x_Full, ea_Full, PySem.W.exm_ref tc_PickError td_PickError tt_PickError ts_PickError_Full⟩
      · exact ⟨x_Refused, ea_Refused, PySem.W.exm_ref tc_PickError td_PickError tt_PickError ts_PickError_Refused⟩
      · exact ⟨x_NoEntry, ea_NoEntry, PySem.W.exm_ref tc_PickError td_PickError tt_PickError ts_PickError_NoEntry⟩
      · exact ⟨x_NoText, ea_NoText, PySem.W.exm_ref tc_PickError td_PickError tt_PickError ts_PickError_NoText⟩
      · exact ⟨x_NoCommand, ea_NoCommand, PySem.W.exm_ref tc_PickError td_PickError tt_PickError ts_PickError_NoCommand⟩),
    ix_BadEdit := isT_of (fun p hp => by
      simp only [tb_BadEdit, List.mem_cons, List.not_mem_nil, or_false] at hp
      rcases hp with rfl | rfl | rfl | rfl | rfl | rfl | rfl | rfl | rfl | rfl | rfl | rfl | rfl | rfl | rfl | rfl | rfl | rfl | rfl
      · exact ⟨x_Wrong, ea_Wrong, ⟨eg_Wrong, eh_Wrong, ec_Wrong, ed_Wrong, ea2_Wrong, sg, tg, em_Wrong⟩, kit_ref kd_BadEdit ky_BadEdit ks_BadEdit kt_BadEdit_Wrong⟩
      · exact ⟨x_NoRow, ea_NoRow, ⟨eg_NoRow, eh_NoRow, ec_NoRow, ed_NoRow, ea2_NoRow, sg, tg, em_NoRow⟩, kit_ref kd_BadEdit ky_BadEdit ks_BadEdit kt_BadEdit_NoRow⟩
      · exact ⟨x_BadStep, ea_BadStep, ⟨eg_BadStep, eh_BadStep, ec_BadStep, ed_BadStep, ea2_BadStep, sg, tg, em_BadStep⟩, kit_ref kd_BadEdit ky_BadEdit ks_BadEdit kt_BadEdit_BadStep⟩
      · exact ⟨x_NoStep, ea_NoStep, ⟨eg_NoStep, eh_NoStep, ec_NoStep, ed_NoStep, ea2_NoStep, sg, tg, em_NoStep⟩, kit_ref kd_BadEdit ky_BadEdit ks_BadEdit kt_BadEdit_NoStep⟩
      · exact ⟨x_NotPicked, ea_NotPicked, ⟨eg_NotPicked, eh_NotPicked, ec_NotPicked, ed_NotPicked, ea2_NotPicked, sg, tg, em_NotPicked⟩, kit_ref kd_BadEdit ky_BadEdit ks_BadEdit kt_BadEdit_NotPicked⟩
      · exact ⟨x_Stuck, ea_Stuck, ⟨eg_Stuck, eh_Stuck, ec_Stuck, ed_Stuck, ea2_Stuck, sg, tg, em_Stuck⟩, kit_ref kd_BadEdit ky_BadEdit ks_BadEdit kt_BadEdit_Stuck⟩
      · exact ⟨x_Stopped, ea_Stopped, ⟨eg_Stopped, eh_Stopped, ec_Stopped, ed_Stopped, ea2_Stopped, sg, tg, em_Stopped⟩, kit_ref kd_BadEdit ky_BadEdit ks_BadEdit kt_BadEdit_Stopped⟩
      · exact ⟨x_Closed, ea_Closed, ⟨eg_Closed, eh_Closed, ec_Closed, ed_Closed, ea2_Closed, sg, tg, em_Closed⟩, kit_ref kd_BadEdit ky_BadEdit ks_BadEdit kt_BadEdit_Closed⟩
      · exact ⟨x_BadEdit, ea_BadEdit, ⟨eg_BadEdit, eh_BadEdit, ec_BadEdit, ed_BadEdit, ea2_BadEdit, sg, tg, em_BadEdit⟩, kit_ref kd_BadEdit ky_BadEdit ks_BadEdit kt_BadEdit_BadEdit⟩
      · exact ⟨x_Unlike, ea_Unlike, ⟨eg_Unlike, eh_Unlike, ec_Unlike, ed_Unlike, ea2_Unlike, sg, tg, em_Unlike⟩, kit_ref kd_BadEdit ky_BadEdit ks_BadEdit kt_BadEdit_Unlike⟩
      · exact ⟨x_HasPlace, ea_HasPlace, ⟨eg_HasPlace, eh_HasPlace, ec_HasPlace, ed_HasPlace, ea2_HasPlace, sg, tg, em_HasPlace⟩, kit_ref kd_BadEdit ky_BadEdit ks_BadEdit kt_BadEdit_HasPlace⟩
      · exact ⟨x_TooMany, ea_TooMany, ⟨eg_TooMany, eh_TooMany, ec_TooMany, ed_TooMany, ea2_TooMany, sg, tg, em_TooMany⟩, kit_ref kd_BadEdit ky_BadEdit ks_BadEdit kt_BadEdit_TooMany⟩
      · exact ⟨x_Nothing, ea_Nothing, ⟨eg_Nothing, eh_Nothing, ec_Nothing, ed_Nothing, ea2_Nothing, sg, tg, em_Nothing⟩, kit_ref kd_BadEdit ky_BadEdit ks_BadEdit kt_BadEdit_Nothing⟩
      · exact ⟨x_NoDeed, ea_NoDeed, ⟨eg_NoDeed, eh_NoDeed, ec_NoDeed, ed_NoDeed, ea2_NoDeed, sg, tg, em_NoDeed⟩, kit_ref kd_BadEdit ky_BadEdit ks_BadEdit kt_BadEdit_NoDeed⟩
      · exact ⟨x_Full, ea_Full, ⟨eg_Full, eh_Full, ec_Full, ed_Full, ea2_Full, sg, tg, em_Full⟩, kit_ref kd_BadEdit ky_BadEdit ks_BadEdit kt_BadEdit_Full⟩
      · exact ⟨x_Refused, ea_Refused, ⟨eg_Refused, eh_Refused, ec_Refused, ed_Refused, ea2_Refused, sg, tg, em_Refused⟩, kit_ref kd_BadEdit ky_BadEdit ks_BadEdit kt_BadEdit_Refused⟩
      · exact ⟨x_NoEntry, ea_NoEntry, ⟨eg_NoEntry, eh_NoEntry, ec_NoEntry, ed_NoEntry, ea2_NoEntry, sg, tg, em_NoEntry⟩, kit_ref kd_BadEdit ky_BadEdit ks_BadEdit kt_BadEdit_NoEntry⟩
      · exact ⟨x_NoText, ea_NoText, ⟨eg_NoText, eh_NoText, ec_NoText, ed_NoText, ea2_NoText, sg, tg, em_NoText⟩, kit_ref kd_BadEdit ky_BadEdit ks_BadEdit kt_BadEdit_NoText⟩
      · exact ⟨x_NoCommand, ea_NoCommand, ⟨eg_NoCommand, eh_NoCommand, ec_NoCommand, ed_NoCommand, ea2_NoCommand, sg, tg, em_NoCommand⟩, kit_ref kd_BadEdit ky_BadEdit ks_BadEdit kt_BadEdit_NoCommand⟩),
    ix_BadStep := isT_of (fun p hp => by
      simp only [tb_BadStep, List.mem_cons, List.not_mem_nil, or_false] at hp
      rcases hp with rfl | rfl | rfl | rfl | rfl | rfl | rfl | rfl | rfl | rfl | rfl | rfl | rfl | rfl | rfl | rfl | rfl | rfl | rfl
      · exact ⟨x_Wrong, ea_Wrong, ⟨eg_Wrong, eh_Wrong, ec_Wrong, ed_Wrong, ea2_Wrong, sg, tg, em_Wrong⟩, kit_ref kd_BadStep ky_BadStep ks_BadStep kt_BadStep_Wrong⟩
      · exact ⟨x_NoRow, ea_NoRow, ⟨eg_NoRow, eh_NoRow, ec_NoRow, ed_NoRow, ea2_NoRow, sg, tg, em_NoRow⟩, kit_ref kd_BadStep ky_BadStep ks_BadStep kt_BadStep_NoRow⟩
      · exact ⟨x_BadStep, ea_BadStep, ⟨eg_BadStep, eh_BadStep, ec_BadStep, ed_BadStep, ea2_BadStep, sg, tg, em_BadStep⟩, kit_ref kd_BadStep ky_BadStep ks_BadStep kt_BadStep_BadStep⟩
      · exact ⟨x_NoStep, ea_NoStep, ⟨eg_NoStep, eh_NoStep, ec_NoStep, ed_NoStep, ea2_NoStep, sg, tg, em_NoStep⟩, kit_ref kd_BadStep ky_BadStep ks_BadStep kt_BadStep_NoStep⟩
      · exact ⟨x_NotPicked, ea_NotPicked, ⟨eg_NotPicked, eh_NotPicked, ec_NotPicked, ed_NotPicked, ea2_NotPicked, sg, tg, em_NotPicked⟩, kit_ref kd_BadStep ky_BadStep ks_BadStep kt_BadStep_NotPicked⟩
      · exact ⟨x_Stuck, ea_Stuck, ⟨eg_Stuck, eh_Stuck, ec_Stuck, ed_Stuck, ea2_Stuck, sg, tg, em_Stuck⟩, kit_ref kd_BadStep ky_BadStep ks_BadStep kt_BadStep_Stuck⟩
      · exact ⟨x_Stopped, ea_Stopped, ⟨eg_Stopped, eh_Stopped, ec_Stopped, ed_Stopped, ea2_Stopped, sg, tg, em_Stopped⟩, kit_ref kd_BadStep ky_BadStep ks_BadStep kt_BadStep_Stopped⟩
      · exact ⟨x_Closed, ea_Closed, ⟨eg_Closed, eh_Closed, ec_Closed, ed_Closed, ea2_Closed, sg, tg, em_Closed⟩, kit_ref kd_BadStep ky_BadStep ks_BadStep kt_BadStep_Closed⟩
      · exact ⟨x_BadEdit, ea_BadEdit, ⟨eg_BadEdit, eh_BadEdit, ec_BadEdit, ed_BadEdit, ea2_BadEdit, sg, tg, em_BadEdit⟩, kit_ref kd_BadStep ky_BadStep ks_BadStep kt_BadStep_BadEdit⟩
      · exact ⟨x_Unlike, ea_Unlike, ⟨eg_Unlike, eh_Unlike, ec_Unlike, ed_Unlike, ea2_Unlike, sg, tg, em_Unlike⟩, kit_ref kd_BadStep ky_BadStep ks_BadStep kt_BadStep_Unlike⟩
      · exact ⟨x_HasPlace, ea_HasPlace, ⟨eg_HasPlace, eh_HasPlace, ec_HasPlace, ed_HasPlace, ea2_HasPlace, sg, tg, em_HasPlace⟩, kit_ref kd_BadStep ky_BadStep ks_BadStep kt_BadStep_HasPlace⟩
      · exact ⟨x_TooMany, ea_TooMany, ⟨eg_TooMany, eh_TooMany, ec_TooMany, ed_TooMany, ea2_TooMany, sg, tg, em_TooMany⟩, kit_ref kd_BadStep ky_BadStep ks_BadStep kt_BadStep_TooMany⟩
      · exact ⟨x_Nothing, ea_Nothing, ⟨eg_Nothing, eh_Nothing, ec_Nothing, ed_Nothing, ea2_Nothing, sg, tg, em_Nothing⟩, kit_ref kd_BadStep ky_BadStep ks_BadStep kt_BadStep_Nothing⟩
      · exact ⟨x_NoDeed, ea_NoDeed, ⟨eg_NoDeed, eh_NoDeed, ec_NoDeed, ed_NoDeed, ea2_NoDeed, sg, tg, em_NoDeed⟩, kit_ref kd_BadStep ky_BadStep ks_BadStep kt_BadStep_NoDeed⟩
      · exact ⟨x_Full, ea_Full, ⟨eg_Full, eh_Full, ec_Full, ed_Full, ea2_Full, sg, tg, em_Full⟩, kit_ref kd_BadStep ky_BadStep ks_BadStep kt_BadStep_Full⟩
      · exact ⟨x_Refused, ea_Refused, ⟨eg_Refused, eh_Refused, ec_Refused, ed_Refused, ea2_Refused, sg, tg, em_Refused⟩, kit_ref kd_BadStep ky_BadStep ks_BadStep kt_BadStep_Refused⟩
      · exact ⟨x_NoEntry, ea_NoEntry, ⟨eg_NoEntry, eh_NoEntry, ec_NoEntry, ed_NoEntry, ea2_NoEntry, sg, tg, em_NoEntry⟩, kit_ref kd_BadStep ky_BadStep ks_BadStep kt_BadStep_NoEntry⟩
      · exact ⟨x_NoText, ea_NoText, ⟨eg_NoText, eh_NoText, ec_NoText, ed_NoText, ea2_NoText, sg, tg, em_NoText⟩, kit_ref kd_BadStep ky_BadStep ks_BadStep kt_BadStep_NoText⟩
      · exact ⟨x_NoCommand, ea_NoCommand, ⟨eg_NoCommand, eh_NoCommand, ec_NoCommand, ed_NoCommand, ea2_NoCommand, sg, tg, em_NoCommand⟩, kit_ref kd_BadStep ky_BadStep ks_BadStep kt_BadStep_NoCommand⟩),
    ix_Closed := isT_of (fun p hp => by
      simp only [tb_Closed, List.mem_cons, List.not_mem_nil, or_false] at hp
      rcases hp with rfl | rfl | rfl | rfl | rfl | rfl | rfl | rfl | rfl | rfl | rfl | rfl | rfl | rfl | rfl | rfl | rfl | rfl | rfl
      · exact ⟨x_Wrong, ea_Wrong, ⟨eg_Wrong, eh_Wrong, ec_Wrong, ed_Wrong, ea2_Wrong, sg, tg, em_Wrong⟩, kit_ref kd_Closed ky_Closed ks_Closed kt_Closed_Wrong⟩
      · exact ⟨x_NoRow, ea_NoRow, ⟨eg_NoRow, eh_NoRow, ec_NoRow, ed_NoRow, ea2_NoRow, sg, tg, em_NoRow⟩, kit_ref kd_Closed ky_Closed ks_Closed kt_Closed_NoRow⟩
      · exact ⟨x_BadStep, ea_BadStep, ⟨eg_BadStep, eh_BadStep, ec_BadStep, ed_BadStep, ea2_BadStep, sg, tg, em_BadStep⟩, kit_ref kd_Closed ky_Closed ks_Closed kt_Closed_BadStep⟩
      · exact ⟨x_NoStep, ea_NoStep, ⟨eg_NoStep, eh_NoStep, ec_NoStep, ed_NoStep, ea2_NoStep, sg, tg, em_NoStep⟩, kit_ref kd_Closed ky_Closed ks_Closed kt_Closed_NoStep⟩
      · exact ⟨x_NotPicked, ea_NotPicked, ⟨eg_NotPicked, eh_NotPicked, ec_NotPicked, ed_NotPicked, ea2_NotPicked, sg, tg, em_NotPicked⟩, kit_ref kd_Closed ky_Closed ks_Closed kt_Closed_NotPicked⟩
      · exact ⟨x_Stuck, ea_Stuck, ⟨eg_Stuck, eh_Stuck, ec_Stuck, ed_Stuck, ea2_Stuck, sg, tg, em_Stuck⟩, kit_ref kd_Closed ky_Closed ks_Closed kt_Closed_Stuck⟩
      · exact ⟨x_Stopped, ea_Stopped, ⟨eg_Stopped, eh_Stopped, ec_Stopped, ed_Stopped, ea2_Stopped, sg, tg, em_Stopped⟩, kit_ref kd_Closed ky_Closed ks_Closed kt_Closed_Stopped⟩
      · exact ⟨x_Closed, ea_Closed, ⟨eg_Closed, eh_Closed, ec_Closed, ed_Closed, ea2_Closed, sg, tg, em_Closed⟩, kit_ref kd_Closed ky_Closed ks_Closed kt_Closed_Closed⟩
      · exact ⟨x_BadEdit, ea_BadEdit, ⟨eg_BadEdit, eh_BadEdit, ec_BadEdit, ed_BadEdit, ea2_BadEdit, sg, tg, em_BadEdit⟩, kit_ref kd_Closed ky_Closed ks_Closed kt_Closed_BadEdit⟩
      · exact ⟨x_Unlike, ea_Unlike, ⟨eg_Unlike, eh_Unlike, ec_Unlike, ed_Unlike, ea2_Unlike, sg, tg, em_Unlike⟩, kit_ref kd_Closed ky_Closed ks_Closed kt_Closed_Unlike⟩
      · exact ⟨x_HasPlace, ea_HasPlace, ⟨eg_HasPlace, eh_HasPlace, ec_HasPlace, ed_HasPlace, ea2_HasPlace, sg, tg, em_HasPlace⟩, kit_ref kd_Closed ky_Closed ks_Closed kt_Closed_HasPlace⟩
      · exact ⟨x_TooMany, ea_TooMany, ⟨eg_TooMany, eh_TooMany, ec_TooMany, ed_TooMany, ea2_TooMany, sg, tg, em_TooMany⟩, kit_ref kd_Closed ky_Closed ks_Closed kt_Closed_TooMany⟩
      · exact ⟨x_Nothing, ea_Nothing, ⟨eg_Nothing, eh_Nothing, ec_Nothing, ed_Nothing, ea2_Nothing, sg, tg, em_Nothing⟩, kit_ref kd_Closed ky_Closed ks_Closed kt_Closed_Nothing⟩
      · exact ⟨x_NoDeed, ea_NoDeed, ⟨eg_NoDeed, eh_NoDeed, ec_NoDeed, ed_NoDeed, ea2_NoDeed, sg, tg, em_NoDeed⟩, kit_ref kd_Closed ky_Closed ks_Closed kt_Closed_NoDeed⟩
      · exact ⟨x_Full, ea_Full, ⟨eg_Full, eh_Full, ec_Full, ed_Full, ea2_Full, sg, tg, em_Full⟩, kit_ref kd_Closed ky_Closed ks_Closed kt_Closed_Full⟩
      · exact ⟨x_Refused, ea_Refused, ⟨eg_Refused, eh_Refused, ec_Refused, ed_Refused, ea2_Refused, sg, tg, em_Refused⟩, kit_ref kd_Closed ky_Closed ks_Closed kt_Closed_Refused⟩
      · exact ⟨x_NoEntry, ea_NoEntry, ⟨eg_NoEntry, eh_NoEntry, ec_NoEntry, ed_NoEntry, ea2_NoEntry, sg, tg, em_NoEntry⟩, kit_ref kd_Closed ky_Closed ks_Closed kt_Closed_NoEntry⟩
      · exact ⟨x_NoText, ea_NoText, ⟨eg_NoText, eh_NoText, ec_NoText, ed_NoText, ea2_NoText, sg, tg, em_NoText⟩, kit_ref kd_Closed ky_Closed ks_Closed kt_Closed_NoText⟩
      · exact ⟨x_NoCommand, ea_NoCommand, ⟨eg_NoCommand, eh_NoCommand, ec_NoCommand, ed_NoCommand, ea2_NoCommand, sg, tg, em_NoCommand⟩, kit_ref kd_Closed ky_Closed ks_Closed kt_Closed_NoCommand⟩),
    ix_Full := isT_of (fun p hp => by
      simp only [tb_Full, List.mem_cons, List.not_mem_nil, or_false] at hp
      rcases hp with rfl | rfl | rfl | rfl | rfl | rfl | rfl | rfl | rfl | rfl | rfl | rfl | rfl | rfl | rfl | rfl | rfl | rfl | rfl
      · exact ⟨x_Wrong, ea_Wrong, ⟨eg_Wrong, eh_Wrong, ec_Wrong, ed_Wrong, ea2_Wrong, sg, tg, em_Wrong⟩, kit_ref kd_Full ky_Full ks_Full kt_Full_Wrong⟩
      · exact ⟨x_NoRow, ea_NoRow, ⟨eg_NoRow, eh_NoRow, ec_NoRow, ed_NoRow, ea2_NoRow, sg, tg, em_NoRow⟩, kit_ref kd_Full ky_Full ks_Full kt_Full_NoRow⟩
      · exact ⟨x_BadStep, ea_BadStep, ⟨eg_BadStep, eh_BadStep, ec_BadStep, ed_BadStep, ea2_BadStep, sg, tg, em_BadStep⟩, kit_ref kd_Full ky_Full ks_Full kt_Full_BadStep⟩
      · exact ⟨x_NoStep, ea_NoStep, ⟨eg_NoStep, eh_NoStep, ec_NoStep, ed_NoStep, ea2_NoStep, sg, tg, em_NoStep⟩, kit_ref kd_Full ky_Full ks_Full kt_Full_NoStep⟩
      · exact ⟨x_NotPicked, ea_NotPicked, ⟨eg_NotPicked, eh_NotPicked, ec_NotPicked, ed_NotPicked, ea2_NotPicked, sg, tg, em_NotPicked⟩, kit_ref kd_Full ky_Full ks_Full kt_Full_NotPicked⟩
      · exact ⟨x_Stuck, ea_Stuck, ⟨eg_Stuck, eh_Stuck, ec_Stuck, ed_Stuck, ea2_Stuck, sg, tg, em_Stuck⟩, kit_ref kd_Full ky_Full ks_Full kt_Full_Stuck⟩
      · exact ⟨x_Stopped, ea_Stopped, ⟨eg_Stopped, eh_Stopped, ec_Stopped, ed_Stopped, ea2_Stopped, sg, tg, em_Stopped⟩, kit_ref kd_Full ky_Full ks_Full kt_Full_Stopped⟩
      · exact ⟨x_Closed, ea_Closed, ⟨eg_Closed, eh_Closed, ec_Closed, ed_Closed, ea2_Closed, sg, tg, em_Closed⟩, kit_ref kd_Full ky_Full ks_Full kt_Full_Closed⟩
      · exact ⟨x_BadEdit, ea_BadEdit, ⟨eg_BadEdit, eh_BadEdit, ec_BadEdit, ed_BadEdit, ea2_BadEdit, sg, tg, em_BadEdit⟩, kit_ref kd_Full ky_Full ks_Full kt_Full_BadEdit⟩
      · exact ⟨x_Unlike, ea_Unlike, ⟨eg_Unlike, eh_Unlike, ec_Unlike, ed_Unlike, ea2_Unlike, sg, tg, em_Unlike⟩, kit_ref kd_Full ky_Full ks_Full kt_Full_Unlike⟩
      · exact ⟨x_HasPlace, ea_HasPlace, ⟨eg_HasPlace, eh_HasPlace, ec_HasPlace, ed_HasPlace, ea2_HasPlace, sg, tg, em_HasPlace⟩, kit_ref kd_Full ky_Full ks_Full kt_Full_HasPlace⟩
      · exact ⟨x_TooMany, ea_TooMany, ⟨eg_TooMany, eh_TooMany, ec_TooMany, ed_TooMany, ea2_TooMany, sg, tg, em_TooMany⟩, kit_ref kd_Full ky_Full ks_Full kt_Full_TooMany⟩
      · exact ⟨x_Nothing, ea_Nothing, ⟨eg_Nothing, eh_Nothing, ec_Nothing, ed_Nothing, ea2_Nothing, sg, tg, em_Nothing⟩, kit_ref kd_Full ky_Full ks_Full kt_Full_Nothing⟩
      · exact ⟨x_NoDeed, ea_NoDeed, ⟨eg_NoDeed, eh_NoDeed, ec_NoDeed, ed_NoDeed, ea2_NoDeed, sg, tg, em_NoDeed⟩, kit_ref kd_Full ky_Full ks_Full kt_Full_NoDeed⟩
      · exact ⟨x_Full, ea_Full, ⟨eg_Full, eh_Full, ec_Full, ed_Full, ea2_Full, sg, tg, em_Full⟩, kit_ref kd_Full ky_Full ks_Full kt_Full_Full⟩
      · exact ⟨x_Refused, ea_Refused, ⟨eg_Refused, eh_Refused, ec_Refused, ed_Refused, ea2_Refused, sg, tg, em_Refused⟩, kit_ref kd_Full ky_Full ks_Full kt_Full_Refused⟩
      · exact ⟨x_NoEntry, ea_NoEntry, ⟨eg_NoEntry, eh_NoEntry, ec_NoEntry, ed_NoEntry, ea2_NoEntry, sg, tg, em_NoEntry⟩, kit_ref kd_Full ky_Full ks_Full kt_Full_NoEntry⟩
      · exact ⟨x_NoText, ea_NoText, ⟨eg_NoText, eh_NoText, ec_NoText, ed_NoText, ea2_NoText, sg, tg, em_NoText⟩, kit_ref kd_Full ky_Full ks_Full kt_Full_NoText⟩
      · exact ⟨x_NoCommand, ea_NoCommand, ⟨eg_NoCommand, eh_NoCommand, ec_NoCommand, ed_NoCommand, ea2_NoCommand, sg, tg, em_NoCommand⟩, kit_ref kd_Full ky_Full ks_Full kt_Full_NoCommand⟩),
    ix_HasPlace := isT_of (fun p hp => by
      simp only [tb_HasPlace, List.mem_cons, List.not_mem_nil, or_false] at hp
      rcases hp with rfl | rfl | rfl | rfl | rfl | rfl | rfl | rfl | rfl | rfl | rfl | rfl | rfl | rfl | rfl | rfl | rfl | rfl | rfl
      · exact ⟨x_Wrong, ea_Wrong, ⟨eg_Wrong, eh_Wrong, ec_Wrong, ed_Wrong, ea2_Wrong, sg, tg, em_Wrong⟩, kit_ref kd_HasPlace ky_HasPlace ks_HasPlace kt_HasPlace_Wrong⟩
      · exact ⟨x_NoRow, ea_NoRow, ⟨eg_NoRow, eh_NoRow, ec_NoRow, ed_NoRow, ea2_NoRow, sg, tg, em_NoRow⟩, kit_ref kd_HasPlace ky_HasPlace ks_HasPlace kt_HasPlace_NoRow⟩
      · exact ⟨x_BadStep, ea_BadStep, ⟨eg_BadStep, eh_BadStep, ec_BadStep, ed_BadStep, ea2_BadStep, sg, tg, em_BadStep⟩, kit_ref kd_HasPlace ky_HasPlace ks_HasPlace kt_HasPlace_BadStep⟩
      · exact ⟨x_NoStep, ea_NoStep, ⟨eg_NoStep, eh_NoStep, ec_NoStep, ed_NoStep, ea2_NoStep, sg, tg, em_NoStep⟩, kit_ref kd_HasPlace ky_HasPlace ks_HasPlace kt_HasPlace_NoStep⟩
      · exact ⟨x_NotPicked, ea_NotPicked, ⟨eg_NotPicked, eh_NotPicked, ec_NotPicked, ed_NotPicked, ea2_NotPicked, sg, tg, em_NotPicked⟩, kit_ref kd_HasPlace ky_HasPlace ks_HasPlace kt_HasPlace_NotPicked⟩
      · exact ⟨x_Stuck, ea_Stuck, ⟨eg_Stuck, eh_Stuck, ec_Stuck, ed_Stuck, ea2_Stuck, sg, tg, em_Stuck⟩, kit_ref kd_HasPlace ky_HasPlace ks_HasPlace kt_HasPlace_Stuck⟩
      · exact ⟨x_Stopped, ea_Stopped, ⟨eg_Stopped, eh_Stopped, ec_Stopped, ed_Stopped, ea2_Stopped, sg, tg, em_Stopped⟩, kit_ref kd_HasPlace ky_HasPlace ks_HasPlace kt_HasPlace_Stopped⟩
      · exact ⟨x_Closed, ea_Closed, ⟨eg_Closed, eh_Closed, ec_Closed, ed_Closed, ea2_Closed, sg, tg, em_Closed⟩, kit_ref kd_HasPlace ky_HasPlace ks_HasPlace kt_HasPlace_Closed⟩
      · exact ⟨x_BadEdit, ea_BadEdit, ⟨eg_BadEdit, eh_BadEdit, ec_BadEdit, ed_BadEdit, ea2_BadEdit, sg, tg, em_BadEdit⟩, kit_ref kd_HasPlace ky_HasPlace ks_HasPlace kt_HasPlace_BadEdit⟩
      · exact ⟨x_Unlike, ea_Unlike, ⟨eg_Unlike, eh_Unlike, ec_Unlike, ed_Unlike, ea2_Unlike, sg, tg, em_Unlike⟩, kit_ref kd_HasPlace ky_HasPlace ks_HasPlace kt_HasPlace_Unlike⟩
      · exact ⟨x_HasPlace, ea_HasPlace, ⟨eg_HasPlace, eh_HasPlace, ec_HasPlace, ed_HasPlace, ea2_HasPlace, sg, tg, em_HasPlace⟩, kit_ref kd_HasPlace ky_HasPlace ks_HasPlace kt_HasPlace_HasPlace⟩
      · exact ⟨x_TooMany, ea_TooMany, ⟨eg_TooMany, eh_TooMany, ec_TooMany, ed_TooMany, ea2_TooMany, sg, tg, em_TooMany⟩, kit_ref kd_HasPlace ky_HasPlace ks_HasPlace kt_HasPlace_TooMany⟩
      · exact ⟨x_Nothing, ea_Nothing, ⟨eg_Nothing, eh_Nothing, ec_Nothing, ed_Nothing, ea2_Nothing, sg, tg, em_Nothing⟩, kit_ref kd_HasPlace ky_HasPlace ks_HasPlace kt_HasPlace_Nothing⟩
      · exact ⟨x_NoDeed, ea_NoDeed, ⟨eg_NoDeed, eh_NoDeed, ec_NoDeed, ed_NoDeed, ea2_NoDeed, sg, tg, em_NoDeed⟩, kit_ref kd_HasPlace ky_HasPlace ks_HasPlace kt_HasPlace_NoDeed⟩
      · exact ⟨x_Full, ea_Full, ⟨eg_Full, eh_Full, ec_Full, ed_Full, ea2_Full, sg, tg, em_Full⟩, kit_ref kd_HasPlace ky_HasPlace ks_HasPlace kt_HasPlace_Full⟩
      · exact ⟨x_Refused, ea_Refused, ⟨eg_Refused, eh_Refused, ec_Refused, ed_Refused, ea2_Refused, sg, tg, em_Refused⟩, kit_ref kd_HasPlace ky_HasPlace ks_HasPlace kt_HasPlace_Refused⟩
      · exact ⟨x_NoEntry, ea_NoEntry, ⟨eg_NoEntry, eh_NoEntry, ec_NoEntry, ed_NoEntry, ea2_NoEntry, sg, tg, em_NoEntry⟩, kit_ref kd_HasPlace ky_HasPlace ks_HasPlace kt_HasPlace_NoEntry⟩
      · exact ⟨x_NoText, ea_NoText, ⟨eg_NoText, eh_NoText, ec_NoText, ed_NoText, ea2_NoText, sg, tg, em_NoText⟩, kit_ref kd_HasPlace ky_HasPlace ks_HasPlace kt_HasPlace_NoText⟩
      · exact ⟨x_NoCommand, ea_NoCommand, ⟨eg_NoCommand, eh_NoCommand, ec_NoCommand, ed_NoCommand, ea2_NoCommand, sg, tg, em_NoCommand⟩, kit_ref kd_HasPlace ky_HasPlace ks_HasPlace kt_HasPlace_NoCommand⟩),
    ix_NoCommand := isT_of (fun p hp => by
      simp only [tb_NoCommand, List.mem_cons, List.not_mem_nil, or_false] at hp
      rcases hp with rfl | rfl | rfl | rfl | rfl | rfl | rfl | rfl | rfl | rfl | rfl | rfl | rfl | rfl | rfl | rfl | rfl | rfl | rfl
      · exact ⟨x_Wrong, ea_Wrong, ⟨eg_Wrong, eh_Wrong, ec_Wrong, ed_Wrong, ea2_Wrong, sg, tg, em_Wrong⟩, kit_ref kd_NoCommand ky_NoCommand ks_NoCommand kt_NoCommand_Wrong⟩
      · exact ⟨x_NoRow, ea_NoRow, ⟨eg_NoRow, eh_NoRow, ec_NoRow, ed_NoRow, ea2_NoRow, sg, tg, em_NoRow⟩, kit_ref kd_NoCommand ky_NoCommand ks_NoCommand kt_NoCommand_NoRow⟩
      · exact ⟨x_BadStep, ea_BadStep, ⟨eg_BadStep, eh_BadStep, ec_BadStep, ed_BadStep, ea2_BadStep, sg, tg, em_BadStep⟩, kit_ref kd_NoCommand ky_NoCommand ks_NoCommand kt_NoCommand_BadStep⟩
      · exact ⟨x_NoStep, ea_NoStep, ⟨eg_NoStep, eh_NoStep, ec_NoStep, ed_NoStep, ea2_NoStep, sg, tg, em_NoStep⟩, kit_ref kd_NoCommand ky_NoCommand ks_NoCommand kt_NoCommand_NoStep⟩
      · exact ⟨x_NotPicked, ea_NotPicked, ⟨eg_NotPicked, eh_NotPicked, ec_NotPicked, ed_NotPicked, ea2_NotPicked, sg, tg, em_NotPicked⟩, kit_ref kd_NoCommand ky_NoCommand ks_NoCommand kt_NoCommand_NotPicked⟩
      · exact ⟨x_Stuck, ea_Stuck, ⟨eg_Stuck, eh_Stuck, ec_Stuck, ed_Stuck, ea2_Stuck, sg, tg, em_Stuck⟩, kit_ref kd_NoCommand ky_NoCommand ks_NoCommand kt_NoCommand_Stuck⟩
      · exact ⟨x_Stopped, ea_Stopped, ⟨eg_Stopped, eh_Stopped, ec_Stopped, ed_Stopped, ea2_Stopped, sg, tg, em_Stopped⟩, kit_ref kd_NoCommand ky_NoCommand ks_NoCommand kt_NoCommand_Stopped⟩
      · exact ⟨x_Closed, ea_Closed, ⟨eg_Closed, eh_Closed, ec_Closed, ed_Closed, ea2_Closed, sg, tg, em_Closed⟩, kit_ref kd_NoCommand ky_NoCommand ks_NoCommand kt_NoCommand_Closed⟩
      · exact ⟨x_BadEdit, ea_BadEdit, ⟨eg_BadEdit, eh_BadEdit, ec_BadEdit, ed_BadEdit, ea2_BadEdit, sg, tg, em_BadEdit⟩, kit_ref kd_NoCommand ky_NoCommand ks_NoCommand kt_NoCommand_BadEdit⟩
      · exact ⟨x_Unlike, ea_Unlike, ⟨eg_Unlike, eh_Unlike, ec_Unlike, ed_Unlike, ea2_Unlike, sg, tg, em_Unlike⟩, kit_ref kd_NoCommand ky_NoCommand ks_NoCommand kt_NoCommand_Unlike⟩
      · exact ⟨x_HasPlace, ea_HasPlace, ⟨eg_HasPlace, eh_HasPlace, ec_HasPlace, ed_HasPlace, ea2_HasPlace, sg, tg, em_HasPlace⟩, kit_ref kd_NoCommand ky_NoCommand ks_NoCommand kt_NoCommand_HasPlace⟩
      · exact ⟨x_TooMany, ea_TooMany, ⟨eg_TooMany, eh_TooMany, ec_TooMany, ed_TooMany, ea2_TooMany, sg, tg, em_TooMany⟩, kit_ref kd_NoCommand ky_NoCommand ks_NoCommand kt_NoCommand_TooMany⟩
      · exact ⟨x_Nothing, ea_Nothing, ⟨eg_Nothing, eh_Nothing, ec_Nothing, ed_Nothing, ea2_Nothing, sg, tg, em_Nothing⟩, kit_ref kd_NoCommand ky_NoCommand ks_NoCommand kt_NoCommand_Nothing⟩
      · exact ⟨x_NoDeed, ea_NoDeed, ⟨eg_NoDeed, eh_NoDeed, ec_NoDeed, ed_NoDeed, ea2_NoDeed, sg, tg, em_NoDeed⟩, kit_ref kd_NoCommand ky_NoCommand ks_NoCommand kt_NoCommand_NoDeed⟩
      · exact ⟨x_Full, ea_Full, ⟨eg_Full, eh_Full, ec_Full, ed_Full, ea2_Full, sg, tg, em_Full⟩, kit_ref kd_NoCommand ky_NoCommand ks_NoCommand kt_NoCommand_Full⟩
      · exact ⟨x_Refused, ea_Refused, ⟨eg_Refused, eh_Refused, ec_Refused, ed_Refused, ea2_Refused, sg, tg, em_Refused⟩, kit_ref kd_NoCommand ky_NoCommand ks_NoCommand kt_NoCommand_Refused⟩
      · exact ⟨x_NoEntry, ea_NoEntry, ⟨eg_NoEntry, eh_NoEntry, ec_NoEntry, ed_NoEntry, ea2_NoEntry, sg, tg, em_NoEntry⟩, kit_ref kd_NoCommand ky_NoCommand ks_NoCommand kt_NoCommand_NoEntry⟩
      · exact ⟨x_NoText, ea_NoText, ⟨eg_NoText, eh_NoText, ec_NoText, ed_NoText, ea2_NoText, sg, tg, em_NoText⟩, kit_ref kd_NoCommand ky_NoCommand ks_NoCommand kt_NoCommand_NoText⟩
      · exact ⟨x_NoCommand, ea_NoCommand, ⟨eg_NoCommand, eh_NoCommand, ec_NoCommand, ed_NoCommand, ea2_NoCommand, sg, tg, em_NoCommand⟩, kit_ref kd_NoCommand ky_NoCommand ks_NoCommand kt_NoCommand_NoCommand⟩),
    ix_NoDeed := isT_of (fun p hp => by
      simp only [tb_NoDeed, List.mem_cons, List.not_mem_nil, or_false] at hp
      rcases hp with rfl | rfl | rfl | rfl | rfl | rfl | rfl | rfl | rfl | rfl | rfl | rfl | rfl | rfl | rfl | rfl | rfl | rfl | rfl
      · exact ⟨x_Wrong, ea_Wrong, ⟨eg_Wrong, eh_Wrong, ec_Wrong, ed_Wrong, ea2_Wrong, sg, tg, em_Wrong⟩, kit_ref kd_NoDeed ky_NoDeed ks_NoDeed kt_NoDeed_Wrong⟩
      · exact ⟨x_NoRow, ea_NoRow, ⟨eg_NoRow, eh_NoRow, ec_NoRow, ed_NoRow, ea2_NoRow, sg, tg, em_NoRow⟩, kit_ref kd_NoDeed ky_NoDeed ks_NoDeed kt_NoDeed_NoRow⟩
      · exact ⟨x_BadStep, ea_BadStep, ⟨eg_BadStep, eh_BadStep, ec_BadStep, ed_BadStep, ea2_BadStep, sg, tg, em_BadStep⟩, kit_ref kd_NoDeed ky_NoDeed ks_NoDeed kt_NoDeed_BadStep⟩
      · exact ⟨x_NoStep, ea_NoStep, ⟨eg_NoStep, eh_NoStep, ec_NoStep, ed_NoStep, ea2_NoStep, sg, tg, em_NoStep⟩, kit_ref kd_NoDeed ky_NoDeed ks_NoDeed kt_NoDeed_NoStep⟩
      · exact ⟨x_NotPicked, ea_NotPicked, ⟨eg_NotPicked, eh_NotPicked, ec_NotPicked, ed_NotPicked, ea2_NotPicked, sg, tg, em_NotPicked⟩, kit_ref kd_NoDeed ky_NoDeed ks_NoDeed kt_NoDeed_NotPicked⟩
      · exact ⟨x_Stuck, ea_Stuck, ⟨eg_Stuck, eh_Stuck, ec_Stuck, ed_Stuck, ea2_Stuck, sg, tg, em_Stuck⟩, kit_ref kd_NoDeed ky_NoDeed ks_NoDeed kt_NoDeed_Stuck⟩
      · exact ⟨x_Stopped, ea_Stopped, ⟨eg_Stopped, eh_Stopped, ec_Stopped, ed_Stopped, ea2_Stopped, sg, tg, em_Stopped⟩, kit_ref kd_NoDeed ky_NoDeed ks_NoDeed kt_NoDeed_Stopped⟩
      · exact ⟨x_Closed, ea_Closed, ⟨eg_Closed, eh_Closed, ec_Closed, ed_Closed, ea2_Closed, sg, tg, em_Closed⟩, kit_ref kd_NoDeed ky_NoDeed ks_NoDeed kt_NoDeed_Closed⟩
      · exact ⟨x_BadEdit, ea_BadEdit, ⟨eg_BadEdit, eh_BadEdit, ec_BadEdit, ed_BadEdit, ea2_BadEdit, sg, tg, em_BadEdit⟩, kit_ref kd_NoDeed ky_NoDeed ks_NoDeed kt_NoDeed_BadEdit⟩
      · exact ⟨x_Unlike, ea_Unlike, ⟨eg_Unlike, eh_Unlike, ec_Unlike, ed_Unlike, ea2_Unlike, sg, tg, em_Unlike⟩, kit_ref kd_NoDeed ky_NoDeed ks_NoDeed kt_NoDeed_Unlike⟩
      · exact ⟨x_HasPlace, ea_HasPlace, ⟨eg_HasPlace, eh_HasPlace, ec_HasPlace, ed_HasPlace, ea2_HasPlace, sg, tg, em_HasPlace⟩, kit_ref kd_NoDeed ky_NoDeed ks_NoDeed kt_NoDeed_HasPlace⟩
      · exact ⟨x_TooMany, ea_TooMany, ⟨eg_TooMany, eh_TooMany, ec_TooMany, ed_TooMany, ea2_TooMany, sg, tg, em_TooMany⟩, kit_ref kd_NoDeed ky_NoDeed ks_NoDeed kt_NoDeed_TooMany⟩
      · exact ⟨x_Nothing, ea_Nothing, ⟨eg_Nothing, eh_Nothing, ec_Nothing, ed_Nothing, ea2_Nothing, sg, tg, em_Nothing⟩, kit_ref kd_NoDeed ky_NoDeed ks_NoDeed kt_NoDeed_Nothing⟩
      · exact ⟨x_NoDeed, ea_NoDeed, ⟨eg_NoDeed, eh_NoDeed, ec_NoDeed, ed_NoDeed, ea2_NoDeed, sg, tg, em_NoDeed⟩, kit_ref kd_NoDeed ky_NoDeed ks_NoDeed kt_NoDeed_NoDeed⟩
      · exact ⟨x_Full, ea_Full, ⟨eg_Full, eh_Full, ec_Full, ed_Full, ea2_Full, sg, tg, em_Full⟩, kit_ref kd_NoDeed ky_NoDeed ks_NoDeed kt_NoDeed_Full⟩
      · exact ⟨x_Refused, ea_Refused, ⟨eg_Refused, eh_Refused, ec_Refused, ed_Refused, ea2_Refused, sg, tg, em_Refused⟩, kit_ref kd_NoDeed ky_NoDeed ks_NoDeed kt_NoDeed_Refused⟩
      · exact ⟨x_NoEntry, ea_NoEntry, ⟨eg_NoEntry, eh_NoEntry, ec_NoEntry, ed_NoEntry, ea2_NoEntry, sg, tg, em_NoEntry⟩, kit_ref kd_NoDeed ky_NoDeed ks_NoDeed kt_NoDeed_NoEntry⟩
      · exact ⟨x_NoText, ea_NoText, ⟨eg_NoText, eh_NoText, ec_NoText, ed_NoText, ea2_NoText, sg, tg, em_NoText⟩, kit_ref kd_NoDeed ky_NoDeed ks_NoDeed kt_NoDeed_NoText⟩
      · exact ⟨x_NoCommand, ea_NoCommand, ⟨eg_NoCommand, eh_NoCommand, ec_NoCommand, ed_NoCommand, ea2_NoCommand, sg, tg, em_NoCommand⟩, kit_ref kd_NoDeed ky_NoDeed ks_NoDeed kt_NoDeed_NoCommand⟩),
    ix_NoEntry := isT_of (fun p hp => by
      simp only [tb_NoEntry, List.mem_cons, List.not_mem_nil, or_false] at hp
      rcases hp with rfl | rfl | rfl | rfl | rfl | rfl | rfl | rfl | rfl | rfl | rfl | rfl | rfl | rfl | rfl | rfl | rfl | rfl | rfl
      · exact ⟨x_Wrong, ea_Wrong, ⟨eg_Wrong, eh_Wrong, ec_Wrong, ed_Wrong, ea2_Wrong, sg, tg, em_Wrong⟩, kit_ref kd_NoEntry ky_NoEntry ks_NoEntry kt_NoEntry_Wrong⟩
      · exact ⟨x_NoRow, ea_NoRow, ⟨eg_NoRow, eh_NoRow, ec_NoRow, ed_NoRow, ea2_NoRow, sg, tg, em_NoRow⟩, kit_ref kd_NoEntry ky_NoEntry ks_NoEntry kt_NoEntry_NoRow⟩
      · exact ⟨x_BadStep, ea_BadStep, ⟨eg_BadStep, eh_BadStep, ec_BadStep, ed_BadStep, ea2_BadStep, sg, tg, em_BadStep⟩, kit_ref kd_NoEntry ky_NoEntry ks_NoEntry kt_NoEntry_BadStep⟩
      · exact ⟨x_NoStep, ea_NoStep, ⟨eg_NoStep, eh_NoStep, ec_NoStep, ed_NoStep, ea2_NoStep, sg, tg, em_NoStep⟩, kit_ref kd_NoEntry ky_NoEntry ks_NoEntry kt_NoEntry_NoStep⟩
      · exact ⟨x_NotPicked, ea_NotPicked, ⟨eg_NotPicked, eh_NotPicked, ec_NotPicked, ed_NotPicked, ea2_NotPicked, sg, tg, em_NotPicked⟩, kit_ref kd_NoEntry ky_NoEntry ks_NoEntry kt_NoEntry_NotPicked⟩
      · exact ⟨x_Stuck, ea_Stuck, ⟨eg_Stuck, eh_Stuck, ec_Stuck, ed_Stuck, ea2_Stuck, sg, tg, em_Stuck⟩, kit_ref kd_NoEntry ky_NoEntry ks_NoEntry kt_NoEntry_Stuck⟩
      · exact ⟨x_Stopped, ea_Stopped, ⟨eg_Stopped, eh_Stopped, ec_Stopped, ed_Stopped, ea2_Stopped, sg, tg, em_Stopped⟩, kit_ref kd_NoEntry ky_NoEntry ks_NoEntry kt_NoEntry_Stopped⟩
      · exact ⟨x_Closed, ea_Closed, ⟨eg_Closed, eh_Closed, ec_Closed, ed_Closed, ea2_Closed, sg, tg, em_Closed⟩, kit_ref kd_NoEntry ky_NoEntry ks_NoEntry kt_NoEntry_Closed⟩
      · exact ⟨x_BadEdit, ea_BadEdit, ⟨eg_BadEdit, eh_BadEdit, ec_BadEdit, ed_BadEdit, ea2_BadEdit, sg, tg, em_BadEdit⟩, kit_ref kd_NoEntry ky_NoEntry ks_NoEntry kt_NoEntry_BadEdit⟩
      · exact ⟨x_Unlike, ea_Unlike, ⟨eg_Unlike, eh_Unlike, ec_Unlike, ed_Unlike, ea2_Unlike, sg, tg, em_Unlike⟩, kit_ref kd_NoEntry ky_NoEntry ks_NoEntry kt_NoEntry_Unlike⟩
      · exact ⟨x_HasPlace, ea_HasPlace, ⟨eg_HasPlace, eh_HasPlace, ec_HasPlace, ed_HasPlace, ea2_HasPlace, sg, tg, em_HasPlace⟩, kit_ref kd_NoEntry ky_NoEntry ks_NoEntry kt_NoEntry_HasPlace⟩
      · exact ⟨x_TooMany, ea_TooMany, ⟨eg_TooMany, eh_TooMany, ec_TooMany, ed_TooMany, ea2_TooMany, sg, tg, em_TooMany⟩, kit_ref kd_NoEntry ky_NoEntry ks_NoEntry kt_NoEntry_TooMany⟩
      · exact ⟨x_Nothing, ea_Nothing, ⟨eg_Nothing, eh_Nothing, ec_Nothing, ed_Nothing, ea2_Nothing, sg, tg, em_Nothing⟩, kit_ref kd_NoEntry ky_NoEntry ks_NoEntry kt_NoEntry_Nothing⟩
      · exact ⟨x_NoDeed, ea_NoDeed, ⟨eg_NoDeed, eh_NoDeed, ec_NoDeed, ed_NoDeed, ea2_NoDeed, sg, tg, em_NoDeed⟩, kit_ref kd_NoEntry ky_NoEntry ks_NoEntry kt_NoEntry_NoDeed⟩
      · exact ⟨x_Full, ea_Full, ⟨eg_Full, eh_Full, ec_Full, ed_Full, ea2_Full, sg, tg, em_Full⟩, kit_ref kd_NoEntry ky_NoEntry ks_NoEntry kt_NoEntry_Full⟩
      · exact ⟨x_Refused, ea_Refused, ⟨eg_Refused, eh_Refused, ec_Refused, ed_Refused, ea2_Refused, sg, tg, em_Refused⟩, kit_ref kd_NoEntry ky_NoEntry ks_NoEntry kt_NoEntry_Refused⟩
      · exact ⟨x_NoEntry, ea_NoEntry, ⟨eg_NoEntry, eh_NoEntry, ec_NoEntry, ed_NoEntry, ea2_NoEntry, sg, tg, em_NoEntry⟩, kit_ref kd_NoEntry ky_NoEntry ks_NoEntry kt_NoEntry_NoEntry⟩
      · exact ⟨x_NoText, ea_NoText, ⟨eg_NoText, eh_NoText, ec_NoText, ed_NoText, ea2_NoText, sg, tg, em_NoText⟩, kit_ref kd_NoEntry ky_NoEntry ks_NoEntry kt_NoEntry_NoText⟩
      · exact ⟨x_NoCommand, ea_NoCommand, ⟨eg_NoCommand, eh_NoCommand, ec_NoCommand, ed_NoCommand, ea2_NoCommand, sg, tg, em_NoCommand⟩, kit_ref kd_NoEntry ky_NoEntry ks_NoEntry kt_NoEntry_NoCommand⟩),
    ix_NoRow := isT_of (fun p hp => by
      simp only [tb_NoRow, List.mem_cons, List.not_mem_nil, or_false] at hp
      rcases hp with rfl | rfl | rfl | rfl | rfl | rfl | rfl | rfl | rfl | rfl | rfl | rfl | rfl | rfl | rfl | rfl | rfl | rfl | rfl
      · exact ⟨x_Wrong, ea_Wrong, ⟨eg_Wrong, eh_Wrong, ec_Wrong, ed_Wrong, ea2_Wrong, sg, tg, em_Wrong⟩, kit_ref kd_NoRow ky_NoRow ks_NoRow kt_NoRow_Wrong⟩
      · exact ⟨x_NoRow, ea_NoRow, ⟨eg_NoRow, eh_NoRow, ec_NoRow, ed_NoRow, ea2_NoRow, sg, tg, em_NoRow⟩, kit_ref kd_NoRow ky_NoRow ks_NoRow kt_NoRow_NoRow⟩
      · exact ⟨x_BadStep, ea_BadStep, ⟨eg_BadStep, eh_BadStep, ec_BadStep, ed_BadStep, ea2_BadStep, sg, tg, em_BadStep⟩, kit_ref kd_NoRow ky_NoRow ks_NoRow kt_NoRow_BadStep⟩
      · exact ⟨x_NoStep, ea_NoStep, ⟨eg_NoStep, eh_NoStep, ec_NoStep, ed_NoStep, ea2_NoStep, sg, tg, em_NoStep⟩, kit_ref kd_NoRow ky_NoRow ks_NoRow kt_NoRow_NoStep⟩
      · exact ⟨x_NotPicked, ea_NotPicked, ⟨eg_NotPicked, eh_NotPicked, ec_NotPicked, ed_NotPicked, ea2_NotPicked, sg, tg, em_NotPicked⟩, kit_ref kd_NoRow ky_NoRow ks_NoRow kt_NoRow_NotPicked⟩
      · exact ⟨x_Stuck, ea_Stuck, ⟨eg_Stuck, eh_Stuck, ec_Stuck, ed_Stuck, ea2_Stuck, sg, tg, em_Stuck⟩, kit_ref kd_NoRow ky_NoRow ks_NoRow kt_NoRow_Stuck⟩
      · exact ⟨x_Stopped, ea_Stopped, ⟨eg_Stopped, eh_Stopped, ec_Stopped, ed_Stopped, ea2_Stopped, sg, tg, em_Stopped⟩, kit_ref kd_NoRow ky_NoRow ks_NoRow kt_NoRow_Stopped⟩
      · exact ⟨x_Closed, ea_Closed, ⟨eg_Closed, eh_Closed, ec_Closed, ed_Closed, ea2_Closed, sg, tg, em_Closed⟩, kit_ref kd_NoRow ky_NoRow ks_NoRow kt_NoRow_Closed⟩
      · exact ⟨x_BadEdit, ea_BadEdit, ⟨eg_BadEdit, eh_BadEdit, ec_BadEdit, ed_BadEdit, ea2_BadEdit, sg, tg, em_BadEdit⟩, kit_ref kd_NoRow ky_NoRow ks_NoRow kt_NoRow_BadEdit⟩
      · exact ⟨x_Unlike, ea_Unlike, ⟨eg_Unlike, eh_Unlike, ec_Unlike, ed_Unlike, ea2_Unlike, sg, tg, em_Unlike⟩, kit_ref kd_NoRow ky_NoRow ks_NoRow kt_NoRow_Unlike⟩
      · exact ⟨x_HasPlace, ea_HasPlace, ⟨eg_HasPlace, eh_HasPlace, ec_HasPlace, ed_HasPlace, ea2_HasPlace, sg, tg, em_HasPlace⟩, kit_ref kd_NoRow ky_NoRow ks_NoRow kt_NoRow_HasPlace⟩
      · exact ⟨x_TooMany, ea_TooMany, ⟨eg_TooMany, eh_TooMany, ec_TooMany, ed_TooMany, ea2_TooMany, sg, tg, em_TooMany⟩, kit_ref kd_NoRow ky_NoRow ks_NoRow kt_NoRow_TooMany⟩
      · exact ⟨x_Nothing, ea_Nothing, ⟨eg_Nothing, eh_Nothing, ec_Nothing, ed_Nothing, ea2_Nothing, sg, tg, em_Nothing⟩, kit_ref kd_NoRow ky_NoRow ks_NoRow kt_NoRow_Nothing⟩
      · exact ⟨x_NoDeed, ea_NoDeed, ⟨eg_NoDeed, eh_NoDeed, ec_NoDeed, ed_NoDeed, ea2_NoDeed, sg, tg, em_NoDeed⟩, kit_ref kd_NoRow ky_NoRow ks_NoRow kt_NoRow_NoDeed⟩
      · exact ⟨x_Full, ea_Full, ⟨eg_Full, eh_Full, ec_Full, ed_Full, ea2_Full, sg, tg, em_Full⟩, kit_ref kd_NoRow ky_NoRow ks_NoRow kt_NoRow_Full⟩
      · exact ⟨x_Refused, ea_Refused, ⟨eg_Refused, eh_Refused, ec_Refused, ed_Refused, ea2_Refused, sg, tg, em_Refused⟩, kit_ref kd_NoRow ky_NoRow ks_NoRow kt_NoRow_Refused⟩
      · exact ⟨x_NoEntry, ea_NoEntry, ⟨eg_NoEntry, eh_NoEntry, ec_NoEntry, ed_NoEntry, ea2_NoEntry, sg, tg, em_NoEntry⟩, kit_ref kd_NoRow ky_NoRow ks_NoRow kt_NoRow_NoEntry⟩
      · exact ⟨x_NoText, ea_NoText, ⟨eg_NoText, eh_NoText, ec_NoText, ed_NoText, ea2_NoText, sg, tg, em_NoText⟩, kit_ref kd_NoRow ky_NoRow ks_NoRow kt_NoRow_NoText⟩
      · exact ⟨x_NoCommand, ea_NoCommand, ⟨eg_NoCommand, eh_NoCommand, ec_NoCommand, ed_NoCommand, ea2_NoCommand, sg, tg, em_NoCommand⟩, kit_ref kd_NoRow ky_NoRow ks_NoRow kt_NoRow_NoCommand⟩),
    ix_NoStep := isT_of (fun p hp => by
      simp only [tb_NoStep, List.mem_cons, List.not_mem_nil, or_false] at hp
      rcases hp with rfl | rfl | rfl | rfl | rfl | rfl | rfl | rfl | rfl | rfl | rfl | rfl | rfl | rfl | rfl | rfl | rfl | rfl | rfl
      · exact ⟨x_Wrong, ea_Wrong, ⟨eg_Wrong, eh_Wrong, ec_Wrong, ed_Wrong, ea2_Wrong, sg, tg, em_Wrong⟩, kit_ref kd_NoStep ky_NoStep ks_NoStep kt_NoStep_Wrong⟩
      · exact ⟨x_NoRow, ea_NoRow, ⟨eg_NoRow, eh_NoRow, ec_NoRow, ed_NoRow, ea2_NoRow, sg, tg, em_NoRow⟩, kit_ref kd_NoStep ky_NoStep ks_NoStep kt_NoStep_NoRow⟩
      · exact ⟨x_BadStep, ea_BadStep, ⟨eg_BadStep, eh_BadStep, ec_BadStep, ed_BadStep, ea2_BadStep, sg, tg, em_BadStep⟩, kit_ref kd_NoStep ky_NoStep ks_NoStep kt_NoStep_BadStep⟩
      · exact ⟨x_NoStep, ea_NoStep, ⟨eg_NoStep, eh_NoStep, ec_NoStep, ed_NoStep, ea2_NoStep, sg, tg, em_NoStep⟩, kit_ref kd_NoStep ky_NoStep ks_NoStep kt_NoStep_NoStep⟩
      · exact ⟨x_NotPicked, ea_NotPicked, ⟨eg_NotPicked, eh_NotPicked, ec_NotPicked, ed_NotPicked, ea2_NotPicked, sg, tg, em_NotPicked⟩, kit_ref kd_NoStep ky_NoStep ks_NoStep kt_NoStep_NotPicked⟩
      · exact ⟨x_Stuck, ea_Stuck, ⟨eg_Stuck, eh_Stuck, ec_Stuck, ed_Stuck, ea2_Stuck, sg, tg, em_Stuck⟩, kit_ref kd_NoStep ky_NoStep ks_NoStep kt_NoStep_Stuck⟩
      · exact ⟨x_Stopped, ea_Stopped, ⟨eg_Stopped, eh_Stopped, ec_Stopped, ed_Stopped, ea2_Stopped, sg, tg, em_Stopped⟩, kit_ref kd_NoStep ky_NoStep ks_NoStep kt_NoStep_Stopped⟩
      · exact ⟨x_Closed, ea_Closed, ⟨eg_Closed, eh_Closed, ec_Closed, ed_Closed, ea2_Closed, sg, tg, em_Closed⟩, kit_ref kd_NoStep ky_NoStep ks_NoStep kt_NoStep_Closed⟩
      · exact ⟨x_BadEdit, ea_BadEdit, ⟨eg_BadEdit, eh_BadEdit, ec_BadEdit, ed_BadEdit, ea2_BadEdit, sg, tg, em_BadEdit⟩, kit_ref kd_NoStep ky_NoStep ks_NoStep kt_NoStep_BadEdit⟩
      · exact ⟨x_Unlike, ea_Unlike, ⟨eg_Unlike, eh_Unlike, ec_Unlike, ed_Unlike, ea2_Unlike, sg, tg, em_Unlike⟩, kit_ref kd_NoStep ky_NoStep ks_NoStep kt_NoStep_Unlike⟩
      · exact ⟨x_HasPlace, ea_HasPlace, ⟨eg_HasPlace, eh_HasPlace, ec_HasPlace, ed_HasPlace, ea2_HasPlace, sg, tg, em_HasPlace⟩, kit_ref kd_NoStep ky_NoStep ks_NoStep kt_NoStep_HasPlace⟩
      · exact ⟨x_TooMany, ea_TooMany, ⟨eg_TooMany, eh_TooMany, ec_TooMany, ed_TooMany, ea2_TooMany, sg, tg, em_TooMany⟩, kit_ref kd_NoStep ky_NoStep ks_NoStep kt_NoStep_TooMany⟩
      · exact ⟨x_Nothing, ea_Nothing, ⟨eg_Nothing, eh_Nothing, ec_Nothing, ed_Nothing, ea2_Nothing, sg, tg, em_Nothing⟩, kit_ref kd_NoStep ky_NoStep ks_NoStep kt_NoStep_Nothing⟩
      · exact ⟨x_NoDeed, ea_NoDeed, ⟨eg_NoDeed, eh_NoDeed, ec_NoDeed, ed_NoDeed, ea2_NoDeed, sg, tg, em_NoDeed⟩, kit_ref kd_NoStep ky_NoStep ks_NoStep kt_NoStep_NoDeed⟩
      · exact ⟨x_Full, ea_Full, ⟨eg_Full, eh_Full, ec_Full, ed_Full, ea2_Full, sg, tg, em_Full⟩, kit_ref kd_NoStep ky_NoStep ks_NoStep kt_NoStep_Full⟩
      · exact ⟨x_Refused, ea_Refused, ⟨eg_Refused, eh_Refused, ec_Refused, ed_Refused, ea2_Refused, sg, tg, em_Refused⟩, kit_ref kd_NoStep ky_NoStep ks_NoStep kt_NoStep_Refused⟩
      · exact ⟨x_NoEntry, ea_NoEntry, ⟨eg_NoEntry, eh_NoEntry, ec_NoEntry, ed_NoEntry, ea2_NoEntry, sg, tg, em_NoEntry⟩, kit_ref kd_NoStep ky_NoStep ks_NoStep kt_NoStep_NoEntry⟩
      · exact ⟨x_NoText, ea_NoText, ⟨eg_NoText, eh_NoText, ec_NoText, ed_NoText, ea2_NoText, sg, tg, em_NoText⟩, kit_ref kd_NoStep ky_NoStep ks_NoStep kt_NoStep_NoText⟩
      · exact ⟨x_NoCommand, ea_NoCommand, ⟨eg_NoCommand, eh_NoCommand, ec_NoCommand, ed_NoCommand, ea2_NoCommand, sg, tg, em_NoCommand⟩, kit_ref kd_NoStep ky_NoStep ks_NoStep kt_NoStep_NoCommand⟩),
    ix_NoText := isT_of (fun p hp => by
      simp only [tb_NoText, List.mem_cons, List.not_mem_nil, or_false] at hp
      rcases hp with rfl | rfl | rfl | rfl | rfl | rfl | rfl | rfl | rfl | rfl | rfl | rfl | rfl | rfl | rfl | rfl | rfl | rfl | rfl
      · exact ⟨x_Wrong, ea_Wrong, ⟨eg_Wrong, eh_Wrong, ec_Wrong, ed_Wrong, ea2_Wrong, sg, tg, em_Wrong⟩, kit_ref kd_NoText ky_NoText ks_NoText kt_NoText_Wrong⟩
      · exact ⟨x_NoRow, ea_NoRow, ⟨eg_NoRow, eh_NoRow, ec_NoRow, ed_NoRow, ea2_NoRow, sg, tg, em_NoRow⟩, kit_ref kd_NoText ky_NoText ks_NoText kt_NoText_NoRow⟩
      · exact ⟨x_BadStep, ea_BadStep, ⟨eg_BadStep, eh_BadStep, ec_BadStep, ed_BadStep, ea2_BadStep, sg, tg, em_BadStep⟩, kit_ref kd_NoText ky_NoText ks_NoText kt_NoText_BadStep⟩
      · exact ⟨x_NoStep, ea_NoStep, ⟨eg_NoStep, eh_NoStep, ec_NoStep, ed_NoStep, ea2_NoStep, sg, tg, em_NoStep⟩, kit_ref kd_NoText ky_NoText ks_NoText kt_NoText_NoStep⟩
      · exact ⟨x_NotPicked, ea_NotPicked, ⟨eg_NotPicked, eh_NotPicked, ec_NotPicked, ed_NotPicked, ea2_NotPicked, sg, tg, em_NotPicked⟩, kit_ref kd_NoText ky_NoText ks_NoText kt_NoText_NotPicked⟩
      · exact ⟨x_Stuck, ea_Stuck, ⟨eg_Stuck, eh_Stuck, ec_Stuck, ed_Stuck, ea2_Stuck, sg, tg, em_Stuck⟩, kit_ref kd_NoText ky_NoText ks_NoText kt_NoText_Stuck⟩
      · exact ⟨x_Stopped, ea_Stopped, ⟨eg_Stopped, eh_Stopped, ec_Stopped, ed_Stopped, ea2_Stopped, sg, tg, em_Stopped⟩, kit_ref kd_NoText ky_NoText ks_NoText kt_NoText_Stopped⟩
      · exact ⟨x_Closed, ea_Closed, ⟨eg_Closed, eh_Closed, ec_Closed, ed_Closed, ea2_Closed, sg, tg, em_Closed⟩, kit_ref kd_NoText ky_NoText ks_NoText kt_NoText_Closed⟩
      · exact ⟨x_BadEdit, ea_BadEdit, ⟨eg_BadEdit, eh_BadEdit, ec_BadEdit, ed_BadEdit, ea2_BadEdit, sg, tg, em_BadEdit⟩, kit_ref kd_NoText ky_NoText ks_NoText kt_NoText_BadEdit⟩
      · exact ⟨x_Unlike, ea_Unlike, ⟨eg_Unlike, eh_Unlike, ec_Unlike, ed_Unlike, ea2_Unlike, sg, tg, em_Unlike⟩, kit_ref kd_NoText ky_NoText ks_NoText kt_NoText_Unlike⟩
      · exact ⟨x_HasPlace, ea_HasPlace, ⟨eg_HasPlace, eh_HasPlace, ec_HasPlace, ed_HasPlace, ea2_HasPlace, sg, tg, em_HasPlace⟩, kit_ref kd_NoText ky_NoText ks_NoText kt_NoText_HasPlace⟩
      · exact ⟨x_TooMany, ea_TooMany, ⟨eg_TooMany, eh_TooMany, ec_TooMany, ed_TooMany, ea2_TooMany, sg, tg, em_TooMany⟩, kit_ref kd_NoText ky_NoText ks_NoText kt_NoText_TooMany⟩
      · exact ⟨x_Nothing, ea_Nothing, ⟨eg_Nothing, eh_Nothing, ec_Nothing, ed_Nothing, ea2_Nothing, sg, tg, em_Nothing⟩, kit_ref kd_NoText ky_NoText ks_NoText kt_NoText_Nothing⟩
      · exact ⟨x_NoDeed, ea_NoDeed, ⟨eg_NoDeed, eh_NoDeed, ec_NoDeed, ed_NoDeed, ea2_NoDeed, sg, tg, em_NoDeed⟩, kit_ref kd_NoText ky_NoText ks_NoText kt_NoText_NoDeed⟩
      · exact ⟨x_Full, ea_Full, ⟨eg_Full, eh_Full, ec_Full, ed_Full, ea2_Full, sg, tg, em_Full⟩, kit_ref kd_NoText ky_NoText ks_NoText kt_NoText_Full⟩
      · exact ⟨x_Refused, ea_Refused, ⟨eg_Refused, eh_Refused, ec_Refused, ed_Refused, ea2_Refused, sg, tg, em_Refused⟩, kit_ref kd_NoText ky_NoText ks_NoText kt_NoText_Refused⟩
      · exact ⟨x_NoEntry, ea_NoEntry, ⟨eg_NoEntry, eh_NoEntry, ec_NoEntry, ed_NoEntry, ea2_NoEntry, sg, tg, em_NoEntry⟩, kit_ref kd_NoText ky_NoText ks_NoText kt_NoText_NoEntry⟩
      · exact ⟨x_NoText, ea_NoText, ⟨eg_NoText, eh_NoText, ec_NoText, ed_NoText, ea2_NoText, sg, tg, em_NoText⟩, kit_ref kd_NoText ky_NoText ks_NoText kt_NoText_NoText⟩
      · exact ⟨x_NoCommand, ea_NoCommand, ⟨eg_NoCommand, eh_NoCommand, ec_NoCommand, ed_NoCommand, ea2_NoCommand, sg, tg, em_NoCommand⟩, kit_ref kd_NoText ky_NoText ks_NoText kt_NoText_NoCommand⟩),
    ix_NotPicked := isT_of (fun p hp => by
      simp only [tb_NotPicked, List.mem_cons, List.not_mem_nil, or_false] at hp
      rcases hp with rfl | rfl | rfl | rfl | rfl | rfl | rfl | rfl | rfl | rfl | rfl | rfl | rfl | rfl | rfl | rfl | rfl | rfl | rfl
      · exact ⟨x_Wrong, ea_Wrong, ⟨eg_Wrong, eh_Wrong, ec_Wrong, ed_Wrong, ea2_Wrong, sg, tg, em_Wrong⟩, kit_ref kd_NotPicked ky_NotPicked ks_NotPicked kt_NotPicked_Wrong⟩
      · exact ⟨x_NoRow, ea_NoRow, ⟨eg_NoRow, eh_NoRow, ec_NoRow, ed_NoRow, ea2_NoRow, sg, tg, em_NoRow⟩, kit_ref kd_NotPicked ky_NotPicked ks_NotPicked kt_NotPicked_NoRow⟩
      · exact ⟨x_BadStep, ea_BadStep, ⟨eg_BadStep, eh_BadStep, ec_BadStep, ed_BadStep, ea2_BadStep, sg, tg, em_BadStep⟩, kit_ref kd_NotPicked ky_NotPicked ks_NotPicked kt_NotPicked_BadStep⟩
      · exact ⟨x_NoStep, ea_NoStep, ⟨eg_NoStep, eh_NoStep, ec_NoStep, ed_NoStep, ea2_NoStep, sg, tg, em_NoStep⟩, kit_ref kd_NotPicked ky_NotPicked ks_NotPicked kt_NotPicked_NoStep⟩
      · exact ⟨x_NotPicked, ea_NotPicked, ⟨eg_NotPicked, eh_NotPicked, ec_NotPicked, ed_NotPicked, ea2_NotPicked, sg, tg, em_NotPicked⟩, kit_ref kd_NotPicked ky_NotPicked ks_NotPicked kt_NotPicked_NotPicked⟩
      · exact ⟨x_Stuck, ea_Stuck, ⟨eg_Stuck, eh_Stuck, ec_Stuck, ed_Stuck, ea2_Stuck, sg, tg, em_Stuck⟩, kit_ref kd_NotPicked ky_NotPicked ks_NotPicked kt_NotPicked_Stuck⟩
      · exact ⟨x_Stopped, ea_Stopped, ⟨eg_Stopped, eh_Stopped, ec_Stopped, ed_Stopped, ea2_Stopped, sg, tg, em_Stopped⟩, kit_ref kd_NotPicked ky_NotPicked ks_NotPicked kt_NotPicked_Stopped⟩
      · exact ⟨x_Closed, ea_Closed, ⟨eg_Closed, eh_Closed, ec_Closed, ed_Closed, ea2_Closed, sg, tg, em_Closed⟩, kit_ref kd_NotPicked ky_NotPicked ks_NotPicked kt_NotPicked_Closed⟩
      · exact ⟨x_BadEdit, ea_BadEdit, ⟨eg_BadEdit, eh_BadEdit, ec_BadEdit, ed_BadEdit, ea2_BadEdit, sg, tg, em_BadEdit⟩, kit_ref kd_NotPicked ky_NotPicked ks_NotPicked kt_NotPicked_BadEdit⟩
      · exact ⟨x_Unlike, ea_Unlike, ⟨eg_Unlike, eh_Unlike, ec_Unlike, ed_Unlike, ea2_Unlike, sg, tg, em_Unlike⟩, kit_ref kd_NotPicked ky_NotPicked ks_NotPicked kt_NotPicked_Unlike⟩
      · exact ⟨x_HasPlace, ea_HasPlace, ⟨eg_HasPlace, eh_HasPlace, ec_HasPlace, ed_HasPlace, ea2_HasPlace, sg, tg, em_HasPlace⟩, kit_ref kd_NotPicked ky_NotPicked ks_NotPicked kt_NotPicked_HasPlace⟩
      · exact ⟨x_TooMany, ea_TooMany, ⟨eg_TooMany, eh_TooMany, ec_TooMany, ed_TooMany, ea2_TooMany, sg, tg, em_TooMany⟩, kit_ref kd_NotPicked ky_NotPicked ks_NotPicked kt_NotPicked_TooMany⟩
      · exact ⟨x_Nothing, ea_Nothing, ⟨eg_Nothing, eh_Nothing, ec_Nothing, ed_Nothing, ea2_Nothing, sg, tg, em_Nothing⟩, kit_ref kd_NotPicked ky_NotPicked ks_NotPicked kt_NotPicked_Nothing⟩
      · exact ⟨x_NoDeed, ea_NoDeed, ⟨eg_NoDeed, eh_NoDeed, ec_NoDeed, ed_NoDeed, ea2_NoDeed, sg, tg, em_NoDeed⟩, kit_ref kd_NotPicked ky_NotPicked ks_NotPicked kt_NotPicked_NoDeed⟩
      · exact ⟨x_Full, ea_Full, ⟨eg_Full, eh_Full, ec_Full, ed_Full, ea2_Full, sg, tg, em_Full⟩, kit_ref kd_NotPicked ky_NotPicked ks_NotPicked kt_NotPicked_Full⟩
      · exact ⟨x_Refused, ea_Refused, ⟨eg_Refused, eh_Refused, ec_Refused, ed_Refused, ea2_Refused, sg, tg, em_Refused⟩, kit_ref kd_NotPicked ky_NotPicked ks_NotPicked kt_NotPicked_Refused⟩
      · exact ⟨x_NoEntry, ea_NoEntry, ⟨eg_NoEntry, eh_NoEntry, ec_NoEntry, ed_NoEntry, ea2_NoEntry, sg, tg, em_NoEntry⟩, kit_ref kd_NotPicked ky_NotPicked ks_NotPicked kt_NotPicked_NoEntry⟩
      · exact ⟨x_NoText, ea_NoText, ⟨eg_NoText, eh_NoText, ec_NoText, ed_NoText, ea2_NoText, sg, tg, em_NoText⟩, kit_ref kd_NotPicked ky_NotPicked ks_NotPicked kt_NotPicked_NoText⟩
      · exact ⟨x_NoCommand, ea_NoCommand, ⟨eg_NoCommand, eh_NoCommand, ec_NoCommand, ed_NoCommand, ea2_NoCommand, sg, tg, em_NoCommand⟩, kit_ref kd_NotPicked ky_NotPicked ks_NotPicked kt_NotPicked_NoCommand⟩),
    ix_Nothing := isT_of (fun p hp => by
      simp only [tb_Nothing, List.mem_cons, List.not_mem_nil, or_false] at hp
      rcases hp with rfl | rfl | rfl | rfl | rfl | rfl | rfl | rfl | rfl | rfl | rfl | rfl | rfl | rfl | rfl | rfl | rfl | rfl | rfl
      · exact ⟨x_Wrong, ea_Wrong, ⟨eg_Wrong, eh_Wrong, ec_Wrong, ed_Wrong, ea2_Wrong, sg, tg, em_Wrong⟩, kit_ref kd_Nothing ky_Nothing ks_Nothing kt_Nothing_Wrong⟩
      · exact ⟨x_NoRow, ea_NoRow, ⟨eg_NoRow, eh_NoRow, ec_NoRow, ed_NoRow, ea2_NoRow, sg, tg, em_NoRow⟩, kit_ref kd_Nothing ky_Nothing ks_Nothing kt_Nothing_NoRow⟩
      · exact ⟨x_BadStep, ea_BadStep, ⟨eg_BadStep, eh_BadStep, ec_BadStep, ed_BadStep, ea2_BadStep, sg, tg, em_BadStep⟩, kit_ref kd_Nothing ky_Nothing ks_Nothing kt_Nothing_BadStep⟩
      · exact ⟨x_NoStep, ea_NoStep, ⟨eg_NoStep, eh_NoStep, ec_NoStep, ed_NoStep, ea2_NoStep, sg, tg, em_NoStep⟩, kit_ref kd_Nothing ky_Nothing ks_Nothing kt_Nothing_NoStep⟩
      · exact ⟨x_NotPicked, ea_NotPicked, ⟨eg_NotPicked, eh_NotPicked, ec_NotPicked, ed_NotPicked, ea2_NotPicked, sg, tg, em_NotPicked⟩, kit_ref kd_Nothing ky_Nothing ks_Nothing kt_Nothing_NotPicked⟩
      · exact ⟨x_Stuck, ea_Stuck, ⟨eg_Stuck, eh_Stuck, ec_Stuck, ed_Stuck, ea2_Stuck, sg, tg, em_Stuck⟩, kit_ref kd_Nothing ky_Nothing ks_Nothing kt_Nothing_Stuck⟩
      · exact ⟨x_Stopped, ea_Stopped, ⟨eg_Stopped, eh_Stopped, ec_Stopped, ed_Stopped, ea2_Stopped, sg, tg, em_Stopped⟩, kit_ref kd_Nothing ky_Nothing ks_Nothing kt_Nothing_Stopped⟩
      · exact ⟨x_Closed, ea_Closed, ⟨eg_Closed, eh_Closed, ec_Closed, ed_Closed, ea2_Closed, sg, tg, em_Closed⟩, kit_ref kd_Nothing ky_Nothing ks_Nothing kt_Nothing_Closed⟩
      · exact ⟨x_BadEdit, ea_BadEdit, ⟨eg_BadEdit, eh_BadEdit, ec_BadEdit, ed_BadEdit, ea2_BadEdit, sg, tg, em_BadEdit⟩, kit_ref kd_Nothing ky_Nothing ks_Nothing kt_Nothing_BadEdit⟩
      · exact ⟨x_Unlike, ea_Unlike, ⟨eg_Unlike, eh_Unlike, ec_Unlike, ed_Unlike, ea2_Unlike, sg, tg, em_Unlike⟩, kit_ref kd_Nothing ky_Nothing ks_Nothing kt_Nothing_Unlike⟩
      · exact ⟨x_HasPlace, ea_HasPlace, ⟨eg_HasPlace, eh_HasPlace, ec_HasPlace, ed_HasPlace, ea2_HasPlace, sg, tg, em_HasPlace⟩, kit_ref kd_Nothing ky_Nothing ks_Nothing kt_Nothing_HasPlace⟩
      · exact ⟨x_TooMany, ea_TooMany, ⟨eg_TooMany, eh_TooMany, ec_TooMany, ed_TooMany, ea2_TooMany, sg, tg, em_TooMany⟩, kit_ref kd_Nothing ky_Nothing ks_Nothing kt_Nothing_TooMany⟩
      · exact ⟨x_Nothing, ea_Nothing, ⟨eg_Nothing, eh_Nothing, ec_Nothing, ed_Nothing, ea2_Nothing, sg, tg, em_Nothing⟩, kit_ref kd_Nothing ky_Nothing ks_Nothing kt_Nothing_Nothing⟩
      · exact ⟨x_NoDeed, ea_NoDeed, ⟨eg_NoDeed, eh_NoDeed, ec_NoDeed, ed_NoDeed, ea2_NoDeed, sg, tg, em_NoDeed⟩, kit_ref kd_Nothing ky_Nothing ks_Nothing kt_Nothing_NoDeed⟩
      · exact ⟨x_Full, ea_Full, ⟨eg_Full, eh_Full, ec_Full, ed_Full, ea2_Full, sg, tg, em_Full⟩, kit_ref kd_Nothing ky_Nothing ks_Nothing kt_Nothing_Full⟩
      · exact ⟨x_Refused, ea_Refused, ⟨eg_Refused, eh_Refused, ec_Refused, ed_Refused, ea2_Refused, sg, tg, em_Refused⟩, kit_ref kd_Nothing ky_Nothing ks_Nothing kt_Nothing_Refused⟩
      · exact ⟨x_NoEntry, ea_NoEntry, ⟨eg_NoEntry, eh_NoEntry, ec_NoEntry, ed_NoEntry, ea2_NoEntry, sg, tg, em_NoEntry⟩, kit_ref kd_Nothing ky_Nothing ks_Nothing kt_Nothing_NoEntry⟩
      · exact ⟨x_NoText, ea_NoText, ⟨eg_NoText, eh_NoText, ec_NoText, ed_NoText, ea2_NoText, sg, tg, em_NoText⟩, kit_ref kd_Nothing ky_Nothing ks_Nothing kt_Nothing_NoText⟩
      · exact ⟨x_NoCommand, ea_NoCommand, ⟨eg_NoCommand, eh_NoCommand, ec_NoCommand, ed_NoCommand, ea2_NoCommand, sg, tg, em_NoCommand⟩, kit_ref kd_Nothing ky_Nothing ks_Nothing kt_Nothing_NoCommand⟩),
    ix_Refused := isT_of (fun p hp => by
      simp only [tb_Refused, List.mem_cons, List.not_mem_nil, or_false] at hp
      rcases hp with rfl | rfl | rfl | rfl | rfl | rfl | rfl | rfl | rfl | rfl | rfl | rfl | rfl | rfl | rfl | rfl | rfl | rfl | rfl
      · exact ⟨x_Wrong, ea_Wrong, ⟨eg_Wrong, eh_Wrong, ec_Wrong, ed_Wrong, ea2_Wrong, sg, tg, em_Wrong⟩, kit_ref kd_Refused ky_Refused ks_Refused kt_Refused_Wrong⟩
      · exact ⟨x_NoRow, ea_NoRow, ⟨eg_NoRow, eh_NoRow, ec_NoRow, ed_NoRow, ea2_NoRow, sg, tg, em_NoRow⟩, kit_ref kd_Refused ky_Refused ks_Refused kt_Refused_NoRow⟩
      · exact ⟨x_BadStep, ea_BadStep, ⟨eg_BadStep, eh_BadStep, ec_BadStep, ed_BadStep, ea2_BadStep, sg, tg, em_BadStep⟩, kit_ref kd_Refused ky_Refused ks_Refused kt_Refused_BadStep⟩
      · exact ⟨x_NoStep, ea_NoStep, ⟨eg_NoStep, eh_NoStep, ec_NoStep, ed_NoStep, ea2_NoStep, sg, tg, em_NoStep⟩, kit_ref kd_Refused ky_Refused ks_Refused kt_Refused_NoStep⟩
      · exact ⟨x_NotPicked, ea_NotPicked, ⟨eg_NotPicked, eh_NotPicked, ec_NotPicked, ed_NotPicked, ea2_NotPicked, sg, tg, em_NotPicked⟩, kit_ref kd_Refused ky_Refused ks_Refused kt_Refused_NotPicked⟩
      · exact ⟨x_Stuck, ea_Stuck, ⟨eg_Stuck, eh_Stuck, ec_Stuck, ed_Stuck, ea2_Stuck, sg, tg, em_Stuck⟩, kit_ref kd_Refused ky_Refused ks_Refused kt_Refused_Stuck⟩
      · exact ⟨x_Stopped, ea_Stopped, ⟨eg_Stopped, eh_Stopped, ec_Stopped, ed_Stopped, ea2_Stopped, sg, tg, em_Stopped⟩, kit_ref kd_Refused ky_Refused ks_Refused kt_Refused_Stopped⟩
      · exact ⟨x_Closed, ea_Closed, ⟨eg_Closed, eh_Closed, ec_Closed, ed_Closed, ea2_Closed, sg, tg, em_Closed⟩, kit_ref kd_Refused ky_Refused ks_Refused kt_Refused_Closed⟩
      · exact ⟨x_BadEdit, ea_BadEdit, ⟨eg_BadEdit, eh_BadEdit, ec_BadEdit, ed_BadEdit, ea2_BadEdit, sg, tg, em_BadEdit⟩, kit_ref kd_Refused ky_Refused ks_Refused kt_Refused_BadEdit⟩
      · exact ⟨x_Unlike, ea_Unlike, ⟨eg_Unlike, eh_Unlike, ec_Unlike, ed_Unlike, ea2_Unlike, sg, tg, em_Unlike⟩, kit_ref kd_Refused ky_Refused ks_Refused kt_Refused_Unlike⟩
      · exact ⟨x_HasPlace, ea_HasPlace, ⟨eg_HasPlace, eh_HasPlace, ec_HasPlace, ed_HasPlace, ea2_HasPlace, sg, tg, em_HasPlace⟩, kit_ref kd_Refused ky_Refused ks_Refused kt_Refused_HasPlace⟩
      · exact ⟨x_TooMany, ea_TooMany, ⟨eg_TooMany, eh_TooMany, ec_TooMany, ed_TooMany, ea2_TooMany, sg, tg, em_TooMany⟩, kit_ref kd_Refused ky_Refused ks_Refused kt_Refused_TooMany⟩
      · exact ⟨x_Nothing, ea_Nothing, ⟨eg_Nothing, eh_Nothing, ec_Nothing, ed_Nothing, ea2_Nothing, sg, tg, em_Nothing⟩, kit_ref kd_Refused ky_Refused ks_Refused kt_Refused_Nothing⟩
      · exact ⟨x_NoDeed, ea_NoDeed, ⟨eg_NoDeed, eh_NoDeed, ec_NoDeed, ed_NoDeed, ea2_NoDeed, sg, tg, em_NoDeed⟩, kit_ref kd_Refused ky_Refused ks_Refused kt_Refused_NoDeed⟩
      · exact ⟨x_Full, ea_Full, ⟨eg_Full, eh_Full, ec_Full, ed_Full, ea2_Full, sg, tg, em_Full⟩, kit_ref kd_Refused ky_Refused ks_Refused kt_Refused_Full⟩
      · exact ⟨x_Refused, ea_Refused, ⟨eg_Refused, eh_Refused, ec_Refused, ed_Refused, ea2_Refused, sg, tg, em_Refused⟩, kit_ref kd_Refused ky_Refused ks_Refused kt_Refused_Refused⟩
      · exact ⟨x_NoEntry, ea_NoEntry, ⟨eg_NoEntry, eh_NoEntry, ec_NoEntry, ed_NoEntry, ea2_NoEntry, sg, tg, em_NoEntry⟩, kit_ref kd_Refused ky_Refused ks_Refused kt_Refused_NoEntry⟩
      · exact ⟨x_NoText, ea_NoText, ⟨eg_NoText, eh_NoText, ec_NoText, ed_NoText, ea2_NoText, sg, tg, em_NoText⟩, kit_ref kd_Refused ky_Refused ks_Refused kt_Refused_NoText⟩
      · exact ⟨x_NoCommand, ea_NoCommand, ⟨eg_NoCommand, eh_NoCommand, ec_NoCommand, ed_NoCommand, ea2_NoCommand, sg, tg, em_NoCommand⟩, kit_ref kd_Refused ky_Refused ks_Refused kt_Refused_NoCommand⟩),
    ix_Stopped := isT_of (fun p hp => by
      simp only [tb_Stopped, List.mem_cons, List.not_mem_nil, or_false] at hp
      rcases hp with rfl | rfl | rfl | rfl | rfl | rfl | rfl | rfl | rfl | rfl | rfl | rfl | rfl | rfl | rfl | rfl | rfl | rfl | rfl
      · exact ⟨x_Wrong, ea_Wrong, ⟨eg_Wrong, eh_Wrong, ec_Wrong, ed_Wrong, ea2_Wrong, sg, tg, em_Wrong⟩, kit_ref kd_Stopped ky_Stopped ks_Stopped kt_Stopped_Wrong⟩
      · exact ⟨x_NoRow, ea_NoRow, ⟨eg_NoRow, eh_NoRow, ec_NoRow, ed_NoRow, ea2_NoRow, sg, tg, em_NoRow⟩, kit_ref kd_Stopped ky_Stopped ks_Stopped kt_Stopped_NoRow⟩
      · exact ⟨x_BadStep, ea_BadStep, ⟨eg_BadStep, eh_BadStep, ec_BadStep, ed_BadStep, ea2_BadStep, sg, tg, em_BadStep⟩, kit_ref kd_Stopped ky_Stopped ks_Stopped kt_Stopped_BadStep⟩
      · exact ⟨x_NoStep, ea_NoStep, ⟨eg_NoStep, eh_NoStep, ec_NoStep, ed_NoStep, ea2_NoStep, sg, tg, em_NoStep⟩, kit_ref kd_Stopped ky_Stopped ks_Stopped kt_Stopped_NoStep⟩
      · exact ⟨x_NotPicked, ea_NotPicked, ⟨eg_NotPicked, eh_NotPicked, ec_NotPicked, ed_NotPicked, ea2_NotPicked, sg, tg, em_NotPicked⟩, kit_ref kd_Stopped ky_Stopped ks_Stopped kt_Stopped_NotPicked⟩
      · exact ⟨x_Stuck, ea_Stuck, ⟨eg_Stuck, eh_Stuck, ec_Stuck, ed_Stuck, ea2_Stuck, sg, tg, em_Stuck⟩, kit_ref kd_Stopped ky_Stopped ks_Stopped kt_Stopped_Stuck⟩
      · exact ⟨x_Stopped, ea_Stopped, ⟨eg_Stopped, eh_Stopped, ec_Stopped, ed_Stopped, ea2_Stopped, sg, tg, em_Stopped⟩, kit_ref kd_Stopped ky_Stopped ks_Stopped kt_Stopped_Stopped⟩
      · exact ⟨x_Closed, ea_Closed, ⟨eg_Closed, eh_Closed, ec_Closed, ed_Closed, ea2_Closed, sg, tg, em_Closed⟩, kit_ref kd_Stopped ky_Stopped ks_Stopped kt_Stopped_Closed⟩
      · exact ⟨x_BadEdit, ea_BadEdit, ⟨eg_BadEdit, eh_BadEdit, ec_BadEdit, ed_BadEdit, ea2_BadEdit, sg, tg, em_BadEdit⟩, kit_ref kd_Stopped ky_Stopped ks_Stopped kt_Stopped_BadEdit⟩
      · exact ⟨x_Unlike, ea_Unlike, ⟨eg_Unlike, eh_Unlike, ec_Unlike, ed_Unlike, ea2_Unlike, sg, tg, em_Unlike⟩, kit_ref kd_Stopped ky_Stopped ks_Stopped kt_Stopped_Unlike⟩
      · exact ⟨x_HasPlace, ea_HasPlace, ⟨eg_HasPlace, eh_HasPlace, ec_HasPlace, ed_HasPlace, ea2_HasPlace, sg, tg, em_HasPlace⟩, kit_ref kd_Stopped ky_Stopped ks_Stopped kt_Stopped_HasPlace⟩
      · exact ⟨x_TooMany, ea_TooMany, ⟨eg_TooMany, eh_TooMany, ec_TooMany, ed_TooMany, ea2_TooMany, sg, tg, em_TooMany⟩, kit_ref kd_Stopped ky_Stopped ks_Stopped kt_Stopped_TooMany⟩
      · exact ⟨x_Nothing, ea_Nothing, ⟨eg_Nothing, eh_Nothing, ec_Nothing, ed_Nothing, ea2_Nothing, sg, tg, em_Nothing⟩, kit_ref kd_Stopped ky_Stopped ks_Stopped kt_Stopped_Nothing⟩
      · exact ⟨x_NoDeed, ea_NoDeed, ⟨eg_NoDeed, eh_NoDeed, ec_NoDeed, ed_NoDeed, ea2_NoDeed, sg, tg, em_NoDeed⟩, kit_ref kd_Stopped ky_Stopped ks_Stopped kt_Stopped_NoDeed⟩
      · exact ⟨x_Full, ea_Full, ⟨eg_Full, eh_Full, ec_Full, ed_Full, ea2_Full, sg, tg, em_Full⟩, kit_ref kd_Stopped ky_Stopped ks_Stopped kt_Stopped_Full⟩
      · exact ⟨x_Refused, ea_Refused, ⟨eg_Refused, eh_Refused, ec_Refused, ed_Refused, ea2_Refused, sg, tg, em_Refused⟩, kit_ref kd_Stopped ky_Stopped ks_Stopped kt_Stopped_Refused⟩
      · exact ⟨x_NoEntry, ea_NoEntry, ⟨eg_NoEntry, eh_NoEntry, ec_NoEntry, ed_NoEntry, ea2_NoEntry, sg, tg, em_NoEntry⟩, kit_ref kd_Stopped ky_Stopped ks_Stopped kt_Stopped_NoEntry⟩
      · exact ⟨x_NoText, ea_NoText, ⟨eg_NoText, eh_NoText, ec_NoText, ed_NoText, ea2_NoText, sg, tg, em_NoText⟩, kit_ref kd_Stopped ky_Stopped ks_Stopped kt_Stopped_NoText⟩
      · exact ⟨x_NoCommand, ea_NoCommand, ⟨eg_NoCommand, eh_NoCommand, ec_NoCommand, ed_NoCommand, ea2_NoCommand, sg, tg, em_NoCommand⟩, kit_ref kd_Stopped ky_Stopped ks_Stopped kt_Stopped_NoCommand⟩),
    ix_Stuck := isT_of (fun p hp => by
      simp only [tb_Stuck, List.mem_cons, List.not_mem_nil, or_false] at hp
      rcases hp with rfl | rfl | rfl | rfl | rfl | rfl | rfl | rfl | rfl | rfl | rfl | rfl | rfl | rfl | rfl | rfl | rfl | rfl | rfl
      · exact ⟨x_Wrong, ea_Wrong, ⟨eg_Wrong, eh_Wrong, ec_Wrong, ed_Wrong, ea2_Wrong, sg, tg, em_Wrong⟩, kit_ref kd_Stuck ky_Stuck ks_Stuck kt_Stuck_Wrong⟩
      · exact ⟨x_NoRow, ea_NoRow, ⟨eg_NoRow, eh_NoRow, ec_NoRow, ed_NoRow, ea2_NoRow, sg, tg, em_NoRow⟩, kit_ref kd_Stuck ky_Stuck ks_Stuck kt_Stuck_NoRow⟩
      · exact ⟨x_BadStep, ea_BadStep, ⟨eg_BadStep, eh_BadStep, ec_BadStep, ed_BadStep, ea2_BadStep, sg, tg, em_BadStep⟩, kit_ref kd_Stuck ky_Stuck ks_Stuck kt_Stuck_BadStep⟩
      · exact ⟨x_NoStep, ea_NoStep, ⟨eg_NoStep, eh_NoStep, ec_NoStep, ed_NoStep, ea2_NoStep, sg, tg, em_NoStep⟩, kit_ref kd_Stuck ky_Stuck ks_Stuck kt_Stuck_NoStep⟩
      · exact ⟨x_NotPicked, ea_NotPicked, ⟨eg_NotPicked, eh_NotPicked, ec_NotPicked, ed_NotPicked, ea2_NotPicked, sg, tg, em_NotPicked⟩, kit_ref kd_Stuck ky_Stuck ks_Stuck kt_Stuck_NotPicked⟩
      · exact ⟨x_Stuck, ea_Stuck, ⟨eg_Stuck, eh_Stuck, ec_Stuck, ed_Stuck, ea2_Stuck, sg, tg, em_Stuck⟩, kit_ref kd_Stuck ky_Stuck ks_Stuck kt_Stuck_Stuck⟩
      · exact ⟨x_Stopped, ea_Stopped, ⟨eg_Stopped, eh_Stopped, ec_Stopped, ed_Stopped, ea2_Stopped, sg, tg, em_Stopped⟩, kit_ref kd_Stuck ky_Stuck ks_Stuck kt_Stuck_Stopped⟩
      · exact ⟨x_Closed, ea_Closed, ⟨eg_Closed, eh_Closed, ec_Closed, ed_Closed, ea2_Closed, sg, tg, em_Closed⟩, kit_ref kd_Stuck ky_Stuck ks_Stuck kt_Stuck_Closed⟩
      · exact ⟨x_BadEdit, ea_BadEdit, ⟨eg_BadEdit, eh_BadEdit, ec_BadEdit, ed_BadEdit, ea2_BadEdit, sg, tg, em_BadEdit⟩, kit_ref kd_Stuck ky_Stuck ks_Stuck kt_Stuck_BadEdit⟩
      · exact ⟨x_Unlike, ea_Unlike, ⟨eg_Unlike, eh_Unlike, ec_Unlike, ed_Unlike, ea2_Unlike, sg, tg, em_Unlike⟩, kit_ref kd_Stuck ky_Stuck ks_Stuck kt_Stuck_Unlike⟩
      · exact ⟨x_HasPlace, ea_HasPlace, ⟨eg_HasPlace, eh_HasPlace, ec_HasPlace, ed_HasPlace, ea2_HasPlace, sg, tg, em_HasPlace⟩, kit_ref kd_Stuck ky_Stuck ks_Stuck kt_Stuck_HasPlace⟩
      · exact ⟨x_TooMany, ea_TooMany, ⟨eg_TooMany, eh_TooMany, ec_TooMany, ed_TooMany, ea2_TooMany, sg, tg, em_TooMany⟩, kit_ref kd_Stuck ky_Stuck ks_Stuck kt_Stuck_TooMany⟩
      · exact ⟨x_Nothing, ea_Nothing, ⟨eg_Nothing, eh_Nothing, ec_Nothing, ed_Nothing, ea2_Nothing, sg, tg, em_Nothing⟩, kit_ref kd_Stuck ky_Stuck ks_Stuck kt_Stuck_Nothing⟩
      · exact ⟨x_NoDeed, ea_NoDeed, ⟨eg_NoDeed, eh_NoDeed, ec_NoDeed, ed_NoDeed, ea2_NoDeed, sg, tg, em_NoDeed⟩, kit_ref kd_Stuck ky_Stuck ks_Stuck kt_Stuck_NoDeed⟩
      · exact ⟨x_Full, ea_Full, ⟨eg_Full, eh_Full, ec_Full, ed_Full, ea2_Full, sg, tg, em_Full⟩, kit_ref kd_Stuck ky_Stuck ks_Stuck kt_Stuck_Full⟩
      · exact ⟨x_Refused, ea_Refused, ⟨eg_Refused, eh_Refused, ec_Refused, ed_Refused, ea2_Refused, sg, tg, em_Refused⟩, kit_ref kd_Stuck ky_Stuck ks_Stuck kt_Stuck_Refused⟩
      · exact ⟨x_NoEntry, ea_NoEntry, ⟨eg_NoEntry, eh_NoEntry, ec_NoEntry, ed_NoEntry, ea2_NoEntry, sg, tg, em_NoEntry⟩, kit_ref kd_Stuck ky_Stuck ks_Stuck kt_Stuck_NoEntry⟩
      · exact ⟨x_NoText, ea_NoText, ⟨eg_NoText, eh_NoText, ec_NoText, ed_NoText, ea2_NoText, sg, tg, em_NoText⟩, kit_ref kd_Stuck ky_Stuck ks_Stuck kt_Stuck_NoText⟩
      · exact ⟨x_NoCommand, ea_NoCommand, ⟨eg_NoCommand, eh_NoCommand, ec_NoCommand, ed_NoCommand, ea2_NoCommand, sg, tg, em_NoCommand⟩, kit_ref kd_Stuck ky_Stuck ks_Stuck kt_Stuck_NoCommand⟩),
    ix_TooMany := isT_of (fun p hp => by
      simp only [tb_TooMany, List.mem_cons, List.not_mem_nil, or_false] at hp
      rcases hp with rfl | rfl | rfl | rfl | rfl | rfl | rfl | rfl | rfl | rfl | rfl | rfl | rfl | rfl | rfl | rfl | rfl | rfl | rfl
      · exact ⟨x_Wrong, ea_Wrong, ⟨eg_Wrong, eh_Wrong, ec_Wrong, ed_Wrong, ea2_Wrong, sg, tg, em_Wrong⟩, kit_ref kd_TooMany ky_TooMany ks_TooMany kt_TooMany_Wrong⟩
      · exact ⟨x_NoRow, ea_NoRow, ⟨eg_NoRow, eh_NoRow, ec_NoRow, ed_NoRow, ea2_NoRow, sg, tg, em_NoRow⟩, kit_ref kd_TooMany ky_TooMany ks_TooMany kt_TooMany_NoRow⟩
      · exact ⟨x_BadStep, ea_BadStep, ⟨eg_BadStep, eh_BadStep, ec_BadStep, ed_BadStep, ea2_BadStep, sg, tg, em_BadStep⟩, kit_ref kd_TooMany ky_TooMany ks_TooMany kt_TooMany_BadStep⟩
      · exact ⟨x_NoStep, ea_NoStep, ⟨eg_NoStep, eh_NoStep, ec_NoStep, ed_NoStep, ea2_NoStep, sg, tg, em_NoStep⟩, kit_ref kd_TooMany ky_TooMany ks_TooMany kt_TooMany_NoStep⟩
      · exact ⟨x_NotPicked, ea_NotPicked, ⟨eg_NotPicked, eh_NotPicked, ec_NotPicked, ed_NotPicked, ea2_NotPicked, sg, tg, em_NotPicked⟩, kit_ref kd_TooMany ky_TooMany ks_TooMany kt_TooMany_NotPicked⟩
      · exact ⟨x_Stuck, ea_Stuck, ⟨eg_Stuck, eh_Stuck, ec_Stuck, ed_Stuck, ea2_Stuck, sg, tg, em_Stuck⟩, kit_ref kd_TooMany ky_TooMany ks_TooMany kt_TooMany_Stuck⟩
      · exact ⟨x_Stopped, ea_Stopped, ⟨eg_Stopped, eh_Stopped, ec_Stopped, ed_Stopped, ea2_Stopped, sg, tg, em_Stopped⟩, kit_ref kd_TooMany ky_TooMany ks_TooMany kt_TooMany_Stopped⟩
      · exact ⟨x_Closed, ea_Closed, ⟨eg_Closed, eh_Closed, ec_Closed, ed_Closed, ea2_Closed, sg, tg, em_Closed⟩, kit_ref kd_TooMany ky_TooMany ks_TooMany kt_TooMany_Closed⟩
      · exact ⟨x_BadEdit, ea_BadEdit, ⟨eg_BadEdit, eh_BadEdit, ec_BadEdit, ed_BadEdit, ea2_BadEdit, sg, tg, em_BadEdit⟩, kit_ref kd_TooMany ky_TooMany ks_TooMany kt_TooMany_BadEdit⟩
      · exact ⟨x_Unlike, ea_Unlike, ⟨eg_Unlike, eh_Unlike, ec_Unlike, ed_Unlike, ea2_Unlike, sg, tg, em_Unlike⟩, kit_ref kd_TooMany ky_TooMany ks_TooMany kt_TooMany_Unlike⟩
      · exact ⟨x_HasPlace, ea_HasPlace, ⟨eg_HasPlace, eh_HasPlace, ec_HasPlace, ed_HasPlace, ea2_HasPlace, sg, tg, em_HasPlace⟩, kit_ref kd_TooMany ky_TooMany ks_TooMany kt_TooMany_HasPlace⟩
      · exact ⟨x_TooMany, ea_TooMany, ⟨eg_TooMany, eh_TooMany, ec_TooMany, ed_TooMany, ea2_TooMany, sg, tg, em_TooMany⟩, kit_ref kd_TooMany ky_TooMany ks_TooMany kt_TooMany_TooMany⟩
      · exact ⟨x_Nothing, ea_Nothing, ⟨eg_Nothing, eh_Nothing, ec_Nothing, ed_Nothing, ea2_Nothing, sg, tg, em_Nothing⟩, kit_ref kd_TooMany ky_TooMany ks_TooMany kt_TooMany_Nothing⟩
      · exact ⟨x_NoDeed, ea_NoDeed, ⟨eg_NoDeed, eh_NoDeed, ec_NoDeed, ed_NoDeed, ea2_NoDeed, sg, tg, em_NoDeed⟩, kit_ref kd_TooMany ky_TooMany ks_TooMany kt_TooMany_NoDeed⟩
      · exact ⟨x_Full, ea_Full, ⟨eg_Full, eh_Full, ec_Full, ed_Full, ea2_Full, sg, tg, em_Full⟩, kit_ref kd_TooMany ky_TooMany ks_TooMany kt_TooMany_Full⟩
      · exact ⟨x_Refused, ea_Refused, ⟨eg_Refused, eh_Refused, ec_Refused, ed_Refused, ea2_Refused, sg, tg, em_Refused⟩, kit_ref kd_TooMany ky_TooMany ks_TooMany kt_TooMany_Refused⟩
      · exact ⟨x_NoEntry, ea_NoEntry, ⟨eg_NoEntry, eh_NoEntry, ec_NoEntry, ed_NoEntry, ea2_NoEntry, sg, tg, em_NoEntry⟩, kit_ref kd_TooMany ky_TooMany ks_TooMany kt_TooMany_NoEntry⟩
      · exact ⟨x_NoText, ea_NoText, ⟨eg_NoText, eh_NoText, ec_NoText, ed_NoText, ea2_NoText, sg, tg, em_NoText⟩, kit_ref kd_TooMany ky_TooMany ks_TooMany kt_TooMany_NoText⟩
      · exact ⟨x_NoCommand, ea_NoCommand, ⟨eg_NoCommand, eh_NoCommand, ec_NoCommand, ed_NoCommand, ea2_NoCommand, sg, tg, em_NoCommand⟩, kit_ref kd_TooMany ky_TooMany ks_TooMany kt_TooMany_NoCommand⟩),
    ix_Unlike := isT_of (fun p hp => by
      simp only [tb_Unlike, List.mem_cons, List.not_mem_nil, or_false] at hp
      rcases hp with rfl | rfl | rfl | rfl | rfl | rfl | rfl | rfl | rfl | rfl | rfl | rfl | rfl | rfl | rfl | rfl | rfl | rfl | rfl
      · exact ⟨x_Wrong, ea_Wrong, ⟨eg_Wrong, eh_Wrong, ec_Wrong, ed_Wrong, ea2_Wrong, sg, tg, em_Wrong⟩, kit_ref kd_Unlike ky_Unlike ks_Unlike kt_Unlike_Wrong⟩
      · exact ⟨x_NoRow, ea_NoRow, ⟨eg_NoRow, eh_NoRow, ec_NoRow, ed_NoRow, ea2_NoRow, sg, tg, em_NoRow⟩, kit_ref kd_Unlike ky_Unlike ks_Unlike kt_Unlike_NoRow⟩
      · exact ⟨x_BadStep, ea_BadStep, ⟨eg_BadStep, eh_BadStep, ec_BadStep, ed_BadStep, ea2_BadStep, sg, tg, em_BadStep⟩, kit_ref kd_Unlike ky_Unlike ks_Unlike kt_Unlike_BadStep⟩
      · exact ⟨x_NoStep, ea_NoStep, ⟨eg_NoStep, eh_NoStep, ec_NoStep, ed_NoStep, ea2_NoStep, sg, tg, em_NoStep⟩, kit_ref kd_Unlike ky_Unlike ks_Unlike kt_Unlike_NoStep⟩
      · exact ⟨x_NotPicked, ea_NotPicked, ⟨eg_NotPicked, eh_NotPicked, ec_NotPicked, ed_NotPicked, ea2_NotPicked, sg, tg, em_NotPicked⟩, kit_ref kd_Unlike ky_Unlike ks_Unlike kt_Unlike_NotPicked⟩
      · exact ⟨x_Stuck, ea_Stuck, ⟨eg_Stuck, eh_Stuck, ec_Stuck, ed_Stuck, ea2_Stuck, sg, tg, em_Stuck⟩, kit_ref kd_Unlike ky_Unlike ks_Unlike kt_Unlike_Stuck⟩
      · exact ⟨x_Stopped, ea_Stopped, ⟨eg_Stopped, eh_Stopped, ec_Stopped, ed_Stopped, ea2_Stopped, sg, tg, em_Stopped⟩, kit_ref kd_Unlike ky_Unlike ks_Unlike kt_Unlike_Stopped⟩
      · exact ⟨x_Closed, ea_Closed, ⟨eg_Closed, eh_Closed, ec_Closed, ed_Closed, ea2_Closed, sg, tg, em_Closed⟩, kit_ref kd_Unlike ky_Unlike ks_Unlike kt_Unlike_Closed⟩
      · exact ⟨x_BadEdit, ea_BadEdit, ⟨eg_BadEdit, eh_BadEdit, ec_BadEdit, ed_BadEdit, ea2_BadEdit, sg, tg, em_BadEdit⟩, kit_ref kd_Unlike ky_Unlike ks_Unlike kt_Unlike_BadEdit⟩
      · exact ⟨x_Unlike, ea_Unlike, ⟨eg_Unlike, eh_Unlike, ec_Unlike, ed_Unlike, ea2_Unlike, sg, tg, em_Unlike⟩, kit_ref kd_Unlike ky_Unlike ks_Unlike kt_Unlike_Unlike⟩
      · exact ⟨x_HasPlace, ea_HasPlace, ⟨eg_HasPlace, eh_HasPlace, ec_HasPlace, ed_HasPlace, ea2_HasPlace, sg, tg, em_HasPlace⟩, kit_ref kd_Unlike ky_Unlike ks_Unlike kt_Unlike_HasPlace⟩
      · exact ⟨x_TooMany, ea_TooMany, ⟨eg_TooMany, eh_TooMany, ec_TooMany, ed_TooMany, ea2_TooMany, sg, tg, em_TooMany⟩, kit_ref kd_Unlike ky_Unlike ks_Unlike kt_Unlike_TooMany⟩
      · exact ⟨x_Nothing, ea_Nothing, ⟨eg_Nothing, eh_Nothing, ec_Nothing, ed_Nothing, ea2_Nothing, sg, tg, em_Nothing⟩, kit_ref kd_Unlike ky_Unlike ks_Unlike kt_Unlike_Nothing⟩
      · exact ⟨x_NoDeed, ea_NoDeed, ⟨eg_NoDeed, eh_NoDeed, ec_NoDeed, ed_NoDeed, ea2_NoDeed, sg, tg, em_NoDeed⟩, kit_ref kd_Unlike ky_Unlike ks_Unlike kt_Unlike_NoDeed⟩
      · exact ⟨x_Full, ea_Full, ⟨eg_Full, eh_Full, ec_Full, ed_Full, ea2_Full, sg, tg, em_Full⟩, kit_ref kd_Unlike ky_Unlike ks_Unlike kt_Unlike_Full⟩
      · exact ⟨x_Refused, ea_Refused, ⟨eg_Refused, eh_Refused, ec_Refused, ed_Refused, ea2_Refused, sg, tg, em_Refused⟩, kit_ref kd_Unlike ky_Unlike ks_Unlike kt_Unlike_Refused⟩
      · exact ⟨x_NoEntry, ea_NoEntry, ⟨eg_NoEntry, eh_NoEntry, ec_NoEntry, ed_NoEntry, ea2_NoEntry, sg, tg, em_NoEntry⟩, kit_ref kd_Unlike ky_Unlike ks_Unlike kt_Unlike_NoEntry⟩
      · exact ⟨x_NoText, ea_NoText, ⟨eg_NoText, eh_NoText, ec_NoText, ed_NoText, ea2_NoText, sg, tg, em_NoText⟩, kit_ref kd_Unlike ky_Unlike ks_Unlike kt_Unlike_NoText⟩
      · exact ⟨x_NoCommand, ea_NoCommand, ⟨eg_NoCommand, eh_NoCommand, ec_NoCommand, ed_NoCommand, ea2_NoCommand, sg, tg, em_NoCommand⟩, kit_ref kd_Unlike ky_Unlike ks_Unlike kt_Unlike_NoCommand⟩),
    ix_Wrong := isT_of (fun p hp => by
      simp only [tb_Wrong, List.mem_cons, List.not_mem_nil, or_false] at hp
      rcases hp with rfl | rfl | rfl | rfl | rfl | rfl | rfl | rfl | rfl | rfl | rfl | rfl | rfl | rfl | rfl | rfl | rfl | rfl | rfl
      · exact ⟨x_Wrong, ea_Wrong, ⟨eg_Wrong, eh_Wrong, ec_Wrong, ed_Wrong, ea2_Wrong, sg, tg, em_Wrong⟩, kit_ref kd_Wrong ky_Wrong ks_Wrong kt_Wrong_Wrong⟩
      · exact ⟨x_NoRow, ea_NoRow, ⟨eg_NoRow, eh_NoRow, ec_NoRow, ed_NoRow, ea2_NoRow, sg, tg, em_NoRow⟩, kit_ref kd_Wrong ky_Wrong ks_Wrong kt_Wrong_NoRow⟩
      · exact ⟨x_BadStep, ea_BadStep, ⟨eg_BadStep, eh_BadStep, ec_BadStep, ed_BadStep, ea2_BadStep, sg, tg, em_BadStep⟩, kit_ref kd_Wrong ky_Wrong ks_Wrong kt_Wrong_BadStep⟩
      · exact ⟨x_NoStep, ea_NoStep, ⟨eg_NoStep, eh_NoStep, ec_NoStep, ed_NoStep, ea2_NoStep, sg, tg, em_NoStep⟩, kit_ref kd_Wrong ky_Wrong ks_Wrong kt_Wrong_NoStep⟩
      · exact ⟨x_NotPicked, ea_NotPicked, ⟨eg_NotPicked, eh_NotPicked, ec_NotPicked, ed_NotPicked, ea2_NotPicked, sg, tg, em_NotPicked⟩, kit_ref kd_Wrong ky_Wrong ks_Wrong kt_Wrong_NotPicked⟩
      · exact ⟨x_Stuck, ea_Stuck, ⟨eg_Stuck, eh_Stuck, ec_Stuck, ed_Stuck, ea2_Stuck, sg, tg, em_Stuck⟩, kit_ref kd_Wrong ky_Wrong ks_Wrong kt_Wrong_Stuck⟩
      · exact ⟨x_Stopped, ea_Stopped, ⟨eg_Stopped, eh_Stopped, ec_Stopped, ed_Stopped, ea2_Stopped, sg, tg, em_Stopped⟩, kit_ref kd_Wrong ky_Wrong ks_Wrong kt_Wrong_Stopped⟩
      · exact ⟨x_Closed, ea_Closed, ⟨eg_Closed, eh_Closed, ec_Closed, ed_Closed, ea2_Closed, sg, tg, em_Closed⟩, kit_ref kd_Wrong ky_Wrong ks_Wrong kt_Wrong_Closed⟩
      · exact ⟨x_BadEdit, ea_BadEdit, ⟨eg_BadEdit, eh_BadEdit, ec_BadEdit, ed_BadEdit, ea2_BadEdit, sg, tg, em_BadEdit⟩, kit_ref kd_Wrong ky_Wrong ks_Wrong kt_Wrong_BadEdit⟩
      · exact ⟨x_Unlike, ea_Unlike, ⟨eg_Unlike, eh_Unlike, ec_Unlike, ed_Unlike, ea2_Unlike, sg, tg, em_Unlike⟩, kit_ref kd_Wrong ky_Wrong ks_Wrong kt_Wrong_Unlike⟩
      · exact ⟨x_HasPlace, ea_HasPlace, ⟨eg_HasPlace, eh_HasPlace, ec_HasPlace, ed_HasPlace, ea2_HasPlace, sg, tg, em_HasPlace⟩, kit_ref kd_Wrong ky_Wrong ks_Wrong kt_Wrong_HasPlace⟩
      · exact ⟨x_TooMany, ea_TooMany, ⟨eg_TooMany, eh_TooMany, ec_TooMany, ed_TooMany, ea2_TooMany, sg, tg, em_TooMany⟩, kit_ref kd_Wrong ky_Wrong ks_Wrong kt_Wrong_TooMany⟩
      · exact ⟨x_Nothing, ea_Nothing, ⟨eg_Nothing, eh_Nothing, ec_Nothing, ed_Nothing, ea2_Nothing, sg, tg, em_Nothing⟩, kit_ref kd_Wrong ky_Wrong ks_Wrong kt_Wrong_Nothing⟩
      · exact ⟨x_NoDeed, ea_NoDeed, ⟨eg_NoDeed, eh_NoDeed, ec_NoDeed, ed_NoDeed, ea2_NoDeed, sg, tg, em_NoDeed⟩, kit_ref kd_Wrong ky_Wrong ks_Wrong kt_Wrong_NoDeed⟩
      · exact ⟨x_Full, ea_Full, ⟨eg_Full, eh_Full, ec_Full, ed_Full, ea2_Full, sg, tg, em_Full⟩, kit_ref kd_Wrong ky_Wrong ks_Wrong kt_Wrong_Full⟩
      · exact ⟨x_Refused, ea_Refused, ⟨eg_Refused, eh_Refused, ec_Refused, ed_Refused, ea2_Refused, sg, tg, em_Refused⟩, kit_ref kd_Wrong ky_Wrong ks_Wrong kt_Wrong_Refused⟩
      · exact ⟨x_NoEntry, ea_NoEntry, ⟨eg_NoEntry, eh_NoEntry, ec_NoEntry, ed_NoEntry, ea2_NoEntry, sg, tg, em_NoEntry⟩, kit_ref kd_Wrong ky_Wrong ks_Wrong kt_Wrong_NoEntry⟩
      · exact ⟨x_NoText, ea_NoText, ⟨eg_NoText, eh_NoText, ec_NoText, ed_NoText, ea2_NoText, sg, tg, em_NoText⟩, kit_ref kd_Wrong ky_Wrong ks_Wrong kt_Wrong_NoText⟩
      · exact ⟨x_NoCommand, ea_NoCommand, ⟨eg_NoCommand, eh_NoCommand, ec_NoCommand, ed_NoCommand, ea2_NoCommand, sg, tg, em_NoCommand⟩, kit_ref kd_Wrong ky_Wrong ks_Wrong kt_Wrong_NoCommand⟩),
    ix_ValueError := isT_of (fun p hp => by
      simp only [tb_ValueError, List.mem_cons, List.not_mem_nil, or_false] at hp
      rcases hp with rfl | rfl | rfl | rfl | rfl | rfl | rfl | rfl | rfl | rfl | rfl | rfl | rfl | rfl | rfl | rfl | rfl | rfl | rfl
      · exact ⟨x_Wrong, ea_Wrong, ⟨eg_Wrong, eh_Wrong, ec_Wrong, ed_Wrong, ea2_Wrong, sg, tg, em_Wrong⟩, kb_ValueError_Wrong⟩
      · exact ⟨x_NoRow, ea_NoRow, ⟨eg_NoRow, eh_NoRow, ec_NoRow, ed_NoRow, ea2_NoRow, sg, tg, em_NoRow⟩, kb_ValueError_NoRow⟩
      · exact ⟨x_BadStep, ea_BadStep, ⟨eg_BadStep, eh_BadStep, ec_BadStep, ed_BadStep, ea2_BadStep, sg, tg, em_BadStep⟩, kb_ValueError_BadStep⟩
      · exact ⟨x_NoStep, ea_NoStep, ⟨eg_NoStep, eh_NoStep, ec_NoStep, ed_NoStep, ea2_NoStep, sg, tg, em_NoStep⟩, kb_ValueError_NoStep⟩
      · exact ⟨x_NotPicked, ea_NotPicked, ⟨eg_NotPicked, eh_NotPicked, ec_NotPicked, ed_NotPicked, ea2_NotPicked, sg, tg, em_NotPicked⟩, kb_ValueError_NotPicked⟩
      · exact ⟨x_Stuck, ea_Stuck, ⟨eg_Stuck, eh_Stuck, ec_Stuck, ed_Stuck, ea2_Stuck, sg, tg, em_Stuck⟩, kb_ValueError_Stuck⟩
      · exact ⟨x_Stopped, ea_Stopped, ⟨eg_Stopped, eh_Stopped, ec_Stopped, ed_Stopped, ea2_Stopped, sg, tg, em_Stopped⟩, kb_ValueError_Stopped⟩
      · exact ⟨x_Closed, ea_Closed, ⟨eg_Closed, eh_Closed, ec_Closed, ed_Closed, ea2_Closed, sg, tg, em_Closed⟩, kb_ValueError_Closed⟩
      · exact ⟨x_BadEdit, ea_BadEdit, ⟨eg_BadEdit, eh_BadEdit, ec_BadEdit, ed_BadEdit, ea2_BadEdit, sg, tg, em_BadEdit⟩, kb_ValueError_BadEdit⟩
      · exact ⟨x_Unlike, ea_Unlike, ⟨eg_Unlike, eh_Unlike, ec_Unlike, ed_Unlike, ea2_Unlike, sg, tg, em_Unlike⟩, kb_ValueError_Unlike⟩
      · exact ⟨x_HasPlace, ea_HasPlace, ⟨eg_HasPlace, eh_HasPlace, ec_HasPlace, ed_HasPlace, ea2_HasPlace, sg, tg, em_HasPlace⟩, kb_ValueError_HasPlace⟩
      · exact ⟨x_TooMany, ea_TooMany, ⟨eg_TooMany, eh_TooMany, ec_TooMany, ed_TooMany, ea2_TooMany, sg, tg, em_TooMany⟩, kb_ValueError_TooMany⟩
      · exact ⟨x_Nothing, ea_Nothing, ⟨eg_Nothing, eh_Nothing, ec_Nothing, ed_Nothing, ea2_Nothing, sg, tg, em_Nothing⟩, kb_ValueError_Nothing⟩
      · exact ⟨x_NoDeed, ea_NoDeed, ⟨eg_NoDeed, eh_NoDeed, ec_NoDeed, ed_NoDeed, ea2_NoDeed, sg, tg, em_NoDeed⟩, kb_ValueError_NoDeed⟩
      · exact ⟨x_Full, ea_Full, ⟨eg_Full, eh_Full, ec_Full, ed_Full, ea2_Full, sg, tg, em_Full⟩, kb_ValueError_Full⟩
      · exact ⟨x_Refused, ea_Refused, ⟨eg_Refused, eh_Refused, ec_Refused, ed_Refused, ea2_Refused, sg, tg, em_Refused⟩, kb_ValueError_Refused⟩
      · exact ⟨x_NoEntry, ea_NoEntry, ⟨eg_NoEntry, eh_NoEntry, ec_NoEntry, ed_NoEntry, ea2_NoEntry, sg, tg, em_NoEntry⟩, kb_ValueError_NoEntry⟩
      · exact ⟨x_NoText, ea_NoText, ⟨eg_NoText, eh_NoText, ec_NoText, ed_NoText, ea2_NoText, sg, tg, em_NoText⟩, kb_ValueError_NoText⟩
      · exact ⟨x_NoCommand, ea_NoCommand, ⟨eg_NoCommand, eh_NoCommand, ec_NoCommand, ed_NoCommand, ea2_NoCommand, sg, tg, em_NoCommand⟩, kb_ValueError_NoCommand⟩),
    nz := nz,
    xf_at := xfT_of (fun p hp => by
      simp only [List.mem_cons, List.not_mem_nil, or_false] at hp
      rcases hp with rfl
      · exact ⟨x_NoRow, ea_NoRow, ⟨eg_NoRow, eh_NoRow, ec_NoRow, ed_NoRow⟩, en_NoRow⟩),
    xf_deed := xfT_of (fun p hp => by
      simp only [List.mem_cons, List.not_mem_nil, or_false] at hp
      rcases hp with rfl
      · exact ⟨x_Refused, ea_Refused, ⟨eg_Refused, eh_Refused, ec_Refused, ed_Refused⟩, en_Refused⟩),
    xf_index := xfT_of (fun p hp => by
      simp only [List.mem_cons, List.not_mem_nil, or_false] at hp
      rcases hp with rfl | rfl | rfl | rfl | rfl
      · exact ⟨x_BadStep, ea_BadStep, ⟨eg_BadStep, eh_BadStep, ec_BadStep, ed_BadStep⟩, en_BadStep⟩
      · exact ⟨x_NoStep, ea_NoStep, ⟨eg_NoStep, eh_NoStep, ec_NoStep, ed_NoStep⟩, en_NoStep⟩
      · exact ⟨x_Stopped, ea_Stopped, ⟨eg_Stopped, eh_Stopped, ec_Stopped, ed_Stopped⟩, en_Stopped⟩
      · exact ⟨x_BadEdit, ea_BadEdit, ⟨eg_BadEdit, eh_BadEdit, ec_BadEdit, ed_BadEdit⟩, en_BadEdit⟩
      · exact ⟨x_HasPlace, ea_HasPlace, ⟨eg_HasPlace, eh_HasPlace, ec_HasPlace, ed_HasPlace⟩, en_HasPlace⟩),
    xf_limit := xfT_of (fun p hp => by
      simp only [List.mem_cons, List.not_mem_nil, or_false] at hp
      rcases hp with rfl
      · exact ⟨x_Full, ea_Full, ⟨eg_Full, eh_Full, ec_Full, ed_Full⟩, en_Full⟩),
    xf_many := xfT_of (fun p hp => by
      simp only [List.mem_cons, List.not_mem_nil, or_false] at hp
      rcases hp with rfl
      · exact ⟨x_NoEntry, ea_NoEntry, ⟨eg_NoEntry, eh_NoEntry, ec_NoEntry, ed_NoEntry⟩, en_NoEntry⟩),
    xf_most := xfT_of (fun p hp => by
      simp only [List.mem_cons, List.not_mem_nil, or_false] at hp
      rcases hp with rfl
      · exact ⟨x_TooMany, ea_TooMany, ⟨eg_TooMany, eh_TooMany, ec_TooMany, ed_TooMany⟩, en_TooMany⟩),
    xf_number := xfT_of (fun p hp => by
      simp only [List.mem_cons, List.not_mem_nil, or_false] at hp
      rcases hp with rfl
      · exact ⟨x_NotPicked, ea_NotPicked, ⟨eg_NotPicked, eh_NotPicked, ec_NotPicked, ed_NotPicked⟩, en_NotPicked⟩),
    xf_place := xfT_of (fun p hp => by
      simp only [List.mem_cons, List.not_mem_nil, or_false] at hp
      rcases hp with rfl
      · exact ⟨x_Wrong, ea_Wrong, ⟨eg_Wrong, eh_Wrong, ec_Wrong, ed_Wrong⟩, en_Wrong⟩),
    b_ValueError := PySem.W.mg_none_of inK ns z_ValueError,
    b_abs := PySem.W.mg_none_of inK ns z_abs,
    b_int := PySem.W.mg_none_of inK ns z_int,
    b_isinstance := PySem.W.mg_none_of inK ns z_isinstance,
    b_len := PySem.W.mg_none_of inK ns z_len,
    b_range := PySem.W.mg_none_of inK ns z_range }
  have E_Wrong := fun_mk (st := e_Wrong) il_Wrong ic_Wrong ik_Wrong
  have h_E_Wrong : HasE l.prog w K mg base "Wrong" "place" := ⟨x_Wrong, ei_Wrong, _, _, PySem.W.mg_of inK ns ea_Wrong, ea_Wrong, ⟨⟨_, _, _, _, _, _, _, _, _, _, _, _, _, _, _, xl_Wrong, rfl⟩, es_Wrong, ec_Wrong, et_Wrong, ek_Wrong⟩, en_Wrong, ia_Wrong, it_Wrong, errInit_ok E_Wrong esc_Wrong rfl (fun _ _ _ _ _ _ => pv 0) (fun _ _ _ _ _ _ => pv 1) (fun _ _ _ _ _ _ => rfl), E_Wrong.binds (ps := ["self", "place"]) fun _ _ _ _ _ _ us hl => match us, hl with | [_, _], _ => rfl⟩
  have E_NoRow := fun_mk (st := e_NoRow) il_NoRow ic_NoRow ik_NoRow
  have h_E_NoRow : HasE l.prog w K mg base "NoRow" "at" := ⟨x_NoRow, ei_NoRow, _, _, PySem.W.mg_of inK ns ea_NoRow, ea_NoRow, ⟨⟨_, _, _, _, _, _, _, _, _, _, _, _, _, _, _, xl_NoRow, rfl⟩, es_NoRow, ec_NoRow, et_NoRow, ek_NoRow⟩, en_NoRow, ia_NoRow, it_NoRow, errInit_ok E_NoRow esc_NoRow rfl (fun _ _ _ _ _ _ => pv 0) (fun _ _ _ _ _ _ => pv 1) (fun _ _ _ _ _ _ => rfl), E_NoRow.binds (ps := ["self", "at"]) fun _ _ _ _ _ _ us hl => match us, hl with | [_, _], _ => rfl⟩
  have E_BadStep := fun_mk (st := e_BadStep) il_BadStep ic_BadStep ik_BadStep
  have h_E_BadStep : HasE l.prog w K mg base "BadStep" "index" := ⟨x_BadStep, ei_BadStep, _, _, PySem.W.mg_of inK ns ea_BadStep, ea_BadStep, ⟨⟨_, _, _, _, _, _, _, _, _, _, _, _, _, _, _, xl_BadStep, rfl⟩, es_BadStep, ec_BadStep, et_BadStep, ek_BadStep⟩, en_BadStep, ia_BadStep, it_BadStep, errInit_ok E_BadStep esc_BadStep rfl (fun _ _ _ _ _ _ => pv 0) (fun _ _ _ _ _ _ => pv 1) (fun _ _ _ _ _ _ => rfl), E_BadStep.binds (ps := ["self", "index"]) fun _ _ _ _ _ _ us hl => match us, hl with | [_, _], _ => rfl⟩
  have E_NoStep := fun_mk (st := e_NoStep) il_NoStep ic_NoStep ik_NoStep
  have h_E_NoStep : HasE l.prog w K mg base "NoStep" "index" := ⟨x_NoStep, ei_NoStep, _, _, PySem.W.mg_of inK ns ea_NoStep, ea_NoStep, ⟨⟨_, _, _, _, _, _, _, _, _, _, _, _, _, _, _, xl_NoStep, rfl⟩, es_NoStep, ec_NoStep, et_NoStep, ek_NoStep⟩, en_NoStep, ia_NoStep, it_NoStep, errInit_ok E_NoStep esc_NoStep rfl (fun _ _ _ _ _ _ => pv 0) (fun _ _ _ _ _ _ => pv 1) (fun _ _ _ _ _ _ => rfl), E_NoStep.binds (ps := ["self", "index"]) fun _ _ _ _ _ _ us hl => match us, hl with | [_, _], _ => rfl⟩
  have E_NotPicked := fun_mk (st := e_NotPicked) il_NotPicked ic_NotPicked ik_NotPicked
  have h_E_NotPicked : HasE l.prog w K mg base "NotPicked" "number" := ⟨x_NotPicked, ei_NotPicked, _, _, PySem.W.mg_of inK ns ea_NotPicked, ea_NotPicked, ⟨⟨_, _, _, _, _, _, _, _, _, _, _, _, _, _, _, xl_NotPicked, rfl⟩, es_NotPicked, ec_NotPicked, et_NotPicked, ek_NotPicked⟩, en_NotPicked, ia_NotPicked, it_NotPicked, errInit_ok E_NotPicked esc_NotPicked rfl (fun _ _ _ _ _ _ => pv 0) (fun _ _ _ _ _ _ => pv 1) (fun _ _ _ _ _ _ => rfl), E_NotPicked.binds (ps := ["self", "number"]) fun _ _ _ _ _ _ us hl => match us, hl with | [_, _], _ => rfl⟩
  have h_E0_Stuck : HasE0 K mg "Stuck" := ⟨x_Stuck, PySem.W.mg_of inK ns ea_Stuck, ea_Stuck, xx_Stuck, ek_Stuck, ec_Stuck, et_Stuck⟩
  have E_Stopped := fun_mk (st := e_Stopped) il_Stopped ic_Stopped ik_Stopped
  have h_E_Stopped : HasE l.prog w K mg base "Stopped" "index" := ⟨x_Stopped, ei_Stopped, _, _, PySem.W.mg_of inK ns ea_Stopped, ea_Stopped, ⟨⟨_, _, _, _, _, _, _, _, _, _, _, _, _, _, _, xl_Stopped, rfl⟩, es_Stopped, ec_Stopped, et_Stopped, ek_Stopped⟩, en_Stopped, ia_Stopped, it_Stopped, errInit_ok E_Stopped esc_Stopped rfl (fun _ _ _ _ _ _ => pv 0) (fun _ _ _ _ _ _ => pv 1) (fun _ _ _ _ _ _ => rfl), E_Stopped.binds (ps := ["self", "index"]) fun _ _ _ _ _ _ us hl => match us, hl with | [_, _], _ => rfl⟩
  have h_E0_Closed : HasE0 K mg "Closed" := ⟨x_Closed, PySem.W.mg_of inK ns ea_Closed, ea_Closed, xx_Closed, ek_Closed, ec_Closed, et_Closed⟩
  have E_BadEdit := fun_mk (st := e_BadEdit) il_BadEdit ic_BadEdit ik_BadEdit
  have h_E_BadEdit : HasE l.prog w K mg base "BadEdit" "index" := ⟨x_BadEdit, ei_BadEdit, _, _, PySem.W.mg_of inK ns ea_BadEdit, ea_BadEdit, ⟨⟨_, _, _, _, _, _, _, _, _, _, _, _, _, _, _, xl_BadEdit, rfl⟩, es_BadEdit, ec_BadEdit, et_BadEdit, ek_BadEdit⟩, en_BadEdit, ia_BadEdit, it_BadEdit, errInit_ok E_BadEdit esc_BadEdit rfl (fun _ _ _ _ _ _ => pv 0) (fun _ _ _ _ _ _ => pv 1) (fun _ _ _ _ _ _ => rfl), E_BadEdit.binds (ps := ["self", "index"]) fun _ _ _ _ _ _ us hl => match us, hl with | [_, _], _ => rfl⟩
  have h_E0_Unlike : HasE0 K mg "Unlike" := ⟨x_Unlike, PySem.W.mg_of inK ns ea_Unlike, ea_Unlike, xx_Unlike, ek_Unlike, ec_Unlike, et_Unlike⟩
  have E_HasPlace := fun_mk (st := e_HasPlace) il_HasPlace ic_HasPlace ik_HasPlace
  have h_E_HasPlace : HasE l.prog w K mg base "HasPlace" "index" := ⟨x_HasPlace, ei_HasPlace, _, _, PySem.W.mg_of inK ns ea_HasPlace, ea_HasPlace, ⟨⟨_, _, _, _, _, _, _, _, _, _, _, _, _, _, _, xl_HasPlace, rfl⟩, es_HasPlace, ec_HasPlace, et_HasPlace, ek_HasPlace⟩, en_HasPlace, ia_HasPlace, it_HasPlace, errInit_ok E_HasPlace esc_HasPlace rfl (fun _ _ _ _ _ _ => pv 0) (fun _ _ _ _ _ _ => pv 1) (fun _ _ _ _ _ _ => rfl), E_HasPlace.binds (ps := ["self", "index"]) fun _ _ _ _ _ _ us hl => match us, hl with | [_, _], _ => rfl⟩
  have E_TooMany := fun_mk (st := e_TooMany) il_TooMany ic_TooMany ik_TooMany
  have h_E_TooMany : HasE l.prog w K mg base "TooMany" "most" := ⟨x_TooMany, ei_TooMany, _, _, PySem.W.mg_of inK ns ea_TooMany, ea_TooMany, ⟨⟨_, _, _, _, _, _, _, _, _, _, _, _, _, _, _, xl_TooMany, rfl⟩, es_TooMany, ec_TooMany, et_TooMany, ek_TooMany⟩, en_TooMany, ia_TooMany, it_TooMany, errInit_ok E_TooMany esc_TooMany rfl (fun _ _ _ _ _ _ => pv 0) (fun _ _ _ _ _ _ => pv 1) (fun _ _ _ _ _ _ => rfl), E_TooMany.binds (ps := ["self", "most"]) fun _ _ _ _ _ _ us hl => match us, hl with | [_, _], _ => rfl⟩
  have h_E0_Nothing : HasE0 K mg "Nothing" := ⟨x_Nothing, PySem.W.mg_of inK ns ea_Nothing, ea_Nothing, xx_Nothing, ek_Nothing, ec_Nothing, et_Nothing⟩
  have h_E0_NoDeed : HasE0 K mg "NoDeed" := ⟨x_NoDeed, PySem.W.mg_of inK ns ea_NoDeed, ea_NoDeed, xx_NoDeed, ek_NoDeed, ec_NoDeed, et_NoDeed⟩
  have E_Full := fun_mk (st := e_Full) il_Full ic_Full ik_Full
  have h_E_Full : HasE l.prog w K mg base "Full" "limit" := ⟨x_Full, ei_Full, _, _, PySem.W.mg_of inK ns ea_Full, ea_Full, ⟨⟨_, _, _, _, _, _, _, _, _, _, _, _, _, _, _, xl_Full, rfl⟩, es_Full, ec_Full, et_Full, ek_Full⟩, en_Full, ia_Full, it_Full, errInit_ok E_Full esc_Full rfl (fun _ _ _ _ _ _ => pv 0) (fun _ _ _ _ _ _ => pv 1) (fun _ _ _ _ _ _ => rfl), E_Full.binds (ps := ["self", "limit"]) fun _ _ _ _ _ _ us hl => match us, hl with | [_, _], _ => rfl⟩
  have E_Refused := fun_mk (st := e_Refused) il_Refused ic_Refused ik_Refused
  have h_E_Refused : HasE l.prog w K mg base "Refused" "deed" := ⟨x_Refused, ei_Refused, _, _, PySem.W.mg_of inK ns ea_Refused, ea_Refused, ⟨⟨_, _, _, _, _, _, _, _, _, _, _, _, _, _, _, xl_Refused, rfl⟩, es_Refused, ec_Refused, et_Refused, ek_Refused⟩, en_Refused, ia_Refused, it_Refused, errInit_ok E_Refused esc_Refused rfl (fun _ _ _ _ _ _ => pv 0) (fun _ _ _ _ _ _ => pv 1) (fun _ _ _ _ _ _ => rfl), E_Refused.binds (ps := ["self", "deed"]) fun _ _ _ _ _ _ us hl => match us, hl with | [_, _], _ => rfl⟩
  have E_NoEntry := fun_mk (st := e_NoEntry) il_NoEntry ic_NoEntry ik_NoEntry
  have h_E_NoEntry : HasE l.prog w K mg base "NoEntry" "many" := ⟨x_NoEntry, ei_NoEntry, _, _, PySem.W.mg_of inK ns ea_NoEntry, ea_NoEntry, ⟨⟨_, _, _, _, _, _, _, _, _, _, _, _, _, _, _, xl_NoEntry, rfl⟩, es_NoEntry, ec_NoEntry, et_NoEntry, ek_NoEntry⟩, en_NoEntry, ia_NoEntry, it_NoEntry, errInit_ok E_NoEntry esc_NoEntry rfl (fun _ _ _ _ _ _ => pv 0) (fun _ _ _ _ _ _ => pv 1) (fun _ _ _ _ _ _ => rfl), E_NoEntry.binds (ps := ["self", "many"]) fun _ _ _ _ _ _ us hl => match us, hl with | [_, _], _ => rfl⟩
  have h_E0_NoText : HasE0 K mg "NoText" := ⟨x_NoText, PySem.W.mg_of inK ns ea_NoText, ea_NoText, xx_NoText, ek_NoText, ec_NoText, et_NoText⟩
  have h_E0_NoCommand : HasE0 K mg "NoCommand" := ⟨x_NoCommand, PySem.W.mg_of inK ns ea_NoCommand, ea_NoCommand, xx_NoCommand, ek_NoCommand, ec_NoCommand, et_NoCommand⟩
  have h__law_bag := has__law_bag (P := l.prog) (base := base) fa  ⟨_, _, F1, PySem.W.mg_of inK ns a1⟩
  have h__law_raised_too := has__law_raised_too (P := l.prog) (base := base) fa h_E_Refused h_E_NoEntry h_E0_Stuck h_E0_Closed h_E0_Unlike h_E0_Nothing h_E0_NoDeed h_E0_NoText h_E0_NoCommand ⟨_, _, F2, PySem.W.mg_of inK ns a2⟩
  have h__law_raised := has__law_raised (P := l.prog) (base := base) fa h_E_Wrong h_E_NoRow h_E_BadStep h_E_NoStep h_E_NotPicked h_E_Stopped h_E_BadEdit h_E_HasPlace h_E_TooMany h_E_Full ⟨_, _, F3, PySem.W.mg_of inK ns a3⟩
  have h__law_flags := has__law_flags (P := l.prog) (base := base) fa  ⟨_, _, F4, PySem.W.mg_of inK ns a4⟩
  have h__law_field := has__law_field (P := l.prog) (base := base) fa  ⟨_, _, F5, PySem.W.mg_of inK ns a5⟩
  have h__law_right := has__law_right (P := l.prog) (base := base) fa h__law_raised h__law_raised_too h__law_flags h__law_field ⟨_, _, F6, PySem.W.mg_of inK ns a6⟩
  have h__law_take := has__law_take (P := l.prog) (base := base) fa  ⟨_, _, F7, PySem.W.mg_of inK ns a7⟩
  have h__law_some := has__law_some (P := l.prog) (base := base) fa h__law_take ⟨_, _, F8, PySem.W.mg_of inK ns a8⟩
  have h__law_odd := has__law_odd (P := l.prog) (base := base) fa h__law_some ⟨_, _, F9, PySem.W.mg_of inK ns a9⟩
  exact ok_law fa h__law_bag h__law_right h__law_odd F10
end
end T

-- needs: _law_bag _law_take
namespace T
open PySem L2 DL
/-! ### the bag -/
structure BagOk (bs : List D) : Prop where
  ex : ∃ (b0 b1 b2 : Int) (cs : List Int), bs = [.int b0, .int b1, .int b2, .lst (cs.map D.int)] ∧ 0 ≤ b0 ∧ 0 ≤ b1 ∧ b1 < 2147483647 ∧ 0 ≤ b2 ∧ (∀ c ∈ cs, 0 ≤ c) ∧ cs.length ≤ 63
set_option maxHeartbeats 2000000 in
theorem take1 (b0 b1 b2 n : Int) (cs : List Int) (h0 : 0 < b0) (hn : 0 < n) (hn2 : n < 1073741824) : f__law_take [.int b0, .int b1, .int b2, .lst (cs.map D.int)] [.int n] = some (.sh (.int (b0 % n)), [.int (b0 / n), .int b1, .int b2, .lst (cs.map D.int)]) := by
  have e0 : b0 ≠ 0 := by omega
  simp [f__law_take, m__law_take, fnB, fnP, Rs.noE, startE, seqS, ifS, thenS, toB, op2, opN, op1, Opd.run, fill, lookV, look, Rs.bind, Rs.map, ofO, cD, vD, semIx, semEq, semNe, eqB, D.sc, D.asB, atI, ixN, semGt, semGe, semLt, semLe, setS, putS, DL.putF, shD, frzD, mvD, rtS, chgS, fillW, OV.lst?, OV.d, nxS, runs, looks, semInt, semMod, semFdiv, semAdd, semSub, semMul, semAbs, semLen, semTuple, semList, lstD, tupD, evs, callP, callB, slD, poN, poS, semSl, D.asI, appS, appF, extS, extF, augS, augF, exS, ifD, andT, orT, notT, notD, andD, orD, par2, par3, asgS, gN, gT, gsCons, gsNil, forD, rg1, rg2, itA, D.items, zpD, zip2, zipD, lcD, yesT, wipeE, m1D, tabD, semIs, semIsNot, D.isN, semAt, semIn2, semNotIn2, inB2, toT, orV, andV, notV, D.tru, chD, isiD, D.isi, D.ty, isTy, D.key, evPs, dicD, semDict, pairD, mergeD, putD, valD, semRepr, callL, op2O, slO, opNO, lrgO, OV.flt, D.flt, semAddL, semMulL, semListL, mLD, popF, popS, insF, insS, clrS, revO, e0, h0, hn, hn2]
set_option maxHeartbeats 4000000 in
theorem take0 (b1 b2 n : Int) (cs : List Int) (h1 : 0 ≤ b1) (h2 : b1 < 2147483647) (hb2 : 0 ≤ b2) (hc : ∀ c ∈ cs, 0 ≤ c) (hl : cs.length ≤ 63) (hn : 0 < n) (hn2 : n < 1073741824) :
    ∃ v bs', f__law_take [.int 0, .int b1, .int b2, .lst (cs.map D.int)] [.int n] = some (.sh (.int v), bs') ∧ 0 ≤ v ∧ v < n ∧ BagOk bs' := by
  obtain ⟨c, hcell, hc0⟩ : ∃ c : Int, (∃ rest, ((cutL cs (some b2) none).map D.int) ++ [D.int 0] = D.int c :: rest) ∧ 0 ≤ c := by
    cases e : cutL cs (some b2) none with
    | nil => exact ⟨0, ⟨[], rfl⟩, Int.le_refl 0⟩
    | cons c r => exact ⟨c, ⟨_, rfl⟩, hc c (cutL_mem (lo := some b2) (hi := none) (by rw [e]; exact List.mem_cons_self ..))⟩
  have hlen : (cutL cs (some b2) none).length + 1 ≤ 1000000 := by have := cutL_len cs (some b2) none; omega
  obtain ⟨rest, hcell⟩ := hcell
  have hm1 : -18446744073709551616 < b1 ∧ b1 < 18446744073709551616 := by omega
  have hm2 : -18446744073709551616 < b1 + 1 ∧ b1 + 1 < 18446744073709551616 := by omega
  have mix : ∀ x : Int, 0 ≤ x % 2147483647 ∧ x % 2147483647 < 2147483647 := fun x => ⟨Int.emod_nonneg _ (by decide), Int.emod_lt_of_pos _ (by decide)⟩
  by_cases hbig : 1000000000000000000 ≤ c
  · have hc1 : c ≠ 0 := by omega
    have hc2 : 0 < c := by omega
    refine ⟨c % n, [.int (c / n), .int ((b1 * 48271 + c % 2147483647 + 7919 * (b2 + 1)) % 2147483647), .int (b2 + 1), .lst (cs.map D.int)], ?_, Int.emod_nonneg _ (by omega), Int.emod_lt_of_pos _ hn, ⟨_, _, _, _, rfl, Int.ediv_nonneg (by omega) (by omega), (mix _).1, (mix _).2, by omega, hc, hl⟩⟩
    simp [f__law_take, m__law_take, fnB, fnP, Rs.noE, startE, seqS, ifS, thenS, toB, op2, opN, op1, Opd.run, fill, lookV, look, Rs.bind, Rs.map, ofO, cD, vD, semIx, semEq, semNe, eqB, D.sc, D.asB, atI, ixN, semGt, semGe, semLt, semLe, setS, putS, DL.putF, shD, frzD, mvD, rtS, chgS, fillW, OV.lst?, OV.d, nxS, runs, looks, semInt, semMod, semFdiv, semAdd, semSub, semMul, semAbs, semLen, semTuple, semList, lstD, tupD, evs, callP, callB, slD, poN, poS, semSl, D.asI, appS, appF, extS, extF, augS, augF, exS, ifD, andT, orT, notT, notD, andD, orD, par2, par3, asgS, gN, gT, gsCons, gsNil, forD, rg1, rg2, itA, D.items, zpD, zip2, zipD, lcD, yesT, wipeE, m1D, tabD, semIs, semIsNot, D.isN, semAt, semIn2, semNotIn2, inB2, toT, orV, andV, notV, D.tru, chD, isiD, D.isi, D.ty, isTy, D.key, evPs, dicD, semDict, pairD, mergeD, putD, valD, semRepr, callL, op2O, slO, opNO, lrgO, OV.flt, D.flt, semAddL, semMulL, semListL, mLD, popF, popS, insF, insS, clrS, revO, cutL_map, hcell, hlen, hbig, hc1, hc2, hn, hn2, hm1]
  · have hbig' : ¬ 1000000000000000000 ≤ c := hbig
    have key : ∀ x : Int, 0 ≤ x → x < 2147483647 → (-18446744073709551616 < x + 1 ∧ x + 1 < 18446744073709551616) := fun x a b => by omega
    have hq := mix (b1 * 48271 + c % 2147483647 + 7919 * (b2 + 1))
    generalize hm : (b1 * 48271 + c % 2147483647 + 7919 * (b2 + 1)) % 2147483647 = m at hq
    have g1 : ∀ x : Int, (-18446744073709551616 < x % 1000000007 ∧ x % 1000000007 < 18446744073709551616) := fun x => by omega
    have g2 : ∀ x : Int, (-18446744073709551616 < x % 998244353 ∧ x % 998244353 < 18446744073709551616) := fun x => by omega
    refine ⟨(((((m + 1) * 39373) % 1000000007 * (((m + 1) * 39373) % 1000000007)) % 998244353 * 30011) % 998244353 / 7) % n, [.int 0, .int m, .int (b2 + 1), .lst (cs.map D.int)], ?_, Int.emod_nonneg _ (by omega), Int.emod_lt_of_pos _ hn, ⟨_, _, _, _, rfl, Int.le_refl 0, hq.1, hq.2, by omega, hc, hl⟩⟩
    simp [f__law_take, m__law_take, fnB, fnP, Rs.noE, startE, seqS, ifS, thenS, toB, op2, opN, op1, Opd.run, fill, lookV, look, Rs.bind, Rs.map, ofO, cD, vD, semIx, semEq, semNe, eqB, D.sc, D.asB, atI, ixN, semGt, semGe, semLt, semLe, setS, putS, DL.putF, shD, frzD, mvD, rtS, chgS, fillW, OV.lst?, OV.d, nxS, runs, looks, semInt, semMod, semFdiv, semAdd, semSub, semMul, semAbs, semLen, semTuple, semList, lstD, tupD, evs, callP, callB, slD, poN, poS, semSl, D.asI, appS, appF, extS, extF, augS, augF, exS, ifD, andT, orT, notT, notD, andD, orD, par2, par3, asgS, gN, gT, gsCons, gsNil, forD, rg1, rg2, itA, D.items, zpD, zip2, zipD, lcD, yesT, wipeE, m1D, tabD, semIs, semIsNot, D.isN, semAt, semIn2, semNotIn2, inB2, toT, orV, andV, notV, D.tru, chD, isiD, D.isi, D.ty, isTy, D.key, evPs, dicD, semDict, pairD, mergeD, putD, valD, semRepr, callL, op2O, slO, opNO, lrgO, OV.flt, D.flt, semAddL, semMulL, semListL, mLD, popF, popS, insF, insS, clrS, revO, cutL_map, hcell, hlen, hbig, hn, hn2, hm1, hm, key m hq.1 hq.2, g1, g2]
theorem take_ok {bs : List D} (h : BagOk bs) {n : Int} (hn : 0 < n) (hn2 : n < 1073741824) : ∃ v bs', f__law_take bs [.int n] = some (.sh (.int v), bs') ∧ 0 ≤ v ∧ v < n ∧ BagOk bs' := by
  obtain ⟨b0, b1, b2, cs, rfl, h0, h1, h2, h3, h4, h5⟩ := h.ex
  by_cases e : b0 = 0
  · subst e
    exact take0 b1 b2 n cs h1 h2 h3 h4 h5 hn hn2
  · exact ⟨_, _, take1 b0 b1 b2 n cs (by omega) hn hn2, Int.emod_nonneg _ (by omega), Int.emod_lt_of_pos _ hn, ⟨_, _, _, _, rfl, Int.ediv_nonneg h0 (by omega), h1, h2, h3, h4, h5⟩⟩
/-! ### the bag made -/
set_option maxHeartbeats 2000000 in
theorem bag_ok (ns : List Int) : ∃ bs, f__law_bag [.scr ns] = some (.ow bs) ∧ BagOk bs := by
  have e := lcS_map (vs := [1]) (h := gN 1) (t := yesT) (elt := opN [.va 1] semAbs) (fun _ => true) (fun d => match d with | .int i => .int (if i < 0 then -i else i) | d => d) [some (.sh (.scr ns)), none] ((cutL ns none (some 63)).map D.int) (fun d hd => by
    obtain ⟨c, _, rfl⟩ := List.mem_map.mp hd
    refine ⟨[some (.sh (.scr ns)), some (.sh (.int c))], [some (.sh (.scr ns)), some (.sh (.int c))], rfl, rfl, rfl, fun _ => ⟨[some (.sh (.scr ns)), some (.sh (.int c))], ?_, rfl⟩⟩
    simp [fnB, fnP, Rs.noE, startE, seqS, ifS, thenS, toB, op2, opN, op1, Opd.run, fill, lookV, look, Rs.bind, Rs.map, ofO, cD, vD, semIx, semEq, semNe, eqB, D.sc, D.asB, atI, ixN, semGt, semGe, semLt, semLe, setS, putS, DL.putF, shD, frzD, mvD, rtS, chgS, fillW, OV.lst?, OV.d, nxS, runs, looks, semInt, semMod, semFdiv, semAdd, semSub, semMul, semAbs, semLen, semTuple, semList, lstD, tupD, evs, callP, callB, slD, poN, poS, semSl, D.asI, appS, appF, extS, extF, augS, augF, exS, ifD, andT, orT, notT, notD, andD, orD, par2, par3, asgS, gN, gT, gsCons, gsNil, forD, rg1, rg2, itA, D.items, zpD, zip2, zipD, lcD, yesT, wipeE, m1D, tabD, semIs, semIsNot, D.isN, semAt, semIn2, semNotIn2, inB2, toT, orV, andV, notV, D.tru, chD, isiD, D.isi, D.ty, isTy, D.key, evPs, dicD, semDict, pairD, mergeD, putD, valD, semRepr, callL, op2O, slO, opNO, lrgO, OV.flt, D.flt, semAddL, semMulL, semListL, mLD, popF, popS, insF, insS, clrS, revO])
  have hl : (cutL ns none (some 63)).length ≤ 63 := by
    unfold cutL
    rw [List.length_take, HT.sIx_none, show HT.sIx ns.length ns.length (some 63) = min 63 ns.length from HT.sIx_nat ns.length ns.length 63]
    omega
  have hl2 : (cutL ns none (some 63)).length ≤ 1000000 := by omega
  refine ⟨[.int 0, .int 1234567891, .int 0, .lst (((cutL ns none (some 63)).map fun i => if i < 0 then -i else i).map D.int)], ?_, ⟨0, 1234567891, 0, _, rfl, Int.le_refl 0, by decide, by decide, Int.le_refl 0, fun c hc => ?_, by rw [List.length_map]; exact hl⟩⟩
  · have e2 : List.map (fun d => match d with | .int i => D.int (if i < 0 then -i else i) | d => d) ((List.map D.int (cutL ns none (some 63))).filter fun _ => true) = ((cutL ns none (some 63)).map fun i => if i < 0 then -i else i).map D.int := by
      rw [List.filter_eq_self.mpr (fun _ _ => rfl), List.map_map, List.map_map]
      rfl
    rw [e2] at e
    have e1 : lcS [1] (gN 1) yesT (opN [.va 1] semAbs) ((cutL ns none (some 63)).map D.int) (some (.sh (.scr ns)) :: [none]) = .ok (((cutL ns none (some 63)).map fun i => if i < 0 then -i else i).map D.int) (some (.sh (.scr ns)) :: [none]) := e
    simp only [f__law_bag, m__law_bag, lc__law_bag_1, it__law_bag_1, el__law_bag_1, fnP, startE, rtS, thenS, lstD, evs, cD, Rs.bind, frzD, lcD, itA, slD, poN, poS, Opd.run, fill, look, lookV, ofO, semSl, D.asI, D.items, Rs.map, OV.d, List.map_cons, List.map_nil, List.length_cons, List.length_nil, List.replicate, List.cons_append, List.nil_append, List.getElem?_cons_zero, Option.bind_some, Option.map_some, List.length_map, Nat.sub_self, Nat.add_sub_cancel, Nat.zero_add, Nat.reduceSub, hl2, if_true, e1, wipeE, List.set_cons_succ, List.set_cons_zero]
    rfl
  · obtain ⟨i, _, rfl⟩ := List.mem_map.mp hc
    show 0 ≤ if i < 0 then -i else i
    split <;> omega

/-! ### names -/
structure NameOk (x : Str) : Prop where
  pos : 0 < x.length
  most : x.length ≤ 8
  low : ∀ c ∈ x.cps.toList, 97 ≤ c ∧ c ≤ 122
theorem NameOk.fit {x : Str} (h : NameOk x) : (D.str x).fit = true := fit_str fun c hc => by have := h.low c hc; omega
theorem NameOk.pl {x : Str} (h : NameOk x) : (D.str x).pl = true := pl_of_fit h.fit
end T

-- needs: _law_some
namespace T
open PySem L2 DL
/-! ### drawing: some, atoms -/
set_option maxHeartbeats 2000000 in
theorem some_ok {bs : List D} (hb : BagOk bs) (ds : List D) (h0 : ds ≠ []) (hl : ds.length ≤ 1000) : ∃ d bs', f__law_some bs [.lst ds] = some (.sh d, bs') ∧ d ∈ ds ∧ BagOk bs' := by
  have hp : 0 < ds.length := List.length_pos_iff.mpr h0
  obtain ⟨v, b1, e, v0, v1, hb1⟩ := take_ok hb (n := (ds.length : Int)) (by omega) (by omega)
  obtain ⟨d, e1, hd⟩ := atI_mem v0 v1
  refine ⟨d, b1, ?_, hd, hb1⟩
  simp only [f__law_some, m__law_some, fnB, fnP, Rs.noE, startE, seqS, ifS, thenS, toB, op2, opN, op1, Opd.run, fill, lookV, look, Rs.bind, Rs.map, ofO, cD, vD, D.asB, semGt, semGe, semLt, semLe, setS, putS, DL.putF, shD, frzD, mvD, rtS, chgS, fillW, OV.lst?, OV.d, nxS, runs, looks, semInt, semMod, semFdiv, semAdd, semSub, semMul, semAbs, semLen, semTuple, semList, lstD, tupD, evs, callP, callB, slD, poN, poS, semSl, D.asI, appS, appF, extS, extF, augS, augF, exS, ifD, andT, orT, notT, notD, andD, orD, par2, par3, asgS, gN, gT, gsCons, gsNil, forD, rg1, rg2, itA, zpD, zip2, zipD, lcD, yesT, wipeE, m1D, tabD, semIs, semIsNot, D.isN, toT, orV, andV, notV, D.tru, chD, isiD, D.key, evPs, dicD, semDict, pairD, semRepr, callL, op2O, slO, opNO, lrgO, OV.flt, D.flt, semAddL, semMulL, semListL, mLD, popF, popS, insF, insS, clrS, revO, Rs.noE, List.map_cons, List.map_nil, List.length_cons, List.length_nil, List.length_map, List.replicate, List.cons_append, List.nil_append, List.append_nil, List.getElem?_cons_zero, List.getElem?_cons_succ, List.set_cons_zero, List.set_cons_succ, Option.bind_some, Option.bind_none, Option.map_some, Option.map_none, Nat.zero_add, Nat.add_zero, Nat.reduceAdd, Nat.reduceSub, Nat.sub_self, Nat.reduceLeDiff, Nat.reduceEqDiff, Nat.le_refl, Nat.add_sub_cancel, if_true, if_false, Bool.false_eq_true, Bool.not_true, Bool.not_false, Bool.not_not, reduceIte, reduceCtorEq, and_self, and_true, true_and, decide_true, decide_false, semEq_str, semNe_str, semEq_int, semNe_int, semEq_bl, semNe_bl, atI0, atI1, atI2, atI3, atI4, OkS_nx, post_ok, items_lst, items_tup, semAt_lst, semAt_tup, semAt_str, semAt_dic, e, e1]
end T

namespace T
open PySem L2 DL
/-! ### k10: errors kept -/
def odd10 : List D := [.non, .int 5, .str "a", .str "", .tup [], .lst [], .dic [], .tup [.str "eq"], .bl true, .int (10 ^ 39), .lst [.non], .tup [.str "name", .str "a"], .str "eq", .int (-1), .tup [.int 0, .int 1],
  .str "a1", .str "aB", .str "a_", .str "a{", .str "a\n", .dic [(.inr "a", .int 1)], .str "ab b", .str "abcdefghi", .tup [.str "last"], .tup [.str "", .str "", .str ""]]
set_option maxHeartbeats 8000000 in
theorem odd10_ok {bs : List D} (hb : BagOk bs) : ∃ d bs', f__law_odd bs [] = some (.sh d, bs') ∧ d ∈ odd10 ∧ BagOk bs' := by
  obtain ⟨d, b', e, hd, hb'⟩ := some_ok hb odd10 (by decide) (by decide)
  refine ⟨d, b', ?_, hd, hb'⟩
  have hp : semPow (.int 10) (.int 39) = some (.int (10 ^ 39)) := rfl
  have hn : semNeg (.int 1) = some (.int (-1)) := rfl
  have hm : mergeD [] [((Sum.inr "a" : Key), D.int 1)] = [((Sum.inr "a" : Key), D.int 1)] := rfl
  unfold odd10 at e
  simp only [f__law_odd, m__law_odd, fnB, fnP, Rs.noE, startE, seqS, ifS, thenS, toB, op2, opN, op1, Opd.run, fill, lookV, look, Rs.bind, Rs.map, ofO, cD, vD, D.asB, semGt, semGe, semLt, semLe, setS, putS, DL.putF, shD, frzD, mvD, rtS, chgS, fillW, OV.lst?, OV.d, nxS, runs, looks, semInt, semMod, semFdiv, semAdd, semSub, semMul, semAbs, semLen, semTuple, semList, lstD, tupD, evs, callP, callB, slD, poN, poS, semSl, D.asI, appS, appF, extS, extF, augS, augF, exS, ifD, andT, orT, notT, notD, andD, orD, par2, par3, asgS, gN, gT, gsCons, gsNil, forD, rg1, rg2, itA, zpD, zip2, zipD, lcD, yesT, wipeE, m1D, tabD, semIs, semIsNot, D.isN, toT, orV, andV, notV, D.tru, chD, isiD, D.key, evPs, dicD, semDict, pairD, semRepr, callL, op2O, slO, opNO, lrgO, OV.flt, D.flt, semAddL, semMulL, semListL, mLD, popF, popS, insF, insS, clrS, revO, Rs.noE, List.map_cons, List.map_nil, List.length_cons, List.length_nil, List.length_map, List.replicate, List.cons_append, List.nil_append, List.append_nil, List.getElem?_cons_zero, List.getElem?_cons_succ, List.set_cons_zero, List.set_cons_succ, Option.bind_some, Option.bind_none, Option.map_some, Option.map_none, Nat.zero_add, Nat.add_zero, Nat.reduceAdd, Nat.reduceSub, Nat.sub_self, Nat.reduceLeDiff, Nat.reduceEqDiff, Nat.le_refl, Nat.add_sub_cancel, if_true, if_false, Bool.false_eq_true, Bool.not_true, Bool.not_false, Bool.not_not, reduceIte, reduceCtorEq, and_self, and_true, true_and, decide_true, decide_false, semEq_str, semNe_str, semEq_int, semNe_int, semEq_bl, semNe_bl, atI0, atI1, atI2, atI3, atI4, OkS_nx, post_ok, items_lst, items_tup, semAt_lst, semAt_tup, semAt_str, semAt_dic, hp, hn, hm, e]
/-- a value that is equal to itself, with a number behind it -/
def eqB (d : D) (k : Int) : Bool := match semEqX (.lst [d, .int k]) (.lst [d, .int k]) with
  | some (.bl true) => true
  | _ => false
theorem eqB_of {d : D} {k : Int} (h : eqB d k = true) : semEqX (.lst [d, .int k]) (.lst [d, .int k]) = some (.bl true) := by
  unfold eqB at h
  split at h
  · next e => exact e
  · cases h
def Self (d : D) : Prop := ∀ k : Nat, k < 12 → eqB d (k : Int) = true
theorem self_odd : ∀ d ∈ odd10, Self d := by
  have h : (odd10.all fun d => (List.range 12).all fun k => eqB d (k : Int)) = true := by decide +kernel
  exact fun d hd k hk => List.all_eq_true.mp (List.all_eq_true.mp h d hd) k (List.mem_range.mpr hk)
theorem self_big : Self (.lst [.int (10 ^ 59), .str "a"]) := by
  have h : ((List.range 12).all fun k => eqB (.lst [.int (10 ^ 59), .str "a"]) (k : Int)) = true := by decide +kernel
  exact fun k hk => List.all_eq_true.mp h k (List.mem_range.mpr hk)
theorem eqIt_ok {i : Nat} {p : Addr} {f : En → Rs D} {q : Opd} {sem : D → D → Option D} {r r1 r2 : En} {y : Sum D Nat} {d : D} (h1 : f r = .ok (.obj (itS p) []) r1) (h2 : q.run r1 = .ok y r2) (h3 : (((lookV r2 i).map OV.d).bind fun dx => (look r2 y).bind fun dy => sem dx dy) = some d) : eqIt i p f q sem r = .ok d r2 := by
  unfold eqIt
  rw [h1]
  show (if itS p = itS p then _ else _) = _
  rw [if_pos rfl, h2]
  show ofO _ r2 = _
  rw [h3]
  rfl
theorem orD_no {f h : En → Rs D} {r r1 : En} {y : Rs D} (h1 : f r = .ok (.bl false) r1) (h2 : h r1 = y) : orD f h r = y := by
  unfold orD
  rw [h1]
  exact h2
def e10 (k : Int) (d : D) : En := [some (.sh (.int k)), some (.sh d), some (.ow [d]), none, none]
def x10 (k : Int) (d : D) (x : Exn) : En := [some (.sh (.int k)), some (.sh d), some (.ow [d]), none, some (.exc x)]
def y10 (k : Int) (d : D) (x : Exn) : En := [some (.sh (.int k)), some (.sh d), some (.ow [d, .int k]), none, some (.exc x)]
abbrev z10 (p : Addr) : D := .obj (itS p) []
abbrev or10 (p : Addr) : En → Rs D := (orD (op2 (.va 0) (.ex (cD (.int 11))) semGt) (eqIt 2 p (callEx2 f__law_field (vD 0) 4) (.ex (frzD (lstD [(vD 1), (vD 0)]))) semEqX))
theorem b10_0 (p : Addr) (d : D) : tb__law_right_1 p (e10 0 d) = .ex ⟨"Wrong", [("place", z10 p)]⟩ (e10 0 d) := by kernel_rfl
theorem c10_0 (p : Addr) (d : D) : (seqS (ifS (orT (toB (op2 (.ex (callEx f__law_flags 4)) (.ex (frzD lc__law_right_1)) semNe)) (notT (toB (isxD 4 (tabB tb_ValueError))))) (rtS (shD (cD (.bl false)))) nxS) (appS 2 (vD 0))) (x10 0 d ⟨"Wrong", [("place", z10 p)]⟩) = .nx (y10 0 d ⟨"Wrong", [("place", z10 p)]⟩) := by kernel_rfl
theorem o10_0 (p : Addr) {d : D} (h : Self d) : or10 p (y10 0 d ⟨"Wrong", [("place", z10 p)]⟩) = .ok (.bl true) (y10 0 d ⟨"Wrong", [("place", z10 p)]⟩) := by
  have e := eqIt_ok (i := 2) (p := p) (f := callEx2 f__law_field (vD 0) 4) (q := .ex (frzD (lstD [(vD 1), (vD 0)]))) (sem := semEqX) (r := y10 0 d ⟨"Wrong", [("place", z10 p)]⟩) (r1 := y10 0 d ⟨"Wrong", [("place", z10 p)]⟩) (r2 := y10 0 d ⟨"Wrong", [("place", z10 p)]⟩) (y := .inl (.lst [d, .int 0])) (by kernel_rfl) (by kernel_rfl) (eqB_of (h 0 (by decide)))
  exact orD_no (by kernel_rfl) e
theorem b10_1 (p : Addr) (d : D) : tb__law_right_1 p (e10 1 d) = .ex ⟨"NoRow", [("at", z10 p)]⟩ (e10 1 d) := by kernel_rfl
theorem c10_1 (p : Addr) (d : D) : (seqS (ifS (orT (toB (op2 (.ex (callEx f__law_flags 4)) (.ex (frzD lc__law_right_1)) semNe)) (notT (toB (isxD 4 (tabB tb_ValueError))))) (rtS (shD (cD (.bl false)))) nxS) (appS 2 (vD 0))) (x10 1 d ⟨"NoRow", [("at", z10 p)]⟩) = .nx (y10 1 d ⟨"NoRow", [("at", z10 p)]⟩) := by kernel_rfl
theorem o10_1 (p : Addr) {d : D} (h : Self d) : or10 p (y10 1 d ⟨"NoRow", [("at", z10 p)]⟩) = .ok (.bl true) (y10 1 d ⟨"NoRow", [("at", z10 p)]⟩) := by
  have e := eqIt_ok (i := 2) (p := p) (f := callEx2 f__law_field (vD 0) 4) (q := .ex (frzD (lstD [(vD 1), (vD 0)]))) (sem := semEqX) (r := y10 1 d ⟨"NoRow", [("at", z10 p)]⟩) (r1 := y10 1 d ⟨"NoRow", [("at", z10 p)]⟩) (r2 := y10 1 d ⟨"NoRow", [("at", z10 p)]⟩) (y := .inl (.lst [d, .int 1])) (by kernel_rfl) (by kernel_rfl) (eqB_of (h 1 (by decide)))
  exact orD_no (by kernel_rfl) e
theorem b10_2 (p : Addr) (d : D) : tb__law_right_1 p (e10 2 d) = .ex ⟨"BadStep", [("index", z10 p)]⟩ (e10 2 d) := by kernel_rfl
theorem c10_2 (p : Addr) (d : D) : (seqS (ifS (orT (toB (op2 (.ex (callEx f__law_flags 4)) (.ex (frzD lc__law_right_1)) semNe)) (notT (toB (isxD 4 (tabB tb_ValueError))))) (rtS (shD (cD (.bl false)))) nxS) (appS 2 (vD 0))) (x10 2 d ⟨"BadStep", [("index", z10 p)]⟩) = .nx (y10 2 d ⟨"BadStep", [("index", z10 p)]⟩) := by kernel_rfl
theorem o10_2 (p : Addr) {d : D} (h : Self d) : or10 p (y10 2 d ⟨"BadStep", [("index", z10 p)]⟩) = .ok (.bl true) (y10 2 d ⟨"BadStep", [("index", z10 p)]⟩) := by
  have e := eqIt_ok (i := 2) (p := p) (f := callEx2 f__law_field (vD 0) 4) (q := .ex (frzD (lstD [(vD 1), (vD 0)]))) (sem := semEqX) (r := y10 2 d ⟨"BadStep", [("index", z10 p)]⟩) (r1 := y10 2 d ⟨"BadStep", [("index", z10 p)]⟩) (r2 := y10 2 d ⟨"BadStep", [("index", z10 p)]⟩) (y := .inl (.lst [d, .int 2])) (by kernel_rfl) (by kernel_rfl) (eqB_of (h 2 (by decide)))
  exact orD_no (by kernel_rfl) e
theorem b10_3 (p : Addr) (d : D) : tb__law_right_1 p (e10 3 d) = .ex ⟨"NoStep", [("index", z10 p)]⟩ (e10 3 d) := by kernel_rfl
theorem c10_3 (p : Addr) (d : D) : (seqS (ifS (orT (toB (op2 (.ex (callEx f__law_flags 4)) (.ex (frzD lc__law_right_1)) semNe)) (notT (toB (isxD 4 (tabB tb_ValueError))))) (rtS (shD (cD (.bl false)))) nxS) (appS 2 (vD 0))) (x10 3 d ⟨"NoStep", [("index", z10 p)]⟩) = .nx (y10 3 d ⟨"NoStep", [("index", z10 p)]⟩) := by kernel_rfl
theorem o10_3 (p : Addr) {d : D} (h : Self d) : or10 p (y10 3 d ⟨"NoStep", [("index", z10 p)]⟩) = .ok (.bl true) (y10 3 d ⟨"NoStep", [("index", z10 p)]⟩) := by
  have e := eqIt_ok (i := 2) (p := p) (f := callEx2 f__law_field (vD 0) 4) (q := .ex (frzD (lstD [(vD 1), (vD 0)]))) (sem := semEqX) (r := y10 3 d ⟨"NoStep", [("index", z10 p)]⟩) (r1 := y10 3 d ⟨"NoStep", [("index", z10 p)]⟩) (r2 := y10 3 d ⟨"NoStep", [("index", z10 p)]⟩) (y := .inl (.lst [d, .int 3])) (by kernel_rfl) (by kernel_rfl) (eqB_of (h 3 (by decide)))
  exact orD_no (by kernel_rfl) e
theorem b10_4 (p : Addr) (d : D) : tb__law_right_1 p (e10 4 d) = .ex ⟨"NotPicked", [("number", z10 p)]⟩ (e10 4 d) := by kernel_rfl
theorem c10_4 (p : Addr) (d : D) : (seqS (ifS (orT (toB (op2 (.ex (callEx f__law_flags 4)) (.ex (frzD lc__law_right_1)) semNe)) (notT (toB (isxD 4 (tabB tb_ValueError))))) (rtS (shD (cD (.bl false)))) nxS) (appS 2 (vD 0))) (x10 4 d ⟨"NotPicked", [("number", z10 p)]⟩) = .nx (y10 4 d ⟨"NotPicked", [("number", z10 p)]⟩) := by kernel_rfl
theorem o10_4 (p : Addr) {d : D} (h : Self d) : or10 p (y10 4 d ⟨"NotPicked", [("number", z10 p)]⟩) = .ok (.bl true) (y10 4 d ⟨"NotPicked", [("number", z10 p)]⟩) := by
  have e := eqIt_ok (i := 2) (p := p) (f := callEx2 f__law_field (vD 0) 4) (q := .ex (frzD (lstD [(vD 1), (vD 0)]))) (sem := semEqX) (r := y10 4 d ⟨"NotPicked", [("number", z10 p)]⟩) (r1 := y10 4 d ⟨"NotPicked", [("number", z10 p)]⟩) (r2 := y10 4 d ⟨"NotPicked", [("number", z10 p)]⟩) (y := .inl (.lst [d, .int 4])) (by kernel_rfl) (by kernel_rfl) (eqB_of (h 4 (by decide)))
  exact orD_no (by kernel_rfl) e
theorem b10_5 (p : Addr) (d : D) : tb__law_right_1 p (e10 5 d) = .ex ⟨"Stopped", [("index", z10 p)]⟩ (e10 5 d) := by kernel_rfl
theorem c10_5 (p : Addr) (d : D) : (seqS (ifS (orT (toB (op2 (.ex (callEx f__law_flags 4)) (.ex (frzD lc__law_right_1)) semNe)) (notT (toB (isxD 4 (tabB tb_ValueError))))) (rtS (shD (cD (.bl false)))) nxS) (appS 2 (vD 0))) (x10 5 d ⟨"Stopped", [("index", z10 p)]⟩) = .nx (y10 5 d ⟨"Stopped", [("index", z10 p)]⟩) := by kernel_rfl
theorem o10_5 (p : Addr) {d : D} (h : Self d) : or10 p (y10 5 d ⟨"Stopped", [("index", z10 p)]⟩) = .ok (.bl true) (y10 5 d ⟨"Stopped", [("index", z10 p)]⟩) := by
  have e := eqIt_ok (i := 2) (p := p) (f := callEx2 f__law_field (vD 0) 4) (q := .ex (frzD (lstD [(vD 1), (vD 0)]))) (sem := semEqX) (r := y10 5 d ⟨"Stopped", [("index", z10 p)]⟩) (r1 := y10 5 d ⟨"Stopped", [("index", z10 p)]⟩) (r2 := y10 5 d ⟨"Stopped", [("index", z10 p)]⟩) (y := .inl (.lst [d, .int 5])) (by kernel_rfl) (by kernel_rfl) (eqB_of (h 5 (by decide)))
  exact orD_no (by kernel_rfl) e
theorem b10_6 (p : Addr) (d : D) : tb__law_right_1 p (e10 6 d) = .ex ⟨"BadEdit", [("index", z10 p)]⟩ (e10 6 d) := by kernel_rfl
theorem c10_6 (p : Addr) (d : D) : (seqS (ifS (orT (toB (op2 (.ex (callEx f__law_flags 4)) (.ex (frzD lc__law_right_1)) semNe)) (notT (toB (isxD 4 (tabB tb_ValueError))))) (rtS (shD (cD (.bl false)))) nxS) (appS 2 (vD 0))) (x10 6 d ⟨"BadEdit", [("index", z10 p)]⟩) = .nx (y10 6 d ⟨"BadEdit", [("index", z10 p)]⟩) := by kernel_rfl
theorem o10_6 (p : Addr) {d : D} (h : Self d) : or10 p (y10 6 d ⟨"BadEdit", [("index", z10 p)]⟩) = .ok (.bl true) (y10 6 d ⟨"BadEdit", [("index", z10 p)]⟩) := by
  have e := eqIt_ok (i := 2) (p := p) (f := callEx2 f__law_field (vD 0) 4) (q := .ex (frzD (lstD [(vD 1), (vD 0)]))) (sem := semEqX) (r := y10 6 d ⟨"BadEdit", [("index", z10 p)]⟩) (r1 := y10 6 d ⟨"BadEdit", [("index", z10 p)]⟩) (r2 := y10 6 d ⟨"BadEdit", [("index", z10 p)]⟩) (y := .inl (.lst [d, .int 6])) (by kernel_rfl) (by kernel_rfl) (eqB_of (h 6 (by decide)))
  exact orD_no (by kernel_rfl) e
theorem b10_7 (p : Addr) (d : D) : tb__law_right_1 p (e10 7 d) = .ex ⟨"HasPlace", [("index", z10 p)]⟩ (e10 7 d) := by kernel_rfl
theorem c10_7 (p : Addr) (d : D) : (seqS (ifS (orT (toB (op2 (.ex (callEx f__law_flags 4)) (.ex (frzD lc__law_right_1)) semNe)) (notT (toB (isxD 4 (tabB tb_ValueError))))) (rtS (shD (cD (.bl false)))) nxS) (appS 2 (vD 0))) (x10 7 d ⟨"HasPlace", [("index", z10 p)]⟩) = .nx (y10 7 d ⟨"HasPlace", [("index", z10 p)]⟩) := by kernel_rfl
theorem o10_7 (p : Addr) {d : D} (h : Self d) : or10 p (y10 7 d ⟨"HasPlace", [("index", z10 p)]⟩) = .ok (.bl true) (y10 7 d ⟨"HasPlace", [("index", z10 p)]⟩) := by
  have e := eqIt_ok (i := 2) (p := p) (f := callEx2 f__law_field (vD 0) 4) (q := .ex (frzD (lstD [(vD 1), (vD 0)]))) (sem := semEqX) (r := y10 7 d ⟨"HasPlace", [("index", z10 p)]⟩) (r1 := y10 7 d ⟨"HasPlace", [("index", z10 p)]⟩) (r2 := y10 7 d ⟨"HasPlace", [("index", z10 p)]⟩) (y := .inl (.lst [d, .int 7])) (by kernel_rfl) (by kernel_rfl) (eqB_of (h 7 (by decide)))
  exact orD_no (by kernel_rfl) e
theorem b10_8 (p : Addr) (d : D) : tb__law_right_1 p (e10 8 d) = .ex ⟨"TooMany", [("most", z10 p)]⟩ (e10 8 d) := by kernel_rfl
theorem c10_8 (p : Addr) (d : D) : (seqS (ifS (orT (toB (op2 (.ex (callEx f__law_flags 4)) (.ex (frzD lc__law_right_1)) semNe)) (notT (toB (isxD 4 (tabB tb_ValueError))))) (rtS (shD (cD (.bl false)))) nxS) (appS 2 (vD 0))) (x10 8 d ⟨"TooMany", [("most", z10 p)]⟩) = .nx (y10 8 d ⟨"TooMany", [("most", z10 p)]⟩) := by kernel_rfl
theorem o10_8 (p : Addr) {d : D} (h : Self d) : or10 p (y10 8 d ⟨"TooMany", [("most", z10 p)]⟩) = .ok (.bl true) (y10 8 d ⟨"TooMany", [("most", z10 p)]⟩) := by
  have e := eqIt_ok (i := 2) (p := p) (f := callEx2 f__law_field (vD 0) 4) (q := .ex (frzD (lstD [(vD 1), (vD 0)]))) (sem := semEqX) (r := y10 8 d ⟨"TooMany", [("most", z10 p)]⟩) (r1 := y10 8 d ⟨"TooMany", [("most", z10 p)]⟩) (r2 := y10 8 d ⟨"TooMany", [("most", z10 p)]⟩) (y := .inl (.lst [d, .int 8])) (by kernel_rfl) (by kernel_rfl) (eqB_of (h 8 (by decide)))
  exact orD_no (by kernel_rfl) e
theorem b10_9 (p : Addr) (d : D) : tb__law_right_1 p (e10 9 d) = .ex ⟨"Full", [("limit", z10 p)]⟩ (e10 9 d) := by kernel_rfl
theorem c10_9 (p : Addr) (d : D) : (seqS (ifS (orT (toB (op2 (.ex (callEx f__law_flags 4)) (.ex (frzD lc__law_right_1)) semNe)) (notT (toB (isxD 4 (tabB tb_ValueError))))) (rtS (shD (cD (.bl false)))) nxS) (appS 2 (vD 0))) (x10 9 d ⟨"Full", [("limit", z10 p)]⟩) = .nx (y10 9 d ⟨"Full", [("limit", z10 p)]⟩) := by kernel_rfl
theorem o10_9 (p : Addr) {d : D} (h : Self d) : or10 p (y10 9 d ⟨"Full", [("limit", z10 p)]⟩) = .ok (.bl true) (y10 9 d ⟨"Full", [("limit", z10 p)]⟩) := by
  have e := eqIt_ok (i := 2) (p := p) (f := callEx2 f__law_field (vD 0) 4) (q := .ex (frzD (lstD [(vD 1), (vD 0)]))) (sem := semEqX) (r := y10 9 d ⟨"Full", [("limit", z10 p)]⟩) (r1 := y10 9 d ⟨"Full", [("limit", z10 p)]⟩) (r2 := y10 9 d ⟨"Full", [("limit", z10 p)]⟩) (y := .inl (.lst [d, .int 9])) (by kernel_rfl) (by kernel_rfl) (eqB_of (h 9 (by decide)))
  exact orD_no (by kernel_rfl) e
theorem b10_10 (p : Addr) (d : D) : tb__law_right_1 p (e10 10 d) = .ex ⟨"Refused", [("deed", z10 p)]⟩ (e10 10 d) := by kernel_rfl
theorem c10_10 (p : Addr) (d : D) : (seqS (ifS (orT (toB (op2 (.ex (callEx f__law_flags 4)) (.ex (frzD lc__law_right_1)) semNe)) (notT (toB (isxD 4 (tabB tb_ValueError))))) (rtS (shD (cD (.bl false)))) nxS) (appS 2 (vD 0))) (x10 10 d ⟨"Refused", [("deed", z10 p)]⟩) = .nx (y10 10 d ⟨"Refused", [("deed", z10 p)]⟩) := by kernel_rfl
theorem o10_10 (p : Addr) {d : D} (h : Self d) : or10 p (y10 10 d ⟨"Refused", [("deed", z10 p)]⟩) = .ok (.bl true) (y10 10 d ⟨"Refused", [("deed", z10 p)]⟩) := by
  have e := eqIt_ok (i := 2) (p := p) (f := callEx2 f__law_field (vD 0) 4) (q := .ex (frzD (lstD [(vD 1), (vD 0)]))) (sem := semEqX) (r := y10 10 d ⟨"Refused", [("deed", z10 p)]⟩) (r1 := y10 10 d ⟨"Refused", [("deed", z10 p)]⟩) (r2 := y10 10 d ⟨"Refused", [("deed", z10 p)]⟩) (y := .inl (.lst [d, .int 10])) (by kernel_rfl) (by kernel_rfl) (eqB_of (h 10 (by decide)))
  exact orD_no (by kernel_rfl) e
theorem b10_11 (p : Addr) (d : D) : tb__law_right_1 p (e10 11 d) = .ex ⟨"NoEntry", [("many", z10 p)]⟩ (e10 11 d) := by kernel_rfl
theorem c10_11 (p : Addr) (d : D) : (seqS (ifS (orT (toB (op2 (.ex (callEx f__law_flags 4)) (.ex (frzD lc__law_right_1)) semNe)) (notT (toB (isxD 4 (tabB tb_ValueError))))) (rtS (shD (cD (.bl false)))) nxS) (appS 2 (vD 0))) (x10 11 d ⟨"NoEntry", [("many", z10 p)]⟩) = .nx (y10 11 d ⟨"NoEntry", [("many", z10 p)]⟩) := by kernel_rfl
theorem o10_11 (p : Addr) {d : D} (h : Self d) : or10 p (y10 11 d ⟨"NoEntry", [("many", z10 p)]⟩) = .ok (.bl true) (y10 11 d ⟨"NoEntry", [("many", z10 p)]⟩) := by
  have e := eqIt_ok (i := 2) (p := p) (f := callEx2 f__law_field (vD 0) 4) (q := .ex (frzD (lstD [(vD 1), (vD 0)]))) (sem := semEqX) (r := y10 11 d ⟨"NoEntry", [("many", z10 p)]⟩) (r1 := y10 11 d ⟨"NoEntry", [("many", z10 p)]⟩) (r2 := y10 11 d ⟨"NoEntry", [("many", z10 p)]⟩) (y := .inl (.lst [d, .int 11])) (by kernel_rfl) (by kernel_rfl) (eqB_of (h 11 (by decide)))
  exact orD_no (by kernel_rfl) e
theorem b10_12 (p : Addr) (d : D) : tb__law_right_1 p (e10 12 d) = .ex ⟨"Stuck", []⟩ (e10 12 d) := by kernel_rfl
theorem c10_12 (p : Addr) (d : D) : (seqS (ifS (orT (toB (op2 (.ex (callEx f__law_flags 4)) (.ex (frzD lc__law_right_1)) semNe)) (notT (toB (isxD 4 (tabB tb_ValueError))))) (rtS (shD (cD (.bl false)))) nxS) (appS 2 (vD 0))) (x10 12 d ⟨"Stuck", []⟩) = .nx (y10 12 d ⟨"Stuck", []⟩) := by kernel_rfl
theorem o10_12 (p : Addr) {d : D} (h : Self d) : or10 p (y10 12 d ⟨"Stuck", []⟩) = .ok (.bl true) (y10 12 d ⟨"Stuck", []⟩) := by kernel_rfl
theorem b10_13 (p : Addr) (d : D) : tb__law_right_1 p (e10 13 d) = .ex ⟨"Closed", []⟩ (e10 13 d) := by kernel_rfl
theorem c10_13 (p : Addr) (d : D) : (seqS (ifS (orT (toB (op2 (.ex (callEx f__law_flags 4)) (.ex (frzD lc__law_right_1)) semNe)) (notT (toB (isxD 4 (tabB tb_ValueError))))) (rtS (shD (cD (.bl false)))) nxS) (appS 2 (vD 0))) (x10 13 d ⟨"Closed", []⟩) = .nx (y10 13 d ⟨"Closed", []⟩) := by kernel_rfl
theorem o10_13 (p : Addr) {d : D} (h : Self d) : or10 p (y10 13 d ⟨"Closed", []⟩) = .ok (.bl true) (y10 13 d ⟨"Closed", []⟩) := by kernel_rfl
theorem b10_14 (p : Addr) (d : D) : tb__law_right_1 p (e10 14 d) = .ex ⟨"Unlike", []⟩ (e10 14 d) := by kernel_rfl
theorem c10_14 (p : Addr) (d : D) : (seqS (ifS (orT (toB (op2 (.ex (callEx f__law_flags 4)) (.ex (frzD lc__law_right_1)) semNe)) (notT (toB (isxD 4 (tabB tb_ValueError))))) (rtS (shD (cD (.bl false)))) nxS) (appS 2 (vD 0))) (x10 14 d ⟨"Unlike", []⟩) = .nx (y10 14 d ⟨"Unlike", []⟩) := by kernel_rfl
theorem o10_14 (p : Addr) {d : D} (h : Self d) : or10 p (y10 14 d ⟨"Unlike", []⟩) = .ok (.bl true) (y10 14 d ⟨"Unlike", []⟩) := by kernel_rfl
theorem b10_15 (p : Addr) (d : D) : tb__law_right_1 p (e10 15 d) = .ex ⟨"Nothing", []⟩ (e10 15 d) := by kernel_rfl
theorem c10_15 (p : Addr) (d : D) : (seqS (ifS (orT (toB (op2 (.ex (callEx f__law_flags 4)) (.ex (frzD lc__law_right_1)) semNe)) (notT (toB (isxD 4 (tabB tb_ValueError))))) (rtS (shD (cD (.bl false)))) nxS) (appS 2 (vD 0))) (x10 15 d ⟨"Nothing", []⟩) = .nx (y10 15 d ⟨"Nothing", []⟩) := by kernel_rfl
theorem o10_15 (p : Addr) {d : D} (h : Self d) : or10 p (y10 15 d ⟨"Nothing", []⟩) = .ok (.bl true) (y10 15 d ⟨"Nothing", []⟩) := by kernel_rfl
theorem b10_16 (p : Addr) (d : D) : tb__law_right_1 p (e10 16 d) = .ex ⟨"NoDeed", []⟩ (e10 16 d) := by kernel_rfl
theorem c10_16 (p : Addr) (d : D) : (seqS (ifS (orT (toB (op2 (.ex (callEx f__law_flags 4)) (.ex (frzD lc__law_right_1)) semNe)) (notT (toB (isxD 4 (tabB tb_ValueError))))) (rtS (shD (cD (.bl false)))) nxS) (appS 2 (vD 0))) (x10 16 d ⟨"NoDeed", []⟩) = .nx (y10 16 d ⟨"NoDeed", []⟩) := by kernel_rfl
theorem o10_16 (p : Addr) {d : D} (h : Self d) : or10 p (y10 16 d ⟨"NoDeed", []⟩) = .ok (.bl true) (y10 16 d ⟨"NoDeed", []⟩) := by kernel_rfl
theorem b10_17 (p : Addr) (d : D) : tb__law_right_1 p (e10 17 d) = .ex ⟨"NoText", []⟩ (e10 17 d) := by kernel_rfl
theorem c10_17 (p : Addr) (d : D) : (seqS (ifS (orT (toB (op2 (.ex (callEx f__law_flags 4)) (.ex (frzD lc__law_right_1)) semNe)) (notT (toB (isxD 4 (tabB tb_ValueError))))) (rtS (shD (cD (.bl false)))) nxS) (appS 2 (vD 0))) (x10 17 d ⟨"NoText", []⟩) = .nx (y10 17 d ⟨"NoText", []⟩) := by kernel_rfl
theorem o10_17 (p : Addr) {d : D} (h : Self d) : or10 p (y10 17 d ⟨"NoText", []⟩) = .ok (.bl true) (y10 17 d ⟨"NoText", []⟩) := by kernel_rfl
theorem b10_18 (p : Addr) (d : D) : tb__law_right_1 p (e10 18 d) = .ex ⟨"NoCommand", []⟩ (e10 18 d) := by kernel_rfl
theorem c10_18 (p : Addr) (d : D) : (seqS (ifS (orT (toB (op2 (.ex (callEx f__law_flags 4)) (.ex (frzD lc__law_right_1)) semNe)) (notT (toB (isxD 4 (tabB tb_ValueError))))) (rtS (shD (cD (.bl false)))) nxS) (appS 2 (vD 0))) (x10 18 d ⟨"NoCommand", []⟩) = .nx (y10 18 d ⟨"NoCommand", []⟩) := by kernel_rfl
theorem o10_18 (p : Addr) {d : D} (h : Self d) : or10 p (y10 18 d ⟨"NoCommand", []⟩) = .ok (.bl true) (y10 18 d ⟨"NoCommand", []⟩) := by kernel_rfl
end T

namespace T
open PySem L2 DL
/-! ### k10: the law -/
abbrev C10 : En → SRs := (seqS (ifS (orT (toB (op2 (.ex (callEx f__law_flags 4)) (.ex (frzD lc__law_right_1)) semNe)) (notT (toB (isxD 4 (tabB tb_ValueError))))) (rtS (shD (cD (.bl false)))) nxS) (appS 2 (vD 0)))
def w10 (k : Int) (d : D) : En := [some (.sh (.int k)), some (.sh d), some (.ow [d, .int k]), none, none]
theorem sx_of {k : Int} {d : D} {p : Addr} {x : Exn} (c : C10 (x10 k d x) = .nx (y10 k d x)) (o : or10 p (y10 k d x) = .ok (.bl true) (y10 k d x)) : sx__law_right_1 p (x10 k d x) = .rt (.sh (.bl true)) (y10 k d x) := by
  have e : sx__law_right_1 p (x10 k d x) = seqS C10 (rtS (shD (or10 p))) (x10 k d x) := seqS_assoc _ _ _ _
  rw [e]
  unfold seqS
  rw [c]
  show thenS ((or10 p (y10 k d x)).map OV.sh) _ = _
  rw [o]
  rfl
theorem try_of {k : Int} {d : D} {p : Addr} {x : Exn} (hx : tabB tb_PickError x.c = some true) (b : tb__law_right_1 p (e10 k d) = .ex x (e10 k d)) (s : sx__law_right_1 p (x10 k d x) = .rt (.sh (.bl true)) (y10 k d x)) :
    pr__law_right_1 p (e10 k d) = .rt (.sh (.bl true)) (w10 k d) := by
  have e : (e10 k d).set 4 (some (.exc x)) = x10 k d x := rfl
  have t : tryS (tabB tb_PickError) 4 (tb__law_right_1 p) (sx__law_right_1 p) (e10 k d) = .rt (.sh (.bl true)) (w10 k d) := by
    unfold tryS
    simp only [b, hx, e, s]
    rfl
  show seqS _ _ _ = _
  unfold seqS
  rw [t]
theorem right_of {k : Int} {d : D} {x : Addr → Exn} (hx : ∀ p, tabB tb_PickError (x p).c = some true) (b : ∀ p, tb__law_right_1 p (e10 k d) = .ex (x p) (e10 k d)) (c : ∀ p, C10 (x10 k d (x p)) = .nx (y10 k d (x p)))
    (o : ∀ p, or10 p (y10 k d (x p)) = .ok (.bl true) (y10 k d (x p))) : f__law_right [.int k, d] = some (.sh (.bl true)) := by
  have s : m__law_right (startE 5 ([.int k, d].map OV.sh)) = .rt (.sh (.bl true)) (w10 k d) := by
    have h1 : setS 2 (lstD [(vD 1)]) (startE 5 ([.int k, d].map OV.sh)) = .nx (e10 k d) := by kernel_rfl
    show seqS _ (pinS 2 pr__law_right_1) _ = _
    unfold seqS
    rw [h1]
    exact pinS_eq rfl fun p => try_of (hx p) (b p) (sx_of (c p) (o p))
  unfold f__law_right fnP
  rw [s]
theorem right_all {d : D} (h : Self d) : ∀ k : Nat, k < 19 → f__law_right [.int (k : Int), d] = some (.sh (.bl true))
  | 0, _ => right_of (k := 0) (x := fun p => ⟨"Wrong", [("place", z10 p)]⟩) (fun p => by show tabB tb_PickError "Wrong" = some true; decide +kernel) (fun p => b10_0 p d) (fun p => c10_0 p d) (fun p => o10_0 p h)
  | 1, _ => right_of (k := 1) (x := fun p => ⟨"NoRow", [("at", z10 p)]⟩) (fun p => by show tabB tb_PickError "NoRow" = some true; decide +kernel) (fun p => b10_1 p d) (fun p => c10_1 p d) (fun p => o10_1 p h)
  | 2, _ => right_of (k := 2) (x := fun p => ⟨"BadStep", [("index", z10 p)]⟩) (fun p => by show tabB tb_PickError "BadStep" = some true; decide +kernel) (fun p => b10_2 p d) (fun p => c10_2 p d) (fun p => o10_2 p h)
  | 3, _ => right_of (k := 3) (x := fun p => ⟨"NoStep", [("index", z10 p)]⟩) (fun p => by show tabB tb_PickError "NoStep" = some true; decide +kernel) (fun p => b10_3 p d) (fun p => c10_3 p d) (fun p => o10_3 p h)
  | 4, _ => right_of (k := 4) (x := fun p => ⟨"NotPicked", [("number", z10 p)]⟩) (fun p => by show tabB tb_PickError "NotPicked" = some true; decide +kernel) (fun p => b10_4 p d) (fun p => c10_4 p d) (fun p => o10_4 p h)
  | 5, _ => right_of (k := 5) (x := fun p => ⟨"Stopped", [("index", z10 p)]⟩) (fun p => by show tabB tb_PickError "Stopped" = some true; decide +kernel) (fun p => b10_5 p d) (fun p => c10_5 p d) (fun p => o10_5 p h)
  | 6, _ => right_of (k := 6) (x := fun p => ⟨"BadEdit", [("index", z10 p)]⟩) (fun p => by show tabB tb_PickError "BadEdit" = some true; decide +kernel) (fun p => b10_6 p d) (fun p => c10_6 p d) (fun p => o10_6 p h)
  | 7, _ => right_of (k := 7) (x := fun p => ⟨"HasPlace", [("index", z10 p)]⟩) (fun p => by show tabB tb_PickError "HasPlace" = some true; decide +kernel) (fun p => b10_7 p d) (fun p => c10_7 p d) (fun p => o10_7 p h)
  | 8, _ => right_of (k := 8) (x := fun p => ⟨"TooMany", [("most", z10 p)]⟩) (fun p => by show tabB tb_PickError "TooMany" = some true; decide +kernel) (fun p => b10_8 p d) (fun p => c10_8 p d) (fun p => o10_8 p h)
  | 9, _ => right_of (k := 9) (x := fun p => ⟨"Full", [("limit", z10 p)]⟩) (fun p => by show tabB tb_PickError "Full" = some true; decide +kernel) (fun p => b10_9 p d) (fun p => c10_9 p d) (fun p => o10_9 p h)
  | 10, _ => right_of (k := 10) (x := fun p => ⟨"Refused", [("deed", z10 p)]⟩) (fun p => by show tabB tb_PickError "Refused" = some true; decide +kernel) (fun p => b10_10 p d) (fun p => c10_10 p d) (fun p => o10_10 p h)
  | 11, _ => right_of (k := 11) (x := fun p => ⟨"NoEntry", [("many", z10 p)]⟩) (fun p => by show tabB tb_PickError "NoEntry" = some true; decide +kernel) (fun p => b10_11 p d) (fun p => c10_11 p d) (fun p => o10_11 p h)
  | 12, _ => right_of (k := 12) (x := fun p => ⟨"Stuck", []⟩) (fun p => by show tabB tb_PickError "Stuck" = some true; decide +kernel) (fun p => b10_12 p d) (fun p => c10_12 p d) (fun p => o10_12 p h)
  | 13, _ => right_of (k := 13) (x := fun p => ⟨"Closed", []⟩) (fun p => by show tabB tb_PickError "Closed" = some true; decide +kernel) (fun p => b10_13 p d) (fun p => c10_13 p d) (fun p => o10_13 p h)
  | 14, _ => right_of (k := 14) (x := fun p => ⟨"Unlike", []⟩) (fun p => by show tabB tb_PickError "Unlike" = some true; decide +kernel) (fun p => b10_14 p d) (fun p => c10_14 p d) (fun p => o10_14 p h)
  | 15, _ => right_of (k := 15) (x := fun p => ⟨"Nothing", []⟩) (fun p => by show tabB tb_PickError "Nothing" = some true; decide +kernel) (fun p => b10_15 p d) (fun p => c10_15 p d) (fun p => o10_15 p h)
  | 16, _ => right_of (k := 16) (x := fun p => ⟨"NoDeed", []⟩) (fun p => by show tabB tb_PickError "NoDeed" = some true; decide +kernel) (fun p => b10_16 p d) (fun p => c10_16 p d) (fun p => o10_16 p h)
  | 17, _ => right_of (k := 17) (x := fun p => ⟨"NoText", []⟩) (fun p => by show tabB tb_PickError "NoText" = some true; decide +kernel) (fun p => b10_17 p d) (fun p => c10_17 p d) (fun p => o10_17 p h)
  | 18, _ => right_of (k := 18) (x := fun p => ⟨"NoCommand", []⟩) (fun p => by show tabB tb_PickError "NoCommand" = some true; decide +kernel) (fun p => b10_18 p d) (fun p => c10_18 p d) (fun p => o10_18 p h)
  | n + 19, h => absurd h (by omega)
set_option maxHeartbeats 4000000 in
theorem turn10 {b : List D} (hb : BagOk b) {k : Nat} (hk : k < 19) (ns : List Int) : wS bd_law_1 [some (.sh (.scr ns)), some (.ow b), some (.sh (.int (k : Int)))] fun y => ∃ b, y = .nx [some (.sh (.scr ns)), some (.ow b), some (.sh (.int (k : Int)))] ∧ BagOk b := by
  obtain ⟨d, b1, e1, hd, hb1⟩ := odd10_ok hb
  have r1 := right_all (self_odd d hd) k hk
  have r2 := right_all self_big k hk
  have hp : semPow (.int 10) (.int 59) = some (.int (10 ^ 59)) := by kernel_rfl
  (repeat (first | (with_reducible refine Gb.of e1 ?_) | (with_reducible refine Gi.of r1 ?_) | (with_reducible refine Gi.of r2 ?_) | (with_reducible refine Gi.of hp ?_) | walk_at "go1"))
  exact ⟨b1, rfl, hb1⟩
theorem plain (ns : List Int) (_ : ns.length ≤ 63) : f_law [.scr ns] = some (.sh (.bl true)) := by
  obtain ⟨bs, eb, hb⟩ := bag_ok ns
  unfold f_law
  refine fnP_w ?_
  unfold m_law
  (repeat (first | (with_reducible refine Gi.of eb ?_) | walk_at "go1"))
  refine ⟨19, rfl, by decide, ?_⟩
  refine wS_for _ (fun _ r => ∃ b o2, r = [some (.sh (.scr ns)), some (.ow b), o2] ∧ BagOk b) ?_ (fun r h => ?_) ⟨_, _, rfl, hb⟩
  · rintro i d hd r ⟨b, o2, rfl, hb⟩
    obtain ⟨hlt, rfl⟩ := rangeD_get hd
    rw [Int.zero_add]
    refine Gi.of (z := [some (.sh (.scr ns)), some (.ow b), some (.sh (.int (i : Nat)))]) rfl ?_
    rintro r2 rfl
    refine wS_mono (turn10 hb hlt ns) ?_
    rintro y ⟨b, rfl, hb⟩
    exact ⟨b, _, rfl, hb⟩
  · obtain ⟨b, o2, rfl, hb⟩ := h
    (repeat walk_at "go1")
    rfl
end T

open PySem PySem.W PyProof.Rows
set_option maxHeartbeats 0 in
theorem PySem.Challenge.cw_scriptpicks_k10_errors_kept_holds : PySem.Challenge.rw_scriptpicks_k10_errors_kept.Holds := by
  w_on; o_law; k_head; (case hw => w_witness2)
  k_fill
  refine DL.walkG (l := PySem.Challenge.rw_scriptpicks_k10_errors_kept) (n := 63) (k := 5) (x := "_law_script") (f := T.f_law) rfl rfl (by decide) rfl ⟨rfl, by decide, by decide⟩ (fun w h Y => PySem.W.kIn_of Y) ?F T.plain
  case F =>
    intro w mg fz h inK ns hmg
    refine' T.all_mk inK ns hmg ?ea_PickError ?ea_Wrong ?ea_NoRow ?ea_BadStep ?ea_NoStep ?ea_NotPicked ?ea_Stuck ?ea_Stopped ?ea_Closed ?ea_BadEdit ?ea_Unlike ?ea_HasPlace ?ea_TooMany ?ea_Nothing ?ea_NoDeed ?ea_Full ?ea_Refused ?ea_NoEntry ?ea_NoText ?ea_NoCommand ?a1 ?l1 ?c1 ?k1 ?a2 ?l2 ?c2 ?k2 ?a3 ?l3 ?c3 ?k3 ?a4 ?l4 ?c4 ?k4 ?a5 ?l5 ?c5 ?k5 ?a6 ?l6 ?c6 ?k6 ?a7 ?l7 ?c7 ?k7 ?a8 ?l8 ?c8 ?k8 ?a9 ?l9 ?c9 ?k9 ?a10 ?l10 ?c10 ?k10 ?ec_Stuck ?et_Stuck ?ek_Stuck ?xx_Stuck ?ec_Closed ?et_Closed ?ek_Closed ?xx_Closed ?ec_Unlike ?et_Unlike ?ek_Unlike ?xx_Unlike ?ec_Nothing ?et_Nothing ?ek_Nothing ?xx_Nothing ?ec_NoDeed ?et_NoDeed ?ek_NoDeed ?xx_NoDeed ?ec_NoText ?et_NoText ?ek_NoText ?xx_NoText ?ec_NoCommand ?et_NoCommand ?ek_NoCommand ?xx_NoCommand ?xl_Wrong ?es_Wrong ?ec_Wrong ?et_Wrong ?ek_Wrong ?en_Wrong ?ia_Wrong ?it_Wrong ?il_Wrong ?ic_Wrong ?ik_Wrong ?xl_NoRow ?es_NoRow ?ec_NoRow ?et_NoRow ?ek_NoRow ?en_NoRow ?ia_NoRow ?it_NoRow ?il_NoRow ?ic_NoRow ?ik_NoRow ?xl_BadStep ?es_BadStep ?ec_BadStep ?et_BadStep ?ek_BadStep ?en_BadStep ?ia_BadStep ?it_BadStep ?il_BadStep ?ic_BadStep ?ik_BadStep ?xl_NoStep ?es_NoStep ?ec_NoStep ?et_NoStep ?ek_NoStep ?en_NoStep ?ia_NoStep ?it_NoStep ?il_NoStep ?ic_NoStep ?ik_NoStep ?xl_NotPicked ?es_NotPicked ?ec_NotPicked ?et_NotPicked ?ek_NotPicked ?en_NotPicked ?ia_NotPicked ?it_NotPicked ?il_NotPicked ?ic_NotPicked ?ik_NotPicked ?xl_Stopped ?es_Stopped ?ec_Stopped ?et_Stopped ?ek_Stopped ?en_Stopped ?ia_Stopped ?it_Stopped ?il_Stopped ?ic_Stopped ?ik_Stopped ?xl_BadEdit ?es_BadEdit ?ec_BadEdit ?et_BadEdit ?ek_BadEdit ?en_BadEdit ?ia_BadEdit ?it_BadEdit ?il_BadEdit ?ic_BadEdit ?ik_BadEdit ?xl_HasPlace ?es_HasPlace ?ec_HasPlace ?et_HasPlace ?ek_HasPlace ?en_HasPlace ?ia_HasPlace ?it_HasPlace ?il_HasPlace ?ic_HasPlace ?ik_HasPlace ?xl_TooMany ?es_TooMany ?ec_TooMany ?et_TooMany ?ek_TooMany ?en_TooMany ?ia_TooMany ?it_TooMany ?il_TooMany ?ic_TooMany ?ik_TooMany ?xl_Full ?es_Full ?ec_Full ?et_Full ?ek_Full ?en_Full ?ia_Full ?it_Full ?il_Full ?ic_Full ?ik_Full ?xl_Refused ?es_Refused ?ec_Refused ?et_Refused ?ek_Refused ?en_Refused ?ia_Refused ?it_Refused ?il_Refused ?ic_Refused ?ik_Refused ?xl_NoEntry ?es_NoEntry ?ec_NoEntry ?et_NoEntry ?ek_NoEntry ?en_NoEntry ?ia_NoEntry ?it_NoEntry ?il_NoEntry ?ic_NoEntry ?ik_NoEntry ?eg_Wrong ?eh_Wrong ?ed_Wrong ?eg_NoRow ?eh_NoRow ?ed_NoRow ?eg_BadStep ?eh_BadStep ?ed_BadStep ?eg_NoStep ?eh_NoStep ?ed_NoStep ?eg_NotPicked ?eh_NotPicked ?ed_NotPicked ?eg_Stuck ?eh_Stuck ?ed_Stuck ?eg_Stopped ?eh_Stopped ?ed_Stopped ?eg_Closed ?eh_Closed ?ed_Closed ?eg_BadEdit ?eh_BadEdit ?ed_BadEdit ?eg_Unlike ?eh_Unlike ?ed_Unlike ?eg_HasPlace ?eh_HasPlace ?ed_HasPlace ?eg_TooMany ?eh_TooMany ?ed_TooMany ?eg_Nothing ?eh_Nothing ?ed_Nothing ?eg_NoDeed ?eh_NoDeed ?ed_NoDeed ?eg_Full ?eh_Full ?ed_Full ?eg_Refused ?eh_Refused ?ed_Refused ?eg_NoEntry ?eh_NoEntry ?ed_NoEntry ?eg_NoText ?eh_NoText ?ed_NoText ?eg_NoCommand ?eh_NoCommand ?ed_NoCommand ?sg ?tg ?ea2_Wrong ?em_Wrong ?ea2_NoRow ?em_NoRow ?ea2_BadStep ?em_BadStep ?ea2_NoStep ?em_NoStep ?ea2_NotPicked ?em_NotPicked ?ea2_Stuck ?em_Stuck ?ea2_Stopped ?em_Stopped ?ea2_Closed ?em_Closed ?ea2_BadEdit ?em_BadEdit ?ea2_Unlike ?em_Unlike ?ea2_HasPlace ?em_HasPlace ?ea2_TooMany ?em_TooMany ?ea2_Nothing ?em_Nothing ?ea2_NoDeed ?em_NoDeed ?ea2_Full ?em_Full ?ea2_Refused ?em_Refused ?ea2_NoEntry ?em_NoEntry ?ea2_NoText ?em_NoText ?ea2_NoCommand ?em_NoCommand ?tc_PickError ?td_PickError ?tt_PickError ?ts_PickError_Wrong ?ts_PickError_NoRow ?ts_PickError_BadStep ?ts_PickError_NoStep ?ts_PickError_NotPicked ?ts_PickError_Stuck ?ts_PickError_Stopped ?ts_PickError_Closed ?ts_PickError_BadEdit ?ts_PickError_Unlike ?ts_PickError_HasPlace ?ts_PickError_TooMany ?ts_PickError_Nothing ?ts_PickError_NoDeed ?ts_PickError_Full ?ts_PickError_Refused ?ts_PickError_NoEntry ?ts_PickError_NoText ?ts_PickError_NoCommand ?kd_BadEdit ?ky_BadEdit ?ks_BadEdit ?kt_BadEdit_Wrong ?kt_BadEdit_NoRow ?kt_BadEdit_BadStep ?kt_BadEdit_NoStep ?kt_BadEdit_NotPicked ?kt_BadEdit_Stuck ?kt_BadEdit_Stopped ?kt_BadEdit_Closed ?kt_BadEdit_BadEdit ?kt_BadEdit_Unlike ?kt_BadEdit_HasPlace ?kt_BadEdit_TooMany ?kt_BadEdit_Nothing ?kt_BadEdit_NoDeed ?kt_BadEdit_Full ?kt_BadEdit_Refused ?kt_BadEdit_NoEntry ?kt_BadEdit_NoText ?kt_BadEdit_NoCommand ?kd_BadStep ?ky_BadStep ?ks_BadStep ?kt_BadStep_Wrong ?kt_BadStep_NoRow ?kt_BadStep_BadStep ?kt_BadStep_NoStep ?kt_BadStep_NotPicked ?kt_BadStep_Stuck ?kt_BadStep_Stopped ?kt_BadStep_Closed ?kt_BadStep_BadEdit ?kt_BadStep_Unlike ?kt_BadStep_HasPlace ?kt_BadStep_TooMany ?kt_BadStep_Nothing ?kt_BadStep_NoDeed ?kt_BadStep_Full ?kt_BadStep_Refused ?kt_BadStep_NoEntry ?kt_BadStep_NoText ?kt_BadStep_NoCommand ?kd_Closed ?ky_Closed ?ks_Closed ?kt_Closed_Wrong ?kt_Closed_NoRow ?kt_Closed_BadStep ?kt_Closed_NoStep ?kt_Closed_NotPicked ?kt_Closed_Stuck ?kt_Closed_Stopped ?kt_Closed_Closed ?kt_Closed_BadEdit ?kt_Closed_Unlike ?kt_Closed_HasPlace ?kt_Closed_TooMany ?kt_Closed_Nothing ?kt_Closed_NoDeed ?kt_Closed_Full ?kt_Closed_Refused ?kt_Closed_NoEntry ?kt_Closed_NoText ?kt_Closed_NoCommand ?kd_Full ?ky_Full ?ks_Full ?kt_Full_Wrong ?kt_Full_NoRow ?kt_Full_BadStep ?kt_Full_NoStep ?kt_Full_NotPicked ?kt_Full_Stuck ?kt_Full_Stopped ?kt_Full_Closed ?kt_Full_BadEdit ?kt_Full_Unlike ?kt_Full_HasPlace ?kt_Full_TooMany ?kt_Full_Nothing ?kt_Full_NoDeed ?kt_Full_Full ?kt_Full_Refused ?kt_Full_NoEntry ?kt_Full_NoText ?kt_Full_NoCommand ?kd_HasPlace ?ky_HasPlace ?ks_HasPlace ?kt_HasPlace_Wrong ?kt_HasPlace_NoRow ?kt_HasPlace_BadStep ?kt_HasPlace_NoStep ?kt_HasPlace_NotPicked ?kt_HasPlace_Stuck ?kt_HasPlace_Stopped ?kt_HasPlace_Closed ?kt_HasPlace_BadEdit ?kt_HasPlace_Unlike ?kt_HasPlace_HasPlace ?kt_HasPlace_TooMany ?kt_HasPlace_Nothing ?kt_HasPlace_NoDeed ?kt_HasPlace_Full ?kt_HasPlace_Refused ?kt_HasPlace_NoEntry ?kt_HasPlace_NoText ?kt_HasPlace_NoCommand ?kd_NoCommand ?ky_NoCommand ?ks_NoCommand ?kt_NoCommand_Wrong ?kt_NoCommand_NoRow ?kt_NoCommand_BadStep ?kt_NoCommand_NoStep ?kt_NoCommand_NotPicked ?kt_NoCommand_Stuck ?kt_NoCommand_Stopped ?kt_NoCommand_Closed ?kt_NoCommand_BadEdit ?kt_NoCommand_Unlike ?kt_NoCommand_HasPlace ?kt_NoCommand_TooMany ?kt_NoCommand_Nothing ?kt_NoCommand_NoDeed ?kt_NoCommand_Full ?kt_NoCommand_Refused ?kt_NoCommand_NoEntry ?kt_NoCommand_NoText ?kt_NoCommand_NoCommand ?kd_NoDeed ?ky_NoDeed ?ks_NoDeed ?kt_NoDeed_Wrong ?kt_NoDeed_NoRow ?kt_NoDeed_BadStep ?kt_NoDeed_NoStep ?kt_NoDeed_NotPicked ?kt_NoDeed_Stuck ?kt_NoDeed_Stopped ?kt_NoDeed_Closed ?kt_NoDeed_BadEdit ?kt_NoDeed_Unlike ?kt_NoDeed_HasPlace ?kt_NoDeed_TooMany ?kt_NoDeed_Nothing ?kt_NoDeed_NoDeed ?kt_NoDeed_Full ?kt_NoDeed_Refused ?kt_NoDeed_NoEntry ?kt_NoDeed_NoText ?kt_NoDeed_NoCommand ?kd_NoEntry ?ky_NoEntry ?ks_NoEntry ?kt_NoEntry_Wrong ?kt_NoEntry_NoRow ?kt_NoEntry_BadStep ?kt_NoEntry_NoStep ?kt_NoEntry_NotPicked ?kt_NoEntry_Stuck ?kt_NoEntry_Stopped ?kt_NoEntry_Closed ?kt_NoEntry_BadEdit ?kt_NoEntry_Unlike ?kt_NoEntry_HasPlace ?kt_NoEntry_TooMany ?kt_NoEntry_Nothing ?kt_NoEntry_NoDeed ?kt_NoEntry_Full ?kt_NoEntry_Refused ?kt_NoEntry_NoEntry ?kt_NoEntry_NoText ?kt_NoEntry_NoCommand ?kd_NoRow ?ky_NoRow ?ks_NoRow ?kt_NoRow_Wrong ?kt_NoRow_NoRow ?kt_NoRow_BadStep ?kt_NoRow_NoStep ?kt_NoRow_NotPicked ?kt_NoRow_Stuck ?kt_NoRow_Stopped ?kt_NoRow_Closed ?kt_NoRow_BadEdit ?kt_NoRow_Unlike ?kt_NoRow_HasPlace ?kt_NoRow_TooMany ?kt_NoRow_Nothing ?kt_NoRow_NoDeed ?kt_NoRow_Full ?kt_NoRow_Refused ?kt_NoRow_NoEntry ?kt_NoRow_NoText ?kt_NoRow_NoCommand ?kd_NoStep ?ky_NoStep ?ks_NoStep ?kt_NoStep_Wrong ?kt_NoStep_NoRow ?kt_NoStep_BadStep ?kt_NoStep_NoStep ?kt_NoStep_NotPicked ?kt_NoStep_Stuck ?kt_NoStep_Stopped ?kt_NoStep_Closed ?kt_NoStep_BadEdit ?kt_NoStep_Unlike ?kt_NoStep_HasPlace ?kt_NoStep_TooMany ?kt_NoStep_Nothing ?kt_NoStep_NoDeed ?kt_NoStep_Full ?kt_NoStep_Refused ?kt_NoStep_NoEntry ?kt_NoStep_NoText ?kt_NoStep_NoCommand ?kd_NoText ?ky_NoText ?ks_NoText ?kt_NoText_Wrong ?kt_NoText_NoRow ?kt_NoText_BadStep ?kt_NoText_NoStep ?kt_NoText_NotPicked ?kt_NoText_Stuck ?kt_NoText_Stopped ?kt_NoText_Closed ?kt_NoText_BadEdit ?kt_NoText_Unlike ?kt_NoText_HasPlace ?kt_NoText_TooMany ?kt_NoText_Nothing ?kt_NoText_NoDeed ?kt_NoText_Full ?kt_NoText_Refused ?kt_NoText_NoEntry ?kt_NoText_NoText ?kt_NoText_NoCommand ?kd_NotPicked ?ky_NotPicked ?ks_NotPicked ?kt_NotPicked_Wrong ?kt_NotPicked_NoRow ?kt_NotPicked_BadStep ?kt_NotPicked_NoStep ?kt_NotPicked_NotPicked ?kt_NotPicked_Stuck ?kt_NotPicked_Stopped ?kt_NotPicked_Closed ?kt_NotPicked_BadEdit ?kt_NotPicked_Unlike ?kt_NotPicked_HasPlace ?kt_NotPicked_TooMany ?kt_NotPicked_Nothing ?kt_NotPicked_NoDeed ?kt_NotPicked_Full ?kt_NotPicked_Refused ?kt_NotPicked_NoEntry ?kt_NotPicked_NoText ?kt_NotPicked_NoCommand ?kd_Nothing ?ky_Nothing ?ks_Nothing ?kt_Nothing_Wrong ?kt_Nothing_NoRow ?kt_Nothing_BadStep ?kt_Nothing_NoStep ?kt_Nothing_NotPicked ?kt_Nothing_Stuck ?kt_Nothing_Stopped ?kt_Nothing_Closed ?kt_Nothing_BadEdit ?kt_Nothing_Unlike ?kt_Nothing_HasPlace ?kt_Nothing_TooMany ?kt_Nothing_Nothing ?kt_Nothing_NoDeed ?kt_Nothing_Full ?kt_Nothing_Refused ?kt_Nothing_NoEntry ?kt_Nothing_NoText ?kt_Nothing_NoCommand ?kd_Refused ?ky_Refused ?ks_Refused ?kt_Refused_Wrong ?kt_Refused_NoRow ?kt_Refused_BadStep ?kt_Refused_NoStep ?kt_Refused_NotPicked ?kt_Refused_Stuck ?kt_Refused_Stopped ?kt_Refused_Closed ?kt_Refused_BadEdit ?kt_Refused_Unlike ?kt_Refused_HasPlace ?kt_Refused_TooMany ?kt_Refused_Nothing ?kt_Refused_NoDeed ?kt_Refused_Full ?kt_Refused_Refused ?kt_Refused_NoEntry ?kt_Refused_NoText ?kt_Refused_NoCommand ?kd_Stopped ?ky_Stopped ?ks_Stopped ?kt_Stopped_Wrong ?kt_Stopped_NoRow ?kt_Stopped_BadStep ?kt_Stopped_NoStep ?kt_Stopped_NotPicked ?kt_Stopped_Stuck ?kt_Stopped_Stopped ?kt_Stopped_Closed ?kt_Stopped_BadEdit ?kt_Stopped_Unlike ?kt_Stopped_HasPlace ?kt_Stopped_TooMany ?kt_Stopped_Nothing ?kt_Stopped_NoDeed ?kt_Stopped_Full ?kt_Stopped_Refused ?kt_Stopped_NoEntry ?kt_Stopped_NoText ?kt_Stopped_NoCommand ?kd_Stuck ?ky_Stuck ?ks_Stuck ?kt_Stuck_Wrong ?kt_Stuck_NoRow ?kt_Stuck_BadStep ?kt_Stuck_NoStep ?kt_Stuck_NotPicked ?kt_Stuck_Stuck ?kt_Stuck_Stopped ?kt_Stuck_Closed ?kt_Stuck_BadEdit ?kt_Stuck_Unlike ?kt_Stuck_HasPlace ?kt_Stuck_TooMany ?kt_Stuck_Nothing ?kt_Stuck_NoDeed ?kt_Stuck_Full ?kt_Stuck_Refused ?kt_Stuck_NoEntry ?kt_Stuck_NoText ?kt_Stuck_NoCommand ?kd_TooMany ?ky_TooMany ?ks_TooMany ?kt_TooMany_Wrong ?kt_TooMany_NoRow ?kt_TooMany_BadStep ?kt_TooMany_NoStep ?kt_TooMany_NotPicked ?kt_TooMany_Stuck ?kt_TooMany_Stopped ?kt_TooMany_Closed ?kt_TooMany_BadEdit ?kt_TooMany_Unlike ?kt_TooMany_HasPlace ?kt_TooMany_TooMany ?kt_TooMany_Nothing ?kt_TooMany_NoDeed ?kt_TooMany_Full ?kt_TooMany_Refused ?kt_TooMany_NoEntry ?kt_TooMany_NoText ?kt_TooMany_NoCommand ?kd_Unlike ?ky_Unlike ?ks_Unlike ?kt_Unlike_Wrong ?kt_Unlike_NoRow ?kt_Unlike_BadStep ?kt_Unlike_NoStep ?kt_Unlike_NotPicked ?kt_Unlike_Stuck ?kt_Unlike_Stopped ?kt_Unlike_Closed ?kt_Unlike_BadEdit ?kt_Unlike_Unlike ?kt_Unlike_HasPlace ?kt_Unlike_TooMany ?kt_Unlike_Nothing ?kt_Unlike_NoDeed ?kt_Unlike_Full ?kt_Unlike_Refused ?kt_Unlike_NoEntry ?kt_Unlike_NoText ?kt_Unlike_NoCommand ?kd_Wrong ?ky_Wrong ?ks_Wrong ?kt_Wrong_Wrong ?kt_Wrong_NoRow ?kt_Wrong_BadStep ?kt_Wrong_NoStep ?kt_Wrong_NotPicked ?kt_Wrong_Stuck ?kt_Wrong_Stopped ?kt_Wrong_Closed ?kt_Wrong_BadEdit ?kt_Wrong_Unlike ?kt_Wrong_HasPlace ?kt_Wrong_TooMany ?kt_Wrong_Nothing ?kt_Wrong_NoDeed ?kt_Wrong_Full ?kt_Wrong_Refused ?kt_Wrong_NoEntry ?kt_Wrong_NoText ?kt_Wrong_NoCommand ?kb_ValueError_Wrong ?kb_ValueError_NoRow ?kb_ValueError_BadStep ?kb_ValueError_NoStep ?kb_ValueError_NotPicked ?kb_ValueError_Stuck ?kb_ValueError_Stopped ?kb_ValueError_Closed ?kb_ValueError_BadEdit ?kb_ValueError_Unlike ?kb_ValueError_HasPlace ?kb_ValueError_TooMany ?kb_ValueError_Nothing ?kb_ValueError_NoDeed ?kb_ValueError_Full ?kb_ValueError_Refused ?kb_ValueError_NoEntry ?kb_ValueError_NoText ?kb_ValueError_NoCommand ?nz ?z_ValueError ?z_abs ?z_int ?z_isinstance ?z_len ?z_range
    (case ea_PickError => k_is); (case ea_Wrong => k_is); (case ea_NoRow => k_is); (case ea_BadStep => k_is); (case ea_NoStep => k_is); (case ea_NotPicked => k_is); (case ea_Stuck => k_is); (case ea_Stopped => k_is); (case ea_Closed => k_is); (case ea_BadEdit => k_is); (case ea_Unlike => k_is); (case ea_HasPlace => k_is); (case ea_TooMany => k_is); (case ea_Nothing => k_is); (case ea_NoDeed => k_is); (case ea_Full => k_is); (case ea_Refused => k_is); (case ea_NoEntry => k_is); (case ea_NoText => k_is); (case ea_NoCommand => k_is); (case a1 => k_is); (case l1 => k_is); (case c1 => k_is); (case k1 => k_is); (case a2 => k_is); (case l2 => k_is); (case c2 => k_is); (case k2 => k_is); (case a3 => k_is); (case l3 => k_is); (case c3 => k_is); (case k3 => k_is); (case a4 => k_is); (case l4 => k_is); (case c4 => k_is); (case k4 => k_is); (case a5 => k_is); (case l5 => k_is); (case c5 => k_is); (case k5 => k_is); (case a6 => k_is); (case l6 => k_is); (case c6 => k_is); (case k6 => k_is); (case a7 => k_is); (case l7 => k_is); (case c7 => k_is); (case k7 => k_is); (case a8 => k_is); (case l8 => k_is); (case c8 => k_is); (case k8 => k_is); (case a9 => k_is); (case l9 => k_is); (case c9 => k_is); (case k9 => k_is); (case a10 => k_is); (case l10 => k_is); (case c10 => k_is); (case k10 => k_is); (case ec_Stuck => k_is); (case et_Stuck => k_is); (case ek_Stuck => k_is); (case xx_Stuck => k_exc); (case ec_Closed => k_is); (case et_Closed => k_is); (case ek_Closed => k_is); (case xx_Closed => k_exc); (case ec_Unlike => k_is); (case et_Unlike => k_is); (case ek_Unlike => k_is); (case xx_Unlike => k_exc); (case ec_Nothing => k_is); (case et_Nothing => k_is); (case ek_Nothing => k_is); (case xx_Nothing => k_exc); (case ec_NoDeed => k_is); (case et_NoDeed => k_is); (case ek_NoDeed => k_is); (case xx_NoDeed => k_exc); (case ec_NoText => k_is); (case et_NoText => k_is); (case ek_NoText => k_is); (case xx_NoText => k_exc); (case ec_NoCommand => k_is); (case et_NoCommand => k_is); (case ek_NoCommand => k_is); (case xx_NoCommand => k_exc); (case xl_Wrong => k_is); (case es_Wrong => k_is); (case ec_Wrong => k_is); (case et_Wrong => k_is); (case ek_Wrong => k_is); (case en_Wrong => k_is); (case ia_Wrong => k_is); (case it_Wrong => k_is); (case il_Wrong => k_is); (case ic_Wrong => k_is); (case ik_Wrong => k_is); (case xl_NoRow => k_is); (case es_NoRow => k_is); (case ec_NoRow => k_is); (case et_NoRow => k_is); (case ek_NoRow => k_is); (case en_NoRow => k_is); (case ia_NoRow => k_is); (case it_NoRow => k_is); (case il_NoRow => k_is); (case ic_NoRow => k_is); (case ik_NoRow => k_is); (case xl_BadStep => k_is); (case es_BadStep => k_is); (case ec_BadStep => k_is); (case et_BadStep => k_is); (case ek_BadStep => k_is); (case en_BadStep => k_is); (case ia_BadStep => k_is); (case it_BadStep => k_is); (case il_BadStep => k_is); (case ic_BadStep => k_is); (case ik_BadStep => k_is); (case xl_NoStep => k_is); (case es_NoStep => k_is); (case ec_NoStep => k_is); (case et_NoStep => k_is); (case ek_NoStep => k_is); (case en_NoStep => k_is); (case ia_NoStep => k_is); (case it_NoStep => k_is); (case il_NoStep => k_is); (case ic_NoStep => k_is); (case ik_NoStep => k_is); (case xl_NotPicked => k_is); (case es_NotPicked => k_is); (case ec_NotPicked => k_is); (case et_NotPicked => k_is); (case ek_NotPicked => k_is); (case en_NotPicked => k_is); (case ia_NotPicked => k_is); (case it_NotPicked => k_is); (case il_NotPicked => k_is); (case ic_NotPicked => k_is); (case ik_NotPicked => k_is); (case xl_Stopped => k_is); (case es_Stopped => k_is); (case ec_Stopped => k_is); (case et_Stopped => k_is); (case ek_Stopped => k_is); (case en_Stopped => k_is); (case ia_Stopped => k_is); (case it_Stopped => k_is); (case il_Stopped => k_is); (case ic_Stopped => k_is); (case ik_Stopped => k_is); (case xl_BadEdit => k_is); (case es_BadEdit => k_is); (case ec_BadEdit => k_is); (case et_BadEdit => k_is); (case ek_BadEdit => k_is); (case en_BadEdit => k_is); (case ia_BadEdit => k_is); (case it_BadEdit => k_is); (case il_BadEdit => k_is); (case ic_BadEdit => k_is); (case ik_BadEdit => k_is); (case xl_HasPlace => k_is); (case es_HasPlace => k_is); (case ec_HasPlace => k_is); (case et_HasPlace => k_is); (case ek_HasPlace => k_is); (case en_HasPlace => k_is); (case ia_HasPlace => k_is); (case it_HasPlace => k_is); (case il_HasPlace => k_is); (case ic_HasPlace => k_is); (case ik_HasPlace => k_is); (case xl_TooMany => k_is); (case es_TooMany => k_is); (case ec_TooMany => k_is); (case et_TooMany => k_is); (case ek_TooMany => k_is); (case en_TooMany => k_is); (case ia_TooMany => k_is); (case it_TooMany => k_is); (case il_TooMany => k_is); (case ic_TooMany => k_is); (case ik_TooMany => k_is); (case xl_Full => k_is); (case es_Full => k_is); (case ec_Full => k_is); (case et_Full => k_is); (case ek_Full => k_is); (case en_Full => k_is); (case ia_Full => k_is); (case it_Full => k_is); (case il_Full => k_is); (case ic_Full => k_is); (case ik_Full => k_is); (case xl_Refused => k_is); (case es_Refused => k_is); (case ec_Refused => k_is); (case et_Refused => k_is); (case ek_Refused => k_is); (case en_Refused => k_is); (case ia_Refused => k_is); (case it_Refused => k_is); (case il_Refused => k_is); (case ic_Refused => k_is); (case ik_Refused => k_is); (case xl_NoEntry => k_is); (case es_NoEntry => k_is); (case ec_NoEntry => k_is); (case et_NoEntry => k_is); (case ek_NoEntry => k_is); (case en_NoEntry => k_is); (case ia_NoEntry => k_is); (case it_NoEntry => k_is); (case il_NoEntry => k_is); (case ic_NoEntry => k_is); (case ik_NoEntry => k_is); (case eg_Wrong => k_is); (case eh_Wrong => k_is); (case ed_Wrong => k_is); (case eg_NoRow => k_is); (case eh_NoRow => k_is); (case ed_NoRow => k_is); (case eg_BadStep => k_is); (case eh_BadStep => k_is); (case ed_BadStep => k_is); (case eg_NoStep => k_is); (case eh_NoStep => k_is); (case ed_NoStep => k_is); (case eg_NotPicked => k_is); (case eh_NotPicked => k_is); (case ed_NotPicked => k_is); (case eg_Stuck => k_is); (case eh_Stuck => k_is); (case ed_Stuck => k_is); (case eg_Stopped => k_is); (case eh_Stopped => k_is); (case ed_Stopped => k_is); (case eg_Closed => k_is); (case eh_Closed => k_is); (case ed_Closed => k_is); (case eg_BadEdit => k_is); (case eh_BadEdit => k_is); (case ed_BadEdit => k_is); (case eg_Unlike => k_is); (case eh_Unlike => k_is); (case ed_Unlike => k_is); (case eg_HasPlace => k_is); (case eh_HasPlace => k_is); (case ed_HasPlace => k_is); (case eg_TooMany => k_is); (case eh_TooMany => k_is); (case ed_TooMany => k_is); (case eg_Nothing => k_is); (case eh_Nothing => k_is); (case ed_Nothing => k_is); (case eg_NoDeed => k_is); (case eh_NoDeed => k_is); (case ed_NoDeed => k_is); (case eg_Full => k_is); (case eh_Full => k_is); (case ed_Full => k_is); (case eg_Refused => k_is); (case eh_Refused => k_is); (case ed_Refused => k_is); (case eg_NoEntry => k_is); (case eh_NoEntry => k_is); (case ed_NoEntry => k_is); (case eg_NoText => k_is); (case eh_NoText => k_is); (case ed_NoText => k_is); (case eg_NoCommand => k_is); (case eh_NoCommand => k_is); (case ed_NoCommand => k_is); (case sg => k_is); (case tg => k_is); (case ea2_Wrong => k_is); (case em_Wrong => k_is); (case ea2_NoRow => k_is); (case em_NoRow => k_is); (case ea2_BadStep => k_is); (case em_BadStep => k_is); (case ea2_NoStep => k_is); (case em_NoStep => k_is); (case ea2_NotPicked => k_is); (case em_NotPicked => k_is); (case ea2_Stuck => k_is); (case em_Stuck => k_is); (case ea2_Stopped => k_is); (case em_Stopped => k_is); (case ea2_Closed => k_is); (case em_Closed => k_is); (case ea2_BadEdit => k_is); (case em_BadEdit => k_is); (case ea2_Unlike => k_is); (case em_Unlike => k_is); (case ea2_HasPlace => k_is); (case em_HasPlace => k_is); (case ea2_TooMany => k_is); (case em_TooMany => k_is); (case ea2_Nothing => k_is); (case em_Nothing => k_is); (case ea2_NoDeed => k_is); (case em_NoDeed => k_is); (case ea2_Full => k_is); (case em_Full => k_is); (case ea2_Refused => k_is); (case em_Refused => k_is); (case ea2_NoEntry => k_is); (case em_NoEntry => k_is); (case ea2_NoText => k_is); (case em_NoText => k_is); (case ea2_NoCommand => k_is); (case em_NoCommand => k_is); (case tc_PickError => k_is); (case td_PickError => k_is); (case tt_PickError => k_is); (case ts_PickError_Wrong => first | rfl | k_is); (case ts_PickError_NoRow => first | rfl | k_is); (case ts_PickError_BadStep => first | rfl | k_is); (case ts_PickError_NoStep => first | rfl | k_is); (case ts_PickError_NotPicked => first | rfl | k_is); (case ts_PickError_Stuck => first | rfl | k_is); (case ts_PickError_Stopped => first | rfl | k_is); (case ts_PickError_Closed => first | rfl | k_is); (case ts_PickError_BadEdit => first | rfl | k_is); (case ts_PickError_Unlike => first | rfl | k_is); (case ts_PickError_HasPlace => first | rfl | k_is); (case ts_PickError_TooMany => first | rfl | k_is); (case ts_PickError_Nothing => first | rfl | k_is); (case ts_PickError_NoDeed => first | rfl | k_is); (case ts_PickError_Full => first | rfl | k_is); (case ts_PickError_Refused => first | rfl | k_is); (case ts_PickError_NoEntry => first | rfl | k_is); (case ts_PickError_NoText => first | rfl | k_is); (case ts_PickError_NoCommand => first | rfl | k_is); (case kd_BadEdit => k_is); (case ky_BadEdit => k_is); (case ks_BadEdit => first | rfl | k_is); (case kt_BadEdit_Wrong => first | rfl | k_is); (case kt_BadEdit_NoRow => first | rfl | k_is); (case kt_BadEdit_BadStep => first | rfl | k_is); (case kt_BadEdit_NoStep => first | rfl | k_is); (case kt_BadEdit_NotPicked => first | rfl | k_is); (case kt_BadEdit_Stuck => first | rfl | k_is); (case kt_BadEdit_Stopped => first | rfl | k_is); (case kt_BadEdit_Closed => first | rfl | k_is); (case kt_BadEdit_BadEdit => first | rfl | k_is); (case kt_BadEdit_Unlike => first | rfl | k_is); (case kt_BadEdit_HasPlace => first | rfl | k_is); (case kt_BadEdit_TooMany => first | rfl | k_is); (case kt_BadEdit_Nothing => first | rfl | k_is); (case kt_BadEdit_NoDeed => first | rfl | k_is); (case kt_BadEdit_Full => first | rfl | k_is); (case kt_BadEdit_Refused => first | rfl | k_is); (case kt_BadEdit_NoEntry => first | rfl | k_is); (case kt_BadEdit_NoText => first | rfl | k_is); (case kt_BadEdit_NoCommand => first | rfl | k_is); (case kd_BadStep => k_is); (case ky_BadStep => k_is); (case ks_BadStep => first | rfl | k_is); (case kt_BadStep_Wrong => first | rfl | k_is); (case kt_BadStep_NoRow => first | rfl | k_is); (case kt_BadStep_BadStep => first | rfl | k_is); (case kt_BadStep_NoStep => first | rfl | k_is); (case kt_BadStep_NotPicked => first | rfl | k_is); (case kt_BadStep_Stuck => first | rfl | k_is); (case kt_BadStep_Stopped => first | rfl | k_is); (case kt_BadStep_Closed => first | rfl | k_is); (case kt_BadStep_BadEdit => first | rfl | k_is); (case kt_BadStep_Unlike => first | rfl | k_is); (case kt_BadStep_HasPlace => first | rfl | k_is); (case kt_BadStep_TooMany => first | rfl | k_is); (case kt_BadStep_Nothing => first | rfl | k_is); (case kt_BadStep_NoDeed => first | rfl | k_is); (case kt_BadStep_Full => first | rfl | k_is); (case kt_BadStep_Refused => first | rfl | k_is); (case kt_BadStep_NoEntry => first | rfl | k_is); (case kt_BadStep_NoText => first | rfl | k_is); (case kt_BadStep_NoCommand => first | rfl | k_is); (case kd_Closed => k_is); (case ky_Closed => k_is); (case ks_Closed => first | rfl | k_is); (case kt_Closed_Wrong => first | rfl | k_is); (case kt_Closed_NoRow => first | rfl | k_is); (case kt_Closed_BadStep => first | rfl | k_is); (case kt_Closed_NoStep => first | rfl | k_is); (case kt_Closed_NotPicked => first | rfl | k_is); (case kt_Closed_Stuck => first | rfl | k_is); (case kt_Closed_Stopped => first | rfl | k_is); (case kt_Closed_Closed => first | rfl | k_is); (case kt_Closed_BadEdit => first | rfl | k_is); (case kt_Closed_Unlike => first | rfl | k_is); (case kt_Closed_HasPlace => first | rfl | k_is); (case kt_Closed_TooMany => first | rfl | k_is); (case kt_Closed_Nothing => first | rfl | k_is); (case kt_Closed_NoDeed => first | rfl | k_is); (case kt_Closed_Full => first | rfl | k_is); (case kt_Closed_Refused => first | rfl | k_is); (case kt_Closed_NoEntry => first | rfl | k_is); (case kt_Closed_NoText => first | rfl | k_is); (case kt_Closed_NoCommand => first | rfl | k_is); (case kd_Full => k_is); (case ky_Full => k_is); (case ks_Full => first | rfl | k_is); (case kt_Full_Wrong => first | rfl | k_is); (case kt_Full_NoRow => first | rfl | k_is); (case kt_Full_BadStep => first | rfl | k_is); (case kt_Full_NoStep => first | rfl | k_is); (case kt_Full_NotPicked => first | rfl | k_is); (case kt_Full_Stuck => first | rfl | k_is); (case kt_Full_Stopped => first | rfl | k_is); (case kt_Full_Closed => first | rfl | k_is); (case kt_Full_BadEdit => first | rfl | k_is); (case kt_Full_Unlike => first | rfl | k_is); (case kt_Full_HasPlace => first | rfl | k_is); (case kt_Full_TooMany => first | rfl | k_is); (case kt_Full_Nothing => first | rfl | k_is); (case kt_Full_NoDeed => first | rfl | k_is); (case kt_Full_Full => first | rfl | k_is); (case kt_Full_Refused => first | rfl | k_is); (case kt_Full_NoEntry => first | rfl | k_is); (case kt_Full_NoText => first | rfl | k_is); (case kt_Full_NoCommand => first | rfl | k_is); (case kd_HasPlace => k_is); (case ky_HasPlace => k_is); (case ks_HasPlace => first | rfl | k_is); (case kt_HasPlace_Wrong => first | rfl | k_is); (case kt_HasPlace_NoRow => first | rfl | k_is); (case kt_HasPlace_BadStep => first | rfl | k_is); (case kt_HasPlace_NoStep => first | rfl | k_is); (case kt_HasPlace_NotPicked => first | rfl | k_is); (case kt_HasPlace_Stuck => first | rfl | k_is); (case kt_HasPlace_Stopped => first | rfl | k_is); (case kt_HasPlace_Closed => first | rfl | k_is); (case kt_HasPlace_BadEdit => first | rfl | k_is); (case kt_HasPlace_Unlike => first | rfl | k_is); (case kt_HasPlace_HasPlace => first | rfl | k_is); (case kt_HasPlace_TooMany => first | rfl | k_is); (case kt_HasPlace_Nothing => first | rfl | k_is); (case kt_HasPlace_NoDeed => first | rfl | k_is); (case kt_HasPlace_Full => first | rfl | k_is); (case kt_HasPlace_Refused => first | rfl | k_is); (case kt_HasPlace_NoEntry => first | rfl | k_is); (case kt_HasPlace_NoText => first | rfl | k_is); (case kt_HasPlace_NoCommand => first | rfl | k_is); (case kd_NoCommand => k_is); (case ky_NoCommand => k_is); (case ks_NoCommand => first | rfl | k_is); (case kt_NoCommand_Wrong => first | rfl | k_is); (case kt_NoCommand_NoRow => first | rfl | k_is); (case kt_NoCommand_BadStep => first | rfl | k_is); (case kt_NoCommand_NoStep => first | rfl | k_is); (case kt_NoCommand_NotPicked => first | rfl | k_is); (case kt_NoCommand_Stuck => first | rfl | k_is); (case kt_NoCommand_Stopped => first | rfl | k_is); (case kt_NoCommand_Closed => first | rfl | k_is); (case kt_NoCommand_BadEdit => first | rfl | k_is); (case kt_NoCommand_Unlike => first | rfl | k_is); (case kt_NoCommand_HasPlace => first | rfl | k_is); (case kt_NoCommand_TooMany => first | rfl | k_is); (case kt_NoCommand_Nothing => first | rfl | k_is); (case kt_NoCommand_NoDeed => first | rfl | k_is); (case kt_NoCommand_Full => first | rfl | k_is); (case kt_NoCommand_Refused => first | rfl | k_is); (case kt_NoCommand_NoEntry => first | rfl | k_is); (case kt_NoCommand_NoText => first | rfl | k_is); (case kt_NoCommand_NoCommand => first | rfl | k_is); (case kd_NoDeed => k_is); (case ky_NoDeed => k_is); (case ks_NoDeed => first | rfl | k_is); (case kt_NoDeed_Wrong => first | rfl | k_is); (case kt_NoDeed_NoRow => first | rfl | k_is); (case kt_NoDeed_BadStep => first | rfl | k_is); (case kt_NoDeed_NoStep => first | rfl | k_is); (case kt_NoDeed_NotPicked => first | rfl | k_is); (case kt_NoDeed_Stuck => first | rfl | k_is); (case kt_NoDeed_Stopped => first | rfl | k_is); (case kt_NoDeed_Closed => first | rfl | k_is); (case kt_NoDeed_BadEdit => first | rfl | k_is); (case kt_NoDeed_Unlike => first | rfl | k_is); (case kt_NoDeed_HasPlace => first | rfl | k_is); (case kt_NoDeed_TooMany => first | rfl | k_is); (case kt_NoDeed_Nothing => first | rfl | k_is); (case kt_NoDeed_NoDeed => first | rfl | k_is); (case kt_NoDeed_Full => first | rfl | k_is); (case kt_NoDeed_Refused => first | rfl | k_is); (case kt_NoDeed_NoEntry => first | rfl | k_is); (case kt_NoDeed_NoText => first | rfl | k_is); (case kt_NoDeed_NoCommand => first | rfl | k_is); (case kd_NoEntry => k_is); (case ky_NoEntry => k_is); (case ks_NoEntry => first | rfl | k_is); (case kt_NoEntry_Wrong => first | rfl | k_is); (case kt_NoEntry_NoRow => first | rfl | k_is); (case kt_NoEntry_BadStep => first | rfl | k_is); (case kt_NoEntry_NoStep => first | rfl | k_is); (case kt_NoEntry_NotPicked => first | rfl | k_is); (case kt_NoEntry_Stuck => first | rfl | k_is); (case kt_NoEntry_Stopped => first | rfl | k_is); (case kt_NoEntry_Closed => first | rfl | k_is); (case kt_NoEntry_BadEdit => first | rfl | k_is); (case kt_NoEntry_Unlike => first | rfl | k_is); (case kt_NoEntry_HasPlace => first | rfl | k_is); (case kt_NoEntry_TooMany => first | rfl | k_is); (case kt_NoEntry_Nothing => first | rfl | k_is); (case kt_NoEntry_NoDeed => first | rfl | k_is); (case kt_NoEntry_Full => first | rfl | k_is); (case kt_NoEntry_Refused => first | rfl | k_is); (case kt_NoEntry_NoEntry => first | rfl | k_is); (case kt_NoEntry_NoText => first | rfl | k_is); (case kt_NoEntry_NoCommand => first | rfl | k_is); (case kd_NoRow => k_is); (case ky_NoRow => k_is); (case ks_NoRow => first | rfl | k_is); (case kt_NoRow_Wrong => first | rfl | k_is); (case kt_NoRow_NoRow => first | rfl | k_is); (case kt_NoRow_BadStep => first | rfl | k_is); (case kt_NoRow_NoStep => first | rfl | k_is); (case kt_NoRow_NotPicked => first | rfl | k_is); (case kt_NoRow_Stuck => first | rfl | k_is); (case kt_NoRow_Stopped => first | rfl | k_is); (case kt_NoRow_Closed => first | rfl | k_is); (case kt_NoRow_BadEdit => first | rfl | k_is); (case kt_NoRow_Unlike => first | rfl | k_is); (case kt_NoRow_HasPlace => first | rfl | k_is); (case kt_NoRow_TooMany => first | rfl | k_is); (case kt_NoRow_Nothing => first | rfl | k_is); (case kt_NoRow_NoDeed => first | rfl | k_is); (case kt_NoRow_Full => first | rfl | k_is); (case kt_NoRow_Refused => first | rfl | k_is); (case kt_NoRow_NoEntry => first | rfl | k_is); (case kt_NoRow_NoText => first | rfl | k_is); (case kt_NoRow_NoCommand => first | rfl | k_is); (case kd_NoStep => k_is); (case ky_NoStep => k_is); (case ks_NoStep => first | rfl | k_is); (case kt_NoStep_Wrong => first | rfl | k_is); (case kt_NoStep_NoRow => first | rfl | k_is); (case kt_NoStep_BadStep => first | rfl | k_is); (case kt_NoStep_NoStep => first | rfl | k_is); (case kt_NoStep_NotPicked => first | rfl | k_is); (case kt_NoStep_Stuck => first | rfl | k_is); (case kt_NoStep_Stopped => first | rfl | k_is); (case kt_NoStep_Closed => first | rfl | k_is); (case kt_NoStep_BadEdit => first | rfl | k_is); (case kt_NoStep_Unlike => first | rfl | k_is); (case kt_NoStep_HasPlace => first | rfl | k_is); (case kt_NoStep_TooMany => first | rfl | k_is); (case kt_NoStep_Nothing => first | rfl | k_is); (case kt_NoStep_NoDeed => first | rfl | k_is); (case kt_NoStep_Full => first | rfl | k_is); (case kt_NoStep_Refused => first | rfl | k_is); (case kt_NoStep_NoEntry => first | rfl | k_is); (case kt_NoStep_NoText => first | rfl | k_is); (case kt_NoStep_NoCommand => first | rfl | k_is); (case kd_NoText => k_is); (case ky_NoText => k_is); (case ks_NoText => first | rfl | k_is); (case kt_NoText_Wrong => first | rfl | k_is); (case kt_NoText_NoRow => first | rfl | k_is); (case kt_NoText_BadStep => first | rfl | k_is); (case kt_NoText_NoStep => first | rfl | k_is); (case kt_NoText_NotPicked => first | rfl | k_is); (case kt_NoText_Stuck => first | rfl | k_is); (case kt_NoText_Stopped => first | rfl | k_is); (case kt_NoText_Closed => first | rfl | k_is); (case kt_NoText_BadEdit => first | rfl | k_is); (case kt_NoText_Unlike => first | rfl | k_is); (case kt_NoText_HasPlace => first | rfl | k_is); (case kt_NoText_TooMany => first | rfl | k_is); (case kt_NoText_Nothing => first | rfl | k_is); (case kt_NoText_NoDeed => first | rfl | k_is); (case kt_NoText_Full => first | rfl | k_is); (case kt_NoText_Refused => first | rfl | k_is); (case kt_NoText_NoEntry => first | rfl | k_is); (case kt_NoText_NoText => first | rfl | k_is); (case kt_NoText_NoCommand => first | rfl | k_is); (case kd_NotPicked => k_is); (case ky_NotPicked => k_is); (case ks_NotPicked => first | rfl | k_is); (case kt_NotPicked_Wrong => first | rfl | k_is); (case kt_NotPicked_NoRow => first | rfl | k_is); (case kt_NotPicked_BadStep => first | rfl | k_is); (case kt_NotPicked_NoStep => first | rfl | k_is); (case kt_NotPicked_NotPicked => first | rfl | k_is); (case kt_NotPicked_Stuck => first | rfl | k_is); (case kt_NotPicked_Stopped => first | rfl | k_is); (case kt_NotPicked_Closed => first | rfl | k_is); (case kt_NotPicked_BadEdit => first | rfl | k_is); (case kt_NotPicked_Unlike => first | rfl | k_is); (case kt_NotPicked_HasPlace => first | rfl | k_is); (case kt_NotPicked_TooMany => first | rfl | k_is); (case kt_NotPicked_Nothing => first | rfl | k_is); (case kt_NotPicked_NoDeed => first | rfl | k_is); (case kt_NotPicked_Full => first | rfl | k_is); (case kt_NotPicked_Refused => first | rfl | k_is); (case kt_NotPicked_NoEntry => first | rfl | k_is); (case kt_NotPicked_NoText => first | rfl | k_is); (case kt_NotPicked_NoCommand => first | rfl | k_is); (case kd_Nothing => k_is); (case ky_Nothing => k_is); (case ks_Nothing => first | rfl | k_is); (case kt_Nothing_Wrong => first | rfl | k_is); (case kt_Nothing_NoRow => first | rfl | k_is); (case kt_Nothing_BadStep => first | rfl | k_is); (case kt_Nothing_NoStep => first | rfl | k_is); (case kt_Nothing_NotPicked => first | rfl | k_is); (case kt_Nothing_Stuck => first | rfl | k_is); (case kt_Nothing_Stopped => first | rfl | k_is); (case kt_Nothing_Closed => first | rfl | k_is); (case kt_Nothing_BadEdit => first | rfl | k_is); (case kt_Nothing_Unlike => first | rfl | k_is); (case kt_Nothing_HasPlace => first | rfl | k_is); (case kt_Nothing_TooMany => first | rfl | k_is); (case kt_Nothing_Nothing => first | rfl | k_is); (case kt_Nothing_NoDeed => first | rfl | k_is); (case kt_Nothing_Full => first | rfl | k_is); (case kt_Nothing_Refused => first | rfl | k_is); (case kt_Nothing_NoEntry => first | rfl | k_is); (case kt_Nothing_NoText => first | rfl | k_is); (case kt_Nothing_NoCommand => first | rfl | k_is); (case kd_Refused => k_is); (case ky_Refused => k_is); (case ks_Refused => first | rfl | k_is); (case kt_Refused_Wrong => first | rfl | k_is); (case kt_Refused_NoRow => first | rfl | k_is); (case kt_Refused_BadStep => first | rfl | k_is); (case kt_Refused_NoStep => first | rfl | k_is); (case kt_Refused_NotPicked => first | rfl | k_is); (case kt_Refused_Stuck => first | rfl | k_is); (case kt_Refused_Stopped => first | rfl | k_is); (case kt_Refused_Closed => first | rfl | k_is); (case kt_Refused_BadEdit => first | rfl | k_is); (case kt_Refused_Unlike => first | rfl | k_is); (case kt_Refused_HasPlace => first | rfl | k_is); (case kt_Refused_TooMany => first | rfl | k_is); (case kt_Refused_Nothing => first | rfl | k_is); (case kt_Refused_NoDeed => first | rfl | k_is); (case kt_Refused_Full => first | rfl | k_is); (case kt_Refused_Refused => first | rfl | k_is); (case kt_Refused_NoEntry => first | rfl | k_is); (case kt_Refused_NoText => first | rfl | k_is); (case kt_Refused_NoCommand => first | rfl | k_is); (case kd_Stopped => k_is); (case ky_Stopped => k_is); (case ks_Stopped => first | rfl | k_is); (case kt_Stopped_Wrong => first | rfl | k_is); (case kt_Stopped_NoRow => first | rfl | k_is); (case kt_Stopped_BadStep => first | rfl | k_is); (case kt_Stopped_NoStep => first | rfl | k_is); (case kt_Stopped_NotPicked => first | rfl | k_is); (case kt_Stopped_Stuck => first | rfl | k_is); (case kt_Stopped_Stopped => first | rfl | k_is); (case kt_Stopped_Closed => first | rfl | k_is); (case kt_Stopped_BadEdit => first | rfl | k_is); (case kt_Stopped_Unlike => first | rfl | k_is); (case kt_Stopped_HasPlace => first | rfl | k_is); (case kt_Stopped_TooMany => first | rfl | k_is); (case kt_Stopped_Nothing => first | rfl | k_is); (case kt_Stopped_NoDeed => first | rfl | k_is); (case kt_Stopped_Full => first | rfl | k_is); (case kt_Stopped_Refused => first | rfl | k_is); (case kt_Stopped_NoEntry => first | rfl | k_is); (case kt_Stopped_NoText => first | rfl | k_is); (case kt_Stopped_NoCommand => first | rfl | k_is); (case kd_Stuck => k_is); (case ky_Stuck => k_is); (case ks_Stuck => first | rfl | k_is); (case kt_Stuck_Wrong => first | rfl | k_is); (case kt_Stuck_NoRow => first | rfl | k_is); (case kt_Stuck_BadStep => first | rfl | k_is); (case kt_Stuck_NoStep => first | rfl | k_is); (case kt_Stuck_NotPicked => first | rfl | k_is); (case kt_Stuck_Stuck => first | rfl | k_is); (case kt_Stuck_Stopped => first | rfl | k_is); (case kt_Stuck_Closed => first | rfl | k_is); (case kt_Stuck_BadEdit => first | rfl | k_is); (case kt_Stuck_Unlike => first | rfl | k_is); (case kt_Stuck_HasPlace => first | rfl | k_is); (case kt_Stuck_TooMany => first | rfl | k_is); (case kt_Stuck_Nothing => first | rfl | k_is); (case kt_Stuck_NoDeed => first | rfl | k_is); (case kt_Stuck_Full => first | rfl | k_is); (case kt_Stuck_Refused => first | rfl | k_is); (case kt_Stuck_NoEntry => first | rfl | k_is); (case kt_Stuck_NoText => first | rfl | k_is); (case kt_Stuck_NoCommand => first | rfl | k_is); (case kd_TooMany => k_is); (case ky_TooMany => k_is); (case ks_TooMany => first | rfl | k_is); (case kt_TooMany_Wrong => first | rfl | k_is); (case kt_TooMany_NoRow => first | rfl | k_is); (case kt_TooMany_BadStep => first | rfl | k_is); (case kt_TooMany_NoStep => first | rfl | k_is); (case kt_TooMany_NotPicked => first | rfl | k_is); (case kt_TooMany_Stuck => first | rfl | k_is); (case kt_TooMany_Stopped => first | rfl | k_is); (case kt_TooMany_Closed => first | rfl | k_is); (case kt_TooMany_BadEdit => first | rfl | k_is); (case kt_TooMany_Unlike => first | rfl | k_is); (case kt_TooMany_HasPlace => first | rfl | k_is); (case kt_TooMany_TooMany => first | rfl | k_is); (case kt_TooMany_Nothing => first | rfl | k_is); (case kt_TooMany_NoDeed => first | rfl | k_is); (case kt_TooMany_Full => first | rfl | k_is); (case kt_TooMany_Refused => first | rfl | k_is); (case kt_TooMany_NoEntry => first | rfl | k_is); (case kt_TooMany_NoText => first | rfl | k_is); (case kt_TooMany_NoCommand => first | rfl | k_is); (case kd_Unlike => k_is); (case ky_Unlike => k_is); (case ks_Unlike => first | rfl | k_is); (case kt_Unlike_Wrong => first | rfl | k_is); (case kt_Unlike_NoRow => first | rfl | k_is); (case kt_Unlike_BadStep => first | rfl | k_is); (case kt_Unlike_NoStep => first | rfl | k_is); (case kt_Unlike_NotPicked => first | rfl | k_is); (case kt_Unlike_Stuck => first | rfl | k_is); (case kt_Unlike_Stopped => first | rfl | k_is); (case kt_Unlike_Closed => first | rfl | k_is); (case kt_Unlike_BadEdit => first | rfl | k_is); (case kt_Unlike_Unlike => first | rfl | k_is); (case kt_Unlike_HasPlace => first | rfl | k_is); (case kt_Unlike_TooMany => first | rfl | k_is); (case kt_Unlike_Nothing => first | rfl | k_is); (case kt_Unlike_NoDeed => first | rfl | k_is); (case kt_Unlike_Full => first | rfl | k_is); (case kt_Unlike_Refused => first | rfl | k_is); (case kt_Unlike_NoEntry => first | rfl | k_is); (case kt_Unlike_NoText => first | rfl | k_is); (case kt_Unlike_NoCommand => first | rfl | k_is); (case kd_Wrong => k_is); (case ky_Wrong => k_is); (case ks_Wrong => first | rfl | k_is); (case kt_Wrong_Wrong => first | rfl | k_is); (case kt_Wrong_NoRow => first | rfl | k_is); (case kt_Wrong_BadStep => first | rfl | k_is); (case kt_Wrong_NoStep => first | rfl | k_is); (case kt_Wrong_NotPicked => first | rfl | k_is); (case kt_Wrong_Stuck => first | rfl | k_is); (case kt_Wrong_Stopped => first | rfl | k_is); (case kt_Wrong_Closed => first | rfl | k_is); (case kt_Wrong_BadEdit => first | rfl | k_is); (case kt_Wrong_Unlike => first | rfl | k_is); (case kt_Wrong_HasPlace => first | rfl | k_is); (case kt_Wrong_TooMany => first | rfl | k_is); (case kt_Wrong_Nothing => first | rfl | k_is); (case kt_Wrong_NoDeed => first | rfl | k_is); (case kt_Wrong_Full => first | rfl | k_is); (case kt_Wrong_Refused => first | rfl | k_is); (case kt_Wrong_NoEntry => first | rfl | k_is); (case kt_Wrong_NoText => first | rfl | k_is); (case kt_Wrong_NoCommand => first | rfl | k_is); (case kb_ValueError_Wrong => first | rfl | k_is); (case kb_ValueError_NoRow => first | rfl | k_is); (case kb_ValueError_BadStep => first | rfl | k_is); (case kb_ValueError_NoStep => first | rfl | k_is); (case kb_ValueError_NotPicked => first | rfl | k_is); (case kb_ValueError_Stuck => first | rfl | k_is); (case kb_ValueError_Stopped => first | rfl | k_is); (case kb_ValueError_Closed => first | rfl | k_is); (case kb_ValueError_BadEdit => first | rfl | k_is); (case kb_ValueError_Unlike => first | rfl | k_is); (case kb_ValueError_HasPlace => first | rfl | k_is); (case kb_ValueError_TooMany => first | rfl | k_is); (case kb_ValueError_Nothing => first | rfl | k_is); (case kb_ValueError_NoDeed => first | rfl | k_is); (case kb_ValueError_Full => first | rfl | k_is); (case kb_ValueError_Refused => first | rfl | k_is); (case kb_ValueError_NoEntry => first | rfl | k_is); (case kb_ValueError_NoText => first | rfl | k_is); (case kb_ValueError_NoCommand => first | rfl | k_is); (case nz => first | rfl | k_is); (case z_ValueError => k_is); (case z_abs => k_is); (case z_int => k_is); (case z_isinstance => k_is); (case z_len => k_is); (case z_range => k_is)
