import PyProof.Rows.All
import Wide.All
import OpenK.AllK
import Wide.FinOn
import HandS.ForMost
import KE.KeyNested
import HandS.TupSets
import HandS.Set
import HandS.Exc
import HandS.Flow
import HandS.Style
import HandS.NoneIn
import HandS.Zip
import HandS.Deep
import HandS.TupAny
import HandS.TupMul
import HandS.Replace
import HandS.IsInst
import HandS.Codes
import PyProof.ReprRoads
import HandS.More
import KE.SortData
import HandS.Conv
import HandS.SetTxt0
import HandS.SetFor
import HandS.SetBool
import PyProof.SumAny
import PyProof.ListStr
import HandS.Star
import HandS.ExcOwn
import HandS.WordsExc
import HandS.CallSlots
import HandS.ExcInit
import HandS.ExcField
import HandS.ExcIs
import KE.KExcIs
import HandS.Property
import HandS.Iter
import HandS.ListItems
import PyProof.DictUpdate
import PyProof.FactsLen
import PyProof.Methods
import HandS.DeepEq
import HandS.DictEq
import KE.KDictZip
import HandS.DictComp
import HandS.Small
import HandS.Defaults
import HandS.TupLe
import KE.KDictDisplayH
import KE.GoesEnum
import PySem.Challenge.RW_scriptpicks_k43_whole_all_small_integers
set_option Elab.async false
set_option linter.all false
set_option maxRecDepth 100000
set_option maxHeartbeats 4000000
/-! Data layer, part 0: sets of tuples of any data that can be a key: a member more. -/
namespace DL
open PySem L2 PyProof.Rows
/-- the tuple at a is the key k -/
def IsN (h : Heap) (k : NestedKey) (a : Addr) : Prop := NestedIs h k (.ref a) ∧ k.depth ≤ 8
theorem IsN.knd {P : Program} {w : World} {h : Heap} {k : NestedKey} {a : Addr} (z : IsN h k a) : (nestedKind P w).is h k a := z
theorem IsN.up {h h' : Heap} {k : NestedKey} {a : Addr} (z : IsN h k a) (kp : ∀ b o, h.get? b = some o → h'.get? b = some o) : IsN h' k a :=
  ⟨NestedIs.at (fun b o _ _ e _ => kp b o e) k _ z.1, z.2⟩
section
variable {P : Program} {w : World} {A : Around} {E : Value → Shared → Prop} {s : Shared}
/-- of no class statement, n levels down -/
def PlainAt (P : Program) (w : World) (n : Nat) (s : Shared) (v : Value) : Prop := ∀ (A : Around) (E : Value → Shared → Prop) (Q : Bool → Shared → Prop), Q false s → wpAny (model P w) A (ofAClassStatement n v) Q E s
/-- whether the hash goes by value: one of both -/
def ByVal (P : Program) (w : World) (n : Nat) (s : Shared) (v : Value) : Prop := ∀ (A : Around) (E : Value → Shared → Prop) (Q : Bool → Shared → Prop), (∀ b, Q b s) → wpAny (model P w) A (hashByValue n v) Q E s
theorem PlainAt.of {n : Nat} {v : Value} (e : ofAClassStatement n v = pure false) : PlainAt P w n s v := fun A E Q q => by
  rw [e]; exact wpAny_pure q
theorem ByVal.of {n : Nat} {v : Value} {b : Bool} (e : hashByValue n v = pure b) : ByVal P w n s v := fun A E Q q => by
  rw [e]; exact wpAny_pure (q b)
theorem PlainAt.tup {n m : Nat} {a : Addr} {o : Obj} {vs : Array Value} (oa : s.heap.get? a = some o) (oc : o.cls = .type "tuple") (od : o.data = .seq vs m) (all : ∀ v ∈ vs.toList, PlainAt P w n s v) : PlainAt P w (n + 1) s (.ref a) := fun A E Q q => by
  have ty : s.TypeIs (.ref a) "tuple" := ⟨o, oa, oc⟩
  unfold ofAClassStatement
  refine wpAny_bind (wpAny_typeOf ty ?_)
  dsimp only
  have e : (("tuple" : String) == "tuple") = true := by decide
  simp only [e, if_true, Bool.not_true, Bool.false_eq_true, if_false]
  show wpAny _ _ (seqItems? (.ref a) >>= _) _ _ s
  refine wpAny_bind (wpAny_seqItems oa od (wpAny_bind ?_))
  show wpAny _ _ (forIn vs _ _) _ _ s
  rw [← Array.forIn_toList]
  refine wpAny_forIn_list _ (fun rest r s' => (r.1 = none ∧ s' = s) ∧ ∀ v ∈ rest, PlainAt P w n s v) _ ?_ ?_ _ _ ⟨⟨rfl, rfl⟩, all⟩
  · rintro v rest r s' ⟨⟨_, rfl⟩, al⟩
    refine wpAny_bind (al v List.mem_cons_self _ _ _ ?_)
    simp only [Bool.false_eq_true, if_false]
    exact wpAny_pure ⟨⟨rfl, rfl⟩, fun u hu => al u (List.mem_cons_of_mem _ hu)⟩
  · rintro ⟨r1, r2⟩ s' ⟨⟨hr, rfl⟩, _⟩
    simp only at hr
    subst hr
    exact wpAny_pure q
theorem ByVal.tup {n m : Nat} {a : Addr} {o : Obj} {vs : Array Value} (oa : s.heap.get? a = some o) (oc : o.cls = .type "tuple") (od : o.data = .seq vs m) (all : ∀ v ∈ vs.toList, ByVal P w n s v) : ByVal P w (n + 1) s (.ref a) := fun A E Q q => by
  have ty : s.TypeIs (.ref a) "tuple" := ⟨o, oa, oc⟩
  unfold hashByValue
  refine wpAny_bind (wpAny_specialOf ty F.slot_tuple_hash.lookup ?_)
  show wpAny _ _ (seqItems? (.ref a) >>= _) _ _ s
  refine wpAny_bind (wpAny_seqItems oa od (wpAny_bind ?_))
  show wpAny _ _ (forIn vs _ _) _ _ s
  rw [← Array.forIn_toList]
  refine wpAny_forIn_list _ (fun rest r s' => ((r.1 = none ∨ r.1 = some false) ∧ s' = s) ∧ ∀ v ∈ rest, ByVal P w n s v) _ ?_ ?_ _ _ ⟨⟨.inl rfl, rfl⟩, all⟩
  · rintro v rest r s' ⟨⟨_, rfl⟩, al⟩
    refine wpAny_bind (al v List.mem_cons_self _ _ _ fun b => ?_)
    cases b with
    | true =>
      simp only [Bool.not_true, Bool.false_eq_true, if_false]
      exact wpAny_pure ⟨⟨.inl rfl, rfl⟩, fun u hu => al u (List.mem_cons_of_mem _ hu)⟩
    | false =>
      simp only [Bool.not_false, if_true]
      exact wpAny_pure (wpAny_pure (q _))
  · rintro ⟨r1, r2⟩ s' ⟨⟨hr, rfl⟩, _⟩
    simp only at hr
    rcases hr with rfl | rfl
    · exact wpAny_pure (q _)
    · exact wpAny_pure (q _)
end
abbrev KA : Type := Addr × NestedKey
def hN (w : World) (L : List KA) : List Int := L.map fun p => p.2.hash w
def rwN (w : World) (L : List KA) : List (Int × Value) := L.map fun p => (p.2.hash w, Value.ref p.1)
/-- the set at a has the keys L, at their addresses -/
structure SetN (w : World) (h : Heap) (a : Addr) (L : List KA) (es : Array (Int × Value)) (ep : Nat) (t : SetTable) : Prop where
  ob : ∃ o, h.get? a = some o ∧ o.ExactSet ∧ o.data = .set es ep t
  rows : es.toList = rwN w L
  tab : TabOk t (hN w L)
  nd : (L.map (·.2)).Nodup
  tup : ∀ p ∈ L, IsN h p.2 p.1
  led : w.params.followText "set-order" = true ∨ t.led = true
  room : L.length * 5 < t.mask * 3
  few : L.length < 64
/-- what the set has of the first i -/
structure GotN (ks : List KA) (i : Nat) (L : List KA) : Prop where
  sub : ∀ p ∈ L, p ∈ ks.take i
  all : ∀ p ∈ ks.take i, p.2 ∈ L.map (·.2)
  len : L.length ≤ i
/-- the same but for the members' own objects -/
def SetN0 (w : World) (h : Heap) (a : Addr) (L : List KA) : Prop := ∃ es ep t, (∃ o, h.get? a = some o ∧ o.ExactSet ∧ o.data = .set es ep t) ∧ es.toList = rwN w L ∧ TabOk t (hN w L) ∧ (L.map (·.2)).Nodup ∧ (w.params.followText "set-order" = true ∨ t.led = true) ∧ L.length * 5 < t.mask * 3 ∧ L.length < 64
section
variable {P : Program} {w : World} {A : Around} {E : Value → Shared → Prop} {s : Shared} {a : Addr} {L : List KA} {es : Array (Int × Value)} {ep : Nat} {t : SetTable}
theorem rwN_len (w : World) (L : List KA) : (rwN w L).length = L.length := List.length_map _
theorem hN_len (w : World) (L : List KA) : (hN w L).length = L.length := List.length_map _
theorem size_rw (hr : es.toList = rwN w L) : es.size = L.length := by
  have z := congrArg List.length hr
  rw [rwN_len] at z
  exact z
theorem fits_rw (hr : es.toList = rwN w L) (T : TabOk t (hN w L)) (r : L.length ≤ t.mask) : t.fits es.size = true := by
  have z1 := T.sz
  have z2 := size_rw hr
  rw [hN_len] at z1
  unfold SetTable.fits SetTable.fill
  rw [T.dm, Bool.and_eq_true, beq_iff_eq, decide_eq_true_eq]
  exact ⟨by rw [z1, z2], by
    show t.place.size + 0 ≤ t.mask
    omega⟩
theorem SetN.fits {h : Heap} (R : SetN w h a L es ep t) : t.fits es.size = true := fits_rw R.rows R.tab (by have := R.room; omega)
end
end DL

/-! Data layer, part 1: plain data, reading of data in a heap, environments, the relation of a state to an environment. -/
namespace DL
open PySem L2

inductive D where
  | non
  | bl (b : Bool)
  | int (i : Int)
  | str (x : Str)
  | lst (xs : List D)
  | tup (xs : List D)
  | dic (kvs : List (Key × D))
  | scr (ns : List Int)
  /-- an instance of a class of the program's own that nobody changes any more: the class's name, its attributes -/
  | obj (c : Str) (fs : List (Str × D))

/-- the class of that name of the module -/
def ClsAt (K : PySem.W.Frag) (c : Str) (C : Addr) : Prop := PySem.W.nsIn K mainGlobals c = some (some (.ref C))

mutual
inductive RD (K : PySem.W.Frag) (F : Hp) : V → D → Prop
  | non : RD K F .non .non
  | bl (b : Bool) : RD K F (.bl b) (.bl b)
  | int (i : Int) : RD K F (.int i) (.int i)
  | str (x : Str) : RD K F (.str x) (.str x)
  | lst {a : Addr} {xs : List V} {ds : List D} : F a = some (.lst xs) → RDs K F xs ds → RD K F (.ref a) (.lst ds)
  | scr {a : Addr} (ns : List Int) : SqL K F a (ns.map V.int) → RD K F (.ref a) (.scr ns)
  | tup {a : Addr} {xs : List V} {ds : List D} : SqT K F a xs → RDs K F xs ds → RD K F (.ref a) (.tup ds)
  | dic {a : Addr} {o : Obj} {kvs : List (Key × V)} {ds : List (Key × D)} : F a = some (.frz o (.dK kvs)) → RDk K F kvs ds → RD K F (.ref a) (.dic ds)
  | obj {a C dx : Addr} {c : Str} {vs : List (Str × V)} {ds : List (Str × D)} : ClsAt K c C → F a = some (.ins C dx vs) → RDf K F vs ds → RD K F (.ref a) (.obj c ds)
inductive RDs (K : PySem.W.Frag) (F : Hp) : List V → List D → Prop
  | nil : RDs K F [] []
  | cons {v : V} {vs : List V} {d : D} {ds : List D} : RD K F v d → RDs K F vs ds → RDs K F (v :: vs) (d :: ds)
inductive RDk (K : PySem.W.Frag) (F : Hp) : List (Key × V) → List (Key × D) → Prop
  | nil : RDk K F [] []
  | cons {k : Key} {v : V} {vs : List (Key × V)} {d : D} {ds : List (Key × D)} : RD K F v d → RDk K F vs ds → RDk K F ((k, v) :: vs) ((k, d) :: ds)
inductive RDf (K : PySem.W.Frag) (F : Hp) : List (Str × V) → List (Str × D) → Prop
  | nil : RDf K F [] []
  | cons {k : Str} {v : V} {vs : List (Str × V)} {d : D} {ds : List (Str × D)} : RD K F v d → RDf K F vs ds → RDf K F ((k, v) :: vs) ((k, d) :: ds)
end

theorem same_rd {F F' : Hp} {a : Addr} {u : HO} (e : Same F F') (h : Rd F a u) : Rd F' a u := by
  rcases h with h | ⟨o, h⟩
  · exact .inl (e _ _ h)
  · exact .inr ⟨o, e _ _ h⟩
theorem same_sqT {K : PySem.W.Frag} {F F' : Hp} {a : Addr} {xs : List V} (e : Same F F') (h : SqT K F a xs) : SqT K F' a xs := by
  rcases h with h | h
  · exact .inl (same_rd e h)
  · exact .inr h

mutual
theorem RD.mono {K : PySem.W.Frag} {F F' : Hp} (e : Same F F') : ∀ (d : D) {v : V}, RD K F v d → RD K F' v d
  | .non, _, h => by cases h; exact .non
  | .bl b, _, h => by cases h; exact .bl b
  | .int i, _, h => by cases h; exact .int i
  | .str x, _, h => by cases h; exact .str x
  | .lst ds, _, h => by
    cases h with
    | lst h1 h2 => exact .lst (e _ _ h1) (RDs.mono e ds h2)
  | .tup ds, _, h => by
    cases h with
    | tup h1 h2 => exact .tup (same_sqT e h1) (RDs.mono e ds h2)
  | .dic ds, _, h => by
    cases h with
    | dic h1 h2 => exact .dic (e _ _ h1) (RDk.mono e ds h2)
  | .scr ns, _, h => by
    cases h with
    | scr _ h1 => exact .scr ns (e.seq h1)
  | .obj c ds, _, h => by
    cases h with
    | obj h1 h2 h3 => exact .obj h1 (e _ _ h2) (RDf.mono e ds h3)
theorem RDs.mono {K : PySem.W.Frag} {F F' : Hp} (e : Same F F') : ∀ (ds : List D) {vs : List V}, RDs K F vs ds → RDs K F' vs ds
  | [], _, h => by cases h; exact .nil
  | d :: ds, _, h => by
    cases h with
    | cons h1 h2 => exact .cons (RD.mono e d h1) (RDs.mono e ds h2)
theorem RDk.mono {K : PySem.W.Frag} {F F' : Hp} (e : Same F F') : ∀ (ds : List (Key × D)) {vs : List (Key × V)}, RDk K F vs ds → RDk K F' vs ds
  | [], _, h => by cases h; exact .nil
  | (k, d) :: ds, _, h => by
    cases h with
    | cons h1 h2 => exact .cons (RD.mono e d h1) (RDk.mono e ds h2)
theorem RDf.mono {K : PySem.W.Frag} {F F' : Hp} (e : Same F F') : ∀ (ds : List (Str × D)) {vs : List (Str × V)}, RDf K F vs ds → RDf K F' vs ds
  | [], _, h => by cases h; exact .nil
  | (k, d) :: ds, _, h => by
    cases h with
    | cons h1 h2 => exact .cons (RD.mono e d h1) (RDf.mono e ds h2)
end

section
variable {K : PySem.W.Frag} {F : Hp}
theorem RDs.length : ∀ {vs : List V} {ds : List D}, RDs K F vs ds → vs.length = ds.length
  | _, [], h => by cases h; rfl
  | _, d :: ds, h => by
    cases h with
    | cons h1 h2 => rw [List.length_cons, List.length_cons, RDs.length h2]
theorem RDs.get : ∀ {vs : List V} {ds : List D} {i : Nat} {d : D}, RDs K F vs ds → ds[i]? = some d → ∃ v, vs[i]? = some v ∧ RD K F v d
  | _, [], _, _, h, e => by simp at e
  | _, x :: ds, 0, d, h, e => by
    cases h with
    | cons h1 h2 =>
      have q : x = d := Option.some.inj e
      subst q
      exact ⟨_, rfl, h1⟩
  | _, x :: ds, i + 1, d, h, e => by
    cases h with
    | cons h1 h2 => exact RDs.get (i := i) h2 e
theorem RDs.app : ∀ {vs ws : List V} {ds es : List D}, RDs K F vs ds → RDs K F ws es → RDs K F (vs ++ ws) (ds ++ es)
  | _, _, [], _, h, h' => by cases h; exact h'
  | _, _, d :: ds, _, h, h' => by
    cases h with
    | cons h1 h2 => exact .cons h1 (RDs.app h2 h')
theorem RDs.tk : ∀ {vs : List V} {ds : List D} (n : Nat), RDs K F vs ds → RDs K F (vs.take n) (ds.take n)
  | _, [], n, h => by cases h; simp; exact .nil
  | _, d :: ds, 0, h => by simp; exact .nil
  | _, d :: ds, n + 1, h => by
    cases h with
    | cons h1 h2 => exact .cons h1 (RDs.tk n h2)
theorem RDs.dp : ∀ {vs : List V} {ds : List D} (n : Nat), RDs K F vs ds → RDs K F (vs.drop n) (ds.drop n)
  | _, [], n, h => by cases h; simp; exact .nil
  | _, d :: ds, 0, h => h
  | _, d :: ds, n + 1, h => by
    cases h with
    | cons h1 h2 => exact RDs.dp n h2
theorem RDs.upd {x : V} {e : D} (r : RD K F x e) : ∀ {vs : List V} {ds : List D} (n : Nat), RDs K F vs ds → RDs K F (vs.set n x) (ds.set n e)
  | _, [], n, h => by cases h; exact .nil
  | _, d :: ds, 0, h => by
    cases h with
    | cons h1 h2 => exact .cons r h2
  | _, d :: ds, n + 1, h => by
    cases h with
    | cons h1 h2 => exact .cons h1 (RDs.upd r n h2)
theorem RDs.ints : ∀ (ns : List Int), RDs K F (ns.map V.int) (ns.map D.int)
  | [] => .nil
  | n :: ns => .cons (.int n) (RDs.ints ns)
end

/-! ### environments -/
/-- an error: its class's name, its attributes -/
structure Exn where
  c : Str
  fs : List (Str × D)
/-- further things that a name may own: a set of tuples, a dict with texts as keys -/
inductive Tg where
  | st (ds : List D)
  | dk (kvs : List (Key × D))
/-- what a slot holds: shared data that nobody changes any more, or a list that this name owns -/
inductive OV where
  | sh (d : D)
  | ow (xs : List D)
  /-- a dict with tuples as keys that this name owns -/
  | od (kvs : List (D × D))
  /-- an instance that this name owns (self in __init__) -/
  | oi (c : Str) (fs : List (Str × D))
  | th (t : Tg)
  /-- the error of an except clause -/
  | exc (x : Exn)
def OV.own : OV → Bool
  | .ow _ => true
  | .od _ => true
  | .oi _ _ => true
  | .th _ => true
  | .exc _ => false
  | .sh _ => false
/-- frozen: as plain data (a dict of the third kind is never frozen) -/
def OV.d : OV → D
  | .sh d => d
  | .ow xs => .lst xs
  | .od _ => .non
  | .oi _ _ => .non
  | .th _ => .non
  | .exc _ => .non
abbrev En := List (Option OV)
inductive Rs (α : Type) where
  | ok (a : α) (r : En)
  | bad
  | ex (x : Exn) (r : En)
@[inline] def Rs.bind {α β : Type} (x : Rs α) (k : α → En → Rs β) : Rs β :=
  match x with
  | .ok a r => k a r
  | .bad => .bad
  | .ex x r => .ex x r
def Rs.map {α β : Type} (f : α → β) (x : Rs α) : Rs β :=
  match x with
  | .ok a r => .ok (f a) r
  | .bad => .bad
  | .ex x r => .ex x r
/-- an error in it is as bad as anything -/
def Rs.noE {α : Type} (x : Rs α) : Rs α :=
  match x with
  | .ok a r => .ok a r
  | _ => .bad
def ofO {α : Type} (o : Option α) (r : En) : Rs α :=
  match o with
  | some a => .ok a r
  | none => .bad

/-- at a def's entry: the frozen heap, the heap, the slots of the parameters by reference and their addresses; X: further objects that stay as they are -/
structure G where
  F0 : Hp
  H0 : Hp
  B : List (Nat × Addr)
  X : List (Addr × HO)
  w : World
  /-- the wish about errors, the error that is handled -/
  W : Option WX
  xc : Option (Addr × Value × Option Addr)

/-! data as a dict key -/
mutual
def D.nk : D → Option NestedKey
  | .non => some .none
  | .bl b => some (.num (if b = true then 1 else 0))
  | .int i => some (.num i)
  | .str x => some (.text x)
  | .tup ds => (nks ds).map NestedKey.tup
  | _ => none
def nks : List D → Option (List NestedKey)
  | [] => some []
  | d :: ds => d.nk.bind fun k => (nks ds).map fun ks => k :: ks
end
/-- the dict's object at a: its entries (key, the key's address, the value) -/
def OdO (w : World) (a : Addr) (xs : List (NestedKey × Addr × V)) : HO := .ext fun h => (a == sysModules) = false ∧ (xs.map (·.1)).Nodup ∧ ∃ us ep, Vals (xs.map (·.2.2)) us ∧ h.get? a = some { cls := .type "dict", data := .dict (List.zipWith (fun (x : NestedKey × Addr × V) (u : Value) => (⟨x.1.hash w, .ref x.2.1, u⟩ : DictEntry)) xs us).toArray ep }
inductive RDm (K : PySem.W.Frag) (F : Hp) : List (NestedKey × Addr × V) → List (D × D) → Prop
  | nil : RDm K F [] []
  | cons {k : NestedKey} {a : Addr} {v : V} {xs : List (NestedKey × Addr × V)} {kd d : D} {ds : List (D × D)} : RD K F (.ref a) kd → kd.nk = some k ∧ k.depth ≤ 8 → RD K F v d → RDm K F xs ds → RDm K F ((k, a, v) :: xs) ((kd, d) :: ds)
theorem RDm.mono {K : PySem.W.Frag} {F F' : Hp} (e : Same F F') : ∀ (ds : List (D × D)) {xs : List (NestedKey × Addr × V)}, RDm K F xs ds → RDm K F' xs ds
  | [], _, h => by cases h; exact .nil
  | (kd, d) :: ds, _, h => by
    cases h with
    | cons h1 h2 h3 h4 => exact .cons (RD.mono e kd h1) h2 (RD.mono e d h3) (RDm.mono e ds h4)
/-- the instance's object: class, dict, attributes -/
def OiO (x : Addr × Addr × List (Str × V)) : HO := .ins x.1 x.2.1 x.2.2
def RDi (K : PySem.W.Frag) (c : Str) (F : Hp) (x : Addr × Addr × List (Str × V)) (fs : List (Str × D)) : Prop := ClsAt K c x.1 ∧ RDf K F x.2.2 fs
theorem RDi.mono {K : PySem.W.Frag} {c : Str} {F F' : Hp} (e : Same F F') (fs : List (Str × D)) {x : Addr × Addr × List (Str × V)} (h : RDi K c F x fs) : RDi K c F' x fs := ⟨h.1, RDf.mono e fs h.2⟩
/-- the members of a set, each at its address -/
inductive RDn (K : PySem.W.Frag) (F : Hp) : List KA → List D → Prop
  | nil : RDn K F [] []
  | cons {a : Addr} {k : NestedKey} {d : D} {L : List KA} {ds : List D} : RD K F (.ref a) d → d.nk = some k ∧ k.depth ≤ 8 → RDn K F L ds → RDn K F ((a, k) :: L) (d :: ds)
theorem RDn.mono {K : PySem.W.Frag} {F F' : Hp} (e : Same F F') : ∀ (ds : List D) {L : List KA}, RDn K F L ds → RDn K F' L ds
  | [], _, h => by cases h; exact .nil
  | d :: ds, _, h => by
    cases h with
    | cons h1 h2 h3 => exact .cons (RD.mono e d h1) h2 (RDn.mono e ds h3)
/-- the set's object: what was put in, in its order -/
def StO (w : World) (a : Addr) (ks : List KA) : HO := .ext fun h => ∃ L, SetN0 w h a L ∧ GotN ks ks.length L
def RT (K : PySem.W.Frag) (w : World) (F : Hp) (a : Addr) (o : HO) : Tg → Prop
  | .st ds => ∃ L, o = StO w a L ∧ RDn K F L ds
  | .dk kvs => ∃ vs, o = .dK vs ∧ RDk K F vs kvs
theorem RT.mono {K : PySem.W.Frag} {w : World} {a : Addr} {o : HO} {F F' : Hp} (e : Same F F') : ∀ (t : Tg), RT K w F a o t → RT K w F' a o t
  | .st ds, ⟨L, h1, h2⟩ => ⟨L, h1, RDn.mono e ds h2⟩
  | .dk kvs, ⟨vs, h1, h2⟩ => ⟨vs, h1, RDk.mono e kvs h2⟩
/-- an error of that class and with that dict is read as x -/
def RX (K : PySem.W.Frag) (F : Hp) (cls : Value) (d : Option Addr) (x : Exn) : Prop := ∃ C, cls = .ref C ∧ ClsAt K x.c C ∧ ((d = none ∧ x.fs = []) ∨ ∃ dd vs, d = some dd ∧ F dd = some (.xd vs) ∧ RDf K F vs x.fs)
theorem RX.mono {K : PySem.W.Frag} {F F' : Hp} {cls : Value} {d : Option Addr} {x : Exn} (e : Same F F') (h : RX K F cls d x) : RX K F' cls d x := by
  obtain ⟨C, h1, h2, h3 | ⟨dd, vs, h3, h4, h5⟩⟩ := h
  · exact ⟨C, h1, h2, .inl h3⟩
  · exact ⟨C, h1, h2, .inr ⟨dd, vs, h3, e _ _ h4, RDf.mono e _ h5⟩⟩
def RE (K : PySem.W.Frag) (xc : Option (Addr × Value × Option Addr)) (F : Hp) (v : V) (x : Exn) : Prop := ∃ a cls d, v = .ref a ∧ xc = some (a, cls, d) ∧ RX K F cls d x
theorem RE.mono {K : PySem.W.Frag} {xc : Option (Addr × Value × Option Addr)} {F F' : Hp} {v : V} {x : Exn} (e : Same F F') (h : RE K xc F v x) : RE K xc F' v x := by
  obtain ⟨a, cls, d, h1, h2, h3⟩ := h
  exact ⟨a, cls, d, h1, h2, h3.mono e⟩
def RO (K : PySem.W.Frag) (w : World) (xc : Option (Addr × Value × Option Addr)) (F H : Hp) (v : V) : OV → Prop
  | .sh d => RD K F v d
  | .ow xs => ∃ a vs, v = .ref a ∧ F a = none ∧ H a = some (.lst vs) ∧ RDs K F vs xs
  | .od kvs => ∃ a xs, v = .ref a ∧ F a = none ∧ H a = some (OdO w a xs) ∧ RDm K F xs kvs
  | .oi c fs => ∃ a xs, v = .ref a ∧ F a = none ∧ H a = some (OiO xs) ∧ RDi K c F xs fs
  | .th t => ∃ a o, v = .ref a ∧ F a = none ∧ H a = some o ∧ RT K w F a o t
  | .exc x => RE K xc F v x

structure Rel (K : PySem.W.Frag) (g : G) (F H : Hp) (s : St) (r : En) : Prop where
  sub : Same F H
  f0 : Same g.F0 F
  fnew : ∀ b o, F b = some o → g.F0 b = none → g.H0 b = none
  keep : ∀ b o, g.H0 b = some o → (∀ p ∈ g.B, p.2 ≠ b) → H b = some o
  slot : ∀ (i : Nat) (o : OV), r[i]? = some (some o) → ∃ v, s[i]? = some (some v) ∧ RO K g.w g.xc F H v o
  own : ∀ (i : Nat) (o : OV) (a : Addr), r[i]? = some (some o) → o.own = true → s[i]? = some (some (.ref a)) → g.H0 a = none ∨ (i, a) ∈ g.B
  dist : ∀ (i j : Nat) (o u : OV) (a : Addr), i ≠ j → r[i]? = some (some o) → o.own = true → r[j]? = some (some u) → u.own = true → s[i]? = some (some (.ref a)) → s[j]? = some (some (.ref a)) → False
  pin : ∀ p ∈ g.B, s[p.1]? = some (some (.ref p.2)) ∧ ∃ o, r[p.1]? = some (some o) ∧ o.own = true
  len : r.length = s.length
  ext : ∀ p ∈ g.X, H p.1 = some p.2 ∧ F p.1 = none ∧ ∀ (j : Nat) (o : OV), r[j]? = some (some o) → o.own = true → s[j]? ≠ some (some (.ref p.1))

/-- what is wanted of an error that is let out -/
def exW (K : PySem.W.Frag) (g : G) (x : Exn) (r : En) : Prop := match g.W with
  | none => False
  | some W => ∀ F' H' s' cls d, Rel K g F' H' s' r → RX K F' cls d x → W cls d s' H'
/-- what is wanted of a result -/
def post {α : Type} (K : PySem.W.Frag) (g : G) (P : α → En → Prop) : Rs α → Prop
  | .ok a r => P a r
  | .bad => False
  | .ex x r => exW K g x r
section
variable {K : PySem.W.Frag} {g : G}
theorem post_bind {α β : Type} {P : β → En → Prop} {x : Rs α} {k : α → En → Rs β} (h : post K g P (x.bind k)) : post K g (fun a r => post K g P (k a r)) x := by
  cases x with
  | ok a r => exact h
  | bad => exact h
  | ex x r => exact h
theorem post_map {α β : Type} {P : β → En → Prop} {x : Rs α} {f : α → β} (h : post K g P (x.map f)) : post K g (fun a r => P (f a) r) x := by
  cases x with
  | ok a r => exact h
  | bad => exact h
  | ex x r => exact h
theorem post_mono {α : Type} {P P' : α → En → Prop} {x : Rs α} (h : post K g P x) (i : ∀ a r, P a r → P' a r) : post K g P' x := by
  cases x with
  | ok a r => exact i a r h
  | bad => exact h
  | ex x r => exact h
theorem post_ofO {α : Type} {P : α → En → Prop} {o : Option α} {r : En} (h : post K g P (ofO o r)) : ∃ a, o = some a ∧ P a r := by
  cases o with
  | none => exact h.elim
  | some a => exact ⟨a, rfl, h⟩
/-- no error: then the wish does not matter -/
theorem post_noE {α : Type} {P : α → En → Prop} {x : Rs α} {g' : G} (h : post K g P x.noE) : post K g' P x := by
  cases x with
  | ok a r => exact h
  | bad => exact h
  | ex x r => exact h.elim
end

section
variable {K : PySem.W.Frag} {g : G} {F F' H H' : Hp} {s : St} {r : En}
theorem Rel.live (R : Rel K g F H s r) {b : Addr} (h : H b = none) : g.H0 b = none := by
  cases e : g.H0 b with
  | none => rfl
  | some o =>
    by_cases hb : ∀ p ∈ g.B, p.2 ≠ b
    · rw [R.keep b o e hb] at h; cases h
    · have : ∃ p ∈ g.B, p.2 = b := Classical.byContradiction fun hn => hb fun p hp q => hn ⟨p, hp, q⟩
      obtain ⟨p, hp, q⟩ := this
      obtain ⟨h1, o', h2, h3⟩ := R.pin p hp
      obtain ⟨v, h4, h5⟩ := R.slot _ _ h2
      rw [h1] at h4
      cases h4
      cases o' with
      | sh d => cases h3
      | ow xs =>
        obtain ⟨a, vs, e1, _, e2, _⟩ := h5
        cases e1
        rw [q, h] at e2; cases e2
      | od xs =>
        obtain ⟨a, vs, e1, _, e2, _⟩ := h5
        cases e1
        rw [q, h] at e2; cases e2
      | oi c xs =>
        obtain ⟨a, vs, e1, _, e2, _⟩ := h5
        cases e1
        rw [q, h] at e2; cases e2
      | th xs =>
        obtain ⟨a, vs, e1, _, e2, _⟩ := h5
        cases e1
        rw [q, h] at e2; cases e2
      | exc c => cases h3
theorem Rel.ff (R : Rel K g F H s r) {b : Addr} (h : H b = none) : F b = none := R.sub.free h
theorem RO.mono {w : World} {xc : Option (Addr × Value × Option Addr)} {v : V} {o : OV} (e : Same F F') (eh : ∀ a vs, v = .ref a → F a = none → H a = some vs → F' a = none ∧ H' a = some vs) (h : RO K w xc F H v o) : RO K w xc F' H' v o := by
  cases o with
  | sh d => exact RD.mono e d h
  | ow xs =>
    obtain ⟨a, vs, e1, e2, e3, e4⟩ := h
    obtain ⟨e5, e6⟩ := eh a _ e1 e2 e3
    exact ⟨a, vs, e1, e5, e6, RDs.mono e xs e4⟩
  | od xs =>
    obtain ⟨a, vs, e1, e2, e3, e4⟩ := h
    obtain ⟨e5, e6⟩ := eh a _ e1 e2 e3
    exact ⟨a, vs, e1, e5, e6, RDm.mono e xs e4⟩
  | oi c xs =>
    obtain ⟨a, vs, e1, e2, e3, e4⟩ := h
    obtain ⟨e5, e6⟩ := eh a _ e1 e2 e3
    exact ⟨a, vs, e1, e5, e6, RDi.mono e xs e4⟩
  | th xs =>
    obtain ⟨a, vs, e1, e2, e3, e4⟩ := h
    obtain ⟨e5, e6⟩ := eh a _ e1 e2 e3
    exact ⟨a, vs, e1, e5, e6, RT.mono e xs e4⟩
  | exc c => exact RE.mono e h
theorem same_upd {H : Hp} {p : Addr} {o : HO} (h : H p = none) : Same H (L2.upd H p o) := fun b x e => by
  rw [upd_ne (ne_of_none e h)]
  exact e
/-- a new object, frozen at once -/
theorem Rel.alloc (R : Rel K g F H s r) {p : Addr} {o : HO} (h : H p = none) : Rel K g (L2.upd F p o) (L2.upd H p o) s r := by
  have hF := R.ff h
  refine ⟨fun b u e => ?_, R.f0.trans (same_upd hF), fun b u e e0 => ?_, fun b u e hb => ?_, fun i u e => ?_, R.own, R.dist, R.pin, R.len, fun q hq => ?_⟩
  · by_cases hb : b = p
    · subst hb; rw [upd_same] at e ⊢; exact e
    · rw [upd_ne hb] at e ⊢; exact R.sub b u e
  · by_cases hb : b = p
    · subst hb; exact R.live h
    · rw [upd_ne hb] at e; exact R.fnew b u e e0
  · have q := R.keep b u e hb
    rw [upd_ne (ne_of_none q h)]; exact q
  · obtain ⟨v, h1, h2⟩ := R.slot i u e
    refine ⟨v, h1, h2.mono (same_upd hF) fun a vs e1 e2 e3 => ?_⟩
    have hn := ne_of_none e3 h
    rw [upd_ne hn, upd_ne hn]
    exact ⟨e2, e3⟩
  · obtain ⟨x1, x2, x3⟩ := R.ext q hq
    have hn := ne_of_none x1 h
    rw [upd_ne hn, upd_ne hn]
    exact ⟨x1, x2, x3⟩
/-- a new object, not frozen -/
theorem Rel.laid (R : Rel K g F H s r) {p : Addr} {o : HO} (h : H p = none) : Rel K g F (L2.upd H p o) s r := by
  refine ⟨R.sub.trans (same_upd h), R.f0, R.fnew, fun b u e hb => same_upd h b u (R.keep b u e hb), fun i u e => ?_, R.own, R.dist, R.pin, R.len, fun q hq => ⟨same_upd h _ _ (R.ext q hq).1, (R.ext q hq).2⟩⟩
  obtain ⟨v, h1, h2⟩ := R.slot i u e
  exact ⟨v, h1, h2.mono (Same.refl F) fun a vs e1 e2 e3 => ⟨e2, same_upd h _ _ e3⟩⟩
end

/-- a value that an expression gives: an owned list is new and no slot's -/
def RV (K : PySem.W.Frag) (g : G) (F H : Hp) (s : St) (r : En) (v : V) : OV → Prop
  | .sh d => RD K F v d
  | .ow xs => ∃ a vs, v = .ref a ∧ F a = none ∧ H a = some (.lst vs) ∧ RDs K F vs xs ∧ g.H0 a = none ∧ (∀ (j : Nat) (o : OV), r[j]? = some (some o) → o.own = true → s[j]? ≠ some (some (.ref a))) ∧ ∀ p ∈ g.X, p.1 ≠ a
  | .od _ => False
  | .oi _ _ => False
  | .th _ => False
  | .exc _ => False

/-! ### readings by data -/
def PO (K : PySem.W.Frag) (g : G) (F : Hp) (s : St) (Q : VK) (o : OV) (r' : En) : Prop := ∀ F' H' v, Same F F' → Rel K g F' H' s r' → RV K g F' H' s r' v o → Q v H'
def PD (K : PySem.W.Frag) (g : G) (F : Hp) (s : St) (Q : VK) (d : D) (r' : En) : Prop := ∀ F' H' v, Same F F' → Rel K g F' H' s r' → RD K F' v d → Q v H'
def tO (K : PySem.W.Frag) (g : G) (f : En → Rs OV) : TE := fun s H Q => ∃ F r, Rel K g F H s r ∧ post K g (PO K g F s Q) (f r)
def tD (K : PySem.W.Frag) (g : G) (f : En → Rs D) : TE := fun s H Q => ∃ F r, Rel K g F H s r ∧ post K g (PD K g F s Q) (f r)
/-- the expression e computes f, by data -/
def DE (X : Cx) (g : G) (e : Expr) (f : En → Rs D) : Prop := PE X e (tD X.K g f)
def DO (X : Cx) (g : G) (e : Expr) (f : En → Rs OV) : Prop := PE X e (tO X.K g f)

theorem PE.imp {X : Cx} {e : Expr} {t t' : TE} (h : PE X e t) (i : ∀ s H Q, t' s H Q → t s H Q) : PE X e t' :=
  ⟨fun pins s σ H Q I q => h.run pins s σ H Q I (i σ H Q q)⟩
theorem PT.imp {X : Cx} {e : Expr} {t t' : TT} (h : PT X e t) (i : ∀ s H Q, t' s H Q → t s H Q) : PT X e t' :=
  ⟨fun pins s σ H Q I q => h.run pins s σ H Q I (i σ H Q q)⟩
theorem PS.imp {X : Cx} {e : Stmt} {t t' : TS} (h : PS X e t) (i : ∀ D s H, t' D s H → t D s H) : PS X e t' :=
  ⟨fun pins s σ H Q I q => h.run pins s σ H Q I (i Q σ H q)⟩
theorem PSs.imp {X : Cx} {e : List Stmt} {t t' : TS} (h : PSs X e t) (i : ∀ D s H, t' D s H → t D s H) : PSs X e t' :=
  ⟨fun pins s σ H Q I q => h.run pins s σ H Q I (i Q σ H q)⟩
theorem PI.imp {X : Cx} {tg e : Expr} {t t' : TI} (h : PI X tg e t) (i : ∀ s H R, t' s H R → t s H R) : PI X tg e t' :=
  ⟨fun pins s σ H Q I q => h.run pins s σ H Q I (i σ H Q q)⟩
theorem PA.imp {X : Cx} {e : List Expr} {t t' : TA} (h : PA X e t) (i : ∀ s H Q, t' s H Q → t s H Q) : PA X e t' :=
  ⟨fun pos pins s σ H Q I q => h.run pos pins s σ H Q I (i σ H Q q)⟩

section
variable {X : Cx} {g : G} {e a b : Expr} {pos : Pos}
/-- freeze what an expression gives -/
theorem RV.frz {K : PySem.W.Frag} {F H : Hp} {s : St} {r : En} {v : V} {o : OV} (R : Rel K g F H s r) (hv : RV K g F H s r v o) : ∃ F', Same F F' ∧ Rel K g F' H s r ∧ RD K F' v o.d := by
  cases o with
  | sh d => exact ⟨F, Same.refl _, R, hv⟩
  | ow xs =>
    obtain ⟨a, vs, rfl, e2, e3, e4, e5, e6, e7⟩ := hv
    have sF : Same F (L2.upd F a (.lst vs)) := same_upd e2
    refine ⟨L2.upd F a (.lst vs), sF, ⟨fun b u e => ?_, R.f0.trans sF, fun b u e e0 => ?_, R.keep, fun i u e => ?_, R.own, R.dist, R.pin, R.len, fun q hq => ⟨(R.ext q hq).1, by rw [upd_ne (e7 q hq)]; exact (R.ext q hq).2.1, (R.ext q hq).2.2⟩⟩, .lst upd_same (RDs.mono sF xs e4)⟩
    · by_cases hb : b = a
      · subst hb; rw [L2.upd_same] at e; cases e; exact e3
      · rw [upd_ne hb] at e; exact R.sub b u e
    · by_cases hb : b = a
      · subst hb; exact e5
      · rw [upd_ne hb] at e; exact R.fnew b u e e0
    · obtain ⟨v, h1, h2⟩ := R.slot i u e
      refine ⟨v, h1, ?_⟩
      cases u with
      | sh d => exact RD.mono sF d h2
      | ow ys =>
        obtain ⟨b, ws, rfl, f2, f3, f4⟩ := h2
        have hb : b ≠ a := fun z => e6 i _ e rfl (by rw [h1, z])
        exact ⟨b, ws, rfl, by rw [upd_ne hb]; exact f2, f3, RDs.mono sF ys f4⟩
      | od ys =>
        obtain ⟨b, ws, rfl, f2, f3, f4⟩ := h2
        have hb : b ≠ a := fun z => e6 i _ e rfl (by rw [h1, z])
        exact ⟨b, ws, rfl, by rw [upd_ne hb]; exact f2, f3, RDm.mono sF ys f4⟩
      | oi c ys =>
        obtain ⟨b, ws, rfl, f2, f3, f4⟩ := h2
        have hb : b ≠ a := fun z => e6 i _ e rfl (by rw [h1, z])
        exact ⟨b, ws, rfl, by rw [upd_ne hb]; exact f2, f3, RDi.mono sF ys f4⟩
      | th ys =>
        obtain ⟨b, ws, rfl, f2, f3, f4⟩ := h2
        have hb : b ≠ a := fun z => e6 i _ e rfl (by rw [h1, z])
        exact ⟨b, ws, rfl, by rw [upd_ne hb]; exact f2, f3, RT.mono sF ys f4⟩
      | exc c => exact RE.mono sF h2
  | od xs => exact hv.elim
  | oi c xs => exact hv.elim
  | th xs => exact hv.elim
  | exc c => exact hv.elim
theorem DO.frz {f : En → Rs OV} (h : DO X g e f) : DE X g e (fun r => (f r).map OV.d) :=
  PE.imp h fun s H Q ⟨F, r, R, q⟩ => ⟨F, r, R, post_mono (post_map q) fun o r' q F' H' v sm R' hv => by
    obtain ⟨F2, s2, R2, h2⟩ := RV.frz R' hv
    exact q F2 H' v (sm.trans s2) R2 h2⟩
theorem DE.sh {f : En → Rs D} (h : DE X g e f) : DO X g e (fun r => (f r).map OV.sh) :=
  PE.imp h fun s H Q ⟨F, r, R, q⟩ => ⟨F, r, R, post_mono (post_map q) fun o r' q F' H' v sm R' hv => q F' H' v sm R' hv⟩

/-! ### constants and names -/
def cD (d : D) : En → Rs D := fun r => .ok d r
theorem de_int {i : Int} {j : Nat} : DE X g (.Constant (.int i) j pos) (cD (.int i)) :=
  PE.imp pe_int fun s H Q ⟨F, r, R, q⟩ => q F H _ (Same.refl _) R (.int i)
theorem de_bl {i : Bool} {j : Nat} : DE X g (.Constant (.bool i) j pos) (cD (.bl i)) :=
  PE.imp pe_bl fun s H Q ⟨F, r, R, q⟩ => q F H _ (Same.refl _) R (.bl i)
theorem de_str {i : Str} {j : Nat} : DE X g (.Constant (.str i) j pos) (cD (.str i)) :=
  PE.imp pe_str fun s H Q ⟨F, r, R, q⟩ => q F H _ (Same.refl _) R (.str i)
theorem de_non {j : Nat} : DE X g (.Constant .none j pos) (cD .non) :=
  PE.imp pe_non fun s H Q ⟨F, r, R, q⟩ => q F H _ (Same.refl _) R .non
/-- a name's value: what is owned is frozen (not a parameter by reference) -/
def vD (i : Nat) : En → Rs D := fun r =>
  match r[i]? with
  | some (some (.sh d)) => .ok d r
  | some (some (.ow xs)) => .ok (.lst xs) (r.set i (some (.sh (.lst xs))))
  | _ => .bad
theorem de_var (i : Nat) {x : Str} (hb : ∀ p ∈ g.B, p.1 ≠ i) (h : PE X (.Name x pos) (tVar i)) : DE X g (.Name x pos) (vD i) := by
  refine PE.imp h fun s H Q ⟨F, r, R, q⟩ => ?_
  unfold vD at q
  revert q
  cases e : r[i]? with
  | none => exact fun q => q.elim
  | some w =>
    cases w with
    | none => exact fun q => q.elim
    | some o =>
      obtain ⟨v, h1, h2⟩ := R.slot i o e
      cases o with
      | sh d => exact fun q => ⟨v, h1, q F H v (Same.refl _) R h2⟩
      | ow xs =>
        intro q
        obtain ⟨a, vs, rfl, e2, e3, e4⟩ := h2
        have sF : Same F (L2.upd F a (.lst vs)) := same_upd e2
        have hi : i < r.length := by
          have := (List.getElem?_eq_some_iff.mp e).1
          exact this
        have ne : ∀ j u, (r.set i (some (.sh (.lst xs))))[j]? = some (some u) → u.own = true → j ≠ i ∧ r[j]? = some (some u) := fun j u z zo => by
          by_cases hj : i = j
          · subst hj
            rw [List.getElem?_set_self hi] at z
            cases z
            cases zo
          · rw [List.getElem?_set_ne hj] at z
            exact ⟨fun z => hj z.symm, z⟩
        have h0 : g.H0 a = none := by
          rcases R.own i _ a e rfl h1 with z | z
          · exact z
          · exact absurd rfl (hb _ z)
        refine ⟨_, h1, q (L2.upd F a (.lst vs)) H (.ref a) sF ⟨fun b u e => ?_, R.f0.trans sF, fun b u e e0 => ?_, R.keep, fun j u z => ?_, fun j u b z zo => ?_, fun j k u w b hjk z zo y yo => ?_, fun p hp => ?_, ?_, fun p hp => ?_⟩ (.lst upd_same (RDs.mono sF xs e4))⟩
        · by_cases hb : b = a
          · subst hb; rw [upd_same] at e; cases e; exact e3
          · rw [upd_ne hb] at e; exact R.sub b u e
        · by_cases hb : b = a
          · subst hb; exact h0
          · rw [upd_ne hb] at e; exact R.fnew b u e e0
        · by_cases hj : i = j
          · subst hj
            rw [List.getElem?_set_self hi] at z
            cases z
            exact ⟨_, h1, .lst upd_same (RDs.mono sF xs e4)⟩
          · rw [List.getElem?_set_ne hj] at z
            obtain ⟨w, g1, g2⟩ := R.slot j u z
            refine ⟨w, g1, ?_⟩
            cases u with
            | sh d => exact RD.mono sF d g2
            | ow ys =>
              obtain ⟨b, ws, rfl, f2, f3, f4⟩ := g2
              have hb : b ≠ a := fun zz => R.dist i j _ _ a hj e rfl z rfl h1 (by rw [g1, zz])
              exact ⟨b, ws, rfl, by rw [upd_ne hb]; exact f2, f3, RDs.mono sF ys f4⟩
            | od ys =>
              obtain ⟨b, ws, rfl, f2, f3, f4⟩ := g2
              have hb : b ≠ a := fun zz => R.dist i j _ _ a hj e rfl z rfl h1 (by rw [g1, zz])
              exact ⟨b, ws, rfl, by rw [upd_ne hb]; exact f2, f3, RDm.mono sF ys f4⟩
            | oi c ys =>
              obtain ⟨b, ws, rfl, f2, f3, f4⟩ := g2
              have hb : b ≠ a := fun zz => R.dist i j _ _ a hj e rfl z rfl h1 (by rw [g1, zz])
              exact ⟨b, ws, rfl, by rw [upd_ne hb]; exact f2, f3, RDi.mono sF ys f4⟩
            | th ys =>
              obtain ⟨b, ws, rfl, f2, f3, f4⟩ := g2
              have hb : b ≠ a := fun zz => R.dist i j _ _ a hj e rfl z rfl h1 (by rw [g1, zz])
              exact ⟨b, ws, rfl, by rw [upd_ne hb]; exact f2, f3, RT.mono sF ys f4⟩
            | exc c => exact RE.mono sF g2
        · obtain ⟨_, z'⟩ := ne j u z zo
          exact R.own j u b z' zo
        · obtain ⟨_, z'⟩ := ne j u z zo
          obtain ⟨_, y'⟩ := ne k w y yo
          exact R.dist j k u w b hjk z' zo y' yo
        · obtain ⟨p1, o, p2, p3⟩ := R.pin p hp
          refine ⟨p1, o, ?_, p3⟩
          rw [List.getElem?_set_ne fun z => hb p hp z.symm]
          exact p2
        · rw [List.length_set]; exact R.len
        · obtain ⟨x1, x2, x3⟩ := R.ext p hp
          refine ⟨x1, ?_, fun j u z zo => x3 j u (ne j u z zo).2 zo⟩
          have hn : p.1 ≠ a := fun zz => x3 i _ e rfl (by rw [h1, zz])
          rw [upd_ne hn]; exact x2
      | od xs => exact fun q => q.elim
      | oi c xs => exact fun q => q.elim
      | th xs => exact fun q => q.elim
      | exc c => exact fun q => q.elim
/-- a further object that stays -/
def G.more (g : G) (a : Addr) (o : HO) : G := { g with X := (a, o) :: g.X }
theorem Rel.more {K : PySem.W.Frag} {F H : Hp} {s : St} {r : En} {a : Addr} {o : HO} (R : Rel K g F H s r) (h1 : H a = some o) (h2 : F a = none) (h3 : ∀ (j : Nat) (o : OV), r[j]? = some (some o) → o.own = true → s[j]? ≠ some (some (.ref a))) : Rel K (g.more a o) F H s r :=
  ⟨R.sub, R.f0, R.fnew, R.keep, R.slot, R.own, R.dist, R.pin, R.len, fun p hp => by
    rcases List.mem_cons.mp hp with e | hp
    · subst e; exact ⟨h1, h2, h3⟩
    · exact R.ext p hp⟩
theorem Rel.less {K : PySem.W.Frag} {F H : Hp} {s : St} {r : En} {a : Addr} {o : HO} (R : Rel K (g.more a o) F H s r) : Rel K g F H s r ∧ H a = some o ∧ F a = none ∧ ∀ (j : Nat) (o : OV), r[j]? = some (some o) → o.own = true → s[j]? ≠ some (some (.ref a)) :=
  ⟨⟨R.sub, R.f0, R.fnew, R.keep, R.slot, R.own, R.dist, R.pin, R.len, fun p hp => R.ext p (List.mem_cons_of_mem _ hp)⟩, R.ext (a, o) (List.mem_cons_self ..)⟩
end
end DL

/-! Data layer, part 2: operands, operators, tests, displays, statements. -/
namespace DL
open PySem L2

/-! ### operands: an expression, or a name that is only looked at -/
inductive Opd where
  | ex (f : En → Rs D)
  | va (i : Nat)
/-- is the slot filled -/
def fill (r : En) (i : Nat) : Rs Unit :=
  match r[i]? with
  | some (some _) => .ok () r
  | _ => .bad
theorem post_fill {K : PySem.W.Frag} {g : G} {P : Unit → En → Prop} {r : En} {i : Nat} (h : post K g P (fill r i)) : (∃ o, r[i]? = some (some o)) ∧ P () r := by
  unfold fill at h
  split at h
  · next o e => exact ⟨⟨o, e⟩, h⟩
  · exact h.elim
def Opd.run : Opd → En → Rs (Sum D Nat)
  | .ex f, r => (f r).map Sum.inl
  | .va i, r => (fill r i).bind fun _ r => .ok (.inr i) r
def lookV (r : En) (i : Nat) : Option OV :=
  match r[i]? with
  | some (some (.sh d)) => some (.sh d)
  | some (some (.ow xs)) => some (.ow xs)
  | _ => none
theorem lookV_some {r : En} {i : Nat} {o : OV} (h : lookV r i = some o) : r[i]? = some (some o) := by
  unfold lookV at h
  split at h
  · next x e => rw [e, h]
  · next x e => rw [e, h]
  · cases h
theorem lookV_noi {r : En} {i : Nat} {c : Str} {kvs : List (Str × D)} (h : lookV r i = some (.oi c kvs)) : False := by
  unfold lookV at h
  split at h
  · cases h
  · cases h
  · cases h
theorem lookV_noth {r : En} {i : Nat} {t : Tg} (h : lookV r i = some (.th t)) : False := by
  unfold lookV at h
  split at h
  · cases h
  · cases h
  · cases h
theorem lookV_nox {r : En} {i : Nat} {x : Exn} (h : lookV r i = some (.exc x)) : False := by
  unfold lookV at h
  split at h
  · cases h
  · cases h
  · cases h
theorem lookV_nod {r : En} {i : Nat} {kvs : List (D × D)} (h : lookV r i = some (.od kvs)) : False := by
  unfold lookV at h
  split at h
  · cases h
  · cases h
  · cases h
def look (r : En) : Sum D Nat → Option D
  | .inl d => some d
  | .inr i => (lookV r i).map OV.d
/-- read as data: frozen, or a list whose items are frozen -/
def RB (K : PySem.W.Frag) (F H : Hp) (v : V) (d : D) : Prop :=
  RD K F v d ∨ ∃ a vs xs, v = .ref a ∧ d = .lst xs ∧ H a = some (.lst vs) ∧ RDs K F vs xs
def OpdOk (K : PySem.W.Frag) (F : Hp) (s : St) (v : V) : Sum D Nat → Prop
  | .inl d => RD K F v d
  | .inr i => s[i]? = some (some v)
def PB (K : PySem.W.Frag) (g : G) (F : Hp) (s : St) (Q : VK) (z : Sum D Nat) (r' : En) : Prop := ∀ F' H' v, Same F F' → Rel K g F' H' s r' → OpdOk K F' s v z → Q v H'
def tB (K : PySem.W.Frag) (g : G) (p : Opd) : TE := fun s H Q => ∃ F r, Rel K g F H s r ∧ post K g (PB K g F s Q) (p.run r)
def DB (X : Cx) (g : G) (e : Expr) (p : Opd) : Prop := PE X e (tB X.K g p)

section
variable {K : PySem.W.Frag} {g : G} {F F' H H' : Hp} {s : St} {r : En} {v : V} {d : D}
theorem RB.rd (sub : Same F H) (h : RB K F H v d) : RD K H v d := by
  rcases h with h | ⟨a, vs, xs, rfl, rfl, h1, h2⟩
  · exact RD.mono sub d h
  · exact .lst h1 (RDs.mono sub xs h2)
theorem RB.lst {ds : List D} (sub : Same F H) (h : RB K F H v (.lst ds)) : ∃ a vs, v = .ref a ∧ H a = some (.lst vs) ∧ RDs K F vs ds := by
  rcases h with h | ⟨a, vs, xs, rfl, e, h1, h2⟩
  · cases h with
    | lst h1 h2 => exact ⟨_, _, rfl, sub _ _ h1, h2⟩
  · cases e
    exact ⟨a, vs, rfl, h1, h2⟩
theorem RB.flat (h : RB K F H v d) (hd : ∀ xs, d ≠ .lst xs) : RD K F v d := by
  rcases h with h | ⟨a, vs, xs, rfl, e, h1, h2⟩
  · exact h
  · exact absurd e (hd xs)
theorem look_ok {z : Sum D Nat} (R : Rel K g F H s r) (h : OpdOk K F s v z) (e : look r z = some d) : RB K F H v d := by
  cases z with
  | inl x => cases e; exact .inl h
  | inr i =>
    obtain ⟨o, q, rfl⟩ := Option.map_eq_some_iff.mp e
    obtain ⟨w, h1, h2⟩ := R.slot i o (lookV_some q)
    have hv : s[i]? = some (some v) := h
    rw [hv] at h1
    cases h1
    cases o with
    | sh d => exact .inl h2
    | ow xs =>
      obtain ⟨a, vs, e1, _, e3, e4⟩ := h2
      exact .inr ⟨a, vs, xs, e1, rfl, e3, e4⟩
    | od xs => exact (lookV_nod q).elim
    | oi c xs => exact (lookV_noi q).elim
    | th xs => exact (lookV_noth q).elim
    | exc c => exact (lookV_nox q).elim
theorem OpdOk.mono {z : Sum D Nat} (e : Same F F') (h : OpdOk K F s v z) : OpdOk K F' s v z := by
  cases z with
  | inl x => exact RD.mono e x h
  | inr i => exact h
end

section
variable {X : Cx} {g : G} {e a b c : Expr} {pos : Pos} {p q : Opd}
theorem DE.opd {f : En → Rs D} (h : DE X g e f) : DB X g e (.ex f) := PE.imp h fun s H Q ⟨F, r, R, q⟩ => ⟨F, r, R, post_map (f := Sum.inl) q⟩
theorem db_var (i : Nat) {x : Str} (h : PE X (.Name x pos) (tVar i)) : DB X g (.Name x pos) (.va i) :=
  PE.imp h fun s H Q ⟨F, r, R, q⟩ => by
    obtain ⟨⟨o, e⟩, q⟩ := post_fill (post_bind q)
    obtain ⟨v, h1, h2⟩ := R.slot i o e
    exact ⟨v, h1, q F H v (Same.refl _) R h1⟩

/-! ### operators -/
def op1 (p : Opd) (sem : D → Option D) : En → Rs D := fun r => (p.run r).bind fun x r1 => ofO ((look r1 x).bind sem) r1
def op2 (p q : Opd) (sem : D → D → Option D) : En → Rs D := fun r => (p.run r).bind fun x r1 => (q.run r1).bind fun y r2 => ofO ((look r2 x).bind fun dx => (look r2 y).bind fun dy => sem dx dy) r2
/-- an operation on values that computes sem -/
def rD1 (K : PySem.W.Frag) (g : G) (sem : D → Option D) : V → Hp → VK → Prop := fun x H Q => ∃ F s r dx d, Rel K g F H s r ∧ RB K F H x dx ∧ sem dx = some d ∧ PD K g F s Q d r
def rD2 (K : PySem.W.Frag) (g : G) (sem : D → D → Option D) : R2 := fun x y H Q => ∃ F s r dx dy d, Rel K g F H s r ∧ RB K F H x dx ∧ RB K F H y dy ∧ sem dx dy = some d ∧ PD K g F s Q d r

theorem tD_op1 {K : PySem.W.Frag} {sem : D → Option D} {s : St} {H : Hp} {Q : VK} (h : tD K g (op1 p sem) s H Q) : tB K g p s H fun x H1 => rD1 K g sem x H1 Q := by
  obtain ⟨F, r, R, h⟩ := h
  refine ⟨F, r, R, post_mono (post_bind h) fun z r1 q F1 H1 v sm R1 hv => ?_⟩
  obtain ⟨d, e, q⟩ := post_ofO q
  obtain ⟨dx, e1, e2⟩ := Option.bind_eq_some_iff.mp e
  exact ⟨F1, s, r1, dx, d, R1, look_ok R1 hv e1, e2, fun F2 H2 v2 s2 R2 h2 => q F2 H2 v2 (sm.trans s2) R2 h2⟩
theorem tD_op2 {K : PySem.W.Frag} {sem : D → D → Option D} {s : St} {H : Hp} {Q : VK} (h : tD K g (op2 p q sem) s H Q) :
    tB K g p s H fun x H1 => tB K g q s H1 fun y H2 => rD2 K g sem x y H2 Q := by
  obtain ⟨F, r, R, h⟩ := h
  refine ⟨F, r, R, post_mono (post_bind h) fun z r1 q1 F1 H1 v sm R1 hv => ⟨F1, r1, R1, post_mono (post_bind q1) fun y r2 q2 F2 H2 w s2 R2 hw => ?_⟩⟩
  obtain ⟨d, e, q2⟩ := post_ofO q2
  obtain ⟨dx, e1, e⟩ := Option.bind_eq_some_iff.mp e
  obtain ⟨dy, e2, e3⟩ := Option.bind_eq_some_iff.mp e
  exact ⟨F2, s, r2, dx, dy, d, R2, look_ok R2 (hv.mono s2) e1, look_ok R2 hw e2, e3, fun F3 H3 v3 s3 R3 h3 => q2 F3 H3 v3 ((sm.trans s2).trans s3) R3 h3⟩
theorem de_op {op : Operator} {sem : D → D → Option D} (ho : OpR X (binaryOp op) (rD2 X.K g sem)) (ha : DB X g a p) (hb : DB X g b q) : DE X g (.BinOp a op b pos) (op2 p q sem) :=
  PE.imp (pe_op ho ha hb) fun s H Q h => tD_op2 h
theorem de_cmp {op : CmpOp} {sem : D → D → Option D} (ho : OpR X (compareOp op) (rD2 X.K g sem)) (ha : DB X g a p) (hb : DB X g b q) (hm : behindInMarks op b = false) : DE X g (.Compare a [op] [b] pos) (op2 p q sem) :=
  PE.imp (pe_cmpR ho ha hb hm) fun s H Q h => tD_op2 h
theorem de_ix {sem : D → D → Option D} (ho : IxR X (rD2 X.K g sem)) (ha : DB X g a p) (hb : DB X g b q) (hs : PlainIx b) : DE X g (.Subscript a b pos) (op2 p q sem) :=
  PE.imp (pe_ix ho ha hb hs) fun s H Q h => tD_op2 h

/-! ### tests -/
def PT' (K : PySem.W.Frag) (g : G) (F : Hp) (s : St) (Q : Bool → Hp → Prop) (b : Bool) (r' : En) : Prop := ∀ F' H', Same F F' → Rel K g F' H' s r' → Q b H'
def tTD (K : PySem.W.Frag) (g : G) (f : En → Rs Bool) : TT := fun s H Q => ∃ F r, Rel K g F H s r ∧ post K g (PT' K g F s Q) (f r)
def DT (X : Cx) (g : G) (e : Expr) (f : En → Rs Bool) : Prop := PT X e (tTD X.K g f)
def D.asB : D → Option Bool
  | .bl b => some b
  | _ => none
def toB (f : En → Rs D) : En → Rs Bool := fun r => (f r).bind fun d r1 => ofO d.asB r1
theorem asB_some {d : D} {b : Bool} (h : d.asB = some b) : d = .bl b := by
  cases d <;> first | (cases h; rfl) | cases h
/-- a comparison as a test -/
theorem dt_cmp {op : CmpOp} {sem : D → D → Option D} (ho : OpR X (compareOp op) (rD2 X.K g sem)) (ha : DB X g a p) (hb : DB X g b q) (hm : behindInMarks op b = false) : DT X g (.Compare a [op] [b] pos) (toB (op2 p q sem)) :=
  PT.imp (pt_cmpR ho ha hb hm) fun s H Q ⟨F, r, R, h⟩ => by
    refine tD_op2 ⟨F, r, R, post_mono (post_bind h) fun d r1 q F1 H1 v sm R1 hv => ?_⟩
    obtain ⟨b, e, q⟩ := post_ofO q
    have e := asB_some e
    subst e
    cases hv
    exact ⟨b, rfl, q F1 H1 sm R1⟩
/-- a plain bool expression as a test -/
theorem dt_val {f : En → Rs D} (h : DE X g e f) (he : ∀ whole, isTrue e X.env whole = (do let v ← whole; standAt e.pos; holding [v] (truthy v)) := by intro _; rfl) : DT X g e (toB f) :=
  PT.imp (pt_val h he) fun s H Q ⟨F, r, R, h⟩ => by
    refine ⟨F, r, R, post_mono (post_bind h) fun d r1 q F1 H1 v sm R1 hv => ?_⟩
    obtain ⟨b, e, q⟩ := post_ofO q
    have e := asB_some e
    subst e
    cases hv
    exact ⟨b, rfl, q F1 H1 sm R1⟩
def notT (f : En → Rs Bool) : En → Rs Bool := fun r => (f r).map (!·)
theorem dt_not {f : En → Rs Bool} (h : DT X g a f) : DT X g (.UnaryOp .Not a pos) (notT f) :=
  PT.imp (pt_not h) fun s H Q ⟨F, r, R, h⟩ => ⟨F, r, R, post_mono (post_map (f := fun b : Bool => !b) h) fun c r1 q => q⟩
/-- and, or as tests -/
def DW (X : Cx) (g : G) (e : Expr) (f : En → Rs Bool) : Prop := PW X e (tTD X.K g f)
def andT (f h : En → Rs Bool) : En → Rs Bool := fun r => (f r).bind fun b r1 => if b = true then h r1 else .ok false r1
def orT (f h : En → Rs Bool) : En → Rs Bool := fun r => (f r).bind fun b r1 => if b = true then .ok true r1 else h r1
theorem PW.imp {X : Cx} {e : Expr} {t t' : TT} (h : PW X e t) (i : ∀ s H Q, t' s H Q → t s H Q) : PW X e t' :=
  ⟨fun wh pins s σ H Q I q => h.run wh pins s σ H Q I (i σ H Q q)⟩
theorem dw_and1 {f : En → Rs Bool} (h : DT X g a f) : DW X g (.BoolOp .And [a] pos) f := pw_and1 h
theorem dw_and {f h : En → Rs Bool} {rest : List Expr} (hf : DT X g a f) (hh : DW X g (.BoolOp .And (b :: rest) pos) h) : DW X g (.BoolOp .And (a :: b :: rest) pos) (andT f h) :=
  PW.imp (pw_and hf hh) fun s H Q ⟨F, r, R, q⟩ => ⟨F, r, R, post_mono (post_bind q) fun c r1 q F1 H1 sm R1 => by
    cases c with
    | true => exact ⟨F1, r1, R1, post_mono q fun c r2 q F2 H2 s2 R2 => q F2 H2 (sm.trans s2) R2⟩
    | false => exact q F1 H1 sm R1⟩
theorem DW.dt {f : En → Rs Bool} (h : DW X g e f) : DT X g e f := PW.pt h

/-! ### and, or, not, if as values; truth -/
def andD (f h : En → Rs D) : En → Rs D := fun r => (f r).bind fun d r1 => (ofO d.asB r1).bind fun c r1 => if c = true then h r1 else .ok (.bl false) r1
def orD (f h : En → Rs D) : En → Rs D := fun r => (f r).bind fun d r1 => (ofO d.asB r1).bind fun c r1 => if c = true then .ok (.bl true) r1 else h r1
theorem de_one {op : BoolOp} {f : En → Rs D} (h : DE X g a f) : DE X g (.BoolOp op [a] pos) f := pe_one h
theorem de_and {f h : En → Rs D} {rest : List Expr} (hf : DE X g a f) (hh : DE X g (.BoolOp .And (b :: rest) pos) h) : DE X g (.BoolOp .And (a :: b :: rest) pos) (andD f h) :=
  PE.imp (pe_and hf hh) fun s H Q ⟨F, r, R, q⟩ => ⟨F, r, R, post_mono (post_bind q) fun d r1 q F1 H1 v sm R1 hv => by
    obtain ⟨c, e, q⟩ := post_ofO (post_bind q)
    have e := asB_some e
    subst e
    cases hv
    refine ⟨c, rfl, ?_⟩
    cases c with
    | true => exact ⟨F1, r1, R1, post_mono q fun c r2 q F2 H2 v s2 R2 hv => q F2 H2 v (sm.trans s2) R2 hv⟩
    | false => exact q F1 H1 _ sm R1 (.bl false)⟩
def notD (f : En → Rs D) : En → Rs D := fun r => (f r).bind fun d r1 => (ofO d.asB r1).map fun c => .bl (!c)
def ifD {α : Type} (c : En → Rs Bool) (f h : En → Rs α) : En → Rs α := fun r => (c r).bind fun b r1 => if b = true then f r1 else h r1
theorem de_if {t : En → Rs Bool} {f h : En → Rs D} (hc : DT X g c t) (hf : DE X g a f) (hh : DE X g b h) : DE X g (.IfExp c a b pos) (ifD t f h) :=
  PE.imp (pe_ifExp hc hf hh) fun s H Q ⟨F, r, R, q⟩ => ⟨F, r, R, post_mono (post_bind q) fun c r1 q F1 H1 sm R1 => by
    cases c with
    | true => exact ⟨F1, r1, R1, post_mono q fun c r2 q F2 H2 v s2 R2 hv => q F2 H2 v (sm.trans s2) R2 hv⟩
    | false => exact ⟨F1, r1, R1, post_mono q fun c r2 q F2 H2 v s2 R2 hv => q F2 H2 v (sm.trans s2) R2 hv⟩⟩
/-! ### argument lists of data; displays -/
def evs : List (En → Rs D) → En → Rs (List D)
  | [], r => .ok [] r
  | f :: fs, r => (f r).bind fun d r1 => (evs fs r1).bind fun ds r2 => .ok (d :: ds) r2
def PA' (K : PySem.W.Frag) (g : G) (F : Hp) (s : St) (Q : List V → Hp → Prop) (ds : List D) (r' : En) : Prop := ∀ F' H' vs, Same F F' → Rel K g F' H' s r' → RDs K F' vs ds → Q vs H'
def tAD (K : PySem.W.Frag) (g : G) (f : En → Rs (List D)) : TA := fun s H Q => ∃ F r, Rel K g F H s r ∧ post K g (PA' K g F s Q) (f r)
def DA (X : Cx) (g : G) (es : List Expr) (fs : List (En → Rs D)) : Prop := PA X es (tAD X.K g (evs fs))
theorem da_nil : DA X g [] [] := PA.imp pa_nil fun s H Q ⟨F, r, R, q⟩ => q F H [] (Same.refl _) R .nil
theorem da_cons {es : List Expr} {f : En → Rs D} {fs : List (En → Rs D)} (h : DE X g e f) (hs : DA X g es fs) (hst : starEach (e :: es) X.env = (false, eval e X.env) :: starEach es X.env := by rfl) : DA X g (e :: es) (f :: fs) :=
  PA.imp (pa_cons h hs hst) fun s H Q ⟨F, r, R, q⟩ => ⟨F, r, R, post_mono (post_bind q) fun d r1 q F1 H1 v sm R1 hv => ⟨F1, r1, R1, post_mono (post_bind q) fun ds r2 q F2 H2 vs s2 R2 hvs =>
    q F2 H2 (v :: vs) (sm.trans s2) R2 (.cons (RD.mono s2 d hv) hvs)⟩⟩
def tupD (fs : List (En → Rs D)) : En → Rs D := fun r => (evs fs r).bind fun ds r1 => if ds.length ≤ 1000 then .ok (.tup ds) r1 else .bad
def lstD (fs : List (En → Rs D)) : En → Rs OV := fun r => (evs fs r).bind fun ds r1 => if ds.length ≤ 1000 then .ok (.ow ds) r1 else .bad
theorem le_line {n : Nat} (h : n ≤ 1000) : n ≤ sizeLine := Nat.le_of_lt (small1000 h)
theorem post_if {K : PySem.W.Frag} {g : G} {α : Type} {P : α → En → Prop} {c : Prop} [Decidable c] {x : Rs α} (h : post K g P (if c then x else .bad)) : c ∧ post K g P x := by
  by_cases hc : c
  · rw [if_pos hc] at h; exact ⟨hc, h⟩
  · rw [if_neg hc] at h; exact h.elim
theorem de_tup {es : List Expr} {fs : List (En → Rs D)} {k : Nat} (h : DA X g es fs) : DE X g (.Tuple es k pos) (tupD fs) :=
  PE.imp (pe_tup h) fun s H Q ⟨F, r, R, q⟩ => ⟨F, r, R, post_mono (post_bind q) fun ds r1 q F1 H1 vs sm R1 hvs => by
    obtain ⟨hl, q⟩ := post_if q
    refine ⟨le_line (by rw [hvs.length]; exact hl), fun p np => ?_⟩
    have sF := same_upd (o := .tup vs) (R1.ff np)
    exact q _ _ _ (sm.trans sF) (R1.alloc np) (.tup (.of upd_same) (RDs.mono sF ds hvs))⟩
/-- a list just made is nobody's -/
theorem RV.new {K : PySem.W.Frag} {F H : Hp} {s : St} {r : En} {p : Addr} {vs : List V} {ds : List D} (R : Rel K g F H s r) (np : H p = none) (hvs : RDs K F vs ds) : RV K g F (L2.upd H p (.lst vs)) s r (.ref p) (.ow ds) := by
  refine ⟨p, vs, rfl, R.ff np, upd_same, hvs, R.live np, fun j o e eo z => ?_, fun q hq z => by have := (R.ext q hq).1; rw [z, np] at this; cases this⟩
  obtain ⟨v, h1, h2⟩ := R.slot j o e
  rw [z] at h1
  cases h1
  cases o with
  | sh d => cases eo
  | ow xs =>
    obtain ⟨a, ws, e1, _, e3, _⟩ := h2
    cases e1
    rw [np] at e3; cases e3
  | od xs =>
    obtain ⟨a, ws, e1, _, e3, _⟩ := h2
    cases e1
    rw [np] at e3; cases e3
  | oi c xs =>
    obtain ⟨a, ws, e1, _, e3, _⟩ := h2
    cases e1
    rw [np] at e3; cases e3
  | th xs =>
    obtain ⟨a, ws, e1, _, e3, _⟩ := h2
    cases e1
    rw [np] at e3; cases e3
  | exc c => cases eo
theorem do_lst {es : List Expr} {fs : List (En → Rs D)} (h : DA X g es fs) : DO X g (.List es pos) (lstD fs) :=
  PE.imp (pe_lst h) fun s H Q ⟨F, r, R, q⟩ => ⟨F, r, R, post_mono (post_bind q) fun ds r1 q F1 H1 vs sm R1 hvs => by
    obtain ⟨hl, q⟩ := post_if q
    refine ⟨le_line (by rw [hvs.length]; exact hl), fun p np => ?_⟩
    exact q _ _ _ sm (R1.laid np) (RV.new R1 np hvs)⟩
end
end DL

/-! Data layer, part 3: statements, targets, what is walked, loops, comprehensions. -/
namespace DL
open PySem L2

inductive SRs where
  | nx (r : En)
  | rt (o : OV) (r : En)
  | bk (r : En)
  | ct (r : En)
  | bad
  | ex (x : Exn) (r : En)
def SPost (K : PySem.W.Frag) (g : G) (F : Hp) (E : Ends) : SRs → Prop
  | .nx r' => ∀ F' H' s', Same F F' → Rel K g F' H' s' r' → E.nx s' H'
  | .rt o r' => ∀ F' H' s' v, Same F F' → Rel K g F' H' s' r' → RV K g F' H' s' r' v o → E.rt v H'
  | .bk r' => ∀ F' H' s', Same F F' → Rel K g F' H' s' r' → E.bk s' H'
  | .ct r' => ∀ F' H' s', Same F F' → Rel K g F' H' s' r' → E.ct s' H'
  | .bad => False
  | .ex x r' => exW K g x r'
def tSD (K : PySem.W.Frag) (g : G) (f : En → SRs) : TS := fun E s H => ∃ F r, Rel K g F H s r ∧ SPost K g F E (f r)
def DS (X : Cx) (g : G) (st : Stmt) (f : En → SRs) : Prop := PS X st (tSD X.K g f)
def DSs (X : Cx) (g : G) (st : List Stmt) (f : En → SRs) : Prop := PSs X st (tSD X.K g f)

theorem SPost.mono {K : PySem.W.Frag} {g : G} {F F' : Hp} {E : Ends} {x : SRs} (h : SPost K g F E x) (e : Same F F') : SPost K g F' E x := by
  cases x with
  | nx r => exact fun F2 H2 s2 e2 R2 => h F2 H2 s2 (e.trans e2) R2
  | rt o r => exact fun F2 H2 s2 v e2 R2 => h F2 H2 s2 v (e.trans e2) R2
  | bk r => exact fun F2 H2 s2 e2 R2 => h F2 H2 s2 (e.trans e2) R2
  | ct r => exact fun F2 H2 s2 e2 R2 => h F2 H2 s2 (e.trans e2) R2
  | bad => exact h
  | ex x r => exact h

def seqS (f h : En → SRs) : En → SRs := fun r => match f r with
  | .nx r1 => h r1
  | x => x
def nxS : En → SRs := fun r => .nx r
/-- a result that goes on -/
def thenS {α : Type} (x : Rs α) (k : α → En → SRs) : SRs := match x with
  | .ok a r => k a r
  | .bad => .bad
  | .ex x r => .ex x r
theorem post_then {α : Type} {K : PySem.W.Frag} {g : G} {F : Hp} {E : Ends} {x : Rs α} {k : α → En → SRs} (h : SPost K g F E (thenS x k)) : post K g (fun a r => SPost K g F E (k a r)) x := by
  cases x with
  | ok a r => exact h
  | bad => exact h
  | ex x r => exact h

section
variable {X : Cx} {g : G} {e a b c : Expr} {pos : Pos} {st : Stmt} {sts : List Stmt}
theorem ds_nil : DSs X g [] nxS := PSs.imp pss_nil fun E s H ⟨F, r, R, q⟩ => q F H s (Same.refl _) R
theorem ds_cons {f h : En → SRs} (h1 : DS X g st f) (h2 : DSs X g sts h) : DSs X g (st :: sts) (seqS f h) :=
  PSs.imp (pss_cons h1 h2) fun E s H ⟨F, r, R, q⟩ => by
    refine ⟨F, r, R, ?_⟩
    unfold seqS at q
    revert q
    cases f r with
    | nx r1 => exact fun q F1 H1 s1 sm R1 => ⟨F1, r1, R1, q.mono sm⟩
    | rt o r1 => exact fun q => q
    | bk r1 => exact fun q => q
    | ct r1 => exact fun q => q
    | bad => exact fun q => q
    | ex x r1 => exact fun q => q
theorem ds_one {f : En → SRs} (h1 : DS X g st f) : DSs X g [st] f := pss_one h1
def bkS : En → SRs := fun r => .bk r
def ctS : En → SRs := fun r => .ct r
def rtS (f : En → Rs OV) : En → SRs := fun r => thenS (f r) fun o r1 => .rt o r1
theorem ds_ret {f : En → Rs OV} (h : DO X g e f) : DS X g (.Return (some e) pos) (rtS f) :=
  PS.imp (ps_ret h) fun E s H ⟨F, r, R, q⟩ => ⟨F, r, R, post_mono (post_then q) fun o r1 q F1 H1 v sm R1 hv => q F1 H1 s v sm R1 hv⟩
def rtN : En → SRs := fun r => .rt (.sh .non) r
def ifS (t : En → Rs Bool) (f h : En → SRs) : En → SRs := fun r => thenS (t r) fun b r1 => if b = true then f r1 else h r1
theorem ds_if {t : En → Rs Bool} {f h : En → SRs} {sa sb : List Stmt} (hc : DT X g c t) (hf : DSs X g sa f) (hh : DSs X g sb h) : DS X g (.If c sa sb pos) (ifS t f h) :=
  PS.imp (ps_if hc hf hh) fun E s H ⟨F, r, R, q⟩ => ⟨F, r, R, post_mono (post_then q) fun b r1 q F1 H1 sm R1 => by
    cases b with
    | true => exact ⟨F1, r1, R1, q.mono sm⟩
    | false => exact ⟨F1, r1, R1, q.mono sm⟩⟩
/-- an expression whose value is dropped -/
def exS (f : En → Rs D) : En → SRs := fun r => thenS (f r) fun _ r1 => .nx r1
/-! ### stores -/
/-- a slot gets a value -/
theorem Rel.set {K : PySem.W.Frag} {F H : Hp} {s : St} {r : En} {i : Nat} {v : V} {o : OV} (R : Rel K g F H s r) (hb : ∀ p ∈ g.B, p.1 ≠ i) (hv : RV K g F H s r v o) : Rel K g F H (s.set i (some v)) (r.set i (some o)) := by
  have hl := R.len
  have cs : ∀ (j : Nat) (u : OV), (r.set i (some o))[j]? = some (some u) → (j = i ∧ u = o ∧ (s.set i (some v))[j]? = some (some v)) ∨ (j ≠ i ∧ r[j]? = some (some u) ∧ (s.set i (some v))[j]? = s[j]?) := fun j u z => by
    by_cases hj : i = j
    · subst hj
      have hi : i < r.length := by
        have := (List.getElem?_eq_some_iff.mp z).1
        rw [List.length_set] at this
        exact this
      rw [List.getElem?_set_self hi] at z
      cases z
      exact .inl ⟨rfl, rfl, List.getElem?_set_self (by rw [← hl]; exact hi)⟩
    · rw [List.getElem?_set_ne hj] at z
      exact .inr ⟨fun z => hj z.symm, z, List.getElem?_set_ne hj⟩
  refine ⟨R.sub, R.f0, R.fnew, R.keep, fun j u z => ?_, fun j u a z zo za => ?_, fun j k u w a hjk z zo y yo za ya => ?_, fun p hp => ?_, by rw [List.length_set, List.length_set]; exact hl, fun p hp => ?_⟩
  · rcases cs j u z with ⟨rfl, rfl, e⟩ | ⟨hj, z', e⟩
    · refine ⟨v, e, ?_⟩
      cases u with
      | sh d => exact hv
      | ow xs =>
        obtain ⟨a, vs, e1, e2, e3, e4, _⟩ := hv
        exact ⟨a, vs, e1, e2, e3, e4⟩
      | od xs => exact hv.elim
      | oi c xs => exact hv.elim
      | th xs => exact hv.elim
      | exc c => exact hv.elim
    · rw [e]; exact R.slot j u z'
  · rcases cs j u z with ⟨rfl, rfl, e⟩ | ⟨hj, z', e⟩
    · rw [e] at za
      cases za
      cases u with
      | sh d => cases zo
      | ow xs =>
        obtain ⟨b, vs, e1, e2, e3, e4, e5, _⟩ := hv
        cases e1
        exact .inl e5
      | od xs => exact hv.elim
      | oi c xs => exact hv.elim
      | th xs => exact hv.elim
      | exc c => exact hv.elim
    · rw [e] at za; exact R.own j u a z' zo za
  · have key : ∀ (k : Nat) (w : OV), r[k]? = some (some w) → w.own = true → s[k]? = some (some (.ref a)) → v = .ref a → o.own = true → False := fun k2 w2 y2 yo2 ya2 hva ho => by
      cases o with
      | sh d => cases ho
      | ow xs =>
        obtain ⟨b, vs, e1, e2, e3, e4, e5, e6, e7⟩ := hv
        rw [hva] at e1
        cases e1
        exact e6 k2 w2 y2 yo2 ya2
      | od xs => exact hv.elim
      | oi c xs => exact hv.elim
      | th xs => exact hv.elim
      | exc c => exact hv.elim
    rcases cs j u z with ⟨ej, eu, e⟩ | ⟨hj, z', e⟩
    · rcases cs k w y with ⟨ek, _, _⟩ | ⟨hk, y', e'⟩
      · exact hjk (ej.trans ek.symm)
      · rw [e] at za
        rw [e'] at ya
        exact key k w y' yo ya (by cases za; rfl) (by rw [← eu]; exact zo)
    · rcases cs k w y with ⟨ek, ew, e'⟩ | ⟨hk, y', e'⟩
      · rw [e'] at ya
        rw [e] at za
        exact key j u z' zo za (by cases ya; rfl) (by rw [← ew]; exact yo)
      · rw [e] at za
        rw [e'] at ya
        exact R.dist j k u w a hjk z' zo y' yo za ya
  · obtain ⟨p1, u, p2, p3⟩ := R.pin p hp
    have h := hb p hp
    exact ⟨by rw [List.getElem?_set_ne fun z => h z.symm]; exact p1, u, by rw [List.getElem?_set_ne fun z => h z.symm]; exact p2, p3⟩
  · obtain ⟨x1, x2, x3⟩ := R.ext p hp
    refine ⟨x1, x2, fun j u z zo za => ?_⟩
    rcases cs j u z with ⟨rfl, rfl, e⟩ | ⟨hj, z', e⟩
    · rw [e] at za
      cases u with
      | sh d => cases zo
      | ow xs =>
        obtain ⟨b, vs, e1, e2, e3, e4, e5, e6, e7⟩ := hv
        cases za
        cases e1
        exact e7 p hp rfl
      | od xs => exact hv.elim
      | oi c xs => exact hv.elim
      | th xs => exact hv.elim
      | exc c => exact hv.elim
    · rw [e] at za; exact x3 j u z' zo za
def setS (i : Nat) (f : En → Rs OV) : En → SRs := fun r => thenS (f r) fun o r1 => .nx (r1.set i (some o))
theorem ds_set {i : Nat} {x : Str} {pos' : Pos} {f : En → Rs OV} (hb : ∀ p ∈ g.B, p.1 ≠ i) (hN : X.N.Nodup) (h : DO X g e f) (hi : X.N[i]? = some x := by rfl) (hx : Loc X.env.scope x := by first | exact Or.inl rfl | exact Or.inr rfl)
    (hs : swapsWith e (some (.Name x pos')) pos.line X.env = pure false := by rfl) (hf : X.fn x = true ∨ X.env.scope.names.lookup x = some .local := by first | exact .inl rfl | exact .inr rfl | assumption) : DS X g (.Assign [.Name x pos'] e pos) (setS i f) :=
  PS.imp (ps_set hN hi hx h hs hf) fun E s H ⟨F, r, R, q⟩ => ⟨F, r, R, post_mono (post_then q) fun o r1 q F1 H1 v sm R1 hv => q F1 H1 _ sm (R1.set hb hv)⟩

/-! ### targets (ks: the slots that are stored to) -/
def Agr (ks : List Nat) (s s' : St) : Prop := s'.length = s.length ∧ ∀ i : Nat, i ∉ ks → s'[i]? = s[i]?
theorem Agr.refl (ks : List Nat) (s : St) : Agr ks s s := ⟨rfl, fun _ _ => rfl⟩
theorem Agr.trans {k1 k2 : List Nat} {s s1 s2 : St} (a : Agr k1 s s1) (b : Agr k2 s1 s2) : Agr (k1 ++ k2) s s2 :=
  ⟨b.1.trans a.1, fun i hi => (b.2 i fun z => hi (List.mem_append_right _ z)).trans (a.2 i fun z => hi (List.mem_append_left _ z))⟩
def tGD (K : PySem.W.Frag) (g : G) (ks : List Nat) (h : D → En → Option En) : TG := fun v s H Q => ∃ F r d r', Rel K g F H s r ∧ RD K F v d ∧ h d r = some r' ∧ ∀ s', Agr ks s s' → Rel K g F H s' r' → Q s' H
def DG (X : Cx) (g : G) (e : Expr) (ks : List Nat) (h : D → En → Option En) : Prop := PG X e (tGD X.K g ks h)
theorem PG.imp {X : Cx} {e : Expr} {t t' : TG} (h : PG X e t) (i : ∀ v s H Q, t' v s H Q → t v s H Q) : PG X e t' :=
  ⟨fun pins s σ H v u Q I rv q => h.run pins s σ H v u Q I rv (i v σ H Q q)⟩
theorem PGs.imp {X : Cx} {e : List Expr} {t t' : TGs} (h : PGs X e t) (i : ∀ v s H Q, t' v s H Q → t v s H Q) : PGs X e t' :=
  ⟨fun pins s σ H v u Q I rv q => h.run pins s σ H v u Q I rv (i v σ H Q q)⟩
def gN (i : Nat) : D → En → Option En := fun d r => some (r.set i (some (.sh d)))
theorem dg_name {i : Nat} {x : Str} (hb : ∀ p ∈ g.B, p.1 ≠ i) (hN : X.N.Nodup) (hi : X.N[i]? = some x := by rfl) (hx : Loc X.env.scope x := by first | exact Or.inl rfl | exact Or.inr rfl)
    (hf : X.fn x = true ∨ X.env.scope.names.lookup x = some .local := by first | exact .inl rfl | exact .inr rfl | assumption) : DG X g (.Name x pos) [i] (gN i) :=
  PG.imp (pg_name hN hi hx hf) fun v s H Q ⟨F, r, d, r', R, hd, e, q⟩ => by
    cases e
    exact q _ ⟨List.length_set .., fun j hj => List.getElem?_set_ne fun z => hj (by rw [z]; exact List.mem_singleton.mpr rfl)⟩ (R.set hb (o := .sh d) hd)
def tGsD (K : PySem.W.Frag) (g : G) (ks : List Nat) (h : List D → En → Option En) : TGs := fun vs s H Q => ∃ F r ds r', Rel K g F H s r ∧ RDs K F vs ds ∧ h ds r = some r' ∧ ∀ s', Agr ks s s' → Rel K g F H s' r' → Q s' H
def DGs (X : Cx) (g : G) (es : List Expr) (ks : List Nat) (h : List D → En → Option En) : Prop := PGs X es (tGsD X.K g ks h)
def gsNil : List D → En → Option En
  | [], r => some r
  | _ :: _, _ => none
def gsCons (h : D → En → Option En) (hs : List D → En → Option En) : List D → En → Option En
  | [], _ => none
  | d :: ds, r => (h d r).bind fun r1 => hs ds r1
theorem dgs_nil : DGs X g [] [] gsNil := PGs.imp pgs_nil fun vs s H Q ⟨F, r, ds, r', R, hd, e, q⟩ => by
  cases ds with
  | nil => cases hd; cases e; exact ⟨rfl, q s (Agr.refl _ _) R⟩
  | cons d ds => cases e
theorem dgs_cons {es : List Expr} {k1 k2 : List Nat} {h : D → En → Option En} {hs : List D → En → Option En} (h1 : DG X g e k1 h) (h2 : DGs X g es k2 hs)
    (ha : (assignEach (e :: es) X.env).map (·.2) = assign e X.env :: (assignEach es X.env).map (·.2) := by rfl) : DGs X g (e :: es) (k1 ++ k2) (gsCons h hs) :=
  PGs.imp (pgs_cons h1 h2 ha) fun vs s H Q ⟨F, r, ds, r', R, hd, e, q⟩ => by
    cases ds with
    | nil => cases e
    | cons d ds =>
      obtain ⟨r1, e1, e2⟩ := Option.bind_eq_some_iff.mp e
      cases hd with
      | cons a1 a2 => exact ⟨_, _, rfl, F, r, d, r1, R, a1, e1, fun s1 g1 R1 => ⟨F, r1, ds, r', R1, a2, e2, fun s2 g2 R2 => q s2 (g1.trans g2) R2⟩⟩
def gT (n : Nat) (hs : List D → En → Option En) : D → En → Option En
  | .tup ds, r => if ds.length = n then hs ds r else none
  | .lst ds, r => if ds.length = n then hs ds r else none
  | _, _ => none
theorem gT_some {n : Nat} {hs : List D → En → Option En} {d : D} {r r' : En} (e : gT n hs d r = some r') : ∃ ds, (d = .tup ds ∨ d = .lst ds) ∧ ds.length = n ∧ hs ds r = some r' := by
  cases d with
  | tup ds =>
    have e' : (if ds.length = n then hs ds r else none) = some r' := e
    by_cases hl : ds.length = n
    · rw [if_pos hl] at e'; exact ⟨ds, .inl rfl, hl, e'⟩
    · rw [if_neg hl] at e'; cases e'
  | lst ds =>
    have e' : (if ds.length = n then hs ds r else none) = some r' := e
    by_cases hl : ds.length = n
    · rw [if_pos hl] at e'; exact ⟨ds, .inr rfl, hl, e'⟩
    · rw [if_neg hl] at e'; cases e'
  | _ => cases e
theorem dg_tup {es : List Expr} {k n : Nat} {ks : List Nat} {hs : List D → En → Option En} (hc : X.calm = true) (h : DGs X g es ks hs) (hn : (assignEach es X.env).length = n := by rfl) (hst : (assignEach es X.env).findIdx? (·.1) = none := by rfl) : DG X g (.Tuple es k pos) ks (gT n hs) :=
  ⟨fun pins s σ H v u Q I rv ⟨F, r, d, r', R, hd, e, q⟩ => by
    obtain ⟨ds, ed, hl, e'⟩ := gT_some e
    rcases ed with rfl | rfl
    · cases hd with
      | tup a1 a2 => exact (pg_tup hc h hn hst).run pins s σ H _ u Q I rv ⟨_, _, rfl, same_sqT R.sub a1, by rw [a2.length]; exact hl, F, r, ds, r', R, a2, e', q⟩
    · cases hd with
      | lst a1 a2 => exact (pg_unl hc h hn hst).run pins s σ H _ u Q I rv ⟨_, _, rfl, .of (R.sub _ _ a1), by rw [a2.length]; exact hl, F, r, ds, r', R, a2, e', q⟩⟩
def asgS (f : En → Rs D) (h : D → En → Option En) : En → SRs := fun r => thenS (f r) fun d r1 => match h d r1 with
  | some r2 => .nx r2
  | none => .bad
theorem ds_asg {tg : Expr} {f : En → Rs D} {ks : List Nat} {h : D → En → Option En} (he : DE X g e f) (hg : DG X g tg ks h) (hs : swapsWithSole [tg] e pos.line X.env = pure false := by rfl) (hw : swappedStores [tg] e X.env = pure none := by rfl)
    (h1 : (assignEach [tg] X.env).map (·.2) = [assign tg X.env] := by rfl) : DS X g (.Assign [tg] e pos) (asgS f h) :=
  PS.imp (ps_asg he hg hs hw h1) fun E s H ⟨F, r, R, q⟩ => ⟨F, r, R, post_mono (post_then q) fun d r1 q F1 H1 v sm R1 hv => by
    revert q
    cases eh : h d r1 with
    | none => exact fun q => q.elim
    | some r2 => exact fun q => ⟨F1, r1, d, r2, R1, hv, eh, fun s' _ R' => q F1 H1 s' sm R'⟩⟩
end
end DL

/-! Data layer, part 4: what is walked, for, list comprehensions. -/
namespace DL
open PySem L2

/-- the iterator J yields the data ds -/
def Wk (K : PySem.W.Frag) (B : List (Nat × Addr)) (F : Hp) (J : It) (ds : List D) : Prop :=
  ∀ (g : G) (F1 H1 : Hp) (s : St) (r : En), g.B = B → Same F F1 → Rel K g F1 H1 s r →
    (∀ (i : Nat) (d : D), ds[i]? = some d → J.go i H1 ∧ ∀ x H2, J.yld i H1 x H2 → ∃ F2, Same F1 F2 ∧ Rel K g F2 H2 s r ∧ RD K F2 x d) ∧ (∀ i, ds.length ≤ i → J.stop i H1)
theorem Wk.mono {K : PySem.W.Frag} {B : List (Nat × Addr)} {F F' : Hp} {J : It} {ds : List D} (h : Wk K B F J ds) (e : Same F F') : Wk K B F' J ds := fun g F1 H1 s r hB e1 R => h g F1 H1 s r hB (e.trans e1) R
def PI' (K : PySem.W.Frag) (g : G) (F : Hp) (s : St) (Q : It → Hp → Prop) (ds : List D) (r' : En) : Prop := ∀ F' H' J, Same F F' → Rel K g F' H' s r' → Wk K g.B F' J ds → Q J H'
def tID (K : PySem.W.Frag) (g : G) (f : En → Rs (List D)) : TI := fun s H Q => ∃ F r, Rel K g F H s r ∧ post K g (PI' K g F s Q) (f r)
def DI (X : Cx) (g : G) (tg e : Expr) (f : En → Rs (List D)) : Prop := PI X tg e (tID X.K g f)

/-- over a list; over a tuple -/
def D.asL : D → Option (List D)
  | .lst ds => some ds
  | _ => none
theorem asL_some {d : D} {ds : List D} (h : d.asL = some ds) : d = .lst ds := by
  cases d <;> first | (cases h; rfl) | cases h
section
variable {X : Cx} {g : G} {e a b c tg : Expr} {pos : Pos}
theorem wk_list {K : PySem.W.Frag} {B : List (Nat × Addr)} {F : Hp} {p : Addr} {vs : List V} {ds : List D} (h1 : F p = some (.lst vs)) (h2 : RDs K F vs ds) : Wk K B F (Itl K p) ds := fun g F1 H1 s r _ sm R => by
  have h1' : SqL K H1 p vs := .of (R.sub _ _ (sm _ _ h1))
  refine ⟨fun i d e => ?_, fun i hi => ⟨vs, h1', by rw [h2.length]; exact hi⟩⟩
  obtain ⟨v, e1, e2⟩ := h2.get e
  refine ⟨⟨vs, v, h1', e1⟩, fun x H2 ⟨eh, ey⟩ => ?_⟩
  subst eh
  have := ey vs h1'
  rw [e1] at this
  cases this
  exact ⟨F1, Same.refl _, R, RD.mono sm d e2⟩
theorem wk_tup {K : PySem.W.Frag} {B : List (Nat × Addr)} {F : Hp} {p : Addr} {vs : List V} {ds : List D} (h1 : SqT K F p vs) (h2 : RDs K F vs ds) : Wk K B F (Itt K p) ds := fun g F1 H1 s r _ sm R => by
  have h1' := same_sqT R.sub (same_sqT sm h1)
  refine ⟨fun i d e => ?_, fun i hi => ⟨vs, h1', by rw [h2.length]; exact hi⟩⟩
  obtain ⟨v, e1, e2⟩ := h2.get e
  refine ⟨⟨vs, v, h1', e1⟩, fun x H2 ⟨eh, ey⟩ => ?_⟩
  subst eh
  have := ey vs h1'
  rw [e1] at this
  cases this
  exact ⟨F1, Same.refl _, R, RD.mono sm d e2⟩
def D.asI : D → Option Int
  | .int i => some i
  | _ => none
theorem asI_some {d : D} {i : Int} (h : d.asI = some i) : d = .int i := by
  cases d <;> first | (cases h; rfl) | cases h
/-- lo, lo + 1, .. : n of them -/
def rangeD (lo : Int) (n : Nat) : List D := (List.range n).map fun (k : Nat) => D.int (lo + (k : Int))
theorem rangeD_get {lo : Int} {n i : Nat} {d : D} (h : (rangeD lo n)[i]? = some d) : i < n ∧ d = .int (lo + i) := by
  unfold rangeD at h
  rw [List.getElem?_map] at h
  obtain ⟨k, h1, h2⟩ := Option.map_eq_some_iff.mp h
  obtain ⟨h3, h4⟩ := List.getElem?_eq_some_iff.mp h1
  rw [List.length_range] at h3
  rw [List.getElem_range] at h4
  exact ⟨h3, by rw [← h2, ← h4]⟩
theorem wk_range {K : PySem.W.Frag} {B : List (Nat × Addr)} {F : Hp} {lo : Int} {n : Nat} : Wk K B F (Itr lo n) (rangeD lo n) := fun g F1 H1 s r _ sm R => by
  refine ⟨fun i d e => ?_, fun i hi => ?_⟩
  · obtain ⟨h1, rfl⟩ := rangeD_get e
    refine ⟨h1, fun x H2 ⟨eh, ex⟩ => ?_⟩
    subst eh ex
    exact ⟨F1, Same.refl _, R, .int _⟩
  · unfold rangeD at hi
    rw [List.length_map, List.length_range] at hi
    exact hi
def rg1 (f : En → Rs D) : En → Rs (List D) := fun r => (f r).bind fun d r1 => (ofO d.asI r1).bind fun i r1 => if -1000000 ≤ i ∧ i ≤ 1000000 then .ok (rangeD 0 i.toNat) r1 else .bad
def rg2 (f h : En → Rs D) : En → Rs (List D) := fun r => (f r).bind fun d r1 => (h r1).bind fun d' r2 => (ofO d.asI r2).bind fun i r2 => (ofO d'.asI r2).bind fun j r2 => if (-1000000 ≤ i ∧ i ≤ 1000000) ∧ -1000000 ≤ j ∧ j ≤ 1000000 then .ok (rangeD i (j - i).toNat) r2 else .bad
theorem di_range1 {f : En → Rs D} {p : Pos} (hg : Gl X "range") (hm : X.mg "range" = none) (h : DE X g a f) (hs : starEach [a] X.env = [(false, eval a X.env)] := by rfl) : DI X g tg (.Call (.Name "range" p) [a] [] pos) (rg1 f) :=
  PI.imp (pi_range1 hg hm (pa_cons h pa_nil hs) hs) fun s H Q ⟨F, r, R, q⟩ => ⟨F, r, R, post_mono (post_bind q) fun d r1 q F1 H1 v sm R1 hv => by
    obtain ⟨i, ed, q⟩ := post_ofO (post_bind q)
    have ed := asI_some ed
    subst ed
    obtain ⟨hi, q⟩ := post_if q
    cases hv
    exact ⟨i, rfl, by omega, by omega, q F1 H1 _ sm R1 wk_range⟩⟩
/-! ### for -/
def forS (h : D → En → Option En) (body : En → SRs) : List D → En → SRs
  | [], r => .nx r
  | d :: ds, r =>
    match h d r with
    | none => .bad
    | some r1 =>
      match body r1 with
      | .nx r2 => forS h body ds r2
      | .ct r2 => forS h body ds r2
      | .bk r2 => .nx r2
      | .rt o r2 => .rt o r2
      | .bad => .bad
      | .ex x r2 => .ex x r2
def forD (f : En → Rs (List D)) (h : D → En → Option En) (body : En → SRs) : En → SRs := fun r => thenS (f r) fun ds r1 => forS h body ds r1
theorem ds_for {f : En → Rs (List D)} {ks : List Nat} {h : D → En → Option En} {bf : En → SRs} {body : List Stmt} {iter : Expr} (hp : PassesOwn (model X.prog X.w) X.A X.env X.xe) (hc : X.calm = true)
    (hi : DI X g tg iter f) (hg : DG X g tg ks h) (hb : DSs X g body bf) (hs : ∀ x, foldedSetIterable iter X.env x = pure x := by intro _; rfl) : DS X g (.For tg iter body [] pos) (forD f h bf) :=
  PS.imp (ps_for hp hc hi hg hb hs) fun E s H ⟨F, r, R, q⟩ => ⟨F, r, R, post_mono (post_then q) fun ds r1 q F1 H1 J sm R1 wk => by
    refine ⟨fun i m s2 H2 => m = ds.length - i ∧ i ≤ ds.length ∧ ∃ F2 r2, Same F1 F2 ∧ Rel X.K g F2 H2 s2 r2 ∧ SPost X.K g F1 E (forS h bf (ds.drop i) r2), ⟨ds.length, rfl, Nat.zero_le _, F1, r1, Same.refl _, R1, by rw [List.drop_zero]; exact q.mono sm⟩, ?_⟩
    rintro i m s2 H2 ⟨rfl, hi, F2, r2, sm2, R2, q2⟩
    obtain ⟨w1, w2⟩ := wk g F2 H2 s2 r2 rfl sm2 R2
    by_cases hlt : i < ds.length
    · have ed : ds[i]? = some ds[i] := List.getElem?_eq_getElem hlt
      obtain ⟨go, yl⟩ := w1 i _ ed
      rw [List.drop_eq_getElem_cons hlt] at q2
      refine .inr ⟨go, fun s3 H3 => ∃ F3 r3, Same F1 F3 ∧ Rel X.K g F3 H3 s3 r3 ∧ SPost X.K g F1 E (forS h bf (ds.drop (i + 1)) r3), fun s3 H3 ⟨F3, r3, a1, a2, a3⟩ => ⟨ds.length - (i + 1), by omega, rfl, hlt, F3, r3, a1, a2, a3⟩, fun x H3 hy => ?_⟩
      obtain ⟨F3, sm3, R3, hx⟩ := yl x H3 hy
      have q3 : SPost X.K g F1 E (match h ds[i] r2 with
        | none => .bad
        | some r1 => match bf r1 with
          | .nx r2 => forS h bf (ds.drop (i + 1)) r2
          | .ct r2 => forS h bf (ds.drop (i + 1)) r2
          | .bk r2 => .nx r2
          | .rt o r2 => .rt o r2
          | .bad => .bad
          | .ex x r2 => .ex x r2) := q2
      cases eh : h ds[i] r2 with
      | none => rw [eh] at q3; exact q3.elim
      | some r3 =>
        rw [eh] at q3
        refine ⟨F3, r2, ds[i], r3, R3, hx, eh, fun s4 _ R4 => ⟨F3, r3, R4, ?_⟩⟩
        have sm13 : Same F1 F3 := sm2.trans sm3
        revert q3
        show SPost X.K g F1 E (match bf r3 with
          | .nx r2 => forS h bf (ds.drop (i + 1)) r2
          | .ct r2 => forS h bf (ds.drop (i + 1)) r2
          | .bk r2 => .nx r2
          | .rt o r2 => .rt o r2
          | .bad => .bad
          | .ex x r2 => .ex x r2) → _
        cases bf r3 with
        | nx r4 => exact fun q3 F5 H5 s5 sm5 R5 => ⟨F5, r4, sm13.trans sm5, R5, q3⟩
        | ct r4 => exact fun q3 F5 H5 s5 sm5 R5 => ⟨F5, r4, sm13.trans sm5, R5, q3⟩
        | bk r4 => exact fun q3 F5 H5 s5 sm5 R5 => q3 F5 H5 s5 (sm13.trans sm5) R5
        | rt o r4 => exact fun q3 F5 H5 s5 v sm5 R5 hv => q3 F5 H5 s5 v (sm13.trans sm5) R5 hv
        | bad => exact fun q3 => q3
        | ex x r4 => exact fun q3 => q3
    · have ei : i = ds.length := by omega
      rw [List.drop_of_length_le (by omega)] at q2
      exact .inl ⟨w2 i (by omega), q2 F2 H2 s2 sm2 R2⟩⟩

/-! ### while -/
/-- fuel: the turns at most -/
def whS (c : En → Rs Bool) (body : En → SRs) : Nat → En → SRs
  | 0, _ => .bad
  | n + 1, r => thenS (c r) fun b r1 => if b = true then
      match body r1 with
      | .nx r2 => whS c body n r2
      | .ct r2 => whS c body n r2
      | .bk r2 => .nx r2
      | .rt o r2 => .rt o r2
      | .bad => .bad
      | .ex x r2 => .ex x r2
    else .nx r1
theorem ds_while {t : En → Rs Bool} {bf : En → SRs} {body : List Stmt} (n : Nat) (hp : PassesOwn (model X.prog X.w) X.A X.env X.xe) (hc : DT X g c t) (hb : DSs X g body bf) : DS X g (.While c body [] pos) (whS t bf n) :=
  PS.imp (ps_while hp hc hb) fun E s H ⟨F, r, R, q⟩ => by
    refine ⟨fun m s2 H2 => ∃ F2 r2, Same F F2 ∧ Rel X.K g F2 H2 s2 r2 ∧ SPost X.K g F E (whS t bf m r2), ⟨n, F, r, Same.refl _, R, q⟩, ?_⟩
    rintro m s2 H2 ⟨F2, r2, sm2, R2, q2⟩
    cases m with
    | zero => exact q2.elim
    | succ m =>
      refine ⟨F2, r2, R2, post_mono (post_then (show SPost X.K g F E (thenS (t r2) _) from q2)) fun b r3 q3 F3 H3 sm3 R3 => ?_⟩
      have sm13 : Same F F3 := sm2.trans sm3
      cases b with
      | false => exact q3 F3 H3 s2 sm13 R3
      | true =>
        refine ⟨fun s4 H4 => ∃ F4 r4, Same F F4 ∧ Rel X.K g F4 H4 s4 r4 ∧ SPost X.K g F E (whS t bf m r4), fun s4 H4 hh => ⟨m, Nat.lt_succ_self m, hh⟩, F3, r3, R3, ?_⟩
        revert q3
        show SPost X.K g F E (match bf r3 with
          | .nx r2 => whS t bf m r2
          | .ct r2 => whS t bf m r2
          | .bk r2 => .nx r2
          | .rt o r2 => .rt o r2
          | .bad => .bad
          | .ex x r2 => .ex x r2) → _
        cases bf r3 with
        | nx r4 => exact fun q3 F5 H5 s5 sm5 R5 => ⟨F5, r4, sm13.trans sm5, R5, q3⟩
        | ct r4 => exact fun q3 F5 H5 s5 sm5 R5 => ⟨F5, r4, sm13.trans sm5, R5, q3⟩
        | bk r4 => exact fun q3 F5 H5 s5 sm5 R5 => q3 F5 H5 s5 (sm13.trans sm5) R5
        | rt o r4 => exact fun q3 F5 H5 s5 v sm5 R5 hv => q3 F5 H5 s5 v (sm13.trans sm5) R5 hv
        | bad => exact fun q3 => q3
        | ex x r4 => exact fun q3 => q3

/-! ### list comprehensions -/
/-- without a wish about errors -/
def G.nw (g : G) : G := { g with W := none }
/-- a block's own: no error leaves it -/
structure Blk (g g' : G) : Prop where
  B : g'.B = g.B
  w : g'.w = g.w
  xc : g'.xc = g.xc
  W : g'.W = none
theorem Rel.nw {K : PySem.W.Frag} {g : G} {F H : Hp} {s : St} {r : En} (R : Rel K g F H s r) : Rel K g.nw F H s r := ⟨R.sub, R.f0, R.fnew, R.keep, R.slot, R.own, R.dist, R.pin, R.len, R.ext⟩
theorem Rel.unw {K : PySem.W.Frag} {g : G} {F H : Hp} {s : St} {r : En} (R : Rel K g.nw F H s r) : Rel K g F H s r := ⟨R.sub, R.f0, R.fnew, R.keep, R.slot, R.own, R.dist, R.pin, R.len, R.ext⟩
theorem post_w {α : Type} {K : PySem.W.Frag} {g g' : G} {P : α → En → Prop} {x : Rs α} (h : post K g P x) (hw : g.W = none := by rfl) : post K g' P x := by
  cases x with
  | ok a r => exact h
  | bad => exact h
  | ex x r =>
    have h : exW K g x r := h
    unfold exW at h
    rw [hw] at h
    exact h.elim
def wipeE (r : En) : List Nat → En
  | [] => r
  | v :: vs => (wipeE r vs).set v none
theorem wipeE_len (r : En) : ∀ vs, (wipeE r vs).length = r.length
  | [] => rfl
  | v :: vs => by unfold wipeE; rw [List.length_set, wipeE_len r vs]
theorem wipeE_some {r : En} {i : Nat} {o : OV} : ∀ {vs : List Nat}, (wipeE r vs)[i]? = some (some o) → r[i]? = some (some o) ∧ i ∉ vs
  | [], h => ⟨h, by simp⟩
  | v :: vs, h => by
    unfold wipeE at h
    by_cases hv : v = i
    · subst hv
      by_cases hl : v < (wipeE r vs).length
      · rw [List.getElem?_set_self hl] at h; cases h
      · rw [List.getElem?_eq_none (by simpa using hl)] at h; cases h
    · rw [List.getElem?_set_ne hv] at h
      obtain ⟨h1, h2⟩ := wipeE_some h
      exact ⟨h1, fun z => (List.mem_cons.mp z).elim (fun z => hv z.symm) h2⟩
theorem wipeE_keep {r : En} {i : Nat} : ∀ {vs : List Nat}, i ∉ vs → (wipeE r vs)[i]? = r[i]?
  | [], _ => rfl
  | v :: vs, h => by
    unfold wipeE
    rw [List.getElem?_set_ne fun z => h (by rw [z]; exact List.mem_cons_self ..)]
    exact wipeE_keep fun z => h (List.mem_cons_of_mem _ z)
theorem wipe_keep {s : St} {i : Nat} : ∀ {vs : List Nat}, i ∉ vs → (wipe s vs)[i]? = s[i]?
  | [], _ => rfl
  | v :: vs, h => by
    unfold wipe
    rw [List.getElem?_set_ne fun z => h (by rw [z]; exact List.mem_cons_self ..)]
    exact wipe_keep fun z => h (List.mem_cons_of_mem _ z)
/-- forget the slots vs -/
theorem Rel.forget {K : PySem.W.Frag} {F H : Hp} {s s' : St} {r : En} {vs : List Nat} (R : Rel K g F H s r) (hb : ∀ p ∈ g.B, p.1 ∉ vs) (hl : s'.length = s.length) (hs : ∀ i, i ∉ vs → s'[i]? = s[i]?) : Rel K g F H s' (wipeE r vs) := by
  refine ⟨R.sub, R.f0, R.fnew, R.keep, fun i o e => ?_, fun i o a e eo ea => ?_, fun i j o u a hij e eo e' eo' ea ea' => ?_, fun p hp => ?_, by rw [wipeE_len, hl]; exact R.len, fun p hp => ?_⟩
  · obtain ⟨h1, h2⟩ := wipeE_some e
    obtain ⟨v, h3, h4⟩ := R.slot i o h1
    exact ⟨v, by rw [hs i h2]; exact h3, h4⟩
  · obtain ⟨h1, h2⟩ := wipeE_some e
    rw [hs i h2] at ea
    exact R.own i o a h1 eo ea
  · obtain ⟨h1, h2⟩ := wipeE_some e
    obtain ⟨h3, h4⟩ := wipeE_some e'
    rw [hs i h2] at ea
    rw [hs j h4] at ea'
    exact R.dist i j o u a hij h1 eo h3 eo' ea ea'
  · obtain ⟨p1, o, p2, p3⟩ := R.pin p hp
    exact ⟨by rw [hs _ (hb p hp)]; exact p1, o, by rw [wipeE_keep (hb p hp)]; exact p2, p3⟩
  · obtain ⟨x1, x2, x3⟩ := R.ext p hp
    refine ⟨x1, x2, fun j o e eo => ?_⟩
    obtain ⟨h1, h2⟩ := wipeE_some e
    rw [hs j h2]
    exact x3 j o h1 eo
theorem agr_wipe {ks vs : List Nat} {s s' : St} (a : Agr ks (wipe s vs) s') (h : ∀ i ∈ ks, i ∈ vs) : wipe s' vs = wipe s vs := by
  refine List.ext_getElem? fun i => ?_
  by_cases hi : i ∈ vs
  · have no : ∀ (t : St) (us : List Nat), i ∈ us → (wipe t us)[i]? = if i < t.length then some none else none := fun t us => by
      induction us with
      | nil => intro z; cases z
      | cons v us ih =>
        intro z
        unfold wipe
        by_cases hv : v = i
        · subst hv
          by_cases hl : v < (wipe t us).length
          · rw [List.getElem?_set_self hl, if_pos (by rw [wipe_length] at hl; exact hl)]
          · rw [List.getElem?_eq_none (by simpa using hl), if_neg (by rw [wipe_length] at hl; exact hl)]
        · rw [List.getElem?_set_ne hv]
          exact ih ((List.mem_cons.mp z).resolve_left fun z => hv z.symm)
    rw [no _ _ hi, no _ _ hi, a.1, wipe_length]
  · rw [wipe_keep hi, a.2 i fun z => hi (h i z)]
def lcS (vs : List Nat) (h : D → En → Option En) (t : En → Rs Bool) (elt : En → Rs D) : List D → En → Rs (List D)
  | [], r => .ok [] r
  | d :: ds, r =>
    match h d (wipeE r vs) with
    | none => .bad
    | some r1 => (t r1).bind fun b r2 => if b = true then (elt r2).bind fun y r3 => (lcS vs h t elt ds (wipeE r3 vs)).bind fun ys r4 => .ok (y :: ys) r4 else lcS vs h t elt ds (wipeE r2 vs)
def lcD (f : En → Rs (List D)) (vs : List Nat) (h : D → En → Option En) (t : En → Rs Bool) (elt : En → Rs D) : En → Rs OV := fun r => (f r).bind fun ds r1 => if ds.length ≤ 1000000 then (lcS vs h t elt ds r1).noE.bind fun ys r2 => .ok (.ow ys) (wipeE r2 vs) else .bad
theorem not_own {K : PySem.W.Frag} {F H : Hp} {s : St} {r : En} {p : Addr} (R : Rel K g F H s r) (np : H p = none) (j : Nat) (o : OV) (e : r[j]? = some (some o)) (eo : o.own = true) : s[j]? ≠ some (some (.ref p)) := fun z => by
  obtain ⟨v, h1, h2⟩ := R.slot j o e
  rw [z] at h1
  cases h1
  cases o with
  | sh d => cases eo
  | ow xs =>
    obtain ⟨a, ws, e1, _, e3, _⟩ := h2
    cases e1
    rw [np] at e3; cases e3
  | od xs =>
    obtain ⟨a, ws, e1, _, e3, _⟩ := h2
    cases e1
    rw [np] at e3; cases e3
  | oi c xs =>
    obtain ⟨a, ws, e1, _, e3, _⟩ := h2
    cases e1
    rw [np] at e3; cases e3
  | th xs =>
    obtain ⟨a, ws, e1, _, e3, _⟩ := h2
    cases e1
    rw [np] at e3; cases e3
  | exc c => cases eo
/-- between two turns of a comprehension: the list at A holds what was made so far -/
def LcI (K : PySem.W.Frag) (g : G) (F1 : Hp) (s : St) (Q : VK) (A : Addr) (vs : List Nat) (h : D → En → Option En) (t : En → Rs Bool) (fe : En → Rs D) (ds : List D) (i : Nat) (H2 : Hp) : Prop :=
  ∃ F2 r2 acc vacc, Same F1 F2 ∧ Rel K g F2 H2 s r2 ∧ H2 A = some (.lst vacc) ∧ F2 A = none ∧ (∀ (j : Nat) (o : OV), r2[j]? = some (some o) → o.own = true → s[j]? ≠ some (some (.ref A))) ∧ RDs K F2 vacc acc ∧ acc.length ≤ i ∧
    post K g.nw (fun ys r3 => PO K g F1 s Q (.ow (acc ++ ys)) (wipeE r3 vs)) (lcS vs h t fe (ds.drop i) r2)
/-- what is held still is changed (the list at A grows) -/
theorem Rel.grow {K : PySem.W.Frag} {F H : Hp} {s : St} {r : En} {A : Addr} {o o' : HO} (R : Rel K (g.more A o) F H s r) (h0 : g.H0 A = none) (hX : ∀ p ∈ g.X, p.1 ≠ A) : Rel K g F (L2.upd H A o') s r := by
  obtain ⟨R, h1, h2, h3⟩ := R.less
  refine ⟨fun b u e => ?_, R.f0, R.fnew, fun b u e hb => ?_, fun i u e => ?_, R.own, R.dist, R.pin, R.len, fun p hp => ?_⟩
  · rw [upd_ne fun z => by rw [z, h2] at e; cases e]; exact R.sub b u e
  · rw [upd_ne fun z => by rw [z, h0] at e; cases e]; exact R.keep b u e hb
  · obtain ⟨v, a1, a2⟩ := R.slot i u e
    refine ⟨v, a1, ?_⟩
    cases u with
    | sh d => exact a2
    | ow xs =>
      obtain ⟨b, ws, e1, e2, e3, e4⟩ := a2
      refine ⟨b, ws, e1, e2, ?_, e4⟩
      rw [upd_ne fun z => h3 i _ e rfl (by rw [a1, e1, z])]
      exact e3
    | od xs =>
      obtain ⟨b, ws, e1, e2, e3, e4⟩ := a2
      refine ⟨b, ws, e1, e2, ?_, e4⟩
      rw [upd_ne fun z => h3 i _ e rfl (by rw [a1, e1, z])]
      exact e3
    | oi c xs =>
      obtain ⟨b, ws, e1, e2, e3, e4⟩ := a2
      refine ⟨b, ws, e1, e2, ?_, e4⟩
      rw [upd_ne fun z => h3 i _ e rfl (by rw [a1, e1, z])]
      exact e3
    | th xs =>
      obtain ⟨b, ws, e1, e2, e3, e4⟩ := a2
      refine ⟨b, ws, e1, e2, ?_, e4⟩
      rw [upd_ne fun z => h3 i _ e rfl (by rw [a1, e1, z])]
      exact e3
    | exc c => exact a2
  · obtain ⟨x1, x2, x3⟩ := R.ext p hp
    exact ⟨by rw [upd_ne (hX p hp)]; exact x1, x2, x3⟩
theorem lc_imp {K : PySem.W.Frag} {vs ks : List Nat} {f : En → Rs (List D)} {h : D → En → Option En} {t : En → Rs Bool} {fe : En → Rs D} {s : St} {H : Hp} {Q : VK} (hb : ∀ p ∈ g.B, p.1 ∉ vs) (hks : ∀ i ∈ ks, i ∈ vs) (h0 : tO K g (lcD f vs h t fe) s H Q) :
    tLc (tID K g f) (fun v s H Q => ∃ g' : G, Blk g g' ∧ tGD K g' ks h v s H Q) (fun s H Q => ∃ g' : G, Blk g g' ∧ tTD K g' t s H Q) (fun s H Q => ∃ g' : G, Blk g g' ∧ tD K g' fe s H Q) vs s H Q := by
  obtain ⟨F, r, R, q⟩ := h0
  refine ⟨F, r, R, post_mono (post_bind q) fun ds r1 q F1 H1 J sm R1 wk => ?_⟩
  obtain ⟨hl, q⟩ := post_if q
  have q : post K g.nw _ _ := post_noE (post_bind q)
  intro A nA
  have hA0 : g.H0 A = none := R1.live nA
  have hAX : ∀ p ∈ g.X, p.1 ≠ A := fun p hp z => by have := (R1.ext p hp).1; rw [z, nA] at this; cases this
  refine ⟨fun i m H2 => m = ds.length - i ∧ i ≤ ds.length ∧ LcI K g F1 s Q A vs h t fe ds i H2, ⟨ds.length, rfl, Nat.zero_le _, F1, r1, [], [], Same.refl _, R1.laid nA, upd_same, R1.ff nA, fun j o e eo => not_own R1 nA j o e eo, .nil, Nat.le_refl _, ?_⟩, ?_⟩
  · rw [List.drop_zero]
    exact post_mono q fun ys r3 q F3 H3 v sm3 R3 hv => q F3 H3 v (sm.trans sm3) R3 hv
  rintro i m H2 ⟨rfl, hi2, F2, r2, acc, vacc, sm2, R2, hA, hFA, hAo, hacc, hal, q2⟩
  obtain ⟨w1, w2⟩ := wk g F2 H2 s r2 rfl sm2 R2
  by_cases hlt : i < ds.length
  · have ed : ds[i]? = some ds[i] := List.getElem?_eq_getElem hlt
    obtain ⟨go, yl⟩ := w1 i _ ed
    rw [List.drop_eq_getElem_cons hlt] at q2
    refine .inr ⟨go, fun H3 => LcI K g F1 s Q A vs h t fe ds (i + 1) H3, fun H3 hh => ⟨ds.length - (i + 1), by omega, rfl, hlt, hh⟩, fun x H3 hy => ?_⟩
    -- the turn, with the list at A held still
    have R2m : Rel K (g.more A (.lst vacc)) F2 H2 s r2 := R2.more hA hFA hAo
    obtain ⟨w1m, _⟩ := wk (g.more A (.lst vacc)) F2 H2 s r2 rfl sm2 R2m
    obtain ⟨F3, sm3, R3, hx⟩ := (w1m i _ ed).2 x H3 hy
    have R3w : Rel K (g.more A (.lst vacc)) F3 H3 (wipe s vs) (wipeE r2 vs) := R3.forget hb (wipe_length _ _) fun i hi => wipe_keep hi
    have q3 : post K g.nw (fun ys r3 => PO K g F1 s Q (.ow (acc ++ ys)) (wipeE r3 vs)) (match h ds[i] (wipeE r2 vs) with
      | none => .bad
      | some r1 => (t r1).bind fun b r2 => if b = true then (fe r2).bind fun y r3 => (lcS vs h t fe (ds.drop (i + 1)) (wipeE r3 vs)).bind fun ys r4 => .ok (y :: ys) r4 else lcS vs h t fe (ds.drop (i + 1)) (wipeE r2 vs)) := q2
    cases eh : h ds[i] (wipeE r2 vs) with
    | none => rw [eh] at q3; exact q3.elim
    | some r3 =>
      rw [eh] at q3
      refine ⟨(g.more A (.lst vacc)).nw, ⟨rfl, rfl, rfl, rfl⟩, F3, _, ds[i], r3, R3w.nw, hx, eh, fun s4 ag R4 => ⟨agr_wipe ag hks, (g.more A (.lst vacc)).nw, ⟨rfl, rfl, rfl, rfl⟩, F3, r3, R4, post_mono (post_w (post_bind q3)) fun b r4 q4 F4 H4 sm4 R4' => ?_⟩⟩
      have wkeep : ∀ i, i ∉ vs → s[i]? = s4[i]? := fun i hi => by rw [ag.2 i fun z => hi (hks i z), wipe_keep hi]
      have hl4 : s.length = s4.length := by rw [ag.1, wipe_length]
      have sm14 : Same F1 F4 := (sm2.trans sm3).trans sm4
      cases b with
      | false =>
        obtain ⟨R5, a1, a2, a3⟩ := R4'.unw.less
        refine ⟨F4, wipeE r4 vs, acc, vacc, sm14, R5.forget hb hl4 wkeep, a1, a2, fun j o e eo => ?_, RDs.mono (sm3.trans sm4) acc hacc, by omega, q4⟩
        obtain ⟨e1, e2⟩ := wipeE_some e
        rw [wkeep j e2]
        exact a3 j o e1 eo
      | true =>
        refine ⟨(g.more A (.lst vacc)).nw, ⟨rfl, rfl, rfl, rfl⟩, F4, r4, R4', post_mono (post_w (post_bind q4)) fun y r5 q5 F5 H5 v sm5 R5' hv => ?_⟩
        have R5' := R5'.unw
        have a1 := R5'.less.2.1
        have a2 := R5'.less.2.2.1
        have a3 := R5'.less.2.2.2
        have sm15 : Same F1 F5 := sm14.trans sm5
        have hacc5 := RDs.mono ((sm3.trans sm4).trans sm5) acc hacc
        refine ⟨vacc, a1, ?_, F5, wipeE r5 vs, acc ++ [y], vacc ++ [v], sm15, (R5'.grow hA0 hAX).forget hb hl4 wkeep, upd_same, a2, fun j o e eo => ?_, hacc5.app (.cons hv .nil), by rw [List.length_append]; simp; omega, ?_⟩
        · rw [hacc.length]
          have : (1000000 : Nat) < sizeLine := by decide
          omega
        · obtain ⟨e1, e2⟩ := wipeE_some e
          rw [wkeep j e2]
          exact a3 j o e1 eo
        · refine post_mono (post_bind q5) fun ys r6 q6 => ?_
          have q6 : PO K g F1 s Q (.ow (acc ++ y :: ys)) (wipeE r6 vs) := q6
          rw [List.append_assoc]
          exact q6
  · rw [List.drop_of_length_le (by omega)] at q2
    have q2 : PO K g F1 s Q (.ow (acc ++ [])) (wipeE r2 vs) := q2
    rw [List.append_nil] at q2
    refine .inl ⟨w2 i (by omega), q2 F2 H2 (.ref A) sm2 (R2.forget hb rfl fun _ _ => rfl) ⟨A, vacc, rfl, hFA, hA, hacc, hA0, fun j o e eo => ?_, hAX⟩⟩
    obtain ⟨e1, e2⟩ := wipeE_some e
    exact hAo j o e1 eo
theorem do_lc {elt iter : Expr} {ifs : List Expr} {scope : Scope} {own : List (Str × Nat)} {vs ks : List Nat} {f : En → Rs (List D)} {h : D → En → Option En} {t : En → Rs Bool} {fe : En → Rs D} (hc : X.calm = true) (hN : X.N.Nodup) (hi : DI X g tg iter f) (ok : BlkOk X.N X.env.scope scope own)
    (hvs : own.map (·.2) = vs) (hb : ∀ p ∈ g.B, p.1 ∉ vs) (hks : ∀ i ∈ ks, i ∈ vs)
    (hg : ∀ (s : Shared) (H : Hp) (C : Addr) (cl : List (Str × Addr)) (fp : List Addr) (g' : G), Blk g g' → DG (X.blk s H scope (compEnvC scope cl C X.env) fp) g' tg ks h)
    (ht : ∀ (s : Shared) (H : Hp) (C : Addr) (cl : List (Str × Addr)) (fp : List Addr) (g' : G), Blk g g' → PTs (X.blk s H scope (compEnvC scope cl C X.env) fp) ifs (tTD X.K g' t))
    (he : ∀ (s : Shared) (H : Hp) (C : Addr) (cl : List (Str × Addr)) (fp : List Addr) (g' : G), Blk g g' → DE (X.blk s H scope (compEnvC scope cl C X.env) fp) g' elt fe) (hs : ∀ x, foldedSetIterable iter X.env x = pure x := by intro _; rfl) :
    DO X g (.ListComp elt [⟨tg, iter, ifs, 0⟩] scope pos) (lcD f vs h t fe) := by
  subst hvs
  exact PE.imp (pe_lc hc hN hi ok (g := fun v s H Q => ∃ g' : G, Blk g g' ∧ tGD X.K g' ks h v s H Q) (tt := fun s H Q => ∃ g' : G, Blk g g' ∧ tTD X.K g' t s H Q) (te := fun s H Q => ∃ g' : G, Blk g g' ∧ tD X.K g' fe s H Q)
    (fun s H C cl fp => ⟨fun pins s2 σ H2 v u Q I rv ⟨g', eg, q⟩ => (hg s H C cl fp g' eg).run pins s2 σ H2 v u Q I rv q⟩)
    (fun s H C cl fp => ⟨fun pins s2 σ H2 Q I ⟨g', eg, q⟩ => (ht s H C cl fp g' eg).run pins s2 σ H2 Q I q⟩)
    (fun s H C cl fp => ⟨fun pins s2 σ H2 Q I ⟨g', eg, q⟩ => (he s H C cl fp g' eg).run pins s2 σ H2 Q I q⟩) hs) fun s H Q h0 => lc_imp hb hks h0
/-- name = [..] on one line, the name a plain local -/
theorem ds_setLc {i : Nat} {y : Str} {py spos : Pos} {elt iter : Expr} {ifs : List Expr} {scope : Scope} {own : List (Str × Nat)} {vs ks : List Nat} {f : En → Rs (List D)} {h : D → En → Option En} {t : En → Rs Bool} {fe : En → Rs D} (hbi : ∀ p ∈ g.B, p.1 ≠ i) (hc : X.calm = true) (hN : X.N.Nodup) (hi : DI X g tg iter f) (ok : BlkOk X.N X.env.scope scope own)
    (hvs : own.map (·.2) = vs) (hb : ∀ p ∈ g.B, p.1 ∉ vs) (hks : ∀ i ∈ ks, i ∈ vs)
    (hg : ∀ (s : Shared) (H : Hp) (C : Addr) (cl : List (Str × Addr)) (fp : List Addr) (g' : G), Blk g g' → DG (X.blk s H scope (compEnvC scope cl C X.env) fp) g' tg ks h)
    (ht : ∀ (s : Shared) (H : Hp) (C : Addr) (cl : List (Str × Addr)) (fp : List Addr) (g' : G), Blk g g' → PTs (X.blk s H scope (compEnvC scope cl C X.env) fp) ifs (tTD X.K g' t))
    (he : ∀ (s : Shared) (H : Hp) (C : Addr) (cl : List (Str × Addr)) (fp : List Addr) (g' : G), Blk g g' → DE (X.blk s H scope (compEnvC scope cl C X.env) fp) g' elt fe)
    (hsw : swapsWith (.ListComp elt [⟨tg, iter, ifs, 0⟩] scope pos) (some (.Name y py)) spos.line X.env = pure true) (hy : X.N[i]? = some y := by rfl) (hyl : X.env.scope.names.lookup y = some .local := by rfl) (hs : ∀ x, foldedSetIterable iter X.env x = pure x := by intro _; rfl) :
    DS X g (.Assign [.Name y py] (.ListComp elt [⟨tg, iter, ifs, 0⟩] scope pos) spos) (setS i (lcD f vs h t fe)) := by
  subst hvs
  refine PS.imp (ps_setLc hc hN hy hyl hsw hi ok (g := fun v s H Q => ∃ g' : G, Blk g g' ∧ tGD X.K g' ks h v s H Q) (tt := fun s H Q => ∃ g' : G, Blk g g' ∧ tTD X.K g' t s H Q) (te := fun s H Q => ∃ g' : G, Blk g g' ∧ tD X.K g' fe s H Q)
    (fun s H C cl fp => ⟨fun pins s2 σ H2 v u Q I rv ⟨g', eg, q⟩ => (hg s H C cl fp g' eg).run pins s2 σ H2 v u Q I rv q⟩)
    (fun s H C cl fp => ⟨fun pins s2 σ H2 Q I ⟨g', eg, q⟩ => (ht s H C cl fp g' eg).run pins s2 σ H2 Q I q⟩)
    (fun s H C cl fp => ⟨fun pins s2 σ H2 Q I ⟨g', eg, q⟩ => (he s H C cl fp g' eg).run pins s2 σ H2 Q I q⟩) hs) fun E s H ⟨F, r, R, q⟩ => ?_
  exact lc_imp hb hks ⟨F, r, R, post_mono (post_then q) fun o r1 q F1 H1 v sm R1 hv => q F1 H1 _ sm (R1.set hbi hv)⟩
end
end DL

/-! Data layer, part 5: what a def promises by data (its callers outside any repr), calls, the law's own call. -/
namespace DL
open PySem L2

/-- like FnOk, for callers that stand in no repr -/
structure FnG (P : Program) (w : World) (K : PySem.W.Frag) (mg : Str → Option Value) (base : Heap) (CX : CXT) (k : Nat) (f : Addr) (fd : FuncData) (ps : List Str) (sp : Sp) : Prop where
  len : ∀ vs H Q E, sp vs H Q E → vs.length = ps.length
  run : ∀ (A : Around) (outer : List Env) (s : Shared) (H : Hp) (args : Args) (us : List Value) (vs : List V) (Q : VK) (E : XK), A.guards = some [] → Room k A → Env0 P w K mg base A outer s H →
    BindsTo s fd args (ps.zip us) → Vals vs us → sp vs H Q E → codeAny (model P w) A (.call (.ref f) args) (CR CX outer P w H s Q E) s
section
variable {P : Program} {w : World} {K : PySem.W.Frag} {mg : Str → Option Value} {base : Heap} {CX : CXT}
theorem FnG.mono {j k : Nat} {f : Addr} {fd : FuncData} {ps : List Str} {sp : Sp} (F : FnG P w K mg base CX j f fd ps sp) (h : j ≤ k) : FnG P w K mg base CX k f fd ps sp :=
  ⟨F.len, fun A o s H as us vs Q E hg hr => F.run A o s H as us vs Q E hg (hr.mono h)⟩
theorem FnG.imp {k : Nat} {f : Addr} {fd : FuncData} {ps : List Str} {sp sp' : Sp} (F : FnG P w K mg base CX k f fd ps sp) (h : ∀ vs H Q E, sp' vs H Q E → sp vs H Q E) : FnG P w K mg base CX k f fd ps sp' :=
  ⟨fun vs H Q E q => F.len vs H Q E (h _ _ _ _ q), fun A o s H as us vs Q E hg hr e0 hb rv hs => F.run A o s H as us vs Q E hg hr e0 hb rv (h _ _ _ _ hs)⟩
/-- a def by its body -/
theorem fnG_of {x qual : Str} {st : Stmt} {f : Addr} {fd : FuncData} {N ps : List Str} {k : Nat} {sp : Sp} (F : Fun K x qual st f fd) (S : FnScope N ps (defScope st)) (len : ∀ vs H Q E, sp vs H Q E → vs.length = ps.length)
    (hbody : ∀ (cdv : Value) (A : Around) (outer : List Env) (s : Shared) (H : Hp) (vs : List V) (Q : VK) (E : XK), A.guards = some [] → Room k (A.deeper (PyProof.Rows.envOfC qual (defScope st) s.heap.objs.size f cdv)) → sp vs H Q E →
      ∃ t, PSs (cxOf CX P w K mg base N qual (defScope st) f cdv A outer s H E) (defBody st) t ∧ t { nx := fun _ H' => Q .non H', rt := Q } (start N vs) H) : FnG P w K mg base CX (k + 1) f fd ps sp := by
  obtain ⟨oc, od, kV, doc, pm, an, cdv, ct, osl, rfl, lk, hcd⟩ := F.ex
  refine ⟨len, ?_⟩
  intro A outer s H args us vs Q E hgd room en bind rel want
  have inK : K.In s.heap := en.mod.kin.keeps fun b u z => (en.bs b u z).1
  have nolim : s.heap.NoLimit := en.mod.nolimit.keeps fun b u z => (en.bs b u z).1
  have kinds : ∀ y ∈ ps.zip us, (defScope st).names.lookup y.1 = some .local ∨ ((defScope st).names.lookup y.1 = some .cell ∧ ((cellsFrom (s.heap.objs.size + 1) (defScope st).names []).lookup y.1).isSome = true) := by
    rintro ⟨nm, vl⟩ hy
    cases S.par nm (List.of_mem_zip hy).1 with
    | inl q => exact Or.inl q
    | inr q => exact Or.inr ⟨q, PySem.W.cellsFrom_some _ _ _ (.inl q)⟩
  refine codeAny_call_function room.depth (inK _ _ lk) rfl S.co S.gen rfl (PySem.W.codeRec_of inK hcd) (bind _ _ _ _ ?_)
  refine PySem.wpAny_newFunctionEnv_cells S.kind kinds fun env eenv s1 ic => ?_
  subst eenv
  refine ⟨nolim.keeps ic.toInCall.keep, codeAny_func ?_⟩
  obtain ⟨t, pt, tq⟩ := hbody cdv A outer s H vs Q E hgd (room.deeper _) want
  have inv0 : Inv (cxOf CX P w K mg base N qual (defScope st) f cdv A outer s H E) [] (start N vs) H s1 := inv_start S room.hd en (len _ _ _ _ want) rel ic
  refine wpAny_mono (pt.run [] s1 (start N vs) H _ inv0 tq) ?_ fun _ _ z => z
  intro fl s2 hs2
  have ending : ∀ {σ2 : St} {H2 : Hp} {v : V} {u : Value}, Inv (cxOf CX P w K mg base N qual (defScope st) f cdv A outer s H E) [] σ2 H2 s2 → RelV v u → Q v H2 → CE outer P w H s Q u s2 := by
    intro σ2 H2 v u J rv qv
    exact ⟨v, H2, J.os, J.bare, J.base, J.hok, rv, qv⟩
  cases fl with
  | next => obtain ⟨σ2, H2, J, qv⟩ := hs2; exact ending (v := V.non) (u := Value.none) J rfl qv
  | ret u => obtain ⟨v, σ2, H2, J, rv, qv⟩ := hs2; exact ending J rv qv
  | brk => obtain ⟨_, _, _, z⟩ := hs2; exact z.elim
  | cont => obtain ⟨_, _, _, z⟩ := hs2; exact z.elim
end

section
variable {X : Cx} {CX : CXT} {k : Nat} {f : Addr} {fd : FuncData} {ps : List Str} {sp : Sp} {E : XK} {x : Str} {p pos : Pos} {e : Expr} {es : List Expr} {t : TA}
theorem runG {pins : List (Addr × Obj)} {σ : St} {H : Hp} {s : Shared} {Q : VK} {us : List Value} {vs : List V} (F : FnG X.prog X.w X.K X.mg X.base CX k f fd ps sp) (hgd : X.A.guards = some []) (hr : Room k X.A) (hb : Binds X.K fd ps []) (hx : Passes CX X E)
    (I : Inv X pins σ H s) (r : Vals vs us) (h : sp vs H Q E) : wpAny (model X.prog X.w) X.A (call (.ref f) us) (EP X pins σ Q) X.xe s := by
  have bl := hb s us I.kIn (by rw [List.append_nil, ← r.length]; exact F.len _ _ _ _ h)
  rw [List.append_nil] at bl
  refine wpAny_call (codeAny_mono (F.run X.A X.stack s H ⟨us, []⟩ us vs Q E hgd hr I.env0 bl r h) ?_)
  intro res s2 hq
  cases res with
  | error er => exact hx pins σ H s er s2 I hq
  | ok fl =>
    cases fl with
    | ret u => exact I.after hq
    | next => cases hq
    | brk => cases hq
    | cont => cases hq
theorem pe_callG1 (F : FnG X.prog X.w X.K X.mg X.base CX k f fd ps sp) (hgd : X.A.guards = some []) (hr : Room k X.A) (hg : Gl X x) (hm : X.mg x = some (.ref f)) (hk : PySem.W.keepIn X.K (.ref f) = true) (hb : Binds X.K fd ps []) (hx : Passes CX X E)
    (ha : PA X (e :: es) t) (hdb : (x == ("__debug__" : Str)) = false := by decide) (he : starEach (e :: es) X.env = (false, eval e X.env) :: starEach es X.env := by rfl) (hpl : (backTo pos (starEach es X.env)).any (·.1) = false := by rfl) :
    PE X (.Call (.Name x p) (e :: es) [] pos) (fun σ H Q => t σ H fun vs H1 => sp vs H1 Q E) := by
  constructor
  intro pins s σ H Q I h
  refine PySem.wpAny_Call_Name_kw (ld_glob I hg hm ?_ hdb)
  refine PySem.W.callWith_K (h₀ := X.base) I.ok.mod.kin hk (thn (ha.run pos pins s σ H _ I h) ?_) he hpl
  rintro us s1 ⟨vs, H1, I1, rv, q⟩
  exact ⟨I1.kIn, runG F hgd hr hb hx I1 rv q⟩
end

/-! ### promises by data -/
def RVf (K : PySem.W.Frag) (F' H' H : Hp) (v : V) : OV → Prop
  | .sh d => RD K F' v d
  | .ow xs => ∃ a vs, v = .ref a ∧ F' a = none ∧ H' a = some (.lst vs) ∧ RDs K F' vs xs ∧ H a = none
  | .od _ => False
  | .oi _ _ => False
  | .th _ => False
  | .exc _ => False
def Fresh (F F' H : Hp) : Prop := ∀ b o, F' b = some o → F b = none → H b = none
def spP (K : PySem.W.Frag) (n : Nat) (f : List D → Option OV) : Sp := fun vs H Q _ => ∃ F ds o, Same F H ∧ RDs K F vs ds ∧ ds.length = n ∧ f ds = some o ∧
  ∀ F' H' v, Same F F' → Same F' H' → Fresh F F' H → Same H H' → RVf K F' H' H v o → Q v H'
def spB (K : PySem.W.Frag) (n : Nat) (f : List D → List D → Option (OV × List D)) : Sp := fun vs H Q _ => ∃ F a bs vb ws ds o bs', vs = .ref a :: ws ∧ Same F H ∧ F a = none ∧ H a = some (.lst vb) ∧ RDs K F vb bs ∧ RDs K F ws ds ∧ ds.length = n ∧ f bs ds = some (o, bs') ∧
  ∀ F' H' v vb', Same F F' → Same F' H' → Fresh F F' H → (∀ b o, H b = some o → b ≠ a → H' b = some o) → F' a = none → H' a = some (.lst vb') → RDs K F' vb' bs' → RVf K F' H' H v o → Q v H'
def startE (n : Nat) (os : List OV) : En := os.map some ++ List.replicate (n - os.length) none
def fnP (n : Nat) (m : En → SRs) : List D → Option OV := fun ds => match m (startE n (ds.map OV.sh)) with
  | .nx _ => some (.sh .non)
  | .rt o _ => some o
  | _ => none
def OV.lst? : OV → Option (List D)
  | .ow xs => some xs
  | _ => none
def fnB (n : Nat) (m : En → SRs) : List D → List D → Option (OV × List D) := fun bs ds => match m (startE n (.ow bs :: ds.map OV.sh)) with
  | .nx r => ((lookV r 0).bind OV.lst?).map fun b => (.sh .non, b)
  | .rt o r => ((lookV r 0).bind OV.lst?).map fun b => (o, b)
  | _ => none

theorem startE_get {n : Nat} {os : List OV} {i : Nat} {o : OV} (h : (startE n os)[i]? = some (some o)) : os[i]? = some o := by
  unfold startE at h
  by_cases hi : i < os.length
  · rw [List.getElem?_append_left (by simpa using hi), List.getElem?_map] at h
    cases e : os[i]? with
    | none => rw [e] at h; cases h
    | some a => rw [e] at h; cases h; rfl
  · rw [List.getElem?_append_right (by simpa using hi), List.getElem?_replicate] at h
    split at h <;> cases h
theorem start_get {N : List Str} {vs : List V} {i : Nat} {v : V} (h : vs[i]? = some v) : (start N vs)[i]? = some (some v) := by
  unfold L2.start
  have hi : i < vs.length := (List.getElem?_eq_some_iff.mp h).1
  rw [List.getElem?_append_left (by simpa using hi), List.getElem?_map, h]
  rfl
theorem start_len (N : List Str) (vs : List V) (os : List OV) (h : vs.length = os.length) : (startE N.length os).length = (start N vs).length := by
  unfold L2.start startE
  simp [h]
section
variable {K : PySem.W.Frag} {F H : Hp} {w : World}
theorem relP {N : List Str} {vs : List V} {ds : List D} (sub : Same F H) (h : RDs K F vs ds) : Rel K ⟨F, H, [], [], w, none, none⟩ F H (start N vs) (startE N.length (ds.map OV.sh)) := by
  have nown : ∀ (i : Nat) (o : OV), (startE N.length (ds.map OV.sh))[i]? = some (some o) → ∃ d, ds[i]? = some d ∧ o = .sh d := fun i o e => by
    have q := startE_get e
    rw [List.getElem?_map] at q
    obtain ⟨d, q1, q2⟩ := Option.map_eq_some_iff.mp q
    exact ⟨d, q1, q2.symm⟩
  refine ⟨sub, Same.refl _, fun b o e z => ?_, fun b o e _ => e, fun i o e => ?_, fun i o a e eo => ?_, fun i j o u a _ e eo => ?_, fun p hp => ?_, start_len N vs _ (by rw [List.length_map, h.length]), fun p hp => ?_⟩
  · have z : F b = none := z
    rw [z] at e; cases e
  · obtain ⟨d, h1, rfl⟩ := nown i o e
    obtain ⟨v, h2, h3⟩ := h.get h1
    exact ⟨v, start_get h2, h3⟩
  · obtain ⟨d, h1, rfl⟩ := nown i o e
    cases eo
  · obtain ⟨d, h1, rfl⟩ := nown i o e
    cases eo
  · cases hp
  · cases hp
theorem relB {N : List Str} {a : Addr} {vb ws : List V} {bs ds : List D} (sub : Same F H) (fa : F a = none) (ha : H a = some (.lst vb)) (hb : RDs K F vb bs) (h : RDs K F ws ds) :
    Rel K ⟨F, H, [(0, a)], [], w, none, none⟩ F H (start N (.ref a :: ws)) (startE N.length (.ow bs :: ds.map OV.sh)) := by
  have nown : ∀ (i : Nat) (o : OV), (startE N.length (.ow bs :: ds.map OV.sh))[i]? = some (some o) → (i = 0 ∧ o = .ow bs) ∨ ∃ j d, i = j + 1 ∧ ds[j]? = some d ∧ o = .sh d := fun i o e => by
    have q := startE_get e
    cases i with
    | zero => cases q; exact .inl ⟨rfl, rfl⟩
    | succ j =>
      have q : (ds.map OV.sh)[j]? = some o := q
      rw [List.getElem?_map] at q
      obtain ⟨d, q1, q2⟩ := Option.map_eq_some_iff.mp q
      exact .inr ⟨j, d, rfl, q1, q2.symm⟩
  have s0 : (start N (.ref a :: ws))[0]? = some (some (.ref a)) := start_get rfl
  refine ⟨sub, Same.refl _, fun b o e z => ?_, fun b o e _ => e, fun i o e => ?_, fun i o b e eo es => ?_, fun i j o u b hij e eo e' eo' => ?_, fun p hp => ?_, start_len N (.ref a :: ws) (.ow bs :: ds.map OV.sh) (by simp [h.length]), fun p hp => by cases hp⟩
  · have z : F b = none := z
    rw [z] at e; cases e
  · rcases nown i o e with ⟨rfl, rfl⟩ | ⟨j, d, rfl, h1, rfl⟩
    · exact ⟨_, s0, a, vb, rfl, fa, ha, hb⟩
    · obtain ⟨v, h2, h3⟩ := h.get h1
      exact ⟨v, start_get (i := j + 1) h2, h3⟩
  · rcases nown i o e with ⟨rfl, rfl⟩ | ⟨j, d, rfl, h1, rfl⟩
    · rw [s0] at es
      cases es
      exact .inr (List.mem_singleton.mpr rfl)
    · cases eo
  · rcases nown i o e with ⟨rfl, rfl⟩ | ⟨j, d, rfl, h1, rfl⟩
    · rcases nown j u e' with ⟨rfl, rfl⟩ | ⟨k, d, rfl, h1, rfl⟩
      · exact absurd rfl hij
      · cases eo'
    · cases eo
  · have hp := List.mem_singleton.mp hp
    subst hp
    exact ⟨s0, .ow bs, by unfold startE; rfl, rfl⟩
end

section
variable {P : Program} {w : World} {K : PySem.W.Frag} {mg : Str → Option Value} {base : Heap}
/-- a def without parameters by reference -/
theorem fnP_ok {x qual : Str} {st : Stmt} {f : Addr} {fd : FuncData} {N ps : List Str} {k n np : Nat} {m : En → SRs} (F : Fun K x qual st f fd) (S : FnScope N ps (defScope st)) (en : N.length = n) (ep : ps.length = np)
    (hbody : ∀ (cdv : Value) (A : Around) (outer : List Env) (s : Shared) (H : Hp) (E : XK) (g : G), A.guards = some [] → Room k (A.deeper (PyProof.Rows.envOfC qual (defScope st) s.heap.objs.size f cdv)) → g.B = [] → g.w = w → g.W = none → g.xc = none →
      DSs (cxOf CX0 P w K mg base N qual (defScope st) f cdv A outer s H E).nox g (defBody st) m) : FnG P w K mg base CX0 (k + 1) f fd ps (spP K np (fnP n m)) := by
  subst en ep
  refine fnG_of F S (fun vs H Q E ⟨F, ds, o, _, h, hl, _⟩ => by rw [h.length]; exact hl) fun cdv A outer s H vs Q E hg hr hsp => ?_
  obtain ⟨Fz, ds, o, sub, h, hl, ef, q⟩ := hsp
  refine ⟨_, PSs.nox (hbody cdv A outer s H E ⟨Fz, H, [], [], w, none, none⟩ hg hr rfl rfl rfl rfl), Fz, startE N.length (ds.map OV.sh), relP sub h, ?_⟩
  unfold fnP at ef
  revert ef
  cases m (startE N.length (ds.map OV.sh)) with
  | nx r' =>
    intro ef F' H' s' sm R'
    cases ef
    exact q F' H' .non sm R'.sub (fun b o e e0 => R'.fnew b o e e0) (fun b o e => R'.keep b o e fun p hp => by cases hp) .non
  | rt o' r' =>
    intro ef F' H' s' v sm R' hv
    cases ef
    refine q F' H' v sm R'.sub (fun b o e e0 => R'.fnew b o e e0) (fun b o e => R'.keep b o e fun p hp => by cases hp) ?_
    cases o with
    | sh d => exact hv
    | ow xs =>
      obtain ⟨a, vs, e1, e2, e3, e4, e5, _⟩ := hv
      exact ⟨a, vs, e1, e2, e3, e4, e5⟩
    | od xs => exact hv.elim
    | oi c xs => exact hv.elim
    | th xs => exact hv.elim
    | exc c => exact hv.elim
  | bk r' => intro ef; cases ef
  | ct r' => intro ef; cases ef
  | bad => intro ef; cases ef
  | ex x r' => intro ef; cases ef
/-- a def whose first parameter is a list by reference -/
theorem fnB_ok {x qual : Str} {st : Stmt} {f : Addr} {fd : FuncData} {N : List Str} {p0 : Str} {ps : List Str} {k n np : Nat} {m : En → SRs} (F : Fun K x qual st f fd) (S : FnScope N (p0 :: ps) (defScope st)) (en : N.length = n) (ep : ps.length = np)
    (hbody : ∀ (cdv : Value) (A : Around) (outer : List Env) (s : Shared) (H : Hp) (E : XK) (g : G), A.guards = some [] → Room k (A.deeper (PyProof.Rows.envOfC qual (defScope st) s.heap.objs.size f cdv)) → g.B.map (·.1) = [0] → g.w = w → g.W = none → g.xc = none →
      DSs (cxOf CX0 P w K mg base N qual (defScope st) f cdv A outer s H E).nox g (defBody st) m) : FnG P w K mg base CX0 (k + 1) f fd (p0 :: ps) (spB K np (fnB n m)) := by
  subst en ep
  refine fnG_of F S (fun vs H Q E ⟨F, a, bs, vb, ws, ds, o, bs', e, _, _, _, _, h, hl, _⟩ => by rw [e, List.length_cons, List.length_cons, h.length, hl]) fun cdv A outer s H vs Q E hg hr hsp => ?_
  obtain ⟨Fz, a, bs, vb, ws, ds, o, bs', rfl, sub, fa, ha, hb, h, hl, ef, q⟩ := hsp
  refine ⟨_, PSs.nox (hbody cdv A outer s H E ⟨Fz, H, [(0, a)], [], w, none, none⟩ hg hr rfl rfl rfl rfl), Fz, startE N.length (.ow bs :: ds.map OV.sh), relB sub fa ha hb h, ?_⟩
  unfold fnB at ef
  have outs : ∀ {F' H' : Hp} {s' : St} {r' : En}, Rel K ⟨Fz, H, [(0, a)], [], w, none, none⟩ F' H' s' r' → (lookV r' 0).bind OV.lst? = some bs' → F' a = none ∧ ∃ vb', H' a = some (.lst vb') ∧ RDs K F' vb' bs' := fun {F' H' s' r'} R' e => by
    obtain ⟨o1, e1, e2⟩ := Option.bind_eq_some_iff.mp e
    obtain ⟨p1, _⟩ := R'.pin (0, a) (List.mem_singleton.mpr rfl)
    obtain ⟨v, h1, h2⟩ := R'.slot 0 o1 (lookV_some e1)
    rw [p1] at h1
    cases h1
    cases o1 with
    | sh d => cases e2
    | ow xs =>
      cases e2
      obtain ⟨b, vs, e3, e4, e5, e6⟩ := h2
      cases e3
      exact ⟨e4, vs, e5, e6⟩
    | od xs => cases e2
    | oi c xs => cases e2
    | th xs => cases e2
    | exc c => cases e2
  have kp : ∀ {F' H' : Hp} {s' : St} {r' : En}, Rel K ⟨Fz, H, [(0, a)], [], w, none, none⟩ F' H' s' r' → ∀ b o, H b = some o → b ≠ a → H' b = some o := fun {F' H' s' r'} R' b o e hb => R'.keep b o e fun p hp => by
    have hp := List.mem_singleton.mp hp
    subst hp
    exact fun z => hb z.symm
  revert ef
  cases m (startE N.length (.ow bs :: ds.map OV.sh)) with
  | nx r' =>
    intro ef F' H' s' sm R'
    obtain ⟨b, e1, e2⟩ := Option.map_eq_some_iff.mp ef
    cases e2
    obtain ⟨f1, vb', f2, f3⟩ := outs R' e1
    exact q F' H' .non vb' sm R'.sub (fun b o e e0 => R'.fnew b o e e0) (kp R') f1 f2 f3 .non
  | rt o' r' =>
    intro ef F' H' s' v sm R' hv
    obtain ⟨b, e1, e2⟩ := Option.map_eq_some_iff.mp ef
    cases e2
    obtain ⟨f1, vb', f2, f3⟩ := outs R' e1
    refine q F' H' v vb' sm R'.sub (fun b o e e0 => R'.fnew b o e e0) (kp R') f1 f2 f3 ?_
    cases o with
    | sh d => exact hv
    | ow xs =>
      obtain ⟨a, vs, e1, e2, e3, e4, e5, _⟩ := hv
      exact ⟨a, vs, e1, e2, e3, e4, e5⟩
    | od xs => exact hv.elim
    | oi c xs => exact hv.elim
    | th xs => exact hv.elim
    | exc c => exact hv.elim
  | bk r' => intro ef; cases ef
  | ct r' => intro ef; cases ef
  | bad => intro ef; cases ef
  | ex x r' => intro ef; cases ef
end

/-! ### calls -/
structure HasP (P : Program) (w : World) (K : PySem.W.Frag) (mg : Str → Option Value) (base : Heap) (k : Nat) (x : Str) (n : Nat) (f : List D → Option OV) : Prop where
  ex : ∃ fa fd ps, FnG P w K mg base CX0 k fa fd ps (spP K n f) ∧ mg x = some (.ref fa) ∧ PySem.W.keepIn K (.ref fa) = true ∧ Binds K fd ps []
structure HasB (P : Program) (w : World) (K : PySem.W.Frag) (mg : Str → Option Value) (base : Heap) (k : Nat) (x : Str) (n : Nat) (f : List D → List D → Option (OV × List D)) : Prop where
  ex : ∃ fa fd ps, FnG P w K mg base CX0 k fa fd ps (spB K n f) ∧ mg x = some (.ref fa) ∧ PySem.W.keepIn K (.ref fa) = true ∧ Binds K fd ps []
theorem HasP.mono {P : Program} {w : World} {K : PySem.W.Frag} {mg : Str → Option Value} {base : Heap} {j k : Nat} {x : Str} {n : Nat} {f : List D → Option OV} (h : HasP P w K mg base j x n f) (hk : j ≤ k) : HasP P w K mg base k x n f := by
  obtain ⟨fa, fd, ps, F, h1, h2, h3⟩ := h.ex
  exact ⟨fa, fd, ps, F.mono hk, h1, h2, h3⟩
theorem HasB.mono {P : Program} {w : World} {K : PySem.W.Frag} {mg : Str → Option Value} {base : Heap} {j k : Nat} {x : Str} {n : Nat} {f : List D → List D → Option (OV × List D)} (h : HasB P w K mg base j x n f) (hk : j ≤ k) : HasB P w K mg base k x n f := by
  obtain ⟨fa, fd, ps, F, h1, h2, h3⟩ := h.ex
  exact ⟨fa, fd, ps, F.mono hk, h1, h2, h3⟩
/-- f(e, ..) by data -/
def callP (n : Nat) (f : List D → Option OV) (fs : List (En → Rs D)) : En → Rs OV := fun r => (evs fs r).bind fun ds r1 => if ds.length = n then ofO (f ds) r1 else .bad
/-- f(bag, e, ..), the bag in slot j -/
def callB (n : Nat) (f : List D → List D → Option (OV × List D)) (j : Nat) (fs : List (En → Rs D)) : En → Rs OV := fun r => (fill r j).bind fun _ r => (evs fs r).bind fun ds r1 => if ds.length = n then
  (ofO (((lookV r1 j).bind OV.lst?).bind fun bs => f bs ds) r1).bind fun z r1 => .ok z.1 (r1.set j (some (.ow z.2))) else .bad
section
variable {X : Cx} {g : G} {k n : Nat} {x : Str} {p pos : Pos} {e : Expr} {es : List Expr}
theorem do_callP {f : List D → Option OV} {fs : List (En → Rs D)} (h : HasP X.prog X.w X.K X.mg X.base k x n f) (hgd : X.A.guards = some []) (hr : Room k X.A) (ha : DA X g (e :: es) fs) (hg : Gl X x := by rfl)
    (hdb : (x == ("__debug__" : Str)) = false := by decide) (he : starEach (e :: es) X.env = (false, eval e X.env) :: starEach es X.env := by rfl) (hpl : (backTo pos (starEach es X.env)).any (·.1) = false := by rfl) : DO X g (.Call (.Name x p) (e :: es) [] pos) (callP n f fs) := by
  obtain ⟨fa, fd, ps, F, h1, h2, h3⟩ := h.ex
  refine PE.imp (pe_callG1 F hgd hr hg h1 h2 h3 pass0 ha hdb he hpl) fun s H Q ⟨Fz, r, R, q⟩ => ⟨Fz, r, R, post_mono (post_bind q) fun ds r1 q F1 H1 vs sm R1 hvs => ?_⟩
  obtain ⟨hn, q⟩ := post_if q
  obtain ⟨o, ef, q⟩ := post_ofO q
  refine ⟨F1, ds, o, R1.sub, hvs, hn, ef, fun F' H' v s1 s2 fr s3 hv => ?_⟩
  have fn : ∀ {a : Addr} {u : HO}, F1 a = none → H1 a = some u → F' a = none := fun {a u} z1 z2 => by
    cases z : F' a with
    | none => rfl
    | some o' => rw [fr a o' z z1] at z2; cases z2
  have R' : Rel X.K g F' H' s r1 := by
    refine ⟨s2, R1.f0.trans s1, fun b u e e0 => ?_, fun b u e hb => s3 _ _ (R1.keep b u e hb), fun i u e => ?_, R1.own, R1.dist, R1.pin, R1.len, fun q hq => ?_⟩
    · cases z : F1 b with
      | some u' => exact R1.fnew b u' z e0
      | none => exact R1.live (fr b u e z)
    · obtain ⟨w, a1, a2⟩ := R1.slot i u e
      exact ⟨w, a1, RO.mono s1 (fun a vs ew e2 e3 => ⟨fn e2 e3, s3 _ _ e3⟩) a2⟩
    · obtain ⟨x1, x2, x3⟩ := R1.ext q hq
      exact ⟨s3 _ _ x1, fn x2 x1, x3⟩
  refine q F' H' v (sm.trans s1) R' ?_
  cases o with
  | sh d => exact hv
  | ow xs =>
    obtain ⟨a, us, e1, e2, e3, e4, e5⟩ := hv
    exact ⟨a, us, e1, e2, e3, e4, R1.live e5, fun j o e eo => not_own R1 e5 j o e eo, fun q hq z => by have := (R1.ext q hq).1; rw [z, e5] at this; cases this⟩
  | od xs => exact hv.elim
  | oi c xs => exact hv.elim
  | th xs => exact hv.elim
  | exc c => exact hv.elim
/-- f(bag, e, ..): the bag is the list that slot j owns -/
theorem do_callB {f : List D → List D → Option (OV × List D)} {j : Nat} {y : Str} {yp : Pos} {fs : List (En → Rs D)} (h : HasB X.prog X.w X.K X.mg X.base k x n f) (hgd : X.A.guards = some []) (hr : Room k X.A) (hj : PE X (.Name y yp) (tVar j)) (ha : DA X g es fs)
    (hg : Gl X x := by rfl) (hst : starEach (.Name y yp :: es) X.env = (false, eval (.Name y yp) X.env) :: starEach es X.env := by rfl)
    (hdb : (x == ("__debug__" : Str)) = false := by decide) (hpl : (backTo pos (starEach es X.env)).any (·.1) = false := by rfl) : DO X g (.Call (.Name x p) (.Name y yp :: es) [] pos) (callB n f j fs) := by
  obtain ⟨fa, fd, ps, F, h1, h2, h3⟩ := h.ex
  refine PE.imp (pe_callG1 F hgd hr hg h1 h2 h3 pass0 (pa_cons hj ha hst) hdb hst hpl) fun s H Q ⟨Fz, r, R, q⟩ => ?_
  obtain ⟨⟨o, eo⟩, q⟩ := post_fill (post_bind q)
  obtain ⟨v, hv, _⟩ := R.slot j o eo
  refine ⟨v, hv, Fz, r, R, post_mono (post_bind q) fun ds r1 q F1 H1 vs sm R1 hvs => ?_⟩
  obtain ⟨hn, q⟩ := post_if q
  obtain ⟨⟨o, bs'⟩, ef, q⟩ := post_ofO (post_bind q)
  obtain ⟨bs, eb, ef⟩ := Option.bind_eq_some_iff.mp ef
  obtain ⟨ob, e1, e2⟩ := Option.bind_eq_some_iff.mp eb
  cases ob with
  | sh d => cases e2
  | ow xs =>
    cases e2
    have ej := lookV_some e1
    obtain ⟨v', hv', hb⟩ := R1.slot j _ ej
    rw [hv] at hv'
    cases hv'
    obtain ⟨a, vb, rfl, fa1, ha1, hb1⟩ := hb
    refine ⟨F1, a, bs, vb, vs, ds, o, bs', rfl, R1.sub, fa1, ha1, hb1, hvs, hn, ef, fun F' H' v vb' s1 s2 fr kp fa2 ha2 hb2 hv2 => ?_⟩
    have hj1 : j < r1.length := (List.getElem?_eq_some_iff.mp ej).1
    have fn : ∀ {c : Addr} {u : HO}, F1 c = none → H1 c = some u → F' c = none := fun {c u} z1 z2 => by
      cases z : F' c with
      | none => rfl
      | some o' => rw [fr c o' z z1] at z2; cases z2
    have ao : g.H0 a = none ∨ (j, a) ∈ g.B := R1.own j _ a ej rfl hv
    -- the slots behind the call
    have cs : ∀ (i : Nat) (u : OV), (r1.set j (some (.ow bs')))[i]? = some (some u) → (i = j ∧ u = .ow bs') ∨ (i ≠ j ∧ r1[i]? = some (some u)) := fun i u z => by
      by_cases hi : j = i
      · subst hi
        rw [List.getElem?_set_self hj1] at z
        cases z
        exact .inl ⟨rfl, rfl⟩
      · rw [List.getElem?_set_ne hi] at z
        exact .inr ⟨fun z => hi z.symm, z⟩
    have ow1 : ∀ (i : Nat) (u : OV), (r1.set j (some (.ow bs')))[i]? = some (some u) → u.own = true → ∃ u', r1[i]? = some (some u') ∧ u'.own = true := fun i u z zo => by
      rcases cs i u z with ⟨rfl, rfl⟩ | ⟨_, z'⟩
      · exact ⟨_, ej, rfl⟩
      · exact ⟨u, z', zo⟩
    have R' : Rel X.K g F' H' s (r1.set j (some (.ow bs'))) := by
      refine ⟨s2, R1.f0.trans s1, fun b u e e0 => ?_, fun b u e hb => ?_, fun i u e => ?_, fun i u b e eo eb => ?_, fun i i' u u' b hii e eo e' eo' => ?_, fun q hq => ?_, by rw [List.length_set]; exact R1.len, fun q hq => ?_⟩
      · cases z : F1 b with
        | some u' => exact R1.fnew b u' z e0
        | none => exact R1.live (fr b u e z)
      · refine kp _ _ (R1.keep b u e hb) fun z => ?_
        subst z
        rcases ao with z | z
        · rw [z] at e; cases e
        · exact hb _ z rfl
      · rcases cs i u e with ⟨rfl, rfl⟩ | ⟨hi, e⟩
        · exact ⟨_, hv, a, vb', rfl, fa2, ha2, hb2⟩
        · obtain ⟨w, a1, a2⟩ := R1.slot i u e
          refine ⟨w, a1, ?_⟩
          cases u with
          | sh d => exact RD.mono s1 d a2
          | ow ys =>
            obtain ⟨c, ws, rfl, c2, c3, c4⟩ := a2
            exact ⟨c, ws, rfl, fn c2 c3, kp _ _ c3 fun z => R1.dist i j _ _ a hi e rfl ej rfl (by rw [a1, z]) hv, RDs.mono s1 ys c4⟩
          | od ys =>
            obtain ⟨c, ws, rfl, c2, c3, c4⟩ := a2
            exact ⟨c, ws, rfl, fn c2 c3, kp _ _ c3 fun z => R1.dist i j _ _ a hi e rfl ej rfl (by rw [a1, z]) hv, RDm.mono s1 ys c4⟩
          | oi c ys =>
            obtain ⟨c, ws, rfl, c2, c3, c4⟩ := a2
            exact ⟨c, ws, rfl, fn c2 c3, kp _ _ c3 fun z => R1.dist i j _ _ a hi e rfl ej rfl (by rw [a1, z]) hv, RDi.mono s1 ys c4⟩
          | th ys =>
            obtain ⟨c, ws, rfl, c2, c3, c4⟩ := a2
            exact ⟨c, ws, rfl, fn c2 c3, kp _ _ c3 fun z => R1.dist i j _ _ a hi e rfl ej rfl (by rw [a1, z]) hv, RT.mono s1 ys c4⟩
          | exc c => exact RE.mono s1 a2
      · obtain ⟨u', e', eo'⟩ := ow1 i u e eo
        exact R1.own i u' b e' eo' eb
      · obtain ⟨w, f1, f2⟩ := ow1 i u e eo
        obtain ⟨w', f1', f2'⟩ := ow1 i' u' e' eo'
        exact R1.dist i i' w w' b hii f1 f2 f1' f2'
      · obtain ⟨p1, u, p2, p3⟩ := R1.pin q hq
        refine ⟨p1, ?_⟩
        by_cases hi : j = q.1
        · exact ⟨.ow bs', by rw [← hi]; exact List.getElem?_set_self hj1, rfl⟩
        · exact ⟨u, by rw [List.getElem?_set_ne hi]; exact p2, p3⟩
      · obtain ⟨x1, x2, x3⟩ := R1.ext q hq
        refine ⟨kp _ _ x1 fun z => x3 j _ ej rfl (by rw [hv, z]), fn x2 x1, fun i u e eo => ?_⟩
        obtain ⟨u', e', eo'⟩ := ow1 i u e eo
        exact x3 i u' e' eo'
    refine q F' H' v (sm.trans s1) R' ?_
    cases o with
    | sh d => exact hv2
    | ow xs =>
      obtain ⟨c, us, d1, d2, d3, d4, d5⟩ := hv2
      refine ⟨c, us, d1, d2, d3, d4, R1.live d5, fun i u e eo => ?_, fun q hq z => by have := (R1.ext q hq).1; rw [z, d5] at this; cases this⟩
      obtain ⟨u', e', eo'⟩ := ow1 i u e eo
      exact not_own R1 d5 i u' e' eo'
    | od xs => exact hv2.elim
    | oi c xs => exact hv2.elim
    | th xs => exact hv2.elim
    | exc c => exact hv2.elim
  | od xs => cases e2
  | oi c xs => cases e2
  | th xs => cases e2
  | exc c => cases e2
/-- a name handed out: what it owned goes along -/
def mvD (i : Nat) : En → Rs OV := fun r => match lookV r i with
  | some (.sh d) => .ok (.sh d) r
  | some (.ow xs) => .ok (.ow xs) (r.set i none)
  | _ => .bad
theorem do_var (i : Nat) (hb : ∀ p ∈ g.B, p.1 ≠ i) (h : PE X (.Name x p) (tVar i)) : DO X g (.Name x p) (mvD i) := by
  refine PE.imp h fun s H Q ⟨F, r, R, q⟩ => ?_
  unfold mvD at q
  revert q
  cases e : lookV r i with
  | none => exact fun q => q.elim
  | some o =>
    have e := lookV_some e
    obtain ⟨v, h1, h2⟩ := R.slot i o e
    cases o with
    | sh d => exact fun q => ⟨v, h1, q F H v (Same.refl _) R h2⟩
    | ow xs =>
      intro q
      obtain ⟨a, vs, rfl, e2, e3, e4⟩ := h2
      have ew : r.set i none = wipeE r [i] := rfl
      have h0 : g.H0 a = none := by
        rcases R.own i _ a e rfl h1 with z | z
        · exact z
        · exact absurd rfl (hb _ z)
      have R' : Rel X.K g F H s (wipeE r [i]) := R.forget (fun p hp z => hb p hp (List.mem_singleton.mp z)) rfl fun _ _ => rfl
      refine ⟨_, h1, q F H (.ref a) (Same.refl _) R' ⟨a, vs, rfl, e2, e3, e4, h0, fun j o ej eo z => ?_, fun p hp z => ?_⟩⟩
      · have ej : (wipeE r [i])[j]? = some (some o) := ej
        obtain ⟨e5, e6⟩ := wipeE_some ej
        exact R.dist i j _ _ a (fun z => e6 (List.mem_singleton.mpr z.symm)) e rfl e5 eo h1 z
      · exact (R.ext p hp).2.2 i _ e rfl (by rw [h1, z])
    | od xs => exact fun q => q.elim
    | oi c xs => exact fun q => q.elim
    | th xs => exact fun q => q.elim
    | exc c => exact fun q => q.elim
end

/-! ### the law's own call -/
/-- the base has the table of modules: what is made stands elsewhere -/
def SysAt (base : Heap) : Prop := ∃ o, base.get? sysModules = some o
theorem law_callG {P : Program} {w : World} {K : PySem.W.Frag} {mg mb : Str → Option Value} {k : Nat} {fa a : Addr} {fd : FuncData} {x : Str} {sp : Sp} {s : Shared} {us : List Value} {ns : List Int}
    (inK : K.In s.heap) (hns : s.heap.Ns mainGlobals mg) (hbn : s.heap.Ns builtinsNs mb) (hbb : ∀ x : Str, x ≠ "__name__" → mb x = bootBuiltins x) (lim : s.heap.NoLimit) (hsys : ∃ mm, s.heap.Ns sysModules mm) (gens : s.gens = #[])
    (at_a : s.heap.get? a = some { cls := .type "list", data := .seq us.toArray }) (hints : PyProof.Rows.IntsAre us ns) (short : ns.length ≤ sizeLine) (room : Room k callerA)
    (F : ∀ base : Heap, K.In base → base.Ns mainGlobals mg → SysAt base → FnG P w K mg base CX0 k fa fd [x] sp) (bind : ∀ (s : Shared) (u : Value), BindsTo s fd ⟨[u], []⟩ [(x, u)])
    (hsp : ∀ H : Hp, Only H → SqL K H a (ns.map V.int) → sp [.ref a] H (fun v _ => v = .bl true) fun _ _ _ => False) :
    codeAny (model P w) callerA (.call (.ref fa) ⟨[.ref a], []⟩) (fun r s' => r = .ok (.ret (.bool true)) ∧ OldK s.heap s'.heap ∧ s'.os = s.os ∧ PyProof.Rows.AllBare s'.gens) s := by
  have main : ∀ H : Hp, Only H → SqL K H a (ns.map V.int) → HOk P w H s.heap → (∀ b, H b ≠ none → b = a) → (H a ≠ none → K.lookup a = none) →
      codeAny (model P w) callerA (.call (.ref fa) ⟨[.ref a], []⟩) (fun r s' => r = .ok (.ret (.bool true)) ∧ OldK s.heap s'.heap ∧ s'.os = s.os ∧ PyProof.Rows.AllBare s'.gens) s := by
    intro H only sq ok sole notK
    have hid : ∀ {b : Addr} {o : Obj}, s.heap.get? b = some o → H b = none → (hidT s.heap H).get? b = some o := fun z1 z2 => hidT_get z1 z2
    have dicts : ∀ {b : Addr} {o : Obj} {es : Array DictEntry} {ep : Nat}, s.heap.get? b = some o → o.data = .dict es ep → H b = none := by
      intro b o es ep z1 z2
      cases hz : H b with
      | none => rfl
      | some u =>
        have zb := sole b (by rw [hz]; exact Option.some_ne_none _)
        subst zb
        rw [at_a] at z1
        cases z1
        have z3 : Data.seq us.toArray _ = Data.dict es ep := z2
        cases z3
    have nsH : ∀ {b : Addr} {m : Str → Option Value}, s.heap.Ns b m → (hidT s.heap H).Ns b m := by
      rintro b m ⟨o, es, ep, z1, z2, z3⟩
      exact ⟨o, es, ep, hid z1 (dicts z1 z2), z2, z3⟩
    have inB : K.In (hidT s.heap H) := by
      intro b o z1
      refine hid (inK b o z1) ?_
      cases hz : H b with
      | none => rfl
      | some u =>
        have zb := sole b (by rw [hz]; exact Option.some_ne_none _)
        subst zb
        rw [notK (by rw [hz]; exact Option.some_ne_none _)] at z1
        cases z1
    have modl : Mod K mg (hidT s.heap H) := by
      obtain ⟨mc, l1, l2⟩ := lim
      exact ⟨inB, nsH hns, ⟨mb, nsH hbn, hbb⟩, ⟨mc, nsH l1, l2⟩⟩
    have en : Env0 P w K mg (hidT s.heap H) callerA [] s H := ⟨rfl, modl, fun b o z => of_hidT z, Nat.le_of_eq (hidT_size _ _), trivial, fun b z => absurd (show b ∈ ([] : List Addr) from z) List.not_mem_nil, ok, .of_eq gens⟩
    have sysB : SysAt (hidT s.heap H) := by
      obtain ⟨mm, hm⟩ := hsys
      obtain ⟨o, es, ep, z1, _⟩ := nsH hm
      exact ⟨o, z1⟩
    refine codeAny_mono ((F _ inB (nsH hns) sysB).run callerA [] s H ⟨[.ref a], []⟩ [.ref a] [.ref a] _ _ rfl room en (bind s (.ref a)) (.cons rfl .nil) (hsp H only sq)) ?_
    intro res s2 h2
    cases res with
    | error er => cases h2
    | ok fl =>
      cases fl with
      | next => cases h2
      | brk => cases h2
      | cont => cases h2
      | ret u =>
        obtain ⟨v, H2, os2, bare2, un2, ok2, rv, hv⟩ := h2
        have hv : v = .bl true := hv
        subst hv
        obtain rfl : u = Value.bool true := rv
        refine ⟨rfl, OldK.of_keep ?_, os2, bare2⟩
        intro b o z1
        cases hz : H b with
        | none => exact un2.keep b o z1 hz (fun z => absurd (show b ∈ ([] : List Addr) from z) List.not_mem_nil) (by simp)
        | some u =>
          cases only b with
          | inl z => rw [hz] at z; cases z
          | inr z =>
            obtain ⟨ob, xs, z⟩ := z
            have kept := (ok2 b _ (un2.frzs b ob _ z)).1
            have was := (ok b _ z).1
            rw [z1] at was
            cases was
            exact kept
  have rel := vals_ints hints
  cases look : K.lookup a with
  | some o =>
    have z := inK a o look
    rw [at_a] at z
    cases z
    exact main (fun _ => none) (fun _ => .inl rfl) (.inr ⟨_, us.toArray, _, look, rfl, rfl, rfl, by rw [List.size_toArray, hints.length]; exact short, by simpa using rel⟩) (fun b u z => nomatch (show (none : Option HO) = some u from z)) (fun b z => absurd rfl z) fun z => absurd rfl z
  | none =>
    let u0 : HO := .frz { cls := .type "list", data := .seq us.toArray } (.lst (ns.map V.int))
    have h1 : (fun b => if b = a then some u0 else none : Hp) a = some u0 := if_pos rfl
    have h2 : ∀ b, b ≠ a → (fun b => if b = a then some u0 else none : Hp) b = none := fun b hb => if_neg hb
    refine main (fun b => if b = a then some u0 else none) (fun b => ?_) (.inl (.inr ⟨_, h1⟩)) (fun b u z => ?_) (fun b z => Classical.byContradiction fun hb => z (h2 b hb)) fun _ => look
    · by_cases hb : b = a
      · subst hb; exact .inr ⟨_, _, h1⟩
      · exact .inl (h2 b hb)
    · by_cases hb : b = a
      · subst hb
        have z := h1.symm.trans z
        cases z
        exact ⟨at_a, by rw [List.length_map]; exact short, us, _, rel, at_a⟩
      · have z := (h2 b hb).symm.trans z
        cases z
end DL

/-! Data layer, part 6: operators, built-ins and methods by data. -/
namespace DL
open PySem L2

/-! ### data as the library's data; equality -/
mutual
def D.py : D → PyData
  | .non => .none
  | .bl b => .bool b
  | .int i => .int i
  | .str x => .str x
  | .lst xs => .list (pys xs)
  | .tup xs => .tuple (pys xs)
  | .dic kvs => .dict (pyk kvs)
  | .scr ns => .list (ns.map PyData.int)
  | .obj _ _ => .none
def pys : List D → List PyData
  | [] => []
  | d :: ds => d.py :: pys ds
def pyk : List (Key × D) → List (PyData × PyData)
  | [] => []
  | (k, d) :: ds => ((match k with | .inl i => .int i | .inr x => .str x), d.py) :: pyk ds
end
/-! plain: no dict, no script, texts of code points -/
mutual
def D.pl : D → Bool
  | .non => true
  | .bl _ => true
  | .int _ => true
  | .str x => x.cps.all (· < 1114112)
  | .lst xs => plAll xs
  | .tup xs => plAll xs
  | .dic _ => false
  | .scr _ => false
  | .obj _ _ => false
def plAll : List D → Bool
  | [] => true
  | d :: ds => d.pl && plAll ds
end
mutual
def D.dp : D → Nat
  | .lst xs => dpAll xs + 1
  | .tup xs => dpAll xs + 1
  | _ => 0
def dpAll : List D → Nat
  | [] => 0
  | d :: ds => max d.dp (dpAll ds)
end
mutual
def D.eqv : D → D → Bool
  | .non, .non => true
  | .bl a, .bl b => a == b
  | .bl a, .int j => (if a then 1 else 0) == j
  | .int i, .bl b => i == (if b then 1 else 0)
  | .int i, .int j => i == j
  | .str x, .str y => x == y
  | .lst xs, .lst ys => eqvAll xs ys
  | .tup xs, .tup ys => eqvAll xs ys
  | _, _ => false
def eqvAll : List D → List D → Bool
  | [], [] => true
  | x :: xs, y :: ys => x.eqv y && eqvAll xs ys
  | _, _ => false
end
/-- may be compared at any depth -/
def D.fit (d : D) : Bool := d.pl && decide (d.dp ≤ 64)
mutual
theorem py_lay : ∀ d : D, d.pl = true → d.py.canLay0 = true
  | .non, _ => rfl
  | .bl _, _ => rfl
  | .int _, _ => rfl
  | .str x, h => by
    exact h
  | .lst xs, h => by
    have h : plAll xs = true := h
    show PyData.canLayAll0 (pys xs) = true
    exact pys_lay xs h
  | .tup xs, h => by
    have h : plAll xs = true := h
    show PyData.canLayAll0 (pys xs) = true
    exact pys_lay xs h
  | .dic _, h => by cases h
  | .scr _, h => by cases h
  | .obj _ _, h => by cases h
theorem pys_lay : ∀ ds : List D, plAll ds = true → PyData.canLayAll0 (pys ds) = true
  | [], _ => rfl
  | d :: ds, h => by
    have h : (d.pl && plAll ds) = true := h
    obtain ⟨h1, h2⟩ := Bool.and_eq_true_iff.mp h
    show (d.py.canLay0 && PyData.canLayAll0 (pys ds)) = true
    rw [py_lay d h1, pys_lay ds h2]; rfl
end
mutual
theorem py_depth : ∀ d : D, d.pl = true → d.py.depth = d.dp
  | .non, _ => rfl
  | .bl _, _ => rfl
  | .int _, _ => rfl
  | .str x, h => rfl
  | .lst xs, h => by
    have h : plAll xs = true := h
    show PyData.depthAll (pys xs) + 1 = dpAll xs + 1
    rw [pys_depth xs h]
  | .tup xs, h => by
    have h : plAll xs = true := h
    show PyData.depthAll (pys xs) + 1 = dpAll xs + 1
    rw [pys_depth xs h]
  | .dic _, h => by cases h
  | .scr _, h => by cases h
  | .obj _ _, h => by cases h
theorem pys_depth : ∀ ds : List D, plAll ds = true → PyData.depthAll (pys ds) = dpAll ds
  | [], _ => rfl
  | d :: ds, h => by
    have h : (d.pl && plAll ds) = true := h
    obtain ⟨h1, h2⟩ := Bool.and_eq_true_iff.mp h
    show max d.py.depth (PyData.depthAll (pys ds)) = max d.dp (dpAll ds)
    rw [py_depth d h1, pys_depth ds h2]
end
theorem fit_shaped {d : D} (h : d.fit = true) : SeqAt.shaped d.py = true := by
  obtain ⟨h1, h2⟩ := Bool.and_eq_true_iff.mp h
  have h2 := of_decide_eq_true h2
  unfold SeqAt.shaped
  rw [py_lay d h1, py_depth d h1, decide_eq_true h2]; rfl
mutual
theorem py_eqv : ∀ d e : D, d.pl = true → e.pl = true → PyData.eqv d.py e.py = d.eqv e
  | .non, e, _, he => by cases e <;> first | rfl | cases he
  | .bl a, e, _, he => by cases e <;> first | rfl | cases he
  | .int a, e, _, he => by cases e <;> first | rfl | cases he
  | .str a, e, _, he => by cases e <;> first | rfl | cases he
  | .lst xs, e, h, he => by
    cases e with
    | lst ys =>
      have h : plAll xs = true := h
      have he : plAll ys = true := he
      show PyData.eqvAll (pys xs) (pys ys) = eqvAll xs ys
      exact pys_eqv xs ys h he
    | non => rfl
    | bl _ => rfl
    | int _ => rfl
    | str _ => rfl
    | tup _ => rfl
    | dic _ => cases he
    | scr _ => cases he
    | obj _ _ => cases he
  | .tup xs, e, h, he => by
    cases e with
    | tup ys =>
      have h : plAll xs = true := h
      have he : plAll ys = true := he
      show PyData.eqvAll (pys xs) (pys ys) = eqvAll xs ys
      exact pys_eqv xs ys h he
    | non => rfl
    | bl _ => rfl
    | int _ => rfl
    | str _ => rfl
    | lst _ => rfl
    | dic _ => cases he
    | scr _ => cases he
    | obj _ _ => cases he
  | .dic _, _, h, _ => by cases h
  | .scr _, _, h, _ => by cases h
  | .obj _ _, _, h, _ => by cases h
theorem pys_eqv : ∀ ds es : List D, plAll ds = true → plAll es = true → PyData.eqvAll (pys ds) (pys es) = eqvAll ds es
  | [], [], _, _ => rfl
  | [], _ :: _, _, _ => rfl
  | _ :: _, [], _, _ => rfl
  | d :: ds, e :: es, h, h' => by
    have h : (d.pl && plAll ds) = true := h
    have h' : (e.pl && plAll es) = true := h'
    obtain ⟨h1, h2⟩ := Bool.and_eq_true_iff.mp h
    obtain ⟨h3, h4⟩ := Bool.and_eq_true_iff.mp h'
    show (PyData.eqv d.py e.py && PyData.eqvAll (pys ds) (pys es)) = (d.eqv e && eqvAll ds es)
    rw [py_eqv d e h1 h3, pys_eqv ds es h2 h4]
end
section
variable {X : Cx} {pins : List (Addr × Obj)} {s : Shared} {F H : Hp} {sg : St}
mutual
theorem RD.reads (I : Inv X pins sg H s) : ∀ (d : D) (v : V) (u : Value), d.pl = true → RD X.K H v d → RelV v u → ∃ as, Reads s.heap u d.py as
  | .non, _, _, _, h, r => by cases h; cases r; exact ⟨_, Reads.none⟩
  | .bl b, _, _, _, h, r => by cases h; cases r; exact ⟨_, Reads.bool b⟩
  | .int i, _, _, _, h, r => by cases h; obtain ⟨t, rfl⟩ := r; exact ⟨_, Reads.int i t⟩
  | .str x, _, _, _, h, r => by cases h; obtain ⟨t, rfl⟩ := r; exact ⟨_, Reads.str x t⟩
  | .lst ds, _, _, hp, h, r => by
    have hp : plAll ds = true := hp
    cases h with
    | lst hs ha =>
      cases r
      obtain ⟨its, rv, ⟨o, n, ho, hc, _, hd⟩, _⟩ := I.list (SqL.of hs)
      obtain ⟨as, hr⟩ := RDs.reads I ds _ its hp ha rv
      exact ⟨_, Reads.list ho hc hd hr⟩
  | .tup ds, _, _, hp, h, r => by
    have hp : plAll ds = true := hp
    cases h with
    | tup hs ha =>
      cases r
      obtain ⟨its, rv, ⟨o, ho, hc, n, hd⟩, _⟩ := I.tuple hs
      obtain ⟨as, hr⟩ := RDs.reads I ds _ its hp ha rv
      exact ⟨_, Reads.tuple ho hc hd hr⟩
  | .dic _, _, _, hp, _, _ => by cases hp
  | .scr _, _, _, hp, _, _ => by cases hp
  | .obj _ _, _, _, hp, _, _ => by cases hp
theorem RDs.reads (I : Inv X pins sg H s) : ∀ (ds : List D) (vs : List V) (us : List Value), plAll ds = true → RDs X.K H vs ds → Vals vs us → ∃ as, ReadsAll s.heap us (pys ds) as
  | [], _, _, _, h, r => by cases h; cases r; exact ⟨_, ReadsAll.nil⟩
  | d :: ds, _, _, hp, h, r => by
    have hp : (d.pl && plAll ds) = true := hp
    obtain ⟨h1, h2⟩ := Bool.and_eq_true_iff.mp hp
    cases h with
    | cons a1 a2 =>
      cases r with
      | cons r1 r2 =>
        obtain ⟨as, q1⟩ := RD.reads I d _ _ h1 a1 r1
        obtain ⟨bs, q2⟩ := RDs.reads I ds _ _ h2 a2 r2
        exact ⟨_, ReadsAll.cons q1 q2⟩
end
end

/-- scalars are compared whatever their size -/
def D.sc : D → D → Option Bool
  | .int i, .int j => some (decide (i = j))
  | .str i, .str j => some (decide (i = j))
  | .bl i, .bl j => some (decide (i = j))
  | _, _ => none
/-- by the lengths alone, whatever is in them -/
def lenB : D → D → Option Bool
  | .lst xs, .lst ys => if xs.length = ys.length then none else some false
  | .tup xs, .tup [] => some xs.isEmpty
  | .tup (.str x :: xs), .tup [.str y] => some (decide (x = y) && xs.isEmpty)
  | _, _ => none
def eqB (d e : D) : Option Bool := match D.sc d e with
  | some b => some b
  | none => if d.fit && e.fit then some (d.eqv e) else lenB d e
def semEq (d e : D) : Option D := (eqB d e).map D.bl
def semNe (d e : D) : Option D := (eqB d e).map fun b => D.bl (!b)
def D.seq : D → Option (List D)
  | .lst xs => some xs
  | .tup xs => some xs
  | _ => none
def inB (d e : D) : Option Bool := match d, e with
  | .str x, .str y => some (!(Builtin.Str.occurrences y x 0 y.length 1).isEmpty)
  | d, e => match e.seq with
    | some ds => if d.fit && e.fit then some (ds.any fun z => z.eqv d) else none
    | none => none
def semIn (d e : D) : Option D := (inB d e).map D.bl
def semNotIn (d e : D) : Option D := (inB d e).map fun b => D.bl (!b)

section
variable {X : Cx} {g : G}
theorem sc_some {d e : D} {b : Bool} (h : D.sc d e = some b) : (∃ i j, d = .int i ∧ e = .int j ∧ b = decide (i = j)) ∨ (∃ i j, d = .str i ∧ e = .str j ∧ b = decide (i = j)) ∨ ∃ i j, d = .bl i ∧ e = .bl j ∧ b = decide (i = j) := by
  unfold D.sc at h
  split at h
  · cases h; exact .inl ⟨_, _, rfl, rfl, rfl⟩
  · cases h; exact .inr (.inl ⟨_, _, rfl, rfl, rfl⟩)
  · cases h; exact .inr (.inr ⟨_, _, rfl, rfl, rfl⟩)
  · cases h
theorem RB.tup {K : PySem.W.Frag} {F H : Hp} {v : V} {ds : List D} (sub : Same F H) (h : RB K F H v (.tup ds)) : ∃ a vs, v = .ref a ∧ SqT K H a vs ∧ SqT K F a vs ∧ RDs K F vs ds := by
  cases h.flat (fun _ => nofun) with
  | tup h1 h2 => exact ⟨_, _, rfl, same_sqT sub h1, h1, h2⟩
theorem opd_eq (hu : X.A.units + 64 < cLine) : OpR X (compareOp .Eq) (rD2 X.K g semEq) := by
  intro pins s sg H x y v u Q I rx ry h
  obtain ⟨F, s0, r, dx, dy, d, R, hx, hy, e, q⟩ := h
  obtain ⟨b, eb, rfl⟩ := Option.map_eq_some_iff.mp e
  clear e
  have e := eb
  unfold eqB at e
  split at e
  · next b' es =>
    cases e
    rcases sc_some es with ⟨i, j, rfl, rfl, rfl⟩ | ⟨i, j, rfl, rfl, rfl⟩ | ⟨i, j, rfl, rfl, rfl⟩
    · cases hx.flat (fun _ => nofun); cases hy.flat (fun _ => nofun)
      refine op_eq pins s sg H _ _ v u Q I rx ry ⟨rfl, ?_⟩
      have := q F H (.bl (decide (i = j))) (Same.refl _) R (.bl _)
      simpa using this
    · cases hx.flat (fun _ => nofun); cases hy.flat (fun _ => nofun)
      refine op_eq pins s sg H _ _ v u Q I rx ry ⟨rfl, ?_⟩
      have := q F H (.bl (decide (i = j))) (Same.refl _) R (.bl _)
      simpa using this
    · cases hx.flat (fun _ => nofun); cases hy.flat (fun _ => nofun)
      refine op_eq pins s sg H _ _ v u Q I rx ry ⟨rfl, ?_⟩
      have := q F H (.bl (decide (i = j))) (Same.refl _) R (.bl _)
      simpa using this
  · split at e
    · next hf =>
      cases e
      obtain ⟨f1, f2⟩ := Bool.and_eq_true_iff.mp hf
      have p1 := (Bool.and_eq_true_iff.mp f1).1
      have p2 := (Bool.and_eq_true_iff.mp f2).1
      obtain ⟨as, r1⟩ := RD.reads I dx x v p1 (hx.rd R.sub) rx
      obtain ⟨bs, r2⟩ := RD.reads I dy y u p2 (hy.rd R.sub) ry
      refine SeqAt.compareEq_shaped r1 r2 (fit_shaped f1) (fit_shaped f2) hu ⟨.bl _, H, I, rfl, ?_⟩
      rw [py_eqv dx dy p1 p2]
      exact q F H _ (Same.refl _) R (.bl _)
    · unfold lenB at e
      split at e
      · next xs ys =>
        split at e
        · cases e
        · next hne =>
          cases e
          obtain ⟨a, vs, rfl, h1, h2⟩ := hx.lst R.sub
          obtain ⟨b, ws, rfl, h3, h4⟩ := hy.lst R.sub
          cases rx
          cases ry
          obtain ⟨its, rv, pl, _⟩ := I.list (SqL.of h1)
          obtain ⟨its2, rv2, pl2, _⟩ := I.list (SqL.of h3)
          refine SeqAt.RcAt.lists_lengths pl.isList pl2.isList ?_ (by omega) X.prog X.w X.xe _ ⟨.bl false, H, I, rfl, q F H _ (Same.refl _) R (.bl _)⟩
          have z1 := rv.length
          have z2 := rv2.length
          have z3 := h2.length
          have z4 := h4.length
          simp only [List.size_toArray, bne_iff_ne, ne_eq]
          omega
      · next xs _ _ =>
        cases e
        obtain ⟨a, vs, rfl, h1, _, h2⟩ := hx.tup R.sub
        obtain ⟨b, ws, rfl, h3, _, h4⟩ := hy.tup R.sub
        cases rx
        cases ry
        obtain ⟨its, rv, pl, _⟩ := I.tuple h1
        obtain ⟨its2, rv2, pl2, _⟩ := I.tuple h3
        have z1 := rv.length
        have z2 := rv2.length
        have z3 := h2.length
        have z4 := h4.length
        have hz : its2 = [] := List.eq_nil_of_length_eq_zero (by rw [← z2, z4]; rfl)
        subst hz
        have hb : ((List.range (min its.toArray.size (List.toArray ([] : List Value)).size)).all (fun _ => true) && its.toArray.size == (List.toArray ([] : List Value)).size) = xs.isEmpty := by
          simp only [List.size_toArray, List.length_nil, Nat.min_zero, List.range_zero, List.all_nil, Bool.true_and]
          have z5 : its.length = xs.length := by rw [← z1, z3]
          rw [z5]
          cases xs with
          | nil => rfl
          | cons x xs => rfl
        have := SeqAt.RcAt.tuples (A := X.A) (s := s) (e := fun _ => true) pl pl2 (by omega) (fun j _ h => absurd h (by simp))
        rw [hb] at this
        exact this X.prog X.w X.xe _ ⟨.bl _, H, I, rfl, q F H _ (Same.refl _) R (.bl _)⟩
      · next x xs y _ _ =>
        cases e
        obtain ⟨a, vs, rfl, h1, _, h2⟩ := hx.tup R.sub
        obtain ⟨b, ws, rfl, h3, _, h4⟩ := hy.tup R.sub
        cases rx
        cases ry
        obtain ⟨its, rv, pl, _⟩ := I.tuple h1
        obtain ⟨its2, rv2, pl2, _⟩ := I.tuple h3
        cases h2 with
        | cons a1 a2 =>
        cases h4 with
        | cons a3 a4 =>
        cases a1; cases a3; cases a4
        cases rv with
        | cons r1 r2 =>
        cases rv2 with
        | cons r3 r4 =>
        obtain ⟨t1, rfl⟩ := r1
        obtain ⟨t2, rfl⟩ := r3
        cases r4
        have z1 := r2.length
        have z3 := a2.length
        rename_i its _ _
        have hb : ∀ (v u : Value) (its : List Value), its.length = xs.length → ((List.range (min (v :: its).toArray.size [u].toArray.size)).all (fun _ => decide (x = y)) && (v :: its).toArray.size == [u].toArray.size) = (decide (x = y) && xs.isEmpty) := by
          intro v u its z5
          have hm : min (its.length + 1) 1 = 1 := by omega
          simp only [List.size_toArray, List.length_cons, List.length_nil, Nat.zero_add, hm, z5]
          cases xs with
          | nil => simp [List.range, List.range.loop]
          | cons x xs => simp [List.range, List.range.loop]
        have := SeqAt.RcAt.tuples (A := X.A) (s := s) (e := fun _ => decide (x = y)) pl pl2 (by omega) (fun j _ h => by
          have : j = 0 := by simp at h; omega
          subst this
          exact SeqAt.EqAt.str_str _ _ _ _)
        rw [hb _ _ _ (by omega)] at this
        exact this X.prog X.w X.xe _ ⟨.bl _, H, I, rfl, q F H _ (Same.refl _) R (.bl _)⟩
      · cases e
theorem opd_ne (hu : X.A.units + 64 < cLine) : OpR X (compareOp .NotEq) (rD2 X.K g semNe) := by
  intro pins s sg H x y v u Q I rx ry h
  obtain ⟨F, s0, r, dx, dy, d, R, hx, hy, e, q⟩ := h
  obtain ⟨b, eb, rfl⟩ := Option.map_eq_some_iff.mp e
  clear e
  have e := eb
  unfold eqB at e
  split at e
  · next b' es =>
    cases e
    rcases sc_some es with ⟨i, j, rfl, rfl, rfl⟩ | ⟨i, j, rfl, rfl, rfl⟩ | ⟨i, j, rfl, rfl, rfl⟩
    · cases hx.flat (fun _ => nofun); cases hy.flat (fun _ => nofun)
      refine op_ne pins s sg H _ _ v u Q I rx ry ⟨rfl, ?_⟩
      have := q F H (.bl (!decide (i = j))) (Same.refl _) R (.bl _)
      simpa using this
    · cases hx.flat (fun _ => nofun); cases hy.flat (fun _ => nofun)
      refine op_ne pins s sg H _ _ v u Q I rx ry ⟨rfl, ?_⟩
      have := q F H (.bl (!decide (i = j))) (Same.refl _) R (.bl _)
      simpa using this
    · cases hx.flat (fun _ => nofun); cases hy.flat (fun _ => nofun)
      refine op_ne pins s sg H _ _ v u Q I rx ry ⟨rfl, ?_⟩
      have := q F H (.bl (!decide (i = j))) (Same.refl _) R (.bl _)
      simpa using this
  · split at e
    · next hf =>
      cases e
      obtain ⟨f1, f2⟩ := Bool.and_eq_true_iff.mp hf
      have p1 := (Bool.and_eq_true_iff.mp f1).1
      have p2 := (Bool.and_eq_true_iff.mp f2).1
      obtain ⟨as, r1⟩ := RD.reads I dx x v p1 (hx.rd R.sub) rx
      obtain ⟨bs, r2⟩ := RD.reads I dy y u p2 (hy.rd R.sub) ry
      refine SeqAt.compareNe_shaped r1 r2 (fit_shaped f1) (fit_shaped f2) hu ⟨.bl _, H, I, rfl, ?_⟩
      rw [py_eqv dx dy p1 p2]
      exact q F H _ (Same.refl _) R (.bl _)
    · unfold lenB at e
      split at e
      · next xs ys =>
        split at e
        · cases e
        · next hne =>
          cases e
          obtain ⟨a, vs, rfl, h1, h2⟩ := hx.lst R.sub
          obtain ⟨b, ws, rfl, h3, h4⟩ := hy.lst R.sub
          cases rx
          cases ry
          obtain ⟨its, rv, pl, _⟩ := I.list (SqL.of h1)
          obtain ⟨its2, rv2, pl2, _⟩ := I.list (SqL.of h3)
          refine SeqAt.RcNeAt.lists_lengths pl.isList pl2.isList ?_ (by omega) X.prog X.w X.xe _ ⟨.bl true, H, I, rfl, q F H _ (Same.refl _) R (.bl _)⟩
          have z1 := rv.length
          have z2 := rv2.length
          have z3 := h2.length
          have z4 := h4.length
          simp only [List.size_toArray, bne_iff_ne, ne_eq]
          omega
      · next xs _ _ =>
        cases e
        obtain ⟨a, vs, rfl, h1, _, h2⟩ := hx.tup R.sub
        obtain ⟨b, ws, rfl, h3, _, h4⟩ := hy.tup R.sub
        cases rx
        cases ry
        obtain ⟨its, rv, pl, _⟩ := I.tuple h1
        obtain ⟨its2, rv2, pl2, _⟩ := I.tuple h3
        have z1 := rv.length
        have z2 := rv2.length
        have z3 := h2.length
        have z4 := h4.length
        have hz : its2 = [] := List.eq_nil_of_length_eq_zero (by rw [← z2, z4]; rfl)
        subst hz
        have hb : ((List.range (min its.toArray.size (List.toArray ([] : List Value)).size)).all (fun _ => true) && its.toArray.size == (List.toArray ([] : List Value)).size) = xs.isEmpty := by
          simp only [List.size_toArray, List.length_nil, Nat.min_zero, List.range_zero, List.all_nil, Bool.true_and]
          have z5 : its.length = xs.length := by rw [← z1, z3]
          rw [z5]
          cases xs with
          | nil => rfl
          | cons x xs => rfl
        have := SeqAt.RcNeAt.tuples (A := X.A) (s := s) (e := fun _ => true) pl pl2 (by omega) (fun j _ h => absurd h (by simp))
        rw [hb] at this
        exact this X.prog X.w X.xe _ ⟨.bl _, H, I, rfl, q F H _ (Same.refl _) R (.bl _)⟩
      · next x xs y _ _ =>
        cases e
        obtain ⟨a, vs, rfl, h1, _, h2⟩ := hx.tup R.sub
        obtain ⟨b, ws, rfl, h3, _, h4⟩ := hy.tup R.sub
        cases rx
        cases ry
        obtain ⟨its, rv, pl, _⟩ := I.tuple h1
        obtain ⟨its2, rv2, pl2, _⟩ := I.tuple h3
        cases h2 with
        | cons a1 a2 =>
        cases h4 with
        | cons a3 a4 =>
        cases a1; cases a3; cases a4
        cases rv with
        | cons r1 r2 =>
        cases rv2 with
        | cons r3 r4 =>
        obtain ⟨t1, rfl⟩ := r1
        obtain ⟨t2, rfl⟩ := r3
        cases r4
        have z1 := r2.length
        have z3 := a2.length
        rename_i its _ _
        have hb : ∀ (v u : Value) (its : List Value), its.length = xs.length → ((List.range (min (v :: its).toArray.size [u].toArray.size)).all (fun _ => decide (x = y)) && (v :: its).toArray.size == [u].toArray.size) = (decide (x = y) && xs.isEmpty) := by
          intro v u its z5
          have hm : min (its.length + 1) 1 = 1 := by omega
          simp only [List.size_toArray, List.length_cons, List.length_nil, Nat.zero_add, hm, z5]
          cases xs with
          | nil => simp [List.range, List.range.loop]
          | cons x xs => simp [List.range, List.range.loop]
        have := SeqAt.RcNeAt.tuples (A := X.A) (s := s) (e := fun _ => decide (x = y)) pl pl2 (by omega) (fun j _ h => by
          have : j = 0 := by simp at h; omega
          subst this
          exact SeqAt.EqAt.str_str _ _ _ _)
        rw [hb _ _ _ (by omega)] at this
        exact this X.prog X.w X.xe _ ⟨.bl _, H, I, rfl, q F H _ (Same.refl _) R (.bl _)⟩
      · cases e
theorem any_py (ds : List D) (d : D) (h : plAll ds = true) (hd : d.pl = true) : ((pys ds).any fun y => PyData.eqv y d.py) = ds.any fun z => z.eqv d := by
  induction ds with
  | nil => rfl
  | cons e es ih =>
    have h : (e.pl && plAll es) = true := h
    obtain ⟨h1, h2⟩ := Bool.and_eq_true_iff.mp h
    show (PyData.eqv e.py d.py || (pys es).any fun y => PyData.eqv y d.py) = (e.eqv d || es.any fun z => z.eqv d)
    rw [ih h2, py_eqv e d h1 hd]
theorem room_in {n m : Nat} {A : Around} (h : m ≤ 64) (hu : A.units + 65 < cLine) : A.units + 1 + min n m < cLine := by
  have : min n m ≤ m := Nat.min_le_right _ _
  omega
theorem inB_cases {dx dy : D} {b : Bool} (e : inB dx dy = some b) : (∃ x y, dx = .str x ∧ dy = .str y ∧ b = !(Builtin.Str.occurrences y x 0 y.length 1).isEmpty) ∨ ∃ ds, dy.seq = some ds ∧ dx.fit = true ∧ dy.fit = true ∧ b = ds.any fun z => z.eqv dx := by
  unfold inB at e
  split at e
  · cases e; exact .inl ⟨_, _, rfl, rfl, rfl⟩
  · split at e
    · next ds es =>
      split at e
      · next hf =>
        cases e
        obtain ⟨f1, f2⟩ := Bool.and_eq_true_iff.mp hf
        exact .inr ⟨ds, es, f1, f2, rfl⟩
      · cases e
    · cases e
theorem opd_in (hu : X.A.units + 65 < cLine) : OpR X (compareOp .In) (rD2 X.K g semIn) := by
  intro pins s sg H x y v u Q I rx ry h
  obtain ⟨F, s0, r, dx, dy, d, R, hx, hy, e, q⟩ := h
  obtain ⟨b, eb, rfl⟩ := Option.map_eq_some_iff.mp e
  clear e
  have e := eb
  rcases inB_cases e with ⟨x', y', rfl, rfl, rfl⟩ | ⟨ds, es, f1, f2, rfl⟩
  · cases hx.flat (fun _ => nofun); cases hy.flat (fun _ => nofun)
    exact op_in_str pins s sg H _ _ v u Q I rx ry ⟨_, _, rfl, rfl, q F H _ (Same.refl _) R (.bl _)⟩
  · have p1 := (Bool.and_eq_true_iff.mp f1).1
    have p2 := (Bool.and_eq_true_iff.mp f2).1
    have dp1 := of_decide_eq_true (Bool.and_eq_true_iff.mp f1).2
    obtain ⟨as, r1⟩ := RD.reads I dx x v p1 (hx.rd R.sub) rx
    obtain ⟨bs, r2⟩ := RD.reads I dy y u p2 (hy.rd R.sub) ry
    have fin : EP X pins sg Q (.bool ((pys ds).any fun y => PyData.eqv y dx.py)) s := by
      refine ⟨.bl _, H, I, rfl, ?_⟩
      have pd : plAll ds = true := by
        cases dy <;> first | (cases es; exact p2) | cases es
      rw [any_py ds dx pd p1]
      exact q F H _ (Same.refl _) R (.bl _)
    cases dy with
    | lst zs =>
      cases es
      exact SeqAt.in_list_reads (show Reads s.heap u (.list (pys ds)) bs from r2) r1 (pys_lay ds p2) (py_lay dx p1) (by rw [py_depth dx p1]; exact room_in dp1 hu) fin
    | tup zs =>
      cases es
      exact SeqAt.in_tuple_reads (show Reads s.heap u (.tuple (pys ds)) bs from r2) r1 (pys_lay ds p2) (py_lay dx p1) (by rw [py_depth dx p1]; exact room_in dp1 hu) fin
    | _ => cases es
theorem opd_notIn (hu : X.A.units + 65 < cLine) : OpR X (compareOp .NotIn) (rD2 X.K g semNotIn) := by
  intro pins s sg H x y v u Q I rx ry h
  obtain ⟨F, s0, r, dx, dy, d, R, hx, hy, e, q⟩ := h
  obtain ⟨b, eb, rfl⟩ := Option.map_eq_some_iff.mp e
  clear e
  have e := eb
  rcases inB_cases e with ⟨x', y', rfl, rfl, rfl⟩ | ⟨ds, es, f1, f2, rfl⟩
  · cases hx.flat (fun _ => nofun); cases hy.flat (fun _ => nofun)
    exact op_notin_str pins s sg H _ _ v u Q I rx ry ⟨_, _, rfl, rfl, q F H _ (Same.refl _) R (.bl _)⟩
  · have p1 := (Bool.and_eq_true_iff.mp f1).1
    have p2 := (Bool.and_eq_true_iff.mp f2).1
    have dp1 := of_decide_eq_true (Bool.and_eq_true_iff.mp f1).2
    obtain ⟨as, r1⟩ := RD.reads I dx x v p1 (hx.rd R.sub) rx
    obtain ⟨bs, r2⟩ := RD.reads I dy y u p2 (hy.rd R.sub) ry
    have fin : EP X pins sg Q (.bool (!(pys ds).any fun y => PyData.eqv y dx.py)) s := by
      refine ⟨.bl _, H, I, rfl, ?_⟩
      have pd : plAll ds = true := by
        cases dy <;> first | (cases es; exact p2) | cases es
      rw [any_py ds dx pd p1]
      exact q F H _ (Same.refl _) R (.bl _)
    cases dy with
    | lst zs =>
      cases es
      exact SeqAt.notIn_list_reads (show Reads s.heap u (.list (pys ds)) bs from r2) r1 (pys_lay ds p2) (py_lay dx p1) (by rw [py_depth dx p1]; exact room_in dp1 hu) fin
    | tup zs =>
      cases es
      exact SeqAt.notIn_tuple_reads (show Reads s.heap u (.tuple (pys ds)) bs from r2) r1 (pys_lay ds p2) (py_lay dx p1) (by rw [py_depth dx p1]; exact room_in dp1 hu) fin
    | _ => cases es
end
end DL

/-! Data layer, part 7: arithmetic, subscripts, slices, built-ins, methods. -/
namespace DL
open PySem L2

/-! ### arithmetic -/
def big : Nat := 1000000
def semAdd : D → D → Option D
  | .int i, .int j => some (.int (i + j))
  | .str x, .str y => if x.length + y.length ≤ 1000000 then some (.str (x ++ y)) else none
  | .lst xs, .lst ys => if xs.length + ys.length ≤ 1000000 then some (.lst (xs ++ ys)) else none
  | .tup xs, .tup ys => if xs.length + ys.length ≤ 1000000 then some (.tup (xs ++ ys)) else none
  | _, _ => none
def semSub : D → D → Option D
  | .int i, .int j => some (.int (i - j))
  | _, _ => none
def semMul : D → D → Option D
  | .int i, .int j => if (-18446744073709551616 < i ∧ i < 18446744073709551616) then some (.int (i * j)) else none
  | .lst xs, .int k => if 0 ≤ k ∧ k ≤ 10000 ∧ xs.length ≤ 1000 then some (.lst (List.replicate k.toNat xs).flatten) else none
  | .str x, .int k => if 0 ≤ k ∧ k ≤ 1000 ∧ x.length ≤ 1000 then some (.str (Txt.mul x k)) else none
  | .tup xs, .int k => if xs ≠ [] ∧ 2 ≤ k ∧ k ≤ 1000 ∧ xs.length ≤ 1000 then some (.tup (List.replicate k.toNat xs).flatten) else none
  | _, _ => none
theorem mulOk_small {x : Str} {k : Int} (h : 0 ≤ k ∧ k ≤ 1000 ∧ x.length ≤ 1000) : MulOk x k := by
  refine ⟨?_, fun h1 _ h2 => ?_, fun _ _ => ?_⟩
  · have h1 : decide (k < -(2 ^ 63 : Int)) = false := decide_eq_false (by omega)
    have h2 : decide (k ≥ 2 ^ 63) = false := decide_eq_false (by omega)
    rw [h1, h2]; rfl
  · have h3 : (x.length : Int) ≤ 1000 := by omega
    have h4 : (1000 : Int) ≤ (2 ^ 63 - 1) / k := by
      apply Int.le_ediv_of_mul_le (by omega)
      omega
    omega
  · have h5 : k.toNat ≤ 1000 := by omega
    have h6 : x.length * k.toNat ≤ 1000 * 1000 := Nat.mul_le_mul h.2.2 h5
    unfold Builtin.Str.tooLong
    rw [sizeLine_eq]
    simp
    omega
def semFdiv : D → D → Option D
  | .int i, .int j => if 0 < j ∧ j < 1073741824 then some (.int (i / j)) else none
  | _, _ => none
def semMod : D → D → Option D
  | .int i, .int j => if 0 < j then some (.int (i % j)) else none
  | _, _ => none
def semNeg : D → Option D
  | .int i => some (.int (-i))
  | _ => none
theorem mil_line : (1000000 : Nat) ≤ sizeLine := by decide
section
variable {X : Cx} {g : G}
/-- a new list, frozen -/
theorem PD.lst {K : PySem.W.Frag} {F H : Hp} {s : St} {r : En} {Q : VK} {ds : List D} {vs : List V} (R : Rel K g F H s r) (hvs : RDs K F vs ds) (q : PD K g F s Q (.lst ds) r) (p : Addr) (np : H p = none) : Q (.ref p) (L2.upd H p (.lst vs)) := by
  have sF := same_upd (o := .lst vs) (R.ff np)
  exact q _ _ _ sF (R.alloc np) (.lst upd_same (RDs.mono sF ds hvs))
theorem PD.tup {K : PySem.W.Frag} {F H : Hp} {s : St} {r : En} {Q : VK} {ds : List D} {vs : List V} (R : Rel K g F H s r) (hvs : RDs K F vs ds) (q : PD K g F s Q (.tup ds) r) (p : Addr) (np : H p = none) : Q (.ref p) (L2.upd H p (.tup vs)) := by
  have sF := same_upd (o := .tup vs) (R.ff np)
  exact q _ _ _ sF (R.alloc np) (.tup (.of upd_same) (RDs.mono sF ds hvs))
theorem opd_add : OpR X (binaryOp .Add) (rD2 X.K g semAdd) := by
  intro pins s sg H x y v u Q I rx ry h
  obtain ⟨F, s0, r, dx, dy, d, R, hx, hy, e, q⟩ := h
  unfold semAdd at e
  split at e
  · cases e
    cases hx.flat (fun _ => nofun); cases hy.flat (fun _ => nofun)
    exact op_add pins s sg H _ _ v u Q I rx ry ⟨_, _, rfl, rfl, q F H _ (Same.refl _) R (.int _)⟩
  · split at e
    · next hl =>
      cases e
      cases hx.flat (fun _ => nofun); cases hy.flat (fun _ => nofun)
      exact op_add_str pins s sg H _ _ v u Q I rx ry ⟨_, _, rfl, rfl, Nat.le_trans hl mil_line, q F H _ (Same.refl _) R (.str _)⟩
    · cases e
  · split at e
    · next hl =>
      cases e
      obtain ⟨a, vs, rfl, h1, h2⟩ := hx.lst R.sub
      obtain ⟨b, ws, rfl, h3, h4⟩ := hy.lst R.sub
      exact op_cat pins s sg H _ _ v u Q I rx ry ⟨a, b, vs, ws, rfl, rfl, h1, h3, by rw [h2.length, h4.length]; exact Nat.le_trans hl mil_line, PD.lst R (h2.app h4) q⟩
    · cases e
  · split at e
    · next hl =>
      cases e
      obtain ⟨a, vs, rfl, h1, h1', h2⟩ := hx.tup R.sub
      obtain ⟨b, ws, rfl, h3, h3', h4⟩ := hy.tup R.sub
      refine op_catA pins s sg H _ _ v u Q I rx ry ⟨a, b, vs, ws, rfl, rfl, h1, h3, by rw [h2.length, h4.length]; exact Nat.le_trans hl mil_line, fun z => ?_, fun _ z => ?_, fun _ _ => PD.tup R (h2.app h4) q⟩
      · subst z
        cases h2
        rw [List.nil_append] at q
        exact q F H _ (Same.refl _) R (.tup h3' h4)
      · subst z
        cases h4
        rw [List.append_nil] at q
        exact q F H _ (Same.refl _) R (.tup h1' h2)
    · cases e
  · cases e
theorem opd_mul : OpR X (binaryOp .Mult) (rD2 X.K g semMul) := by
  intro pins s sg H x y v u Q I rx ry h
  obtain ⟨F, s0, r, dx, dy, d, R, hx, hy, e, q⟩ := h
  unfold semMul at e
  split at e
  · split at e
    · next hl =>
      cases e
      cases hx.flat (fun _ => nofun); cases hy.flat (fun _ => nofun)
      exact op_mul pins s sg H _ _ v u Q I rx ry ⟨_, _, rfl, rfl, .inl ⟨by omega, by omega⟩, q F H _ (Same.refl _) R (.int _)⟩
    · cases e
  · split at e
    · next xs k hl =>
      cases e
      obtain ⟨a, vs, rfl, h1, h2⟩ := hx.lst R.sub
      cases hy.flat (fun _ => nofun)
      have rep : ∀ n : Nat, RDs X.K F (List.replicate n vs).flatten (List.replicate n xs).flatten := fun n => by
        induction n with
        | zero => exact .nil
        | succ n ih =>
          rw [List.replicate_succ, List.replicate_succ, List.flatten_cons, List.flatten_cons]
          exact h2.app ih
      refine op_rep pins s sg H _ _ v u Q I rx ry ⟨a, k, vs, rfl, rfl, h1, by omega, by omega, ?_, PD.lst R (rep _) q⟩
      rw [h2.length]
      have h5 : k.toNat ≤ 10000 := by omega
      have h6 : xs.length * k.toNat ≤ 1000 * 10000 := Nat.mul_le_mul hl.2.2 h5
      exact Nat.le_trans h6 (by decide)
    · cases e
  · split at e
    · next x k hl =>
      cases e
      cases hx.flat (fun _ => nofun); cases hy.flat (fun _ => nofun)
      obtain ⟨t, rfl⟩ := rx
      obtain ⟨t', rfl⟩ := ry
      exact SB.mul (mulOk_small hl) fun t'' k' => ⟨.str _, H, I.tok _, ⟨_, rfl⟩, q F H _ (Same.refl _) R (.str _)⟩
    · cases e
  · split at e
    · next xs k hl =>
      cases e
      obtain ⟨a, vs, rfl, h1, _, h2⟩ := hx.tup R.sub
      cases hy.flat (fun _ => nofun)
      have rep : ∀ n : Nat, RDs X.K F (List.replicate n vs).flatten (List.replicate n xs).flatten := fun n => by
        induction n with
        | zero => exact .nil
        | succ n ih =>
          rw [List.replicate_succ, List.replicate_succ, List.flatten_cons, List.flatten_cons]
          exact h2.app ih
      refine op_repT pins s sg H _ _ v u Q I rx ry ⟨a, k, vs, rfl, rfl, h1, fun z => hl.1 ?_, hl.2.1, hl.2.2.1, by rw [h2.length]; exact hl.2.2.2, PD.tup R (rep _) q⟩
      have := h2.length
      rw [z] at this
      exact List.length_eq_zero_iff.mp this.symm
    · cases e
  · cases e
theorem opd_fdiv : OpR X (binaryOp .FloorDiv) (rD2 X.K g semFdiv) := by
  intro pins s sg H x y v u Q I rx ry h
  obtain ⟨F, s0, r, dx, dy, d, R, hx, hy, e, q⟩ := h
  unfold semFdiv at e
  split at e
  · split at e
    · next hl =>
      cases e
      cases hx.flat (fun _ => nofun); cases hy.flat (fun _ => nofun)
      exact op_fdiv pins s sg H _ _ v u Q I rx ry ⟨_, _, rfl, rfl, hl, q F H _ (Same.refl _) R (.int _)⟩
    · cases e
  · cases e
theorem opd_mod : OpR X (binaryOp .Mod) (rD2 X.K g semMod) := by
  intro pins s sg H x y v u Q I rx ry h
  obtain ⟨F, s0, r, dx, dy, d, R, hx, hy, e, q⟩ := h
  unfold semMod at e
  split at e
  · split at e
    · next hl =>
      cases e
      cases hx.flat (fun _ => nofun); cases hy.flat (fun _ => nofun)
      exact op_mod pins s sg H _ _ v u Q I rx ry ⟨_, _, rfl, rfl, hl, q F H _ (Same.refl _) R (.int _)⟩
    · cases e
  · cases e
/-! ### order -/
def semLt : D → D → Option D
  | .int i, .int j => some (.bl (decide (i < j)))
  | .str i, .str j => some (.bl (decide (i.cps.toList < j.cps.toList)))
  | _, _ => none
def semLe : D → D → Option D
  | .int i, .int j => some (.bl (decide (i ≤ j)))
  | _, _ => none
def semGt : D → D → Option D
  | .int i, .int j => some (.bl (decide (j < i)))
  | _, _ => none
def semGe : D → D → Option D
  | .int i, .int j => some (.bl (decide (j ≤ i)))
  | _, _ => none
theorem opd_lt : OpR X (compareOp .Lt) (rD2 X.K g semLt) := by
  intro pins s sg H x y v u Q I rx ry h
  obtain ⟨F, s0, r, dx, dy, d, R, hx, hy, e, q⟩ := h
  unfold semLt at e
  split at e
  · cases e
    cases hx.flat (fun _ => nofun); cases hy.flat (fun _ => nofun)
    exact op_lt pins s sg H _ _ v u Q I rx ry ⟨_, _, rfl, rfl, q F H _ (Same.refl _) R (.bl _)⟩
  · cases e
    cases hx.flat (fun _ => nofun); cases hy.flat (fun _ => nofun)
    exact op_lt_str pins s sg H _ _ v u Q I rx ry ⟨_, _, rfl, rfl, q F H _ (Same.refl _) R (.bl _)⟩
  · cases e
theorem opd_gt : OpR X (compareOp .Gt) (rD2 X.K g semGt) := by
  intro pins s sg H x y v u Q I rx ry h
  obtain ⟨F, s0, r, dx, dy, d, R, hx, hy, e, q⟩ := h
  unfold semGt at e
  split at e
  · cases e
    cases hx.flat (fun _ => nofun); cases hy.flat (fun _ => nofun)
    exact op_gt pins s sg H _ _ v u Q I rx ry ⟨_, _, rfl, rfl, q F H _ (Same.refl _) R (.bl _)⟩
  · cases e
theorem opd_ge : OpR X (compareOp .GtE) (rD2 X.K g semGe) := by
  intro pins s sg H x y v u Q I rx ry h
  obtain ⟨F, s0, r, dx, dy, d, R, hx, hy, e, q⟩ := h
  unfold semGe at e
  split at e
  · cases e
    cases hx.flat (fun _ => nofun); cases hy.flat (fun _ => nofun)
    exact op_ge pins s sg H _ _ v u Q I rx ry ⟨_, _, rfl, rfl, q F H _ (Same.refl _) R (.bl _)⟩
  · cases e
/-- is None, is not None -/
def D.isN : D → Bool
  | .non => true
  | _ => false
def semIs : D → D → Option D
  | d, .non => some (.bl d.isN)
  | _, _ => none
def semIsNot : D → D → Option D
  | d, .non => some (.bl (!d.isN))
  | _, _ => none
theorem isN_ok {K : PySem.W.Frag} {H : Hp} {v : V} {d : D} (h : RD K H v d) : decide (v = V.non) = d.isN := by
  cases h <;> rfl
theorem opd_is : OpR X (compareOp .Is) (rD2 X.K g semIs) := by
  intro pins s sg H x y v u Q I rx ry h
  obtain ⟨F, s0, r, dx, dy, d, R, hx, hy, e, q⟩ := h
  unfold semIs at e
  split at e
  · cases e
    cases hy.flat (fun _ => nofun)
    refine op_isN pins s sg H _ _ v u Q I rx ry ⟨rfl, ?_⟩
    rw [isN_ok (hx.rd R.sub)]
    exact q F H _ (Same.refl _) R (.bl _)
  · cases e
theorem opd_isNot : OpR X (compareOp .IsNot) (rD2 X.K g semIsNot) := by
  intro pins s sg H x y v u Q I rx ry h
  obtain ⟨F, s0, r, dx, dy, d, R, hx, hy, e, q⟩ := h
  unfold semIsNot at e
  split at e
  · cases e
    cases hy.flat (fun _ => nofun)
    refine op_notN pins s sg H _ _ v u Q I rx ry ⟨rfl, ?_⟩
    rw [isN_ok (hx.rd R.sub)]
    exact q F H _ (Same.refl _) R (.bl _)
  · cases e

/-! ### subscripts -/
def semIx : D → D → Option D
  | .lst xs, .int i => atI xs i
  | .tup xs, .int i => atI xs i
  | .str x, .int i => if x.length ≤ 1000000 then (atI x.cps.toList i).map fun c => .str ⟨#[c]⟩ else none
  | _, _ => none
theorem RDs.at {K : PySem.W.Frag} {F : Hp} {vs : List V} {ds : List D} {i : Int} {d : D} (h : RDs K F vs ds) (e : atI ds i = some d) : ∃ v, atI vs i = some v ∧ RD K F v d := by
  unfold atI at e ⊢
  rw [h.length]
  obtain ⟨j, e1, e2⟩ := Option.bind_eq_some_iff.mp e
  obtain ⟨v, h1, h2⟩ := h.get e2
  exact ⟨v, by rw [e1]; exact h1, h2⟩
theorem ixd : IxR X (rD2 X.K g semIx) := by
  intro value slice pins s sg H x y v u Q I rx ry h hs
  obtain ⟨F, s0, r, dx, dy, d, R, hx, hy, e, q⟩ := h
  unfold semIx at e
  split at e
  · obtain ⟨a, vs, rfl, h1, h2⟩ := hx.lst R.sub
    cases hy.flat (fun _ => nofun)
    obtain ⟨w, e1, e2⟩ := h2.at e
    exact ix_list value slice pins s sg H _ _ v u Q I rx ry ⟨a, vs, _, w, rfl, rfl, .of h1, e1, q F H _ (Same.refl _) R e2⟩ hs
  · obtain ⟨a, vs, rfl, h1, _, h2⟩ := hx.tup R.sub
    cases hy.flat (fun _ => nofun)
    obtain ⟨w, e1, e2⟩ := h2.at e
    exact ix_tup value slice pins s sg H _ _ v u Q I rx ry ⟨a, vs, _, w, rfl, rfl, h1, e1, q F H _ (Same.refl _) R e2⟩ hs
  · split at e
    · next hl =>
      obtain ⟨c, e1, rfl⟩ := Option.map_eq_some_iff.mp e
      cases hx.flat (fun _ => nofun); cases hy.flat (fun _ => nofun)
      exact ix_str value slice pins s sg H _ _ v u Q I rx ry ⟨_, _, c, rfl, rfl, Nat.le_trans hl mil_line, e1, q F H _ (Same.refl _) R (.str _)⟩ hs
    · cases e
  · cases e

/-! ### slices -/
def cutL {α : Type} (xs : List α) (lo hi : Option Int) : List α := (xs.drop (HT.sIx xs.length 0 lo)).take (HT.sIx xs.length xs.length hi - HT.sIx xs.length 0 lo)
theorem RDs.cut {K : PySem.W.Frag} {F : Hp} {vs : List V} {ds : List D} (h : RDs K F vs ds) (lo hi : Option Int) : RDs K F (cutV vs lo hi) (cutL ds lo hi) := by
  unfold cutV cutL
  rw [h.length]
  exact (h.dp _).tk _
def semSl : D → Option Int → Option Int → Option D
  | .lst xs, lo, hi => some (.lst (cutL xs lo hi))
  | .scr ns, lo, hi => some (.lst ((cutL ns lo hi).map D.int))
  | .tup xs, lo, hi => some (.tup (cutL xs lo hi))
  | .str x, lo, hi => if x.length ≤ 1000000 then some (.str (cutS x lo hi)) else none
  | _, _, _ => none
def rDsl (K : PySem.W.Frag) (g : G) (sem : D → Option Int → Option Int → Option D) : V → Option Int → Option Int → Hp → VK → Prop := fun x lo hi H Q => ∃ F s r dx d, Rel K g F H s r ∧ RB K F H x dx ∧ sem dx lo hi = some d ∧ PD K g F s Q d r
theorem cut_ints (ns : List Int) (lo hi : Option Int) : cutV (ns.map V.int) lo hi = (cutL ns lo hi).map V.int := by
  unfold cutV cutL
  rw [List.length_map, List.map_take, List.map_drop]
theorem sld : SlR X (rDsl X.K g semSl) := by
  intro pins s sg H x v vl vu lo hi sl Q I rx hs pl pu h
  obtain ⟨F, s0, r, dx, d, R, hx, e, q⟩ := h
  unfold semSl at e
  split at e
  · cases e
    obtain ⟨a, vs, rfl, h1, h2⟩ := hx.lst R.sub
    exact sl_list pins s sg H _ v vl vu lo hi sl Q I rx hs pl pu ⟨a, vs, rfl, .of h1, PD.lst R (h2.cut lo hi) q⟩
  · next ns _ _ =>
    cases e
    cases hx.flat (fun _ => nofun) with
    | scr _ h1 =>
      refine sl_list pins s sg H _ v vl vu lo hi sl Q I rx hs pl pu ⟨_, _, rfl, R.sub.seq h1, ?_⟩
      rw [cut_ints]
      exact PD.lst R (RDs.ints _) q
  · cases e
    obtain ⟨a, vs, rfl, h1, h1', h2⟩ := hx.tup R.sub
    refine sl_tupA pins s sg H _ v vl vu lo hi sl Q I rx hs pl pu ⟨a, vs, rfl, h1, fun z => ?_, fun _ => PD.tup R (h2.cut lo hi) q⟩
    have ec : ∀ ys : List D, RDs X.K F vs ys → cutL ys lo hi = ys := fun ys h => by
      unfold cutL
      rw [h.length] at z
      rw [z.1, z.2]
      simp
    rw [ec _ h2] at q
    exact q F H _ (Same.refl _) R (.tup h1' h2)
  · split at e
    · next hl =>
      cases e
      cases hx.flat (fun _ => nofun)
      exact sl_str pins s sg H _ v vl vu lo hi sl Q I rx hs pl pu ⟨_, rfl, Nat.le_trans hl mil_line, q F H _ (Same.refl _) R (.str _)⟩
    · cases e
  · cases e
variable {a b c e : Expr} {pos p2 : Pos} {p : Opd}
/-- the parts of a slice: left out, or an int -/
def PtO (K : PySem.W.Frag) (g : G) (F : Hp) (s : St) (Q : Option Int → Hp → Prop) (o : Option Int) (r' : En) : Prop := ∀ F' H', Same F F' → Rel K g F' H' s r' → Q o H'
def tPO (K : PySem.W.Frag) (g : G) (f : En → Rs (Option Int)) : TO := fun s H Q => ∃ F r, Rel K g F H s r ∧ post K g (PtO K g F s Q) (f r)
def DPo (X : Cx) (g : G) (e : Option Expr) (f : En → Rs (Option Int)) : Prop := L2.PO X e (tPO X.K g f)
theorem PO.imp {X : Cx} {e : Option Expr} {t t' : TO} (h : L2.PO X e t) (i : ∀ s H Q, t' s H Q → t s H Q) : L2.PO X e t' :=
  ⟨fun pins s sg H Q I q => h.run pins s sg H Q I (i sg H Q q)⟩
def poN : En → Rs (Option Int) := fun r => .ok none r
def poS (f : En → Rs D) : En → Rs (Option Int) := fun r => (f r).bind fun d r1 => (ofO d.asI r1).map some
theorem dpo_none : DPo X g none poN := PO.imp po_none fun s H Q ⟨F, r, R, q⟩ => q F H (Same.refl _) R
theorem dpo_some {f : En → Rs D} (h : DE X g e f) : DPo X g (some e) (poS f) := PO.imp (po_some h) fun s H Q ⟨F, r, R, q⟩ => ⟨F, r, R, post_mono (post_bind q) fun d r1 q F1 H1 v sm R1 hv => by
  obtain ⟨i, ed, q⟩ := post_ofO (post_map q)
  have ed := asI_some ed
  subst ed
  cases hv
  exact ⟨i, rfl, q F1 H1 sm R1⟩⟩
def slD (p : Opd) (lo hi : En → Rs (Option Int)) (sem : D → Option Int → Option Int → Option D) : En → Rs D := fun r => (p.run r).bind fun x r1 => (lo r1).bind fun l r2 => (hi r2).bind fun h r3 => ofO ((look r3 x).bind fun d => sem d l h) r3
theorem de_slice {lo hi : Option Expr} {fl fh : En → Rs (Option Int)} (ha : DB X g a p) (hl : DPo X g lo fl) (hh : DPo X g hi fh) : DE X g (.Subscript a (.Slice lo hi none p2) pos) (slD p fl fh semSl) :=
  PE.imp (pe_slice sld ha hl hh) fun s H Q ⟨F, r, R, q⟩ => by
    refine ⟨F, r, R, post_mono (post_bind q) fun z r1 q1 F1 H1 v sm R1 hv => ⟨F1, r1, R1, post_mono (post_bind q1) fun l r2 q2 F2 H2 s2 R2 => ⟨F2, r2, R2, post_mono (post_bind q2) fun h r3 q3 F3 H3 s3 R3 => ?_⟩⟩⟩
    obtain ⟨d, e, q3⟩ := post_ofO q3
    obtain ⟨dx, e1, e2⟩ := Option.bind_eq_some_iff.mp e
    exact ⟨F3, s, r3, dx, d, R3, look_ok R3 ((hv.mono s2).mono s3) e1, e2, fun F4 H4 v4 s4 R4 h4 => q3 F4 H4 v4 (((sm.trans s2).trans s3).trans s4) R4 h4⟩

/-! ### built-ins by values: all arguments are looked at -/
def runs : List Opd → En → Rs (List (Sum D Nat))
  | [], r => .ok [] r
  | p :: ps, r => (p.run r).bind fun x r1 => (runs ps r1).bind fun xs r2 => .ok (x :: xs) r2
def looks (r : En) : List (Sum D Nat) → Option (List D)
  | [] => some []
  | x :: xs => (look r x).bind fun d => (looks r xs).map fun ds => d :: ds
def opN (ps : List Opd) (sem : List D → Option D) : En → Rs D := fun r => (runs ps r).bind fun xs r1 => ofO ((looks r1 xs).bind sem) r1
inductive RBs (K : PySem.W.Frag) (F H : Hp) : List V → List D → Prop
  | nil : RBs K F H [] []
  | cons {v : V} {vs : List V} {d : D} {ds : List D} : RB K F H v d → RBs K F H vs ds → RBs K F H (v :: vs) (d :: ds)
inductive OpdsOk (K : PySem.W.Frag) (F : Hp) (s : St) : List V → List (Sum D Nat) → Prop
  | nil : OpdsOk K F s [] []
  | cons {v : V} {vs : List V} {z : Sum D Nat} {zs : List (Sum D Nat)} : OpdOk K F s v z → OpdsOk K F s vs zs → OpdsOk K F s (v :: vs) (z :: zs)
def tBs (K : PySem.W.Frag) (g : G) (ps : List Opd) : TA := fun s H Q => ∃ F r, Rel K g F H s r ∧ post K g (fun zs r' => ∀ F' H' vs, Same F F' → Rel K g F' H' s r' → OpdsOk K F' s vs zs → Q vs H') (runs ps r)
def DBs (X : Cx) (g : G) (es : List Expr) (ps : List Opd) : Prop := PA X es (tBs X.K g ps)
theorem dbs_nil : DBs X g [] [] := PA.imp pa_nil fun s H Q ⟨F, r, R, q⟩ => q F H [] (Same.refl _) R .nil
theorem dbs_cons {es : List Expr} {ps : List Opd} (h : DB X g e p) (hs : DBs X g es ps) (hst : starEach (e :: es) X.env = (false, eval e X.env) :: starEach es X.env := by rfl) : DBs X g (e :: es) (p :: ps) :=
  PA.imp (pa_cons h hs hst) fun s H Q ⟨F, r, R, q⟩ => ⟨F, r, R, post_mono (post_bind q) fun z r1 q F1 H1 v sm R1 hv => ⟨F1, r1, R1, post_mono (post_bind q) fun zs r2 q F2 H2 vs s2 R2 hvs => q F2 H2 (v :: vs) (sm.trans s2) R2 (.cons (hv.mono s2) hvs)⟩⟩
theorem looks_ok {K : PySem.W.Frag} {F H : Hp} {s : St} {r : En} (R : Rel K g F H s r) : ∀ {zs : List (Sum D Nat)} {vs : List V} {ds : List D}, OpdsOk K F s vs zs → looks r zs = some ds → RBs K F H vs ds
  | [], _, _, .nil, e => by cases e; exact .nil
  | z :: zs, _, _, .cons h1 h2, e => by
    obtain ⟨d, e1, e2⟩ := Option.bind_eq_some_iff.mp e
    obtain ⟨ds, e3, rfl⟩ := Option.map_eq_some_iff.mp e2
    exact .cons (look_ok R h1 e1) (looks_ok R h2 e3)
def rDN (K : PySem.W.Frag) (g : G) (sem : List D → Option D) : List V → Hp → VK → Prop := fun xs H Q => ∃ F s r ds d, Rel K g F H s r ∧ RBs K F H xs ds ∧ sem ds = some d ∧ PD K g F s Q d r
theorem tD_opN {K : PySem.W.Frag} {ps : List Opd} {sem : List D → Option D} {s : St} {H : Hp} {Q : VK} (h : tD K g (opN ps sem) s H Q) : tBs K g ps s H fun xs H1 => rDN K g sem xs H1 Q := by
  obtain ⟨F, r, R, h⟩ := h
  refine ⟨F, r, R, post_mono (post_bind h) fun zs r1 q F1 H1 vs sm R1 hv => ?_⟩
  obtain ⟨d, e, q⟩ := post_ofO q
  obtain ⟨ds, e1, e2⟩ := Option.bind_eq_some_iff.mp e
  exact ⟨F1, s, r1, ds, d, R1, looks_ok R1 hv e1, e2, fun F2 H2 v2 s2 R2 h2 => q F2 H2 v2 (sm.trans s2) R2 h2⟩
theorem de_callB {x : Str} {pn : Pos} {id : String} {es : List Expr} {ps : List Opd} {sem : List D → Option D} (hc : CallR X (.builtin id) (rDN X.K g sem)) (hm : X.mg x = none) (ha : DBs X g (e :: es) ps) (hg : Gl X x := by rfl) (hv : bootBuiltins x = some (.builtin id) := by decide +kernel)
    (hn : x ≠ "__name__" := by decide) (hdb : (x == ("__debug__" : Str)) = false := by decide) (he : starEach (e :: es) X.env = (false, eval e X.env) :: starEach es X.env := by rfl) (hpl : (backTo pos (starEach es X.env)).any (·.1) = false := by rfl) : DE X g (.Call (.Name x pn) (e :: es) [] pos) (opN ps sem) :=
  PE.imp (pe_callB hc hg hm hv ha hn hdb he hpl) fun s H Q h => tD_opN h
theorem de_callT {x : Str} {pn : Pos} {T : String} {es : List Expr} {ps : List Opd} {sem : List D → Option D} (hc : CallR X (.type T) (rDN X.K g sem)) (hm : X.mg x = none) (ha : DBs X g (e :: es) ps) (hg : Gl X x := by rfl) (hv : bootBuiltins x = some (.type T) := by decide +kernel)
    (hn : x ≠ "__name__" := by decide) (hdb : (x == ("__debug__" : Str)) = false := by decide) (he : starEach (e :: es) X.env = (false, eval e X.env) :: starEach es X.env := by rfl) (hpl : (backTo pos (starEach es X.env)).any (·.1) = false := by rfl) : DE X g (.Call (.Name x pn) (e :: es) [] pos) (opN ps sem) :=
  PE.imp (pe_callTy hc hg hm hv ha hn hdb he hpl) fun s H Q h => tD_opN h

def semAbs : List D → Option D
  | [.int i] => some (.int (if i < 0 then -i else i))
  | _ => none
def semInt : List D → Option D
  | [.int i] => some (.int i)
  | [.bl b] => some (.int (if b then 1 else 0))
  | _ => none
def semLen : List D → Option D
  | [.lst xs] => some (.int xs.length)
  | [.tup xs] => some (.int xs.length)
  | [.str x] => if x.length ≤ 1000000 then some (.int x.length) else none
  | _ => none
def semTuple : List D → Option D
  | [.lst xs] => some (.tup xs)
  | [.tup xs] => some (.tup xs)
  | _ => none
def semList : List D → Option D
  | [.lst xs] => some (.lst xs)
  | [.tup xs] => some (.lst xs)
  | _ => none
def bools : List D → Option (List Bool)
  | [] => some []
  | .bl b :: ds => (bools ds).map fun bs => b :: bs
  | _ :: _ => none
def semAll : List D → Option D
  | [.lst xs] => (bools xs).map fun bs => .bl (bs.all id)
  | _ => none
theorem RBs.one {K : PySem.W.Frag} {F H : Hp} {vs : List V} {d : D} (h : RBs K F H vs [d]) : ∃ v, vs = [v] ∧ RB K F H v d := by
  cases h with
  | cons h1 h2 => cases h2; exact ⟨_, rfl, h1⟩
theorem RBs.two {K : PySem.W.Frag} {F H : Hp} {vs : List V} {d e : D} (h : RBs K F H vs [d, e]) : ∃ v w, vs = [v, w] ∧ RB K F H v d ∧ RB K F H w e := by
  cases h with
  | cons h1 h2 =>
    obtain ⟨w, e, h3⟩ := h2.one
    subst e
    exact ⟨_, _, rfl, h1, h3⟩
theorem bools_vs {K : PySem.W.Frag} {F : Hp} : ∀ {vs : List V} {ds : List D} {bs : List Bool}, RDs K F vs ds → bools ds = some bs → vs = bs.map V.bl
  | _, [], bs, h, e => by cases h; cases e; rfl
  | _, d :: ds, bs, h, e => by
    cases h with
    | cons h1 h2 =>
      cases d with
      | bl b =>
        obtain ⟨bs', e1, rfl⟩ := Option.map_eq_some_iff.mp e
        cases h1
        rw [bools_vs h2 e1]; rfl
      | _ => cases e
theorem cd_abs : CallR X (.builtin "abs") (rDN X.K g semAbs) := by
  intro pins s sg H xs us Q I rv h
  obtain ⟨F, s0, r, ds, d, R, hx, e, q⟩ := h
  unfold semAbs at e
  split at e
  · cases e
    obtain ⟨v, rfl, h1⟩ := hx.one
    cases h1.flat (fun _ => nofun)
    exact call_abs pins s sg H _ us Q I rv ⟨_, rfl, q F H _ (Same.refl _) R (.int _)⟩
  · cases e
theorem cd_int : CallR X (.type "int") (rDN X.K g semInt) := by
  intro pins s sg H xs us Q I rv h
  obtain ⟨F, s0, r, ds, d, R, hx, e, q⟩ := h
  unfold semInt at e
  split at e
  · cases e
    obtain ⟨v, rfl, h1⟩ := hx.one
    cases h1.flat (fun _ => nofun)
    exact call_int1 pins s sg H _ us Q I rv (.inl ⟨_, rfl, q F H _ (Same.refl _) R (.int _)⟩)
  · cases e
    obtain ⟨v, rfl, h1⟩ := hx.one
    cases h1.flat (fun _ => nofun)
    exact call_int1 pins s sg H _ us Q I rv (.inr ⟨_, rfl, q F H _ (Same.refl _) R (.int _)⟩)
  · cases e
theorem cd_len : CallR X (.builtin "len") (rDN X.K g semLen) := by
  intro pins s sg H xs us Q I rv h
  obtain ⟨F, s0, r, ds, d, R, hx, e, q⟩ := h
  unfold semLen at e
  split at e
  · cases e
    obtain ⟨v, rfl, h1⟩ := hx.one
    obtain ⟨a, vs, rfl, h2, h3⟩ := h1.lst R.sub
    refine call_len_seq pins s sg H _ us Q I rv ⟨a, vs, rfl, .inl (.of h2), ?_⟩
    rw [h3.length]
    exact q F H _ (Same.refl _) R (.int _)
  · cases e
    obtain ⟨v, rfl, h1⟩ := hx.one
    obtain ⟨a, vs, rfl, h2, _, h3⟩ := h1.tup R.sub
    refine call_len_seq pins s sg H _ us Q I rv ⟨a, vs, rfl, .inr h2, ?_⟩
    rw [h3.length]
    exact q F H _ (Same.refl _) R (.int _)
  · split at e
    · next hl =>
      cases e
      obtain ⟨v, rfl, h1⟩ := hx.one
      cases h1.flat (fun _ => nofun)
      exact call_len_str pins s sg H _ us Q I rv ⟨_, rfl, Nat.le_trans hl mil_line, q F H _ (Same.refl _) R (.int _)⟩
    · cases e
  · cases e
theorem cd_tuple : CallR X (.type "tuple") (rDN X.K g semTuple) := by
  intro pins s sg H xs us Q I rv h
  obtain ⟨F, s0, r, ds, d, R, hx, e, q⟩ := h
  unfold semTuple at e
  split at e
  · cases e
    obtain ⟨v, rfl, h1⟩ := hx.one
    obtain ⟨a, vs, rfl, h2, h3⟩ := h1.lst R.sub
    exact call_tuple_of pins s sg H _ us Q I rv ⟨a, vs, rfl, .inl ⟨.of h2, PD.tup R h3 q⟩⟩
  · cases e
    obtain ⟨v, rfl, h1⟩ := hx.one
    obtain ⟨a, vs, rfl, h2, h2', h3⟩ := h1.tup R.sub
    exact call_tuple_of pins s sg H _ us Q I rv ⟨a, vs, rfl, .inr ⟨h2, q F H _ (Same.refl _) R (.tup h2' h3)⟩⟩
  · cases e
theorem cd_all (hc : X.calm = true) : CallR X (.builtin "all") (rDN X.K g semAll) := by
  intro pins s sg H xs us Q I rv h
  obtain ⟨F, s0, r, ds, d, R, hx, e, q⟩ := h
  unfold semAll at e
  split at e
  · obtain ⟨bs, e1, rfl⟩ := Option.map_eq_some_iff.mp e
    obtain ⟨v, rfl, h1⟩ := hx.one
    obtain ⟨a, vs, rfl, h2, h3⟩ := h1.lst R.sub
    have ev := bools_vs h3 e1
    subst ev
    exact cr_all hc pins s sg H _ us Q I rv ⟨a, bs, rfl, .of h2, q F H _ (Same.refl _) R (.bl _)⟩
  · cases e
end
end DL

/-! Data layer, part 8: lists that a name owns, walks of any data, methods of texts, constants of the module. -/
namespace DL
open PySem L2

/-! ### an owned list is changed -/
section
variable {X : Cx} {g : G}
theorem Rel.chg {K : PySem.W.Frag} {F H : Hp} {s : St} {r : En} {i : Nat} {xs xs' : List D} {a : Addr} {vs vs' : List V} (R : Rel K g F H s r) (e : r[i]? = some (some (.ow xs))) (hs : s[i]? = some (some (.ref a))) (fa : F a = none) (ha : H a = some (.lst vs)) (hv : RDs K F vs' xs') :
    Rel K g F (L2.upd H a (.lst vs')) s (r.set i (some (.ow xs'))) := by
  have hi : i < r.length := (List.getElem?_eq_some_iff.mp e).1
  have cs : ∀ (j : Nat) (u : OV), (r.set i (some (.ow xs')))[j]? = some (some u) → (j = i ∧ u = .ow xs') ∨ (j ≠ i ∧ r[j]? = some (some u)) := fun j u z => by
    by_cases hj : i = j
    · subst hj
      rw [List.getElem?_set_self hi] at z
      cases z
      exact .inl ⟨rfl, rfl⟩
    · rw [List.getElem?_set_ne hj] at z
      exact .inr ⟨fun z => hj z.symm, z⟩
  have ow1 : ∀ (j : Nat) (u : OV), (r.set i (some (.ow xs')))[j]? = some (some u) → u.own = true → ∃ u', r[j]? = some (some u') ∧ u'.own = true := fun j u z zo => by
    rcases cs j u z with ⟨rfl, rfl⟩ | ⟨_, z'⟩
    · exact ⟨_, e, rfl⟩
    · exact ⟨u, z', zo⟩
  refine ⟨fun b u eb => ?_, R.f0, R.fnew, fun b u eb hb => ?_, fun j u ej => ?_, fun j u b ej eo es => ?_, fun j k u w b hjk ej eo ek ek' => ?_, fun p hp => ?_, by rw [List.length_set]; exact R.len, fun p hp => ?_⟩
  · rw [upd_ne fun z => by rw [z, fa] at eb; cases eb]; exact R.sub b u eb
  · rw [upd_ne fun z => ?_]
    · exact R.keep b u eb hb
    · subst z
      rcases R.own i _ b e rfl hs with q | q
      · rw [q] at eb; cases eb
      · exact hb _ q rfl
  · rcases cs j u ej with ⟨rfl, rfl⟩ | ⟨hj, ej⟩
    · exact ⟨_, hs, a, vs', rfl, fa, upd_same, hv⟩
    · obtain ⟨v, h1, h2⟩ := R.slot j u ej
      refine ⟨v, h1, ?_⟩
      cases u with
      | sh d => exact h2
      | ow ys =>
        obtain ⟨b, ws, rfl, b2, b3, b4⟩ := h2
        exact ⟨b, ws, rfl, b2, by rw [upd_ne fun z => R.dist j i _ _ a hj ej rfl e rfl (by rw [h1, z]) hs]; exact b3, b4⟩
      | od ys =>
        obtain ⟨b, ws, rfl, b2, b3, b4⟩ := h2
        exact ⟨b, ws, rfl, b2, by rw [upd_ne fun z => R.dist j i _ _ a hj ej rfl e rfl (by rw [h1, z]) hs]; exact b3, b4⟩
      | oi c ys =>
        obtain ⟨b, ws, rfl, b2, b3, b4⟩ := h2
        exact ⟨b, ws, rfl, b2, by rw [upd_ne fun z => R.dist j i _ _ a hj ej rfl e rfl (by rw [h1, z]) hs]; exact b3, b4⟩
      | th ys =>
        obtain ⟨b, ws, rfl, b2, b3, b4⟩ := h2
        exact ⟨b, ws, rfl, b2, by rw [upd_ne fun z => R.dist j i _ _ a hj ej rfl e rfl (by rw [h1, z]) hs]; exact b3, b4⟩
      | exc c => exact h2
  · obtain ⟨u', e1, e2⟩ := ow1 j u ej eo
    exact R.own j u' b e1 e2 es
  · obtain ⟨u', e1, e2⟩ := ow1 j u ej eo
    obtain ⟨w', e3, e4⟩ := ow1 k w ek ek'
    exact R.dist j k u' w' b hjk e1 e2 e3 e4
  · obtain ⟨p1, u, p2, p3⟩ := R.pin p hp
    refine ⟨p1, ?_⟩
    by_cases hj : i = p.1
    · exact ⟨.ow xs', by rw [← hj]; exact List.getElem?_set_self hi, rfl⟩
    · exact ⟨u, by rw [List.getElem?_set_ne hj]; exact p2, p3⟩
  · obtain ⟨x1, x2, x3⟩ := R.ext p hp
    refine ⟨by rw [upd_ne fun z => x3 i _ e rfl (by rw [hs, z])]; exact x1, x2, fun j u ej eo => ?_⟩
    obtain ⟨u', e1, e2⟩ := ow1 j u ej eo
    exact x3 j u' e1 e2
/-- does the slot own a list -/
def fillW (r : En) (i : Nat) : Rs Unit :=
  match lookV r i with
  | some (.ow _) => .ok () r
  | _ => .bad
theorem post_fillW {K : PySem.W.Frag} {g : G} {P : Unit → En → Prop} {r : En} {i : Nat} (h : post K g P (fillW r i)) : (∃ xs, r[i]? = some (some (.ow xs))) ∧ P () r := by
  unfold fillW at h
  split at h
  · next xs e => exact ⟨⟨xs, lookV_some e⟩, h⟩
  · exact h.elim
theorem then_fillW {K : PySem.W.Frag} {F : Hp} {E : Ends} {r : En} {i : Nat} {k : Unit → En → SRs} (h : SPost K g F E (thenS (fillW r i) k)) : (∃ xs, r[i]? = some (some (.ow xs))) ∧ SPost K g F E (k () r) := post_fillW (post_then h)
/-- change the list of a slot -/
def chgS (i : Nat) (f : List D → Option (List D)) (r : En) : SRs :=
  match (lookV r i).bind OV.lst? with
  | some xs => match f xs with
    | some ys => .nx (r.set i (some (.ow ys)))
    | none => .bad
  | none => .bad
theorem chgS_ok {K : PySem.W.Frag} {F0 F H : Hp} {E : Ends} {s : St} {r : En} {i : Nat} {f : List D → Option (List D)} (R : Rel K g F H s r) (sm : Same F0 F) (h : SPost K g F0 E (chgS i f r)) :
    ∃ a vs xs ys, s[i]? = some (some (.ref a)) ∧ H a = some (.lst vs) ∧ RDs K F vs xs ∧ r[i]? = some (some (.ow xs)) ∧ f xs = some ys ∧ ∀ vs', RDs K F vs' ys → E.nx s (L2.upd H a (.lst vs')) := by
  unfold chgS at h
  split at h
  · next xs e =>
    obtain ⟨o, e1, e2⟩ := Option.bind_eq_some_iff.mp e
    cases o with
    | sh d => cases e2
    | ow zs =>
      cases e2
      have e1 := lookV_some e1
      obtain ⟨v, h1, a, vs, rfl, fa, ha, hv⟩ := R.slot i _ e1
      split at h
      · next ys ef => exact ⟨a, vs, xs, ys, h1, ha, hv, e1, ef, fun vs' hv' => h F _ s sm (R.chg e1 h1 fa ha hv')⟩
      · exact h.elim
    | od zs => cases e2
    | oi c zs => cases e2
    | th zs => cases e2
    | exc c => cases e2
  · exact h.elim
variable {e ei : Expr} {pos apos cpos : Pos} {x : Str} {p : Pos}
def appF (d : D) : List D → Option (List D) := fun xs => if xs.length ≤ 1000000 then some (xs ++ [d]) else none
def appS (i : Nat) (f : En → Rs D) : En → SRs := fun r => thenS (fillW r i) fun _ r => thenS (f r) fun d r1 => chgS i (appF d) r1
theorem ds_append {i : Nat} {f : En → Rs D} (hv : PE X (.Name x p) (tVar i)) (h : DE X g e f) (hst : starEach [e] X.env = [(false, eval e X.env)] := by rfl) (hb : attributeBase (.Name x p) "append" X.env (eval (.Name x p) X.env) = eval (.Name x p) X.env := by rfl)
    (hline : (apos.endLine == cpos.line) = true := by rfl) (hsw : swapsWith (.Call (.Attribute (.Name x p) "append" apos) [e] [] cpos) none pos.line X.env = pure false := by rfl)
    (hfew : ((backTo cpos (starEach [e] X.env)).all (fun x => !x.1) && (backToKw cpos (keywordEach [] X.env)).all (fun x => x.1.isSome) && decide ([e].length + ([] : List Keyword).length + (if ([] : List Keyword).isEmpty then 0 else 1) < 30)) = true := by rfl)
    (hpl : (backTo cpos (starEach [] X.env)).any (·.1) = false := by rfl) : DS X g (.Expr (.Call (.Attribute (.Name x p) "append" apos) [e] [] cpos) pos) (appS i f) :=
  PS.imp (ps_expr (pe_bm PySem.F.plainAttrs_list PySem.F.slot_list_append PySem.F.type_list_append mt_append hv (pa_cons h pa_nil hst) hb hfew hline hst hpl) hsw) fun E s H ⟨F, r, R, q⟩ => by
    obtain ⟨⟨xs, e0⟩, q⟩ := then_fillW q
    obtain ⟨v, h1, a, vs, rfl, fa, ha, hvs⟩ := R.slot i _ e0
    refine ⟨_, h1, .inl ⟨rfl, vs, .of ha⟩, F, r, R, post_mono (post_then q) fun d r1 q F1 H1 w sm R1 hw => ?_⟩
    obtain ⟨b, ws, zs, ys, g1, g2, g3, g4, g5, g6⟩ := chgS_ok R1 sm q
    rw [h1] at g1
    cases g1
    unfold appF at g5
    split at g5
    · next hl =>
      cases g5
      exact ⟨a, ws, w, rfl, rfl, g2, by rw [g3.length]; exact Nat.lt_of_le_of_lt hl (by decide), g6 _ (g3.app (.cons hw .nil))⟩
    · cases g5
def extF (d : D) : List D → Option (List D) := fun xs => match d with
  | .lst ys => if xs.length + ys.length ≤ 1000000 then some (xs ++ ys) else none
  | _ => none
def extS (i : Nat) (f : En → Rs D) : En → SRs := fun r => thenS (fillW r i) fun _ r => thenS (f r) fun d r1 => chgS i (extF d) r1
/-- name[i] = e -/
def putF (k : D) (d : D) : List D → Option (List D) := fun xs => match k with
  | .int i => (ixN xs.length i).map fun j => xs.set j d
  | _ => none
def putS (i : Nat) (fi f : En → Rs D) : En → SRs := fun r => thenS (f r) fun d r1 => thenS (fillW r1 i) fun _ r1 => thenS (fi r1) fun k r2 => chgS i (putF k d) r2
theorem ds_put {i : Nat} {fi f : En → Rs D} {sp : Pos} (hv : PE X (.Name x p) (tVar i)) (hi : DE X g ei fi) (h : DE X g e f) (hs : swapsWithSole [.Subscript (.Name x p) ei sp] e pos.line X.env = pure false := by rfl) (hw : swappedStores [.Subscript (.Name x p) ei sp] e X.env = pure none := by rfl)
    (h1 : (assignEach [.Subscript (.Name x p) ei sp] X.env).map (·.2) = [assign (.Subscript (.Name x p) ei sp) X.env] := by rfl)
    (ha : ∀ v, assign (.Subscript (.Name x p) ei sp) X.env v = (do
      let ov ← holding [v] (eval (.Name x p) X.env)
      let iv ← holding [v, ov] (eval ei X.env)
      standAt sp
      holding [v, ov, iv] (setItem ov iv v)
      release [v, ov, iv] []) := by intro _; rfl) : DS X g (.Assign [.Subscript (.Name x p) ei sp] e pos) (putS i fi f) :=
  PS.imp (ps_asg h (pg_sub hv hi set_list ha) hs hw h1) fun E s H ⟨F, r, R, q⟩ => ⟨F, r, R, post_mono (post_then q) fun d r1 q F1 H1 w sm R1 hw => by
    obtain ⟨⟨xs, e0⟩, q⟩ := then_fillW q
    obtain ⟨v, h1, a, vs, rfl, fa, ha, hvs⟩ := R1.slot i _ e0
    refine ⟨_, h1, F1, r1, R1, post_mono (post_then q) fun k r2 q F2 H2 vk sm2 R2 hk => ?_⟩
    obtain ⟨b, ws, zs, ys, g1, g2, g3, g4, g5, g6⟩ := chgS_ok R2 (sm.trans sm2) q
    rw [h1] at g1
    cases g1
    unfold putF at g5
    split at g5
    · obtain ⟨j, g7, rfl⟩ := Option.map_eq_some_iff.mp g5
      cases hk
      exact ⟨a, ws, _, j, rfl, rfl, g2, by rw [g3.length]; exact g7, g6 _ (g3.upd (RD.mono sm2 d hw) j)⟩
    · cases g5⟩
/-- an item of a tracked list, by values -/
theorem get_list : PGet X (fun o i H Q => ∃ a vs k v, o = .ref a ∧ i = .int k ∧ H a = some (.lst vs) ∧ 0 ≤ k ∧ k < 1000000 ∧ vs[k.toNat]? = some v ∧ Q v H) := by
  intro pins s sg H o i ov iv Q I ro ri h
  obtain ⟨a, vs, k, v, rfl, rfl, ha, h0, h1, hv, q⟩ := h
  cases ro
  obtain ⟨t, rfl⟩ := ri
  obtain ⟨its, rv, pl, _⟩ := I.list (SqL.of ha)
  obtain ⟨u, hu, ru⟩ := rv.get hv
  exact PySem.wpAny_getItem_list pl.isList h0 (by omega) (by simpa using hu) ⟨v, H, I, ru, q⟩
/-- name[i] += e, ints -/
def augF (k d : D) : List D → Option (List D) := fun xs => match k, d with
  | .int i, .int y => if 0 ≤ i ∧ i < 1000000 then match xs[i.toNat]? with
    | some (.int z) => some (xs.set i.toNat (.int (z + y)))
    | _ => none else none
  | _, _ => none
def augS (i : Nat) (k y : Int) : En → SRs := fun r => chgS i (augF (.int k) (.int y)) r
theorem ixN_nat {n : Nat} {k : Int} (h0 : 0 ≤ k) (h : k.toNat < n) : ixN n k = some k.toNat := by
  unfold ixN
  rw [if_pos h0, if_pos (by omega)]
theorem ds_augI {i : Nat} {k y : Int} {j1 j2 : Nat} {sp p1 p2 : Pos} (hv : PE X (.Name x p) (tVar i))
    (ha : ∀ ov iv new, augStore (.Constant (.int k) j1 p1) ov iv new = (do holding [new, ov, iv] (setItem ov iv new); release [new, ov, iv] []; pure .next) := by intros; rfl) :
    DS X g (.AugAssign (.Subscript (.Name x p) (.Constant (.int k) j1 p1) sp) .Add (.Constant (.int y) j2 p2) pos) (augS i k y) :=
  PS.imp (ps_augS hv pe_int get_list pe_int ip_add set_list ha) fun E s H ⟨F, r, R, q⟩ => by
    obtain ⟨a, ws, zs, ys, g1, g2, g3, g4, g5, g6⟩ := chgS_ok R (Same.refl _) q
    have g5 : (if 0 ≤ k ∧ k < 1000000 then match zs[k.toNat]? with
      | some (.int z) => some (zs.set k.toNat (.int (z + y)))
      | _ => none else none) = some ys := g5
    split at g5
    · next hk =>
      split at g5
      · next z ez =>
        cases g5
        obtain ⟨w, k1, k2⟩ := g3.get ez
        cases k2
        refine ⟨_, g1, a, ws, k, _, rfl, rfl, g2, hk.1, hk.2, k1, z, y, rfl, rfl, a, ws, k, k.toNat, rfl, rfl, g2, ixN_nat hk.1 ?_, g6 _ (g3.upd (.int _) _)⟩
        exact (List.getElem?_eq_some_iff.mp k1).1
      · cases g5
    · cases g5
end

/-! ### walks of any data -/
def signs (x : Str) : List D := x.cps.toList.map fun c => .str ⟨#[c]⟩
def D.items : D → Option (List D)
  | .lst ds => some ds
  | .tup ds => some ds
  | .str x => if x.length ≤ 1000000 then some (signs x) else none
  | _ => none
def itA (f : En → Rs D) : En → Rs (List D) := fun r => (f r).bind fun d r1 => ofO d.items r1
section
variable {X : Cx} {g : G} {tg e a b : Expr} {pos p : Pos}
theorem PI.or {X : Cx} {tg e : Expr} {t t' : TI} (h : PI X tg e t) (h' : PI X tg e t') : PI X tg e (fun s H Q => t s H Q ∨ t' s H Q) :=
  ⟨fun pins s sg H Q I q => q.elim (h.run pins s sg H Q I) (h'.run pins s sg H Q I)⟩
theorem wk_str {K : PySem.W.Frag} {B : List (Nat × Addr)} {F : Hp} {x : Str} {J : It} (hg : ∀ i H, i < x.cps.size → J.go i H) (hy : ∀ (i : Nat) H v H', J.yld i H v H' → H' = H ∧ ∃ c, x.cps[i]? = some c ∧ v = .str ⟨#[c]⟩) (hs : ∀ i H, x.cps.size ≤ i → J.stop i H) : Wk K B F J (signs x) := fun g F1 H1 s r _ sm R => by
  refine ⟨fun i d ed => ?_, fun i hi => hs i H1 (by unfold signs at hi; simpa using hi)⟩
  unfold signs at ed
  rw [List.getElem?_map] at ed
  obtain ⟨c, e1, rfl⟩ := Option.map_eq_some_iff.mp ed
  have hi : i < x.cps.size := by
    have := (List.getElem?_eq_some_iff.mp e1).1
    simpa using this
  refine ⟨hg i H1 hi, fun v H2 hv => ?_⟩
  obtain ⟨rfl, c', e2, rfl⟩ := hy i H1 v H2 hv
  have e3 : x.cps[i]? = some c := by simpa using e1
  rw [e3] at e2
  cases e2
  exact ⟨F1, Same.refl _, R, .str _⟩
end
end DL

/-! Data layer, part 9: walks, methods of texts, constants of the module, the end. -/
namespace DL
open PySem L2
section
variable {X : Cx} {g : G} {tg e a b o : Expr} {pos p apos : Pos}
theorem di_any {f : En → Rs D} (h : DE X g e f) : DI X g tg e (itA f) := by
  refine PI.imp (PI.or (PI.or (pi_list h) (pi_tup h)) (pi_str h)) fun s H Q ⟨F, r, R, q⟩ => ?_
  cases ef : f r with
  | bad =>
    unfold itA at q
    rw [ef] at q
    exact q.elim
  | ex x r1 =>
    unfold itA at q
    rw [ef] at q
    exact .inl (.inl ⟨F, r, R, by rw [ef]; exact q⟩)
  | ok d r1 =>
    have q : post X.K g (PI' X.K g F s Q) (ofO d.items r1) := by
      unfold itA at q
      rw [ef] at q
      exact q
    obtain ⟨ds, ed, q⟩ := post_ofO q
    cases d with
    | lst zs =>
      cases ed
      refine .inl (.inl ⟨F, r, R, ?_⟩)
      rw [ef]
      intro F1 H1 v sm R1 hv
      cases hv with
      | lst h1 h2 => exact ⟨_, rfl, ⟨_, .of (R1.sub _ _ h1)⟩, q F1 H1 _ sm R1 (wk_list h1 h2)⟩
    | tup zs =>
      cases ed
      refine .inl (.inr ⟨F, r, R, ?_⟩)
      rw [ef]
      intro F1 H1 v sm R1 hv
      cases hv with
      | tup h1 h2 => exact ⟨_, rfl, ⟨_, same_sqT R1.sub h1⟩, q F1 H1 _ sm R1 (wk_tup h1 h2)⟩
    | str x =>
      have ed : (if x.length ≤ 1000000 then some (signs x) else none) = some ds := ed
      split at ed
      · cases ed
        refine .inr ⟨F, r, R, ?_⟩
        rw [ef]
        intro F1 H1 v sm R1 hv
        cases hv
        exact ⟨x, rfl, q F1 H1 _ sm R1 (wk_str (fun i H hi => hi) (fun i H v H' hy => hy) fun i H hi => hi)⟩
      · cases ed
    | _ => cases ed
/-- zip of two lists, of two tuples -/
def zipD : List D → List D → List D
  | x :: xs, y :: ys => .tup [x, y] :: zipD xs ys
  | _, _ => []
def zip2 : D → D → Option (List D)
  | .lst xs, .lst ys => some (zipD xs ys)
  | .tup xs, .tup ys => some (zipD xs ys)
  | _, _ => none
def zpD (f h : En → Rs D) : En → Rs (List D) := fun r => (f r).bind fun d r1 => (h r1).bind fun e r2 => ofO (zip2 d e) r2
/-- enumerate of a list -/
def enumD : Nat → List D → List D
  | _, [] => []
  | n, d :: ds => .tup [.int (n : Int), d] :: enumD (n + 1) ds
theorem enumD_len : ∀ (n : Nat) (ds : List D), (enumD n ds).length = ds.length
  | _, [] => rfl
  | n, d :: ds => by simp [enumD, enumD_len (n + 1) ds]
theorem enumD_get : ∀ {n : Nat} {ds : List D} {i : Nat} {d : D}, (enumD n ds)[i]? = some d → ∃ x, ds[i]? = some x ∧ d = .tup [.int ((n + i : Nat) : Int), x]
  | _, [], _, _, h => by simp [enumD] at h
  | n, x :: xs, 0, d, h => by
    simp [enumD] at h
    exact ⟨x, rfl, h.symm⟩
  | n, x :: xs, i + 1, d, h => by
    have h2 : (enumD (n + 1) xs)[i]? = some d := by simpa [enumD] using h
    obtain ⟨y, e1, e2⟩ := enumD_get (n := n + 1) (ds := xs) (i := i) h2
    exact ⟨y, e1, by rw [e2, show n + 1 + i = n + (i + 1) by omega]⟩
def enD (f : En → Rs D) : En → Rs (List D) := fun r => (f r).bind fun d r1 => ofO (d.asL.map (enumD 0)) r1
theorem di_enum {f : En → Rs D} {elts : List Expr} {kk : Nat} {tpos : Pos} (hm : X.mg "enumerate" = none) (hf : DE X g a f) (hg : Gl X "enumerate" := by rfl) (hs : starEach [a] X.env = [(false, eval a X.env)] := by rfl) : DI X g (.Tuple elts kk tpos) (.Call (.Name "enumerate" p) [a] [] pos) (enD f) :=
  PI.imp (pi_enum hg hm (pa_cons hf pa_nil hs) hs) fun s H Q ⟨F, r, R, q⟩ => ⟨F, r, R, post_mono (post_bind q) fun d r1 q F1 H1 v sm R1 hv => by
    obtain ⟨ds, ez, q⟩ := post_ofO q
    obtain ⟨xs, e1, rfl⟩ := Option.map_eq_some_iff.mp ez
    have e1 := asL_some e1
    subst e1
    cases hv with
    | lst h1 h2 =>
      refine ⟨_, _, rfl, .of (R1.sub _ _ h1), q F1 H1 _ sm R1 fun g F2 H2 s2 r2 _ sm2 R2 => ?_⟩
      have h1' : SqL X.K H2 _ _ := .of (R2.sub _ _ (sm2 _ _ h1))
      refine ⟨fun i d e => ?_, fun i hi => ⟨_, h1', by rw [enumD_len] at hi; rw [h2.length]; exact hi⟩⟩
      obtain ⟨x, e1, rfl⟩ := enumD_get e
      obtain ⟨w, e3, e4⟩ := h2.get e1
      refine ⟨⟨_, w, h1', e3⟩, fun z H3 ⟨T, x', ez, nT, eH, f1⟩ => ?_⟩
      subst ez eH
      have g1 := f1 _ h1'
      rw [e3] at g1
      cases g1
      have sF := same_upd (o := .tup [.int (i : Nat), w]) (R2.ff nT)
      refine ⟨_, sF, R2.alloc nT, .tup (.of upd_same) (.cons ?_ (.cons (RD.mono (sm2.trans sF) x e4) .nil))⟩
      rw [Nat.zero_add]
      exact .int _⟩

/-! ### methods of texts -/
def m1D (p q : Opd) (sem : D → D → Option D) : En → Rs D := fun r => (p.run r).bind fun x r1 => match look r1 x with
  | some (.str y) => (q.run r1).bind fun z r2 => ofO ((look r2 z).bind fun d => sem (.str y) d) r2
  | _ => .bad
theorem de_m1 {id : String} {name : Str} {pp q : Opd} {sem : D → D → Option D} (slot : Slot "str" name id) (ty : typeOf (.builtin id) = pure (.type "method_descriptor")) (rule : MtR X id (fun x xs H Q => ∃ y, xs = [y] ∧ rD2 X.K g sem x y H Q)) (ho : DB X g o pp) (he : DB X g e q)
    (hs : starEach [e] X.env = [(false, eval e X.env)] := by rfl) (hbase : attributeBase o name X.env (eval o X.env) = eval o X.env := by rfl) (hline : (apos.endLine == pos.line) = true := by rfl) : DE X g (.Call (.Attribute o name apos) [e] [] pos) (m1D pp q sem) :=
  PE.imp (pe_m1 slot ty rule ho he hs hbase hline) fun s H Q ⟨F, r, R, h⟩ => ⟨F, r, R, post_mono (post_bind h) fun z r1 q1 F1 H1 v sm R1 hv => by
    cases el : look r1 z with
    | none => rw [el] at q1; exact q1.elim
    | some d =>
      cases d with
      | str y =>
        rw [el] at q1
        have hb := look_ok R1 hv el
        cases hb.flat (fun _ => nofun)
        refine ⟨⟨y, rfl⟩, F1, r1, R1, post_mono (post_bind q1) fun z2 r2 q2 F2 H2 w s2 R2 hw => ⟨w, rfl, ?_⟩⟩
        obtain ⟨d, e, q2⟩ := post_ofO q2
        obtain ⟨dy, e2, e3⟩ := Option.bind_eq_some_iff.mp e
        exact ⟨F2, s, r2, .str y, dy, d, R2, .inl (.str y), look_ok R2 hw e2, e3, fun F3 H3 v3 s3 R3 h3 => q2 F3 H3 v3 ((sm.trans s2).trans s3) R3 h3⟩
      | _ => rw [el] at q1; exact q1.elim⟩
def semSIndex : D → D → Option D
  | .str x, .str y => match Builtin.Str.occurrences x y 0 x.length 1 with
    | i :: _ => some (.int (i : Nat))
    | [] => none
  | _, _ => none
theorem md_sindex : MtR X "str.index" (fun x xs H Q => ∃ y, xs = [y] ∧ rD2 X.K g semSIndex x y H Q) := by
  intro pins s sg H x xs v us Q I rx rv h
  obtain ⟨y, rfl, F, s0, r, dx, dy, d, R, hx, hy, e, q⟩ := h
  unfold semSIndex at e
  split at e
  · split at e
    · next i rest eo =>
      cases e
      cases hx.flat (fun _ => nofun); cases hy.flat (fun _ => nofun)
      exact mt_sindex pins s sg H _ _ v us Q I rx rv ⟨_, _, i, rest, rfl, rfl, eo, q F H _ (Same.refl _) R (.int _)⟩
    · cases e
  · cases e
def strsOf : List D → Option (List Str)
  | [] => some []
  | .str b :: ds => (strsOf ds).map fun bs => b :: bs
  | _ :: _ => none
theorem strs_vs {K : PySem.W.Frag} {F : Hp} : ∀ {vs : List V} {ds : List D} {bs : List Str}, RDs K F vs ds → strsOf ds = some bs → vs = bs.map V.str
  | _, [], bs, h, e => by cases h; cases e; rfl
  | _, d :: ds, bs, h, e => by
    cases h with
    | cons h1 h2 =>
      cases d with
      | str b =>
        obtain ⟨bs', e1, rfl⟩ := Option.map_eq_some_iff.mp e
        cases h1
        rw [strs_vs h2 e1]; rfl
      | _ => cases e
theorem RDs.strs {K : PySem.W.Frag} {F : Hp} : ∀ bs : List Str, RDs K F (bs.map V.str) (bs.map D.str)
  | [] => .nil
  | b :: bs => .cons (.str b) (RDs.strs bs)
def semJoin : D → D → Option D
  | .str x, .lst ds => (strsOf ds).bind fun ys => if (ys.map (·.length)).sum + ys.length * x.length ≤ 1000000 then some (.str (Txt.join x ys)) else none
  | .str x, .tup ds => (strsOf ds).bind fun ys => if (ys.map (·.length)).sum + ys.length * x.length ≤ 1000000 then some (.str (Txt.join x ys)) else none
  | _, _ => none
theorem md_join : MtR X "str.join" (fun x xs H Q => ∃ y, xs = [y] ∧ rD2 X.K g semJoin x y H Q) := by
  intro pins s sg H x xs v us Q I rx rv h
  obtain ⟨y, rfl, F, s0, r, dx, dy, d, R, hx, hy, e, q⟩ := h
  unfold semJoin at e
  split at e
  · obtain ⟨ys, e1, e2⟩ := Option.bind_eq_some_iff.mp e
    split at e2
    · next hl =>
      cases e2
      cases hx.flat (fun _ => nofun)
      obtain ⟨a, vs, rfl, h1, h2⟩ := hy.lst R.sub
      have ev := strs_vs h2 e1
      subst ev
      exact mt_join pins s sg H _ _ v us Q I rx rv ⟨_, a, ys, rfl, rfl, .inl (.of h1), Nat.le_trans hl (by decide), q F H _ (Same.refl _) R (.str _)⟩
    · cases e2
  · obtain ⟨ys, e1, e2⟩ := Option.bind_eq_some_iff.mp e
    split at e2
    · next hl =>
      cases e2
      cases hx.flat (fun _ => nofun)
      obtain ⟨a, vs, rfl, h1, _, h2⟩ := hy.tup R.sub
      have ev := strs_vs h2 e1
      subst ev
      exact mt_join pins s sg H _ _ v us Q I rx rv ⟨_, a, ys, rfl, rfl, .inr h1, Nat.le_trans hl (by decide), q F H _ (Same.refl _) R (.str _)⟩
    · cases e2
  · cases e
def semSplit : D → D → Option D
  | .str x, .str y => if y.length ≠ 0 ∧ x.length ≤ 1000000 then some (.lst ((Txt.split x y).map D.str)) else none
  | _, _ => none
theorem md_split : MtR X "str.split" (fun x xs H Q => ∃ y, xs = [y] ∧ rD2 X.K g semSplit x y H Q) := by
  intro pins s sg H x xs v us Q I rx rv h
  obtain ⟨y, rfl, F, s0, r, dx, dy, d, R, hx, hy, e, q⟩ := h
  unfold semSplit at e
  split at e
  · split at e
    · next hl =>
      cases e
      cases hx.flat (fun _ => nofun); cases hy.flat (fun _ => nofun)
      have hz : (1000000 : Nat) + 2 ≤ sizeLine := by decide
      exact mt_split pins s sg H _ _ v us Q I rx rv ⟨_, _, rfl, rfl, by simpa using hl.1, by omega, PD.lst R (RDs.strs _) q⟩
    · cases e
  · cases e

/-! ### constants of the module -/
/-- T[e], T a dict of the module with text keys: by a table -/
def tabD (t : List (Str × D)) (p : Opd) : En → Rs D := op1 p fun d => match d with
  | .str x => t.lookup x
  | _ => none
/-- a dict of the written part, whose values are flat -/
structure Tab (K : PySem.W.Frag) (w : World) (d : Addr) (t : List (Str × D)) : Prop where
  val : ∀ x z, t.lookup x = some z → ∃ v, KDct K w d x v ∧ ∀ F : Hp, RD K F v z
theorem de_tab {x : Str} {d : Addr} {t : List (Str × D)} {q : Opd} {np : Pos} (T : Tab X.K X.w d t) (hm : X.mg x = some (.ref d)) (he : DB X g e q) (hg : Gl X x := by rfl) (hdb : (x == ("__debug__" : Str)) = false := by decide) (hs : PlainIx e := by intro _ _; rfl) : DE X g (.Subscript (.Name x np) e pos) (tabD t q) :=
  PE.imp (pe_ix ix_kdict (pe_glob (v := .ref d) hg hm rfl hdb) he hs) fun s H Q h => by
    obtain ⟨F, r, R, q⟩ := tD_op1 h
    refine ⟨F, r, R, post_mono q fun z r1 q F1 H1 v sm R1 hv => ?_⟩
    obtain ⟨F2, s2, r2, dx, dz, R2, hx, e, q⟩ := q F1 H1 v sm R1 hv
    cases dx with
    | str y =>
      obtain ⟨w, k1, k2⟩ := T.val y dz e
      cases hx.flat (fun _ => nofun)
      exact ⟨d, y, w, rfl, rfl, k1, q F2 H1 w (Same.refl _) R2 (k2 F2)⟩
    | _ => cases e
end

/-! ### the end -/
theorem walkG {l : PySem.W.OpenLaw} {n k : Nat} {q : Program} {loose : List Str} {XP : (Str → Option Value) → Heap → Prop} {YP : World → Heap → Prop} {d : DefRec} {K : Params → PySem.W.Frag} {f : List D → Option OV} {x : Str}
    (hi : PyProof.Rows.importsNone q = true) (hn : l.most = some n) (hn2 : n ≤ sizeLine) (hdf : d.params.defaults = []) (room : Room k callerA) (hY : ∀ (w : World) (h : Heap), YP w h → (K w.params).In h)
    (F : ∀ (w : World) (mg : Str → Option Value) (fa : Addr) (h : Heap), (K w.params).In h → h.Ns mainGlobals mg → mg d.name = some (.ref fa) →
      ∃ fd : FuncData, (∀ (s : Shared) (u : Value), BindsTo s fd ⟨[u], []⟩ [(x, u)]) ∧ ∀ base : Heap, (K w.params).In base → base.Ns mainGlobals mg → SysAt base → FnG l.prog w (K w.params) mg base CX0 k fa fd [x] (spP (K w.params) 1 f))
    (hf : ∀ ns : List Int, ns.length ≤ n → f [.scr ns] = some (.sh (.bl true))) : PySem.W.WalkO q loose XP YP l.row.toRowW d [] (fun f vs => PySem.call f vs) := by
  refine Att.attach_call hn hdf fun w s0 s1 mg mb fa o pm cd doc a vs ns T Y ho hd hcd hmg hobj hnums hlen hg => ?_
  obtain ⟨fd, hb, FF⟩ := F w mg fa _ (hY w _ Y) T.T.g hmg
  refine law_callG (hY w _ Y) T.T.g T.T.b T.T.builtins T.T.nolimit (let ⟨mm, h, _⟩ := (T.T.seer hi).mods; ⟨mm, h⟩) hg hobj hnums (Nat.le_trans hlen hn2) room FF hb fun H only sq => ?_
  refine ⟨H, [.scr ns], .sh (.bl true), Same.refl _, .cons (.scr ns sq) .nil, rfl, hf ns hlen, fun F' H' v _ _ _ _ hv => ?_⟩
  have hv : RD (K w.params) F' v (.bl true) := hv
  cases hv
  rfl
end DL

/-! Data layer, part 10: a, b = x, y. -/
namespace DL
open PySem L2
section
variable {X : Cx} {g : G} {a b c : Expr} {pos pt pt2 px py pz : Pos} {x y z : Str} {kt k2 i j l : Nat}
def par2 (i j : Nat) (f : En → Rs D) (h : En → Rs OV) : En → SRs := fun r => thenS (f r) fun d r1 => thenS (h r1) fun o r2 => .nx ((r2.set i (some (.sh d))).set j (some o))
def par3 (i j l : Nat) (f f2 : En → Rs D) (h : En → Rs OV) : En → SRs := fun r => thenS (f r) fun d r1 => thenS (f2 r1) fun d2 r2 => thenS (h r2) fun o r3 => .nx (((r3.set i (some (.sh d))).set j (some (.sh d2))).set l (some o))
/-- an owned value is nobody's, whatever is stored elsewhere -/
theorem RV.set {K : PySem.W.Frag} {F H : Hp} {s : St} {r : En} {v w : V} {o : OV} {d : D} {i : Nat} (hv : RV K g F H s r v o) : RV K g F H (s.set i (some w)) (r.set i (some (.sh d))) v o := by
  cases o with
  | sh d' => exact hv
  | ow xs =>
    obtain ⟨a, vs, e1, e2, e3, e4, e5, e6, e7⟩ := hv
    refine ⟨a, vs, e1, e2, e3, e4, e5, fun k u ek eo => ?_, e7⟩
    by_cases hk : i = k
    · subst hk
      by_cases hi : i < r.length
      · rw [List.getElem?_set_self hi] at ek; cases ek; cases eo
      · rw [List.getElem?_eq_none (by simpa using hi)] at ek; cases ek
    · rw [List.getElem?_set_ne hk] at ek ⊢
      exact e6 k u ek eo
  | od xs => exact hv.elim
  | oi c xs => exact hv.elim
  | th xs => exact hv.elim
  | exc c => exact hv.elim
theorem RV.laid {K : PySem.W.Frag} {F H : Hp} {s : St} {r : En} {v : V} {o : OV} {p : Addr} {u : HO} (np : H p = none) (hv : RV K g F H s r v o) : RV K g F (L2.upd H p u) s r v o := by
  cases o with
  | sh d' => exact hv
  | ow xs =>
    obtain ⟨a, vs, e1, e2, e3, e4, e5, e6, e7⟩ := hv
    exact ⟨a, vs, e1, e2, same_upd np _ _ e3, e4, e5, e6, e7⟩
  | od xs => exact hv.elim
  | oi c xs => exact hv.elim
  | th xs => exact hv.elim
  | exc c => exact hv.elim
theorem ds_par2 {f : En → Rs D} {h : En → Rs OV} (hbi : ∀ p ∈ g.B, p.1 ≠ i) (hbj : ∀ p ∈ g.B, p.1 ≠ j) (hN : X.N.Nodup) (hc : X.calm = true) (hij : i ≠ j) (hf : DE X g a f) (hh : DO X g b h) (hi : X.N[i]? = some x := by rfl) (hj : X.N[j]? = some y := by rfl)
    (hx : X.env.scope.names.lookup x = some .local := by rfl) (hy : X.env.scope.names.lookup y = some .local := by rfl)
    (hw : swappedStores [.Tuple [.Name x px, .Name y py] kt pt] (.Tuple [a, b] k2 pt2) X.env = pure (some [x, y]) := by rfl)
    (hs : swapsWithSole [.Tuple [.Name x px, .Name y py] kt pt] (.Tuple [a, b] k2 pt2) pos.line X.env = pure false := by rfl)
    (h1 : starEach [a, b] X.env = (false, eval a X.env) :: starEach [b] X.env := by rfl) (h2 : starEach [b] X.env = (false, eval b X.env) :: starEach [] X.env := by rfl) :
    DS X g (.Assign [.Tuple [.Name x px, .Name y py] kt pt] (.Tuple [a, b] k2 pt2) pos) (par2 i j f h) :=
  PS.imp (ps_par hc hN hi hj hij hx hy (pa_cons hf (pa_cons hh pa_nil h2) h1) hw hs) fun E s H ⟨F, r, R, q⟩ => ⟨F, r, R, post_mono (post_then q) fun d r1 q F1 H1 v sm R1 hv => ⟨F1, r1, R1, post_mono (post_then q) fun o r2 q F2 H2 w sm2 R2 hw => by
    exact ⟨v, w, rfl, q F2 H2 _ (sm.trans sm2) ((R2.set hbi (o := .sh d) (RD.mono sm2 d hv)).set hbj hw.set)⟩⟩⟩
/-- the same where a tuple is made and taken apart (a name is a cell, or on another line) -/
theorem ds_tup2 {f : En → Rs D} {h : En → Rs OV} (hbi : ∀ p ∈ g.B, p.1 ≠ i) (hbj : ∀ p ∈ g.B, p.1 ≠ j) (hN : X.N.Nodup) (hc : X.calm = true) (hf : DE X g a f) (hh : DO X g b h) (hi : X.N[i]? = some x := by rfl) (hj : X.N[j]? = some y := by rfl)
    (hx : Loc X.env.scope x := by first | exact Or.inl rfl | exact Or.inr rfl) (hy : Loc X.env.scope y := by first | exact Or.inl rfl | exact Or.inr rfl)
    (hw : swappedStores [.Tuple [.Name x px, .Name y py] kt pt] (.Tuple [a, b] k2 pt2) X.env = pure none := by rfl)
    (hs : swapsWithSole [.Tuple [.Name x px, .Name y py] kt pt] (.Tuple [a, b] k2 pt2) pos.line X.env = pure false := by rfl)
    (h1 : starEach [a, b] X.env = (false, eval a X.env) :: starEach [b] X.env := by rfl) (h2 : starEach [b] X.env = (false, eval b X.env) :: starEach [] X.env := by rfl)
    (hfx : X.fn x = true ∨ X.env.scope.names.lookup x = some .local := by first | exact .inl rfl | exact .inr rfl) (hfy : X.fn y = true ∨ X.env.scope.names.lookup y = some .local := by first | exact .inl rfl | exact .inr rfl)
    (hst : (assignEach [.Name x px, .Name y py] X.env).findIdx? (·.1) = none := by rfl) (hln : (assignEach [.Name x px, .Name y py] X.env).length = 2 := by rfl)
    (ha1 : (assignEach [.Name x px, .Name y py] X.env).map (·.2) = assign (.Name x px) X.env :: (assignEach [.Name y py] X.env).map (·.2) := by rfl) (ha2 : (assignEach [.Name y py] X.env).map (·.2) = assign (.Name y py) X.env :: (assignEach [] X.env).map (·.2) := by rfl)
    (ha0 : (assignEach [.Tuple [.Name x px, .Name y py] kt pt] X.env).map (·.2) = [assign (.Tuple [.Name x px, .Name y py] kt pt) X.env] := by rfl) :
    DS X g (.Assign [.Tuple [.Name x px, .Name y py] kt pt] (.Tuple [a, b] k2 pt2) pos) (par2 i j f h) :=
  PS.imp (ps_asg (pe_tup (pa_cons hf (pa_cons hh pa_nil h2) h1)) (pg_tup hc (pgs_cons (pg_name (i := i) hN hi hx hfx) (pgs_cons (pg_name (i := j) hN hj hy hfy) pgs_nil ha2) ha1) hln hst) hs hw ha0) fun E s H ⟨F, r, R, q⟩ => ⟨F, r, R, post_mono (post_then q) fun d r1 q F1 H1 v sm R1 hv => ⟨F1, r1, R1, post_mono (post_then q) fun o r2 q F2 H2 w sm2 R2 hw => by
    refine ⟨by show 2 ≤ sizeLine; decide, fun p np => ⟨p, [v, w], rfl, .of upd_same, rfl, v, [w], rfl, w, [], rfl, rfl, ?_⟩⟩
    exact q F2 _ _ (sm.trans sm2) (((R2.laid np).set hbi (o := .sh d) (RD.mono sm2 d hv)).set hbj (hw.laid np).set)⟩⟩
end
end DL

/-! Data layer, part 11: what the printed texts use. -/
namespace DL
open PySem L2
theorem nb {g : G} {bs : List Nat} (h : g.B.map (·.1) = bs) (i : Nat) (hi : i ∉ bs) : ∀ p ∈ g.B, p.1 ≠ i := fun p hp z => hi (by rw [← h]; exact List.mem_map.mpr ⟨p, hp, z⟩)
theorem nb00 {g : G} (h : g.B = []) : g.B.map (·.1) = [] := by rw [h]; rfl
theorem nbs {g : G} {bs vs : List Nat} (h : g.B.map (·.1) = bs) (hv : ∀ i ∈ bs, i ∉ vs) : ∀ p ∈ g.B, p.1 ∉ vs := fun p hp => hv _ (by rw [← h]; exact List.mem_map.mpr ⟨p, hp, rfl⟩)
theorem nbt {g g' : G} {bs : List Nat} (e : Blk g g') (h : g.B.map (·.1) = bs) : g'.B.map (·.1) = bs := by rw [e.B]; exact h
theorem u65 {k : Nat} {A : Around} (r : Room k A) : A.units + 65 < cLine := by have := r.un; omega
def frzD (f : En → Rs OV) : En → Rs D := fun r => (f r).map OV.d
def shD (f : En → Rs D) : En → Rs OV := fun r => (f r).map OV.sh
def yesT : En → Rs Bool := fun r => .ok true r
section
variable {X : Cx} {g : G} {e c : Expr}
theorem DO.fz {f : En → Rs OV} (h : DO X g e f) : DE X g e (frzD f) := h.frz
theorem DE.shd {f : En → Rs D} (h : DE X g e f) : DO X g e (shD f) := h.sh
theorem PTs.imp {ifs : List Expr} {t t' : TT} (h : PTs X ifs t) (i : ∀ s H Q, t' s H Q → t s H Q) : PTs X ifs t' := ⟨fun pins s sg H Q I q => h.run pins s sg H Q I (i sg H Q q)⟩
theorem pts_nilD : PTs X [] (tTD X.K g yesT) := PTs.imp pts_nil fun s H Q ⟨F, r, R, q⟩ => q F H (Same.refl _) R
theorem pts_oneD {f : En → Rs Bool} (h : DT X g c f) : PTs X [c] (tTD X.K g f) := pts_one h
end
/-- a def of the text stands under its name -/
def FnAt (K : PySem.W.Frag) (mg : Str → Option Value) (x : Str) (st : Stmt) : Prop := ∃ f fd, Fun K x x st f fd ∧ mg x = some (.ref f)
/-- a dict of the module with texts as values -/
def TabOk (K : PySem.W.Frag) (d : Addr) : List (Str × Str) → Prop
  | [] => True
  | p :: r => (∃ t, PySem.W.nsIn K d p.1 = some (some (.str p.2 t))) ∧ TabOk K d r
theorem tab_of {K : PySem.W.Frag} {w : World} {d : Addr} {es : Array DictEntry} {n : Nat} (hl : K.lookup d = some ⟨.type "dict", none, .dict es n, #[]⟩) (hk : PySem.W.KeysLit w.params es.toList) (t : List (Str × Str)) (h : TabOk K d t) : Tab K w d (t.map fun p => (p.1, D.str p.2)) := by
  refine ⟨fun x z e => ?_⟩
  induction t with
  | nil => cases e
  | cons p r ih =>
    obtain ⟨⟨tk, h1⟩, h2⟩ := h
    have e : (match x == p.1 with | true => some (D.str p.2) | false => (r.map fun p => (p.1, D.str p.2)).lookup x) = some z := e
    cases hb : x == p.1 with
    | true =>
      rw [hb] at e
      cases e
      have hx : x = p.1 := eq_of_beq hb
      subst hx
      exact ⟨.str p.2, ⟨es, n, _, hl, hk, h1, _, rfl⟩, fun F => .str _⟩
    | false =>
      rw [hb] at e
      exact ih h2 e
end DL

/-! Data layer, part 12: plain lemmas about the functions of the layer. -/
namespace DL
open PySem L2
/-- a comprehension whose turns keep an invariant of the environment -/
theorem lcS_inv {vs : List Nat} {h : D → En → Option En} {t : En → Rs Bool} {elt : En → Rs D} (I : En → Prop) (P : D → Prop) : ∀ (ds : List D), (∀ d ∈ ds, ∀ r, I r → ∃ r1 r2 y r3, h d (wipeE r vs) = some r1 ∧ t r1 = .ok true r2 ∧ elt r2 = .ok y r3 ∧ P y ∧ I (wipeE r3 vs)) →
    ∀ r, I r → ∃ ys r', lcS vs h t elt ds r = .ok ys r' ∧ ys.length = ds.length ∧ (∀ y ∈ ys, P y) ∧ I r'
  | [], _, r, hr => ⟨[], r, rfl, rfl, fun _ z => absurd z List.not_mem_nil, hr⟩
  | d :: ds, st, r, hr => by
    obtain ⟨r1, r2, y, r3, e1, e2, e3, hy, h3⟩ := st d (List.mem_cons_self ..) r hr
    obtain ⟨ys, r', e4, e5, e6, e7⟩ := lcS_inv I P ds (fun d hd => st d (List.mem_cons_of_mem _ hd)) _ h3
    refine ⟨y :: ys, r', ?_, by rw [List.length_cons, List.length_cons, e5], fun z hz => ?_, e7⟩
    · unfold lcS
      rw [e1]
      simp only [e2, Rs.bind, if_true, e3, e4]
    · rcases List.mem_cons.mp hz with rfl | hz
      · exact hy
      · exact e6 z hz
/-- a comprehension that changes nothing -/
theorem lcS_map {vs : List Nat} {h : D → En → Option En} {t : En → Rs Bool} {elt : En → Rs D} (p : D → Bool) (q : D → D) (r : En) : ∀ (ds : List D), (∀ d ∈ ds, ∃ r1 r2, h d (wipeE r vs) = some r1 ∧ t r1 = .ok (p d) r2 ∧ wipeE r2 vs = r ∧ (p d = true → ∃ r3, elt r2 = .ok (q d) r3 ∧ wipeE r3 vs = r)) →
    lcS vs h t elt ds r = .ok ((ds.filter p).map q) r
  | [], _ => rfl
  | d :: ds, st => by
    obtain ⟨r1, r2, e1, e2, e0, e3⟩ := st d (List.mem_cons_self ..)
    have ih := lcS_map p q r ds fun d hd => st d (List.mem_cons_of_mem _ hd)
    unfold lcS
    rw [e1]
    simp only [e2, Rs.bind]
    cases hp : p d with
    | false =>
      rw [List.filter_cons_of_neg (by simp [hp])]
      simp only [Bool.false_eq_true, if_false]
      rw [e0]
      exact ih
    | true =>
      obtain ⟨r3, e4, e5⟩ := e3 hp
      rw [List.filter_cons_of_pos hp]
      simp only [if_true, e4, e5, ih, List.map_cons]
/-- a for whose turns keep an invariant by the number of the turn and go on -/
theorem forS_inv {h : D → En → Option En} {body : En → SRs} (ds : List D) (I : Nat → En → Prop) (st : ∀ (i : Nat) (d : D), ds[i]? = some d → ∀ r, I i r → ∃ r1 r2, h d r = some r1 ∧ body r1 = .nx r2 ∧ I (i + 1) r2) : ∀ r, I 0 r → ∃ r', forS h body ds r = .nx r' ∧ I ds.length r' := by
  have go : ∀ (es : List D) (k : Nat), (∀ (i : Nat) (d : D), es[i]? = some d → ds[k + i]? = some d) → ∀ r, I k r → ∃ r', forS h body es r = .nx r' ∧ I (k + es.length) r' := fun es => by
    induction es with
    | nil => exact fun k _ r hr => ⟨r, rfl, hr⟩
    | cons d es ih =>
      intro k hk r hr
      obtain ⟨r1, r2, e1, e2, h2⟩ := st k d (hk 0 d rfl) r hr
      obtain ⟨r', e3, h3⟩ := ih (k + 1) (fun i d' hd => by rw [show k + 1 + i = k + (i + 1) by omega]; exact hk (i + 1) d' hd) r2 h2
      refine ⟨r', ?_, by rw [List.length_cons, show k + (es.length + 1) = k + 1 + es.length by omega]; exact h3⟩
      unfold forS
      rw [e1]
      simp only [e2, e3]
  intro r hr
  obtain ⟨r', e, h'⟩ := go ds 0 (fun i d hd => by rw [Nat.zero_add]; exact hd) r hr
  rw [Nat.zero_add] at h'
  exact ⟨r', e, h'⟩
theorem rangeD_len (lo : Int) (n : Nat) : (rangeD lo n).length = n := by unfold rangeD; simp
theorem atI_lt {α : Type} {xs : List α} {i : Int} (h0 : 0 ≤ i) (h : i < xs.length) : atI xs i = some (xs[i.toNat]'(by omega)) := by
  unfold atI ixN
  rw [if_pos h0, if_pos h]
  simp only [Option.bind_some]
  exact List.getElem?_eq_getElem _
theorem atI_mem {α : Type} {xs : List α} {i : Int} (h0 : 0 ≤ i) (h : i < xs.length) : ∃ x, atI xs i = some x ∧ x ∈ xs := ⟨_, atI_lt h0 h, List.getElem_mem _⟩
/-- pigeons -/
theorem exists_not_mem {α : Type} [DecidableEq α] : ∀ (l m : List α), l.Nodup → m.length < l.length → ∃ x ∈ l, x ∉ m
  | [], m, _, h => by simp at h
  | x :: l, m, nd, h => by
    by_cases hx : x ∈ m
    · have nd' := (List.nodup_cons.mp nd)
      have hl : (m.erase x).length < l.length := by
        rw [List.length_erase_of_mem hx]
        have : 0 < m.length := List.length_pos_of_mem hx
        rw [List.length_cons] at h
        omega
      obtain ⟨y, hy, hn⟩ := exists_not_mem l (m.erase x) nd'.2 hl
      refine ⟨y, List.mem_cons_of_mem _ hy, fun z => hn ?_⟩
      have hne : y ≠ x := fun e => nd'.1 (e ▸ hy)
      exact (List.mem_erase_of_ne hne).mpr z
    · exact ⟨x, List.mem_cons_self .., hx⟩
/-! texts as lists of codes -/
theorem fit_str {x : Str} (h : ∀ c ∈ x.cps.toList, c < 1114112) : (D.str x).fit = true := by
  unfold D.fit D.pl D.dp
  simp only [Nat.zero_le, decide_true, Bool.and_true]
  rw [← Array.all_toList, List.all_eq_true]
  exact fun c hc => decide_eq_true (h c hc)
theorem pl_of_fit {d : D} (h : d.fit = true) : d.pl = true := (Bool.and_eq_true_iff.mp h).1
theorem plAll_of {ds : List D} (h : ∀ d ∈ ds, d.pl = true) : plAll ds = true := by
  induction ds with
  | nil => rfl
  | cons d ds ih =>
    show (d.pl && plAll ds) = true
    rw [h d (List.mem_cons_self ..), ih fun e he => h e (List.mem_cons_of_mem _ he)]; rfl
theorem dpAll_of {ds : List D} {n : Nat} (h : ∀ d ∈ ds, d.dp ≤ n) : dpAll ds ≤ n := by
  induction ds with
  | nil => exact Nat.zero_le _
  | cons d ds ih =>
    show max d.dp (dpAll ds) ≤ n
    exact Nat.max_le.mpr ⟨h d (List.mem_cons_self ..), ih fun e he => h e (List.mem_cons_of_mem _ he)⟩
theorem fit_lst {ds : List D} {n : Nat} (hn : n ≤ 63) (h : ∀ d ∈ ds, d.pl = true ∧ d.dp ≤ n) : (D.lst ds).fit = true := by
  unfold D.fit
  refine Bool.and_eq_true_iff.mpr ⟨plAll_of fun d hd => (h d hd).1, decide_eq_true ?_⟩
  have := dpAll_of fun d hd => (h d hd).2
  show dpAll ds + 1 ≤ 64
  omega
theorem fit_tup {ds : List D} {n : Nat} (hn : n ≤ 63) (h : ∀ d ∈ ds, d.pl = true ∧ d.dp ≤ n) : (D.tup ds).fit = true := by
  unfold D.fit
  refine Bool.and_eq_true_iff.mpr ⟨plAll_of fun d hd => (h d hd).1, decide_eq_true ?_⟩
  have := dpAll_of fun d hd => (h d hd).2
  show dpAll ds + 1 ≤ 64
  omega
end DL

/-! Data layer, part 13: repr. -/
namespace DL
open PySem L2

mutual
def D.wt : D → Nat
  | .non => 4
  | .bl _ => 5
  | .int i => if i.natAbs < 1000000000000000000 then 20 else 1921
  | .str x => 10 * x.length + 2
  | .lst xs => wtAll xs + 3
  | .tup xs => wtAll xs + 3
  | .dic _ => 0
  | .scr _ => 0
  | .obj _ _ => 0
def wtAll : List D → Nat
  | [] => 0
  | d :: ds => d.wt + 2 + wtAll ds
end
mutual
def D.six : D → Bool
  | .int i => decide (i.natAbs.log2 < 1920)
  | .lst xs => sixAll xs
  | .tup xs => sixAll xs
  | _ => true
def sixAll : List D → Bool
  | [] => true
  | d :: ds => d.six && sixAll ds
end
def D.shw (d : D) : Bool := d.fit && d.six && decide (d.wt ≤ 1000000)
/-! with dicts -/
def kpl : Key → Bool
  | .inl i => decide (i.natAbs.log2 < 1920)
  | .inr x => x.cps.all (· < 1114112)
def kwt : Key → Nat
  | .inl i => if i.natAbs < 1000000000000000000 then 20 else 1921
  | .inr x => 10 * x.length + 2
mutual
def D.rp : D → Bool
  | .non => true
  | .bl _ => true
  | .int i => decide (i.natAbs.log2 < 1920)
  | .str x => x.cps.all (· < 1114112)
  | .lst xs => rpAll xs
  | .tup xs => rpAll xs
  | .dic kvs => rpK kvs
  | .scr _ => false
  | .obj _ _ => false
def rpAll : List D → Bool
  | [] => true
  | d :: ds => d.rp && rpAll ds
def rpK : List (Key × D) → Bool
  | [] => true
  | (k, d) :: ds => kpl k && (d.rp && rpK ds)
end
mutual
def D.dq : D → Nat
  | .lst xs => dqAll xs + 1
  | .tup xs => dqAll xs + 1
  | .dic kvs => dqK kvs + 1
  | _ => 0
def dqAll : List D → Nat
  | [] => 0
  | d :: ds => max d.dq (dqAll ds)
def dqK : List (Key × D) → Nat
  | [] => 0
  | (_, d) :: ds => max d.dq (dqK ds)
end
mutual
def D.wq : D → Nat
  | .non => 4
  | .bl _ => 5
  | .int i => if i.natAbs < 1000000000000000000 then 20 else 1921
  | .str x => 10 * x.length + 2
  | .lst xs => wqAll xs + 3
  | .tup xs => wqAll xs + 3
  | .dic kvs => wqK kvs + 2
  | .scr _ => 0
  | .obj _ _ => 0
def wqAll : List D → Nat
  | [] => 0
  | d :: ds => d.wq + 2 + wqAll ds
def wqK : List (Key × D) → Nat
  | [] => 0
  | (k, d) :: ds => kwt k + 2 + d.wq + 2 + wqK ds
end
def D.shx (d : D) : Bool := d.rp && decide (d.dq ≤ 64) && decide (d.wq ≤ 1000000)
def semRepr : List D → Option D
  | [d] => if d.shw then some (.str d.py.shown) else if d.shx then some (.str d.py.shown) else none
  | _ => none
theorem int_text18 {i : Int} (h : i.natAbs < 1000000000000000000) : (Str.ofString (toString i)).length ≤ 20 := by
  have := int_text_length_le10 (a := i) (k := 18) (by decide) (by simpa using h)
  rw [PySem.ofString_length]
  omega
mutual
theorem shown_wt : ∀ d : D, d.pl = true → d.six = true → d.py.shown.length ≤ d.wt
  | .non, _, _ => by decide
  | .bl b, _, _ => by cases b <;> decide
  | .int i, _, h => by
    have h : decide (i.natAbs.log2 < 1920) = true := h
    show (Str.ofString (toString i)).length ≤ if i.natAbs < 1000000000000000000 then 20 else 1921
    split
    · next hl => exact int_text18 hl
    · exact PyProof.Rows.int_text_len_1921 (of_decide_eq_true h)
  | .str x, h, _ => by
    have h : x.cps.all (· < 1114112) = true := h
    refine StrLaws.reprText_len x fun c hc => ?_
    have := Array.all_eq_true_iff_forall_mem.mp h c (by simpa using hc)
    have := of_decide_eq_true this
    omega
  | .lst xs, h, k => by
    have h : plAll xs = true := h
    have k : sixAll xs = true := k
    have e := shownAll_wt xs h k
    have h2 := listText_len_le (PyData.shownAll (pys xs))
    show (listText (PyData.shownAll (pys xs))).length ≤ wtAll xs + 3
    omega
  | .tup xs, h, k => by
    have h : plAll xs = true := h
    have k : sixAll xs = true := k
    have e := shownAll_wt xs h k
    have h2 := tupleText_len_le (PyData.shownAll (pys xs))
    show (tupleText (PyData.shownAll (pys xs))).length ≤ wtAll xs + 3
    omega
  | .dic _, h, _ => by cases h
  | .scr _, h, _ => by cases h
  | .obj _ _, h, _ => by cases h
theorem shownAll_wt : ∀ ds : List D, plAll ds = true → sixAll ds = true → ((PyData.shownAll (pys ds)).map (·.length)).sum + 2 * (PyData.shownAll (pys ds)).length ≤ wtAll ds
  | [], _, _ => by decide
  | d :: ds, h, k => by
    have h : (d.pl && plAll ds) = true := h
    have k : (d.six && sixAll ds) = true := k
    obtain ⟨h1, h2⟩ := Bool.and_eq_true_iff.mp h
    obtain ⟨k1, k2⟩ := Bool.and_eq_true_iff.mp k
    have e1 := shown_wt d h1 k1
    have e2 := shownAll_wt ds h2 k2
    show ((d.py.shown :: PyData.shownAll (pys ds)).map (·.length)).sum + 2 * (d.py.shown :: PyData.shownAll (pys ds)).length ≤ d.wt + 2 + wtAll ds
    simp only [List.map_cons, List.sum_cons, List.length_cons]
    omega
end
mutual
theorem py_showable : ∀ d : D, d.pl = true → d.six = true → d.py.showable = true
  | .non, _, _ => rfl
  | .bl _, _, _ => rfl
  | .int i, _, h => h
  | .str x, h, _ => rfl
  | .lst xs, h, k => by
    have h : plAll xs = true := h
    have k : sixAll xs = true := k
    show PyData.showableAll (pys xs) = true
    exact pys_showable xs h k
  | .tup xs, h, k => by
    have h : plAll xs = true := h
    have k : sixAll xs = true := k
    show PyData.showableAll (pys xs) = true
    exact pys_showable xs h k
  | .dic _, h, _ => by cases h
  | .scr _, h, _ => by cases h
  | .obj _ _, h, _ => by cases h
theorem pys_showable : ∀ ds : List D, plAll ds = true → sixAll ds = true → PyData.showableAll (pys ds) = true
  | [], _, _ => rfl
  | d :: ds, h, k => by
    have h : (d.pl && plAll ds) = true := h
    have k : (d.six && sixAll ds) = true := k
    obtain ⟨h1, h2⟩ := Bool.and_eq_true_iff.mp h
    obtain ⟨k1, k2⟩ := Bool.and_eq_true_iff.mp k
    show (d.py.showable && PyData.showableAll (pys ds)) = true
    rw [py_showable d h1 k1, pys_showable ds h2 k2]; rfl
end
def kPy : Key → PyData
  | .inl i => .int i
  | .inr x => .str x
theorem pyk_cons (k : Key) (d : D) (ds : List (Key × D)) : pyk ((k, d) :: ds) = (kPy k, d.py) :: pyk ds := by cases k <;> rfl
theorem shownKv_cons (k v : PyData) (r : List (PyData × PyData)) : PyData.shownKv ((k, v) :: r) = (k.shown ++ ": " ++ v.shown) :: PyData.shownKv r := rfl
theorem key_wt (k : Key) (h : kpl k = true) : (kPy k).shown.length ≤ kwt k := by
  cases k with
  | inl i => exact shown_wt (.int i) rfl h
  | inr x => exact shown_wt (.str x) h rfl
theorem join_len : ∀ ps : List Str, (Str.join ", " ps).length ≤ (ps.map (·.length)).sum + 2 * ps.length
  | [] => by decide +kernel
  | [p] => by
    show p.length ≤ _
    simp
  | p :: q :: ps => by
    have ih := join_len (q :: ps)
    show (p ++ ", " ++ Str.join ", " (q :: ps)).length ≤ _
    rw [strLen_append, strLen_append]
    have h2 : ((", " : Str)).length = 2 := by decide +kernel
    simp only [List.map_cons, List.sum_cons, List.length_cons] at ih ⊢
    omega
theorem dictText_le (ps : List Str) : (dictText ps).length ≤ (ps.map (·.length)).sum + 2 * ps.length + 2 := by
  have h := join_len ps
  have h1 : (("{" : Str)).length = 1 := by decide +kernel
  have h2 : (("}" : Str)).length = 1 := by decide +kernel
  unfold dictText
  rw [strLen_append, strLen_append, h1, h2]
  omega
mutual
theorem shown_wq : ∀ d : D, d.rp = true → d.py.shown.length ≤ d.wq
  | .non, _ => by decide
  | .bl b, _ => by cases b <;> decide
  | .int i, h => shown_wt (.int i) rfl h
  | .str x, h => shown_wt (.str x) h rfl
  | .lst xs, h => by
    have e := shownAll_wq xs h
    have h2 := listText_len_le (PyData.shownAll (pys xs))
    show (listText (PyData.shownAll (pys xs))).length ≤ wqAll xs + 3
    omega
  | .tup xs, h => by
    have e := shownAll_wq xs h
    have h2 := tupleText_len_le (PyData.shownAll (pys xs))
    show (tupleText (PyData.shownAll (pys xs))).length ≤ wqAll xs + 3
    omega
  | .dic kvs, h => by
    have e := shownK_wq kvs h
    have h2 := dictText_le (PyData.shownKv (pyk kvs))
    show (dictText (PyData.shownKv (pyk kvs))).length ≤ wqK kvs + 2
    omega
  | .scr _, h => by cases h
  | .obj _ _, h => by cases h
theorem shownAll_wq : ∀ ds : List D, rpAll ds = true → ((PyData.shownAll (pys ds)).map (·.length)).sum + 2 * (PyData.shownAll (pys ds)).length ≤ wqAll ds
  | [], _ => by decide
  | d :: ds, h => by
    have h : (d.rp && rpAll ds) = true := h
    obtain ⟨h1, h2⟩ := Bool.and_eq_true_iff.mp h
    have e1 := shown_wq d h1
    have e2 := shownAll_wq ds h2
    show ((d.py.shown :: PyData.shownAll (pys ds)).map (·.length)).sum + 2 * (d.py.shown :: PyData.shownAll (pys ds)).length ≤ d.wq + 2 + wqAll ds
    simp only [List.map_cons, List.sum_cons, List.length_cons]
    omega
theorem shownK_wq : ∀ ds : List (Key × D), rpK ds = true → ((PyData.shownKv (pyk ds)).map (·.length)).sum + 2 * (PyData.shownKv (pyk ds)).length ≤ wqK ds
  | [], _ => by decide
  | (k, d) :: ds, h => by
    have h : (kpl k && (d.rp && rpK ds)) = true := h
    obtain ⟨h0, h⟩ := Bool.and_eq_true_iff.mp h
    obtain ⟨h1, h2⟩ := Bool.and_eq_true_iff.mp h
    have e0 := key_wt k h0
    have e1 := shown_wq d h1
    have e2 := shownK_wq ds h2
    have h3 : ((": " : Str)).length = 2 := by decide +kernel
    rw [pyk_cons, shownKv_cons, show wqK ((k, d) :: ds) = kwt k + 2 + d.wq + 2 + wqK ds from rfl]
    simp only [List.map_cons, List.sum_cons, List.length_cons, strLen_append, h3]
    omega
end
mutual
theorem rp_showable : ∀ d : D, d.rp = true → d.py.showable = true
  | .non, _ => rfl
  | .bl _, _ => rfl
  | .int i, h => h
  | .str x, h => rfl
  | .lst xs, h => rpAll_showable xs h
  | .tup xs, h => rpAll_showable xs h
  | .dic kvs, h => rpK_showable kvs h
  | .scr _, h => by cases h
  | .obj _ _, h => by cases h
theorem rpAll_showable : ∀ ds : List D, rpAll ds = true → PyData.showableAll (pys ds) = true
  | [], _ => rfl
  | d :: ds, h => by
    have h : (d.rp && rpAll ds) = true := h
    obtain ⟨h1, h2⟩ := Bool.and_eq_true_iff.mp h
    show (d.py.showable && PyData.showableAll (pys ds)) = true
    rw [rp_showable d h1, rpAll_showable ds h2]; rfl
theorem rpK_showable : ∀ ds : List (Key × D), rpK ds = true → PyData.showableKv (pyk ds) = true
  | [], _ => rfl
  | (k, d) :: ds, h => by
    have h : (kpl k && (d.rp && rpK ds)) = true := h
    obtain ⟨h0, h⟩ := Bool.and_eq_true_iff.mp h
    obtain ⟨h1, h2⟩ := Bool.and_eq_true_iff.mp h
    rw [pyk_cons]
    show ((kPy k).showable && d.py.showable && PyData.showableKv (pyk ds)) = true
    rw [rp_showable d h1, rpK_showable ds h2]
    cases k with
    | inl i => show (decide (i.natAbs.log2 < 1920) && true && true) = true; rw [show decide (i.natAbs.log2 < 1920) = true from h0]; rfl
    | inr x => rfl
end
mutual
theorem rp_depth : ∀ d : D, d.rp = true → d.py.depth = d.dq
  | .non, _ => rfl
  | .bl _, _ => rfl
  | .int i, h => rfl
  | .str x, h => rfl
  | .lst xs, h => by show PyData.depthAll (pys xs) + 1 = dqAll xs + 1; rw [rpAll_depth xs h]
  | .tup xs, h => by show PyData.depthAll (pys xs) + 1 = dqAll xs + 1; rw [rpAll_depth xs h]
  | .dic kvs, h => by show PyData.depthKv (pyk kvs) + 1 = dqK kvs + 1; rw [rpK_depth kvs h]
  | .scr _, h => by cases h
  | .obj _ _, h => by cases h
theorem rpAll_depth : ∀ ds : List D, rpAll ds = true → PyData.depthAll (pys ds) = dqAll ds
  | [], _ => rfl
  | d :: ds, h => by
    have h : (d.rp && rpAll ds) = true := h
    obtain ⟨h1, h2⟩ := Bool.and_eq_true_iff.mp h
    show max d.py.depth (PyData.depthAll (pys ds)) = max d.dq (dqAll ds)
    rw [rp_depth d h1, rpAll_depth ds h2]
theorem rpK_depth : ∀ ds : List (Key × D), rpK ds = true → PyData.depthKv (pyk ds) = dqK ds
  | [], _ => rfl
  | (k, d) :: ds, h => by
    have h : (kpl k && (d.rp && rpK ds)) = true := h
    obtain ⟨h0, h⟩ := Bool.and_eq_true_iff.mp h
    obtain ⟨h1, h2⟩ := Bool.and_eq_true_iff.mp h
    rw [pyk_cons]
    show max (max (kPy k).depth d.py.depth) (PyData.depthKv (pyk ds)) = max d.dq (dqK ds)
    rw [rp_depth d h1, rpK_depth ds h2]
    cases k <;> simp [PyData.depth, kPy]
end
section
variable {X : Cx} {pins : List (Addr × Obj)} {s : Shared} {H : Hp} {sg : St}
theorem Inv.ne_sys (I : Inv X pins sg H s) (sy : SysAt X.base) {a : Addr} {o : HO} (h : H a = some o) : a ≠ sysModules := fun e => by
  subst e
  obtain ⟨ob, ho⟩ := sy
  rw [(I.bs _ ob ho).2] at h
  cases h
theorem key_reads {h : Heap} {k : Key} {v : Value} (e : keyIs k v = true) : Reads h v (kPy k) [] := by
  rcases keyIs_shape e with ⟨i, t, rfl, rfl⟩ | ⟨x, t, rfl, rfl⟩
  · exact Reads.int i t
  · exact Reads.str x t
mutual
theorem RD.readsX (I : Inv X pins sg H s) (sy : SysAt X.base) : ∀ (d : D) (v : V) (u : Value), d.rp = true → RD X.K H v d → RelV v u → ∃ as, Reads s.heap u d.py as ∧ sysModules ∉ as
  | .non, _, _, _, h, r => by cases h; cases r; exact ⟨_, Reads.none, List.not_mem_nil⟩
  | .bl b, _, _, _, h, r => by cases h; cases r; exact ⟨_, Reads.bool b, List.not_mem_nil⟩
  | .int i, _, _, _, h, r => by cases h; obtain ⟨t, rfl⟩ := r; exact ⟨_, Reads.int i t, List.not_mem_nil⟩
  | .str x, _, _, _, h, r => by cases h; obtain ⟨t, rfl⟩ := r; exact ⟨_, Reads.str x t, List.not_mem_nil⟩
  | .lst ds, _, _, hp, h, r => by
    have hp : rpAll ds = true := hp
    cases h with
    | lst hs ha =>
      cases r
      obtain ⟨its, rv, ⟨o, n, ho, hc, _, hd⟩, _⟩ := I.list (SqL.of hs)
      obtain ⟨as, hr, hn⟩ := RDs.readsX I sy ds _ its hp ha rv
      refine ⟨_, Reads.list ho hc hd hr, fun z => ?_⟩
      rcases List.mem_cons.mp z with z | z
      · exact Inv.ne_sys I sy hs z.symm
      · exact hn z
  | .tup ds, _, _, hp, h, r => by
    have hp : rpAll ds = true := hp
    cases h with
    | tup hs ha =>
      cases r
      obtain ⟨its, rv, ⟨o, ho, hc, n, hd⟩, _⟩ := I.tuple hs
      obtain ⟨as, hr, hn⟩ := RDs.readsX I sy ds _ its hp ha rv
      exact ⟨_, Reads.tuple ho hc hd hr, hn⟩
  | .dic kds, _, _, hp, h, r => by
    have hp : rpK kds = true := hp
    cases h with
    | dic hs ha =>
      cases r
      obtain ⟨_, hne, vs, kv, o, es, ep, ho, hx, hd, _, hpr, _⟩ := dk_rd I.hok (.inr ⟨_, hs⟩)
      obtain ⟨as, hr1, hr2, hn⟩ := RDk.readsX I sy kds _ _ _ hp ha kv hpr
      have := Reads.dict ho hx.1 hd hr1 hr2
      refine ⟨_, this, fun z => ?_⟩
      rcases List.mem_append.mp z with z | z
      · rcases List.mem_cons.mp z with z | z
        · rw [← z] at hne; exact absurd hne (by decide)
        · cases z
      · exact hn z
  | .scr _, _, _, hp, _, _ => by cases hp
  | .obj _ _, _, _, hp, _, _ => by cases hp
theorem RDs.readsX (I : Inv X pins sg H s) (sy : SysAt X.base) : ∀ (ds : List D) (vs : List V) (us : List Value), rpAll ds = true → RDs X.K H vs ds → Vals vs us → ∃ as, ReadsAll s.heap us (pys ds) as ∧ sysModules ∉ as
  | [], _, _, _, h, r => by cases h; cases r; exact ⟨_, ReadsAll.nil, List.not_mem_nil⟩
  | d :: ds, _, _, hp, h, r => by
    have hp : (d.rp && rpAll ds) = true := hp
    obtain ⟨h1, h2⟩ := Bool.and_eq_true_iff.mp hp
    cases h with
    | cons a1 a2 =>
      cases r with
      | cons r1 r2 =>
        obtain ⟨as, q1, n1⟩ := RD.readsX I sy d _ _ h1 a1 r1
        obtain ⟨bs, q2, n2⟩ := RDs.readsX I sy ds _ _ h2 a2 r2
        exact ⟨_, ReadsAll.cons q1 q2, fun z => (List.mem_append.mp z).elim n1 n2⟩
theorem RDk.readsX (I : Inv X pins sg H s) (sy : SysAt X.base) : ∀ (kds : List (Key × D)) (kvs : List (Key × V)) (vs : List (Key × Value)) (es : List DictEntry), rpK kds = true → RDk X.K H kvs kds → KV kvs vs → PySem.Pairs (mixKind X.prog X.w) es vs → ∃ bs, ReadsAll s.heap (es.map (·.key)) ((pyk kds).map (·.1)) [] ∧ ReadsAll s.heap (es.map (·.val)) ((pyk kds).map (·.2)) bs ∧ sysModules ∉ bs
  | [], _, _, _, _, h, r, p => by cases h; cases r; cases p; exact ⟨_, ReadsAll.nil, ReadsAll.nil, List.not_mem_nil⟩
  | (k, d) :: kds, _, _, _, hp, h, r, p => by
    have hp : (kpl k && (d.rp && rpK kds)) = true := hp
    obtain ⟨_, hp⟩ := Bool.and_eq_true_iff.mp hp
    obtain ⟨h1, h2⟩ := Bool.and_eq_true_iff.mp hp
    cases h with
    | cons a1 a2 =>
      cases r with
      | cons r1 r2 =>
        cases p with
        | cons p1 p2 p3 =>
          obtain ⟨e1, e2⟩ := r1
          obtain ⟨as, q1, n1⟩ := RD.readsX I sy d _ _ h1 a1 e2
          obtain ⟨bs, q2, q3, n2⟩ := RDk.readsX I sy kds _ _ _ h2 a2 r2 p3
          refine ⟨as ++ bs, ?_, ?_, fun z => (List.mem_append.mp z).elim n1 n2⟩
          · have hk : Reads s.heap _ (kPy _) [] := key_reads (h := s.heap) p1
            rw [← e1] at hk
            rw [pyk_cons]
            exact ReadsAll.cons hk q2
          · rw [← p2] at q1
            rw [pyk_cons]
            exact ReadsAll.cons q1 q3
end
end
section
variable {X : Cx} {g : G}
theorem cd_repr {k : Nat} (hgd : X.A.guards = some []) (hr : Room k X.A) (sy : SysAt X.base) : CallR X (.builtin "repr") (rDN X.K g semRepr) := by
  intro pins s sg H xs us Q I rv h
  obtain ⟨F, s0, r, ds, d, R, hx, e, q⟩ := h
  unfold semRepr at e
  split at e
  · next d0 =>
    split at e
    · next hs =>
      cases e
      obtain ⟨hs1, hs2⟩ := Bool.and_eq_true_iff.mp hs
      obtain ⟨hf, h6⟩ := Bool.and_eq_true_iff.mp hs1
      obtain ⟨hp, hd⟩ := Bool.and_eq_true_iff.mp hf
      have hd := of_decide_eq_true hd
      have hw := of_decide_eq_true hs2
      have hsz := Nat.le_trans (shown_wt d0 hp h6) (Nat.le_trans hw mil_line)
      have hsh := py_showable d0 hp h6
      obtain ⟨v, rfl, h1⟩ := hx.one
      obtain ⟨u, rfl, ru⟩ := vals1 rv
      obtain ⟨as, rr⟩ := RD.reads I d0 v u hp (h1.rd R.sub) ru
      have fin := q F H (.str d0.py.shown) (Same.refl _) R (.str _)
      have un := hr.un
      have dep := py_depth d0 hp
      have dep' : X.A.units + (d0.py.depth + 1) < cLine := by omega
      cases d0 with
      | non => cases rr; exact P.repr_of_none ⟨.str _, H, I.tok _, ⟨_, rfl⟩, fin⟩
      | bl b => cases rr; exact P.repr_of_bool ⟨.str _, H, I.tok _, ⟨_, rfl⟩, fin⟩
      | int i => cases rr; exact P.repr_of_int (of_decide_eq_true h6) ⟨.str _, H, I.tok _, ⟨_, rfl⟩, fin⟩
      | str x => cases rr; exact P.repr_of_str (hsz := hsz) ⟨.str _, H, I.tok _, ⟨_, rfl⟩, fin⟩
      | lst xs =>
        have hn := PyData.noDict_hsm (as := as) (PyData.hasDict_of_canLay _ (py_lay _ hp))
        cases rr with
        | list z1 z2 z3 z4 => exact repr_of_reads' (.list z1 z2 z3 z4) hsh hn hgd dep' (fun _ _ e => e) (fun h' u tk hk => ⟨.str _, H, I.kept hk, ⟨_, rfl⟩, fin⟩) hsz
      | tup xs =>
        have hn := PyData.noDict_hsm (as := as) (PyData.hasDict_of_canLay _ (py_lay _ hp))
        cases rr with
        | tuple z1 z2 z3 z4 => exact repr_of_reads' (.tuple z1 z2 z3 z4) hsh hn hgd dep' (fun _ _ e => e) (fun h' u tk hk => ⟨.str _, H, I.kept hk, ⟨_, rfl⟩, fin⟩) hsz
      | dic _ => cases hp
      | scr _ => cases hp
      | obj _ _ => cases hp
    · split at e
      · next hs =>
        cases e
        obtain ⟨hs1, hs2⟩ := Bool.and_eq_true_iff.mp hs
        obtain ⟨hp, hd⟩ := Bool.and_eq_true_iff.mp hs1
        have hd := of_decide_eq_true hd
        have hw := of_decide_eq_true hs2
        have hsz := Nat.le_trans (shown_wq d0 hp) (Nat.le_trans hw mil_line)
        have hsh := rp_showable d0 hp
        obtain ⟨v, rfl, h1⟩ := hx.one
        obtain ⟨u, rfl, ru⟩ := vals1 rv
        obtain ⟨as, rr, hn⟩ := RD.readsX I sy d0 v u hp (h1.rd R.sub) ru
        have fin := q F H (.str d0.py.shown) (Same.refl _) R (.str _)
        have un := hr.un
        have dep := rp_depth d0 hp
        have dep' : X.A.units + (d0.py.depth + 1) < cLine := by omega
        cases d0 with
        | non => cases rr; exact P.repr_of_none ⟨.str _, H, I.tok _, ⟨_, rfl⟩, fin⟩
        | bl b => cases rr; exact P.repr_of_bool ⟨.str _, H, I.tok _, ⟨_, rfl⟩, fin⟩
        | int i => cases rr; exact P.repr_of_int (of_decide_eq_true hp) ⟨.str _, H, I.tok _, ⟨_, rfl⟩, fin⟩
        | str x => cases rr; exact P.repr_of_str (hsz := hsz) ⟨.str _, H, I.tok _, ⟨_, rfl⟩, fin⟩
        | lst xs =>
          cases rr with
          | list z1 z2 z3 z4 => exact repr_of_reads' (.list z1 z2 z3 z4) hsh (fun _ => hn) hgd dep' (fun _ _ e => e) (fun h' u tk hk => ⟨.str _, H, I.kept hk, ⟨_, rfl⟩, fin⟩) hsz
        | tup xs =>
          cases rr with
          | tuple z1 z2 z3 z4 => exact repr_of_reads' (.tuple z1 z2 z3 z4) hsh (fun _ => hn) hgd dep' (fun _ _ e => e) (fun h' u tk hk => ⟨.str _, H, I.kept hk, ⟨_, rfl⟩, fin⟩) hsz
        | dic kvs =>
          cases rr with
          | dict z1 z2 z3 z4 z5 => exact repr_of_reads' (.dict z1 z2 z3 z4 z5) hsh (fun _ => hn) hgd dep' (fun _ _ e => e) (fun h' u tk hk => ⟨.str _, H, I.kept hk, ⟨_, rfl⟩, fin⟩) hsz
        | scr _ => cases hp
        | obj _ _ => cases hp
      · cases e
  · cases e
end
end DL

/-! Data layer, part 14: truth of any data, isinstance, chains of comparisons. -/
namespace DL
open PySem L2

def D.tru : D → Option Bool
  | .non => some false
  | .bl b => some b
  | .int i => some (i != 0)
  | .str x => if x.length ≤ 1000000 then some (x.length != 0) else none
  | .lst xs => some (!xs.isEmpty)
  | .tup xs => some (!xs.isEmpty)
  | _ => none
section
variable {K : PySem.W.Frag} {F H : Hp} {v : V} {d : D}
theorem RDs.isE {vs : List V} {ds : List D} (h : RDs K F vs ds) : vs.isEmpty = ds.isEmpty := by
  cases h <;> rfl
theorem tru_of {k : Bool} (sub : Same F H) (h : RB K F H v d) (e : d.tru = some k) : TruV K v H k := by
  cases d with
  | non => cases h.flat (fun _ => nofun); cases e; rfl
  | bl b => cases h.flat (fun _ => nofun); cases e; rfl
  | int b => cases h.flat (fun _ => nofun); cases e; rfl
  | str x =>
    cases h.flat (fun _ => nofun)
    have e : (if x.length ≤ 1000000 then some (x.length != 0) else none) = some k := e
    by_cases hl : x.length ≤ 1000000
    · rw [if_pos hl] at e
      cases e
      refine ⟨Nat.le_trans hl mil_line, ?_⟩
      cases hx : x.length with
      | zero => rfl
      | succ n => 
        show (n + 1 != 0) = (((n + 1 : Nat) : Int) != 0)
        have h1 : (((n + 1 : Nat) : Int) != 0) = true := by
          rw [bne_iff_ne]; omega
        rw [h1]; rfl
    · rw [if_neg hl] at e; cases e
  | lst xs =>
    obtain ⟨a, vs, rfl, h1, h2⟩ := h.lst sub
    cases e
    exact .inl ⟨vs, .of h1, by rw [h2.isE]⟩
  | tup xs =>
    obtain ⟨a, vs, rfl, h1, _, h2⟩ := h.tup sub
    cases e
    exact .inr (.inl ⟨vs, h1, by rw [h2.isE]⟩)
  | dic _ => cases e
  | scr _ => cases e
  | obj _ _ => cases e
end
def toT (p : Opd) : En → Rs Bool := fun r => (p.run r).bind fun x r1 => ofO ((look r1 x).bind D.tru) r1
def orV (f h : En → Rs D) : En → Rs D := fun r => (f r).bind fun d r1 => (ofO d.tru r1).bind fun c r1 => if c = true then .ok d r1 else h r1
def andV (f h : En → Rs D) : En → Rs D := fun r => (f r).bind fun d r1 => (ofO d.tru r1).bind fun c r1 => if c = true then h r1 else .ok d r1
def notV (p : Opd) : En → Rs D := fun r => (toT p r).map fun c => .bl (!c)
section
variable {X : Cx} {g : G} {e a b c : Expr} {pos : Pos} {p : Opd}
theorem tB_tru {K : PySem.W.Frag} {s : St} {H : Hp} {Q : Bool → Hp → Prop} (h : tTD K g (toT p) s H Q) : tB K g p s H fun x H1 => ∃ k, TruV K x H1 k ∧ Q k H1 := by
  obtain ⟨F, r, R, h⟩ := h
  refine ⟨F, r, R, post_mono (post_bind h) fun z r1 q F1 H1 v sm R1 hv => ?_⟩
  obtain ⟨k, e, q⟩ := post_ofO q
  obtain ⟨d, e1, e2⟩ := Option.bind_eq_some_iff.mp e
  exact ⟨k, tru_of R1.sub (look_ok R1 hv e1) e2, q F1 H1 sm R1⟩
theorem dt_tru (h : DB X g e p) (he : ∀ whole, isTrue e X.env whole = (do let v ← whole; standAt e.pos; holding [v] (truthy v)) := by intro _; rfl) : DT X g e (toT p) :=
  PT.imp (pt_truth h he) fun s H Q h => tB_tru h
theorem de_orV {f h : En → Rs D} {rest : List Expr} (hf : DE X g a f) (hh : DE X g (.BoolOp .Or (b :: rest) pos) h) : DE X g (.BoolOp .Or (a :: b :: rest) pos) (orV f h) :=
  PE.imp (pe_orT hf hh) fun s H Q ⟨F, r, R, q⟩ => ⟨F, r, R, post_mono (post_bind q) fun d r1 q F1 H1 v sm R1 hv => by
    obtain ⟨k, e, q⟩ := post_ofO (post_bind q)
    refine ⟨k, tru_of R1.sub (.inl hv) e, ?_⟩
    cases k with
    | true => exact q F1 H1 v sm R1 hv
    | false => exact ⟨F1, r1, R1, post_mono q fun d2 r2 q F2 H2 v2 s2 R2 hv2 => q F2 H2 v2 (sm.trans s2) R2 hv2⟩⟩
/-! ### a < b < c -/
def chD (p q u : Opd) (sem sem' : D → D → Option D) : En → Rs D := fun r => (p.run r).bind fun x r1 => (q.run r1).bind fun y r2 =>
  (ofO (((look r2 x).bind fun dx => (look r2 y).bind fun dy => sem dx dy).bind D.asB) r2).bind fun k r2 => if k = true then (u.run r2).bind fun z r3 => ofO ((look r3 y).bind fun dy => (look r3 z).bind fun dz => sem' dy dz) r3 else .ok (.bl false) r2
/-! ### isinstance(e, T), isinstance(e, (T, ..)) -/
def D.ty : D → String
  | .non => "NoneType"
  | .bl _ => "bool"
  | .int _ => "int"
  | .str _ => "str"
  | .lst _ => "list"
  | .tup _ => "tuple"
  | .dic _ => "dict"
  | .scr _ => "list"
  | .obj _ _ => "object"
def isTy (t : String) (T : String) : Bool := t == T || (t == "bool" && T == "int")
def D.isi (d : D) (Ts : List String) : Bool := Ts.any (isTy d.ty)
def isiD (p : Opd) (Ts : List String) : En → Rs D := fun r => (p.run r).bind fun x r1 => ofO ((look r1 x).bind fun d => match d with
  | .scr _ => none
  | .obj _ _ => none
  | d => some (.bl (d.isi Ts))) r1
theorem ty_of {K : PySem.W.Frag} {F H : Hp} {v : V} {d : D} (sub : Same F H) (h : RB K F H v d) (h2 : (∀ x, d ≠ .scr x) ∧ ∀ c x, d ≠ .obj c x) : TyX K H v (.type d.ty) := by
  cases d with
  | non => cases h.flat (fun _ => nofun); exact .base .non
  | bl b => cases h.flat (fun _ => nofun); exact .base (.bl _)
  | int b => cases h.flat (fun _ => nofun); exact .base (.int _)
  | str x => cases h.flat (fun _ => nofun); exact .base (.str _)
  | lst xs =>
    obtain ⟨a, vs, rfl, h1, h2⟩ := h.lst sub
    exact .base (.lst h1)
  | tup xs =>
    obtain ⟨a, vs, rfl, h1, _, h2⟩ := h.tup sub
    rcases h1 with (h1 | ⟨o, h1⟩) | ⟨o, its, n, h1, hc, _⟩
    · exact .base (.tup h1)
    · exact .fTuple h1
    · exact .kTuple h1 hc
  | dic x =>
    cases h.flat (fun _ => nofun) with
    | dic h1 h2 =>
      exact .fDict (sub _ _ h1)
  | scr x => exact absurd rfl (h2.1 x)
  | obj c x => exact absurd rfl (h2.2 c x)
end
end DL

/-! Data layer, part 15: dicts whose keys are ints and texts. -/
namespace DL
open PySem L2

def D.key : D → Option Key
  | .int i => some (.inl i)
  | .str x => some (.inr x)
  | _ => none
def valD (ds : List (Key × D)) (k : Key) : Option D := (ds.find? fun kv => decide (kv.1 = k)).map (·.2)
def putD (ds : List (Key × D)) (k : Key) (d : D) : List (Key × D) :=
  if (ds.any fun kv => decide (kv.1 = k)) = true then ds.map (fun kv => if kv.1 = k then (kv.1, d) else kv) else ds ++ [(k, d)]
def mergeD (ds more : List (Key × D)) : List (Key × D) := more.foldl (fun acc kv => putD acc kv.1 kv.2) ds
section
variable {K : PySem.W.Frag} {F H : Hp}
theorem key_of {v : V} {d : D} {k : Key} (h : RD K F v d) (e : d.key = some k) : v = kV k := by
  cases d with
  | int i => cases h; cases e; rfl
  | str x => cases h; cases e; rfl
  | _ => cases e
theorem RDk.find {k : Key} : ∀ {vs : List (Key × V)} {ds : List (Key × D)}, RDk K F vs ds → (∀ d, valD ds k = some d → ∃ v, valV vs k = some v ∧ RD K F v d) ∧ (valD ds k = none → valV vs k = none)
  | _, [], h => by cases h; exact ⟨fun d e => (by cases e), fun _ => rfl⟩
  | _, (j, d) :: ds, h => by
    cases h with
    | cons h1 h2 =>
      rename_i v vs
      obtain ⟨i1, i2⟩ := RDk.find (k := k) h2
      by_cases hk : j = k
      · have e1 : valD ((j, d) :: ds) k = some d := by simp [valD, List.find?_cons, hk]
        have e2 : valV ((j, v) :: vs) k = some v := valV_pos (p := (j, v)) hk
        rw [e1, e2]
        exact ⟨fun d' e => (by cases e; exact ⟨v, rfl, h1⟩), fun e => (by cases e)⟩
      · have e1 : valD ((j, d) :: ds) k = valD ds k := by simp [valD, List.find?_cons, hk]
        have e2 : valV ((j, v) :: vs) k = valV vs k := valV_neg (p := (j, v)) hk
        rw [e1, e2]
        exact ⟨i1, i2⟩
theorem RDk.any {k : Key} : ∀ {vs : List (Key × V)} {ds : List (Key × D)}, RDk K F vs ds → (vs.any fun kv => decide (kv.1 = k)) = (ds.any fun kv => decide (kv.1 = k))
  | _, [], h => by cases h; rfl
  | _, (j, d) :: ds, h => by
    cases h with
    | cons h1 h2 => rw [List.any_cons, List.any_cons, RDk.any h2]
theorem RDk.snoc {k : Key} {v : V} {d : D} (r : RD K F v d) : ∀ {vs : List (Key × V)} {ds : List (Key × D)}, RDk K F vs ds → RDk K F (vs ++ [(k, v)]) (ds ++ [(k, d)])
  | _, [], h => by cases h; exact .cons r .nil
  | _, (j, d) :: ds, h => by
    cases h with
    | cons h1 h2 => exact .cons h1 (RDk.snoc r h2)
theorem RDk.mapk {k : Key} {v : V} {d : D} (r : RD K F v d) : ∀ {vs : List (Key × V)} {ds : List (Key × D)}, RDk K F vs ds → RDk K F (vs.map fun kv => if kv.1 = k then (kv.1, v) else kv) (ds.map fun kv => if kv.1 = k then (kv.1, d) else kv)
  | _, [], h => by cases h; exact .nil
  | _, (j, d) :: ds, h => by
    cases h with
    | cons h1 h2 =>
      rw [List.map_cons, List.map_cons]
      by_cases hk : j = k
      · rw [if_pos hk, if_pos hk]; exact .cons r (RDk.mapk r h2)
      · rw [if_neg hk, if_neg hk]; exact .cons h1 (RDk.mapk r h2)
theorem RDk.put {k : Key} {v : V} {d : D} (r : RD K F v d) {vs : List (Key × V)} {ds : List (Key × D)} (h : RDk K F vs ds) : RDk K F (putK vs k v) (putD ds k d) := by
  unfold putK putD
  rw [h.any]
  split
  · exact h.mapk r
  · exact h.snoc r
theorem RDk.merge : ∀ {more : List (Key × D)} {mv : List (Key × V)} {vs : List (Key × V)} {ds : List (Key × D)}, RDk K F vs ds → RDk K F mv more → RDk K F (mergeK vs mv) (mergeD ds more)
  | [], _, _, _, h, h' => by cases h'; exact h
  | (k, d) :: more, _, vs, ds, h, h' => by
    cases h' with
    | cons h1 h2 =>
      show RDk K F (mergeK (putK vs k _) _) (mergeD (putD ds k d) more)
      exact RDk.merge (h.put h1) h2
theorem RDk.length : ∀ {vs : List (Key × V)} {ds : List (Key × D)}, RDk K F vs ds → vs.length = ds.length
  | _, [], h => by cases h; rfl
  | _, (j, d) :: ds, h => by
    cases h with
    | cons h1 h2 => rw [List.length_cons, List.length_cons, RDk.length h2]
theorem RB.dic {v : V} {ds : List (Key × D)} (sub : Same F H) (h : RB K F H v (.dic ds)) : ∃ a vs, v = .ref a ∧ Rd H a (.dK vs) ∧ RDk K F vs ds := by
  cases h.flat (fun _ => nofun) with
  | dic h1 h2 => exact ⟨_, _, rfl, .inr ⟨_, sub _ _ h1⟩, h2⟩
end
/-! ### d[k], k in d -/
def semAt : D → D → Option D
  | .dic ds, y => y.key.bind fun k => valD ds k
  | x, y => semIx x y
def inB2 : D → D → Option Bool
  | x, .dic ds => x.key.map fun k => (valD ds k).isSome
  | x, y => inB x y
def semIn2 (d e : D) : Option D := (inB2 d e).map D.bl
def semNotIn2 (d e : D) : Option D := (inB2 d e).map fun b => D.bl (!b)
section
variable {X : Cx} {g : G}
theorem ixAt (hu : X.A.units + 65 < cLine) : IxR X (rD2 X.K g semAt) := by
  intro value slice pins s sg H x y v u Q I rx ry h hs
  obtain ⟨F, s0, r, dx, dy, d, R, hx, hy, e, q⟩ := h
  unfold semAt at e
  split at e
  · next ds =>
    obtain ⟨k, ek, e⟩ := Option.bind_eq_some_iff.mp e
    obtain ⟨a, vs, rfl, h1, h2⟩ := hx.dic R.sub
    obtain rfl : v = Value.ref a := rx
    have ey : y = kV k := by
      refine key_of (hy.flat fun xs z => ?_) ek
      rw [z] at ek; cases ek
    subst ey
    obtain ⟨w, ew, hw⟩ := h2.find.1 _ e
    have gt : DGet H a (kV k) (some w) := .inl ⟨vs, k, h1, rfl, ew.symm⟩
    exact PyProof.Rows.tail_any (dict_typeIs I gt) PySem.F.slot_dict_getitem.lookup (d_getItem (by omega) I gt ry fun w' s' I' rw' => ⟨w, H, I', rw', q F H w (Same.refl _) R hw⟩) hs
  · exact ixd value slice pins s sg H x y v u Q I rx ry ⟨F, s0, r, dx, dy, d, R, hx, hy, e, q⟩ hs
theorem dget_of {F H : Hp} {s0 : St} {r : En} {y : V} {dy : D} {a : Addr} {vs : List (Key × V)} {ds : List (Key × D)} {k : Key} (R : Rel X.K g F H s0 r) (hy : RB X.K F H y dy) (ek : dy.key = some k) (h1 : Rd H a (.dK vs)) (h2 : RDk X.K F vs ds) : y = kV k ∧ DGet H a y (valV vs k) ∧ (valV vs k).isSome = (valD ds k).isSome := by
  have ey : y = kV k := by
    refine key_of (hy.flat fun xs z => ?_) ek
    rw [z] at ek; cases ek
  subst ey
  refine ⟨rfl, .inl ⟨vs, k, h1, rfl, rfl⟩, ?_⟩
  cases e : valD ds k with
  | none => rw [h2.find.2 e]; rfl
  | some d =>
    obtain ⟨w, ew, _⟩ := h2.find.1 d e
    rw [ew]; rfl
theorem opd_in2 (hu : X.A.units + 65 < cLine) : OpR X (compareOp .In) (rD2 X.K g semIn2) := by
  intro pins s sg H x y v u Q I rx ry h
  obtain ⟨F, s0, r, dx, dy, d, R, hx, hy, e, q⟩ := h
  obtain ⟨b, eb, rfl⟩ := Option.map_eq_some_iff.mp e
  unfold inB2 at eb
  split at eb
  · next x0 ds =>
    obtain ⟨k, ek, rfl⟩ := Option.map_eq_some_iff.mp eb
    obtain ⟨a, vs, rfl, h1, h2⟩ := hy.dic R.sub
    obtain rfl : u = Value.ref a := ry
    obtain ⟨_, gt, eq⟩ := dget_of R hx ek h1 h2
    refine d_in (by omega) I gt rx fun s' I' => ⟨.bl _, H, I', rfl, ?_⟩
    rw [eq]
    exact q F H _ (Same.refl _) R (.bl _)
  · exact opd_in hu pins s sg H x y v u Q I rx ry ⟨F, s0, r, dx, dy, _, R, hx, hy, by unfold semIn; rw [eb]; rfl, q⟩
theorem opd_notIn2 (hu : X.A.units + 65 < cLine) : OpR X (compareOp .NotIn) (rD2 X.K g semNotIn2) := by
  intro pins s sg H x y v u Q I rx ry h
  obtain ⟨F, s0, r, dx, dy, d, R, hx, hy, e, q⟩ := h
  obtain ⟨b, eb, rfl⟩ := Option.map_eq_some_iff.mp e
  unfold inB2 at eb
  split at eb
  · next x0 ds =>
    obtain ⟨k, ek, rfl⟩ := Option.map_eq_some_iff.mp eb
    obtain ⟨a, vs, rfl, h1, h2⟩ := hy.dic R.sub
    obtain rfl : u = Value.ref a := ry
    obtain ⟨_, gt, eq⟩ := dget_of R hx ek h1 h2
    refine d_notIn (by omega) I gt rx fun s' I' => ⟨.bl _, H, I', rfl, ?_⟩
    rw [eq]
    exact q F H _ (Same.refl _) R (.bl _)
  · exact opd_notIn hu pins s sg H x y v u Q I rx ry ⟨F, s0, r, dx, dy, _, R, hx, hy, by unfold semNotIn; rw [eb]; rfl, q⟩
end
/-! ### {k: v, ..} -/
def evPs : List ((En → Rs D) × (En → Rs D)) → En → Rs (List (Key × D))
  | [], r => .ok [] r
  | (f, h) :: fs, r => (f r).bind fun k r1 => (h r1).bind fun d r2 => (ofO k.key r2).bind fun k r2 => (evPs fs r2).bind fun kds r3 => .ok ((k, d) :: kds) r3
def dicD (fs : List ((En → Rs D) × (En → Rs D))) : En → Rs D := fun r => (evPs fs r).noE.bind fun kds r1 => if kds.length ≤ 15 then .ok (.dic (mergeD [] kds)) r1 else .bad
/-- a reading whatever is held still -/
def tDa (K : PySem.W.Frag) (g0 : G) (f : En → Rs D) : TE := fun s H Q => ∃ g : G, Blk g0 g ∧ tD K g f s H Q
def trsD (K : PySem.W.Frag) (g0 : G) (fs : List ((En → Rs D) × (En → Rs D))) : List (TE × TE) := fs.map fun f => (tDa K g0 f.1, tDa K g0 f.2)
def DPs (X : Cx) (g0 : G) (pos : Pos) (ks : List (Option Expr)) (vs : List Expr) (fs : List ((En → Rs D) × (En → Rs D))) : Prop := PPs X pos ks vs (trsD X.K g0 fs)
section
variable {X : Cx} {g : G} {pos : Pos}
theorem dps_nil {g0 : G} : DPs X g0 pos [] [] [] := pps_nil
theorem dps_cons {g0 : G} {k v : Expr} {ks : List (Option Expr)} {vs : List Expr} {f h : En → Rs D} {fs : List ((En → Rs D) × (En → Rs D))} (hk : ∀ g : G, Blk g0 g → DE X g k f) (hv : ∀ g : G, Blk g0 g → DE X g v h) (hr : DPs X g0 pos ks vs fs) :
    DPs X g0 pos (some k :: ks) (v :: vs) ((f, h) :: fs) :=
  pps_cons ⟨fun pins s σ H Q I ⟨g', eg, q⟩ => (hk g' eg).run pins s σ H Q I q⟩ ⟨fun pins s σ H Q I ⟨g', eg, q⟩ => (hv g' eg).run pins s σ H Q I q⟩ hr
theorem pairs_ok {K : PySem.W.Frag} {s : St} {g0 : G} (bk : Blk g0 g) : ∀ (fs : List ((En → Rs D) × (En → Rs D))) {F H : Hp} {r : En} {Q : List (V × V) → Hp → Prop}, Rel K g F H s r →
    post K g (fun kds r' => ∀ F' H' (kvs : List (Key × V)), Same F F' → Rel K g F' H' s r' → RDk K F' kvs kds → Q (kvs.map fun kv => (kV kv.1, kv.2)) H') (evPs fs r) → tPairs (trsD K g0 fs) s H Q
  | [], F, H, r, Q, R, q => q F H [] (Same.refl _) R .nil
  | (f, h) :: fs, F, H, r, Q, R, q => by
    refine ⟨g, bk, F, r, R, post_mono (post_bind q) fun k r1 q F1 H1 v1 sm1 R1 hv1 => ⟨g, bk, F1, r1, R1, post_mono (post_bind q) fun d r2 q F2 H2 v2 sm2 R2 hv2 => ?_⟩⟩
    obtain ⟨k', ek, q⟩ := post_ofO (post_bind q)
    refine pairs_ok bk fs R2 (post_mono (post_bind q) fun kds r3 q F3 H3 kvs sm3 R3 hk3 => ?_)
    have e1 : v1 = kV k' := key_of hv1 ek
    subst e1
    exact q F3 H3 ((k', v2) :: kvs) ((sm1.trans sm2).trans sm3) R3 (.cons (RD.mono sm3 d hv2) hk3)
/-- what is held still is filled and frozen -/
theorem Rel.fill {K : PySem.W.Frag} {F H : Hp} {s : St} {r : En} {A : Addr} {o o' : HO} (R : Rel K (g.more A o) F H s r) (h0 : g.H0 A = none) (hX : ∀ p ∈ g.X, p.1 ≠ A) : Same F (L2.upd F A o') ∧ Rel K g (L2.upd F A o') (L2.upd H A o') s r := by
  obtain ⟨R, h1, h2, h3⟩ := R.less
  have sF : Same F (L2.upd F A o') := same_upd h2
  refine ⟨sF, fun b u e => ?_, R.f0.trans sF, fun b u e e0 => ?_, fun b u e hb => ?_, fun i u e => ?_, R.own, R.dist, R.pin, R.len, fun p hp => ?_⟩
  · by_cases hb : b = A
    · subst hb; rw [upd_same] at e ⊢; exact e
    · rw [upd_ne hb] at e ⊢; exact R.sub b u e
  · by_cases hb : b = A
    · subst hb; exact h0
    · rw [upd_ne hb] at e; exact R.fnew b u e e0
  · rw [upd_ne fun z => by rw [z, h0] at e; cases e]; exact R.keep b u e hb
  · obtain ⟨v, a1, a2⟩ := R.slot i u e
    refine ⟨v, a1, ?_⟩
    cases u with
    | sh d => exact RD.mono sF d a2
    | ow xs =>
      obtain ⟨b, ws, e1, e2, e3, e4⟩ := a2
      have hb : b ≠ A := fun z => h3 i _ e rfl (by rw [a1, e1, z])
      exact ⟨b, ws, e1, by rw [upd_ne hb]; exact e2, by rw [upd_ne hb]; exact e3, RDs.mono sF xs e4⟩
    | od xs =>
      obtain ⟨b, ws, e1, e2, e3, e4⟩ := a2
      have hb : b ≠ A := fun z => h3 i _ e rfl (by rw [a1, e1, z])
      exact ⟨b, ws, e1, by rw [upd_ne hb]; exact e2, by rw [upd_ne hb]; exact e3, RDm.mono sF xs e4⟩
    | oi c xs =>
      obtain ⟨b, ws, e1, e2, e3, e4⟩ := a2
      have hb : b ≠ A := fun z => h3 i _ e rfl (by rw [a1, e1, z])
      exact ⟨b, ws, e1, by rw [upd_ne hb]; exact e2, by rw [upd_ne hb]; exact e3, RDi.mono sF xs e4⟩
    | th xs =>
      obtain ⟨b, ws, e1, e2, e3, e4⟩ := a2
      have hb : b ≠ A := fun z => h3 i _ e rfl (by rw [a1, e1, z])
      exact ⟨b, ws, e1, by rw [upd_ne hb]; exact e2, by rw [upd_ne hb]; exact e3, RT.mono sF xs e4⟩
    | exc c => exact RE.mono sF a2
  · obtain ⟨x1, x2, x3⟩ := R.ext p hp
    exact ⟨by rw [upd_ne (hX p hp)]; exact x1, by rw [upd_ne (hX p hp)]; exact x2, x3⟩
/-- what was just made is locked -/
def tLk (t : TE) : TE := fun σ H Q => t σ H fun v H' => ∃ d u, H' d = some u ∧ Mut (some u) ∧ ∀ od, Q v (L2.upd H' d (.frz od u))
theorem pe_lk {e : Expr} {t : TE} (h : PE X e t) : PE X e (tLk t) := by
  refine ⟨fun pins s σ H Q I hw => ?_⟩
  refine thn (h.run pins s σ H _ I hw) fun v s1 ⟨x, H1, I2, r, d, u, hd, mu, q⟩ => ?_
  obtain ⟨od, I3⟩ := I2.lock hd mu
  exact ⟨x, _, I3, r, q od⟩
theorem de_disp {ks : List (Option Expr)} {vs : List Expr} {fs : List ((En → Rs D) × (En → Rs D))} (h : DPs X g pos ks vs fs) (hall : ks.all (·.isSome) = true := by rfl) (hl : ks.length = vs.length := by rfl) (h0 : ks ≠ [] := by exact List.cons_ne_nil _ _) (h15 : ks.length ≤ 15 := by decide) :
    DE X g (.Dict ks vs pos) (dicD fs) :=
  PE.imp (pe_lk (pe_disp h hall hl h0 h15)) fun s H Q ⟨F, r, R, q⟩ => fun p np => by
    have R1 : Rel X.K (g.more p (.dK [])) F (L2.upd H p (.dK [])) s r := (R.laid np).more upd_same (R.ff np) fun j o e eo => not_own R np j o e eo
    have hX : ∀ q ∈ g.X, q.1 ≠ p := fun q hq z => by have := (R.ext q hq).1; rw [z, np] at this; cases this
    refine pairs_ok (g := (g.more p (.dK [])).nw) (g0 := g) ⟨rfl, rfl, rfl, rfl⟩ fs R1.nw (post_mono (post_noE (post_bind q)) fun kds r1 q F2 H2 kvs sm R2 hk => ?_)
    have R2 := R2.unw
    obtain ⟨hl, q⟩ := post_if q
    refine ⟨R2.less.2.1, kvs, rfl, by rw [hk.length]; exact hl, ?_⟩
    have m : RDk X.K F2 (mergeK [] kvs) (mergeD [] kds) := RDk.merge .nil hk
    refine ⟨p, _, upd_same, trivial, fun od => ?_⟩
    rw [upd_upd]
    obtain ⟨sF, R3⟩ := R2.fill (o' := .frz od (.dK (mergeK [] kvs))) (R.live np) hX
    exact q _ _ _ (sm.trans sF) R3 (.dic upd_same (RDk.mono sF _ m))
/-! ### dict(pairs) -/
def pairD : List D → Option (List (Key × D))
  | [] => some []
  | .tup [k, d] :: ds => k.key.bind fun k => (pairD ds).map fun kds => (k, d) :: kds
  | _ => none
def semDict : List D → Option D
  | [.lst ds] => (pairD ds).map fun kds => .dic (mergeD [] kds)
  | _ => none
end
end DL

/-! Data layer, part 16: a name that gets a list and never changes it: frozen at once. -/
namespace DL
open PySem L2
section
variable {X : Cx} {g : G}
theorem Rel.fz {K : PySem.W.Frag} {F H : Hp} {s : St} {r : En} {i : Nat} {xs : List D} (R : Rel K g F H s r) (hb : ∀ p ∈ g.B, p.1 ≠ i) (e : r[i]? = some (some (.ow xs))) : ∃ F', Same F F' ∧ Rel K g F' H s (r.set i (some (.sh (.lst xs)))) := by
  obtain ⟨v, h1, h2⟩ := R.slot i _ e
  obtain ⟨a, vs, rfl, e2, e3, e4⟩ := h2
  have sF : Same F (L2.upd F a (.lst vs)) := same_upd e2
  have hi : i < r.length := (List.getElem?_eq_some_iff.mp e).1
  have ne : ∀ j u, (r.set i (some (.sh (.lst xs))))[j]? = some (some u) → u.own = true → j ≠ i ∧ r[j]? = some (some u) := fun j u z zo => by
    by_cases hj : i = j
    · subst hj
      rw [List.getElem?_set_self hi] at z
      cases z
      cases zo
    · rw [List.getElem?_set_ne hj] at z
      exact ⟨fun z => hj z.symm, z⟩
  have h0 : g.H0 a = none := by
    rcases R.own i _ a e rfl h1 with z | z
    · exact z
    · exact absurd rfl (hb _ z)
  refine ⟨L2.upd F a (.lst vs), sF, ⟨fun b u e => ?_, R.f0.trans sF, fun b u e e0 => ?_, R.keep, fun j u z => ?_, fun j u b z zo => ?_, fun j k u w b hjk z zo y yo => ?_, fun p hp => ?_, ?_, fun p hp => ?_⟩⟩
  · by_cases hb : b = a
    · subst hb; rw [upd_same] at e; cases e; exact e3
    · rw [upd_ne hb] at e; exact R.sub b u e
  · by_cases hb : b = a
    · subst hb; exact h0
    · rw [upd_ne hb] at e; exact R.fnew b u e e0
  · by_cases hj : i = j
    · subst hj
      rw [List.getElem?_set_self hi] at z
      cases z
      exact ⟨_, h1, .lst upd_same (RDs.mono sF xs e4)⟩
    · rw [List.getElem?_set_ne hj] at z
      obtain ⟨w, g1, g2⟩ := R.slot j u z
      refine ⟨w, g1, ?_⟩
      cases u with
      | sh d => exact RD.mono sF d g2
      | ow ys =>
        obtain ⟨b, ws, rfl, f2, f3, f4⟩ := g2
        have hb : b ≠ a := fun zz => R.dist i j _ _ a hj e rfl z rfl h1 (by rw [g1, zz])
        exact ⟨b, ws, rfl, by rw [upd_ne hb]; exact f2, f3, RDs.mono sF ys f4⟩
      | od ys =>
        obtain ⟨b, ws, rfl, f2, f3, f4⟩ := g2
        have hb : b ≠ a := fun zz => R.dist i j _ _ a hj e rfl z rfl h1 (by rw [g1, zz])
        exact ⟨b, ws, rfl, by rw [upd_ne hb]; exact f2, f3, RDm.mono sF ys f4⟩
      | oi c ys =>
        obtain ⟨b, ws, rfl, f2, f3, f4⟩ := g2
        have hb : b ≠ a := fun zz => R.dist i j _ _ a hj e rfl z rfl h1 (by rw [g1, zz])
        exact ⟨b, ws, rfl, by rw [upd_ne hb]; exact f2, f3, RDi.mono sF ys f4⟩
      | th ys =>
        obtain ⟨b, ws, rfl, f2, f3, f4⟩ := g2
        have hb : b ≠ a := fun zz => R.dist i j _ _ a hj e rfl z rfl h1 (by rw [g1, zz])
        exact ⟨b, ws, rfl, by rw [upd_ne hb]; exact f2, f3, RT.mono sF ys f4⟩
      | exc c => exact RE.mono sF g2
  · obtain ⟨_, z'⟩ := ne j u z zo
    exact R.own j u b z' zo
  · obtain ⟨_, z'⟩ := ne j u z zo
    obtain ⟨_, y'⟩ := ne k w y yo
    exact R.dist j k u w b hjk z' zo y' yo
  · obtain ⟨p1, o, p2, p3⟩ := R.pin p hp
    refine ⟨p1, o, ?_, p3⟩
    rw [List.getElem?_set_ne fun z => hb p hp z.symm]
    exact p2
  · rw [List.length_set]; exact R.len
  · obtain ⟨x1, x2, x3⟩ := R.ext p hp
    refine ⟨x1, ?_, fun j u z zo => x3 j u (ne j u z zo).2 zo⟩
    have hn : p.1 ≠ a := fun zz => x3 i _ e rfl (by rw [h1, zz])
    rw [upd_ne hn]; exact x2
/-- never a dict of the third kind -/
def NoOd (f : En → Rs OV) : Prop := ∀ r o r1, f r = .ok o r1 → (∃ d, o = .sh d) ∨ ∃ xs, o = .ow xs
theorem lc_nod {it : En → Rs (List D)} {vs : List Nat} {h : D → En → Option En} {t : En → Rs Bool} {e : En → Rs D} : NoOd (lcD it vs h t e) := fun r o r1 z => by
  unfold lcD at z
  cases e1 : it r with
  | bad => rw [e1] at z; cases z
  | ex x r2 => rw [e1] at z; cases z
  | ok ds r2 =>
    rw [e1] at z
    simp only [Rs.bind] at z
    split at z
    · cases e2 : lcS vs h t e ds r2 with
      | bad => rw [e2] at z; cases z
      | ex x r3 => rw [e2] at z; cases z
      | ok ys r3 => rw [e2] at z; cases z; exact .inr ⟨ys, rfl⟩
    · cases z
theorem ds_fz {st : Stmt} {i : Nat} {f : En → Rs OV} (hb : ∀ p ∈ g.B, p.1 ≠ i) (hn : NoOd f) (h : DS X g st (setS i f)) : DS X g st (setS i (shD (frzD f))) :=
  PS.imp h fun E s H ⟨F, r, R, q⟩ => by
    refine ⟨F, r, R, ?_⟩
    unfold setS shD frzD at q
    unfold setS
    cases hf : f r with
    | bad => rw [hf] at q; exact q
    | ex x r1 => rw [hf] at q; exact q
    | ok o r1 =>
      rw [hf] at q
      cases o with
      | sh d => exact q
      | ow xs =>
        intro F1 H1 s1 sm R1
        by_cases hi : i < r1.length
        · obtain ⟨F2, s2, R2⟩ := R1.fz hb (List.getElem?_set_self hi)
          rw [List.set_set] at R2
          exact q F2 H1 s1 (sm.trans s2) R2
        · have e1 : r1.set i (some (OV.ow xs)) = r1 := List.set_eq_of_length_le (by omega)
          have e2 : r1.set i (some (OV.sh (.lst xs))) = r1 := List.set_eq_of_length_le (by omega)
          rw [e1] at R1
          exact q F1 H1 s1 sm (by show Rel X.K g F1 H1 s1 (r1.set i (some (OV.sh (.lst xs)))); rw [e2]; exact R1)
      | od xs => rcases hn r _ r1 hf with ⟨_, z⟩ | ⟨_, z⟩ <;> cases z
      | oi c xs => rcases hn r _ r1 hf with ⟨_, z⟩ | ⟨_, z⟩ <;> cases z
      | th xs => rcases hn r _ r1 hf with ⟨_, z⟩ | ⟨_, z⟩ <;> cases z
      | exc x => rcases hn r _ r1 hf with ⟨_, z⟩ | ⟨_, z⟩ <;> cases z
end
end DL

/-! Data layer, part 17: tools for the plain laws. -/
namespace DL
open PySem L2
noncomputable instance decD : DecidableEq D := fun _ _ => Classical.propDecidable _
/-! ### equality of data -/
mutual
/-- no dict, no script; and no truth (k), or no int (not k) -/
def D.cl (k : Bool) : D → Bool
  | .non => true
  | .bl _ => !k
  | .int _ => k
  | .str _ => true
  | .lst xs => clAll k xs
  | .tup xs => clAll k xs
  | .dic _ => false
  | .scr _ => false
  | .obj _ _ => false
def clAll (k : Bool) : List D → Bool
  | [] => true
  | d :: ds => d.cl k && clAll k ds
end
theorem plAll_iff {ds : List D} : plAll ds = true ↔ ∀ d ∈ ds, d.pl = true := by
  induction ds with
  | nil => simp [plAll]
  | cons d ds ih => simp [plAll, ih]
theorem sixAll_iff {ds : List D} : sixAll ds = true ↔ ∀ d ∈ ds, d.six = true := by
  induction ds with
  | nil => simp [sixAll]
  | cons d ds ih => simp [sixAll, ih]
mutual
theorem eqv_iff (k : Bool) : ∀ d e : D, d.cl k = true → e.cl k = true → (d.eqv e = true ↔ d = e)
  | .non, e, _, he => by cases e <;> simp [D.eqv]
  | .bl a, e, hd, he => by cases e <;> simp_all [D.eqv, D.cl]
  | .int a, e, hd, he => by cases e <;> simp_all [D.eqv, D.cl]
  | .str a, e, _, he => by cases e <;> simp [D.eqv]
  | .lst xs, e, hd, he => by
    cases e with
    | lst ys =>
      have := eqvAll_iff k xs ys hd he
      simp only [D.eqv, this, D.lst.injEq]
    | _ => simp [D.eqv]
  | .tup xs, e, hd, he => by
    cases e with
    | tup ys =>
      have := eqvAll_iff k xs ys hd he
      simp only [D.eqv, this, D.tup.injEq]
    | _ => simp [D.eqv]
  | .dic _, _, h, _ => by cases h
  | .scr _, _, h, _ => by cases h
  | .obj _ _, _, h, _ => by cases h
theorem eqvAll_iff (k : Bool) : ∀ ds es : List D, clAll k ds = true → clAll k es = true → (eqvAll ds es = true ↔ ds = es)
  | [], [], _, _ => by simp [eqvAll]
  | [], _ :: _, _, _ => by simp [eqvAll]
  | _ :: _, [], _, _ => by simp [eqvAll]
  | d :: ds, e :: es, h, h' => by
    simp only [clAll, Bool.and_eq_true] at h h'
    have h1 := eqv_iff k d e h.1 h'.1
    have h2 := eqvAll_iff k ds es h.2 h'.2
    simp only [eqvAll, Bool.and_eq_true, h1, h2, List.cons.injEq]
end
mutual
theorem eqv_self : ∀ d : D, d.pl = true → d.eqv d = true
  | .non, _ => rfl
  | .bl a, _ => by simp [D.eqv]
  | .int a, _ => by simp [D.eqv]
  | .str a, _ => by simp [D.eqv]
  | .lst xs, h => eqvAll_self xs h
  | .tup xs, h => eqvAll_self xs h
  | .dic _, h => by cases h
  | .scr _, h => by cases h
  | .obj _ _, h => by cases h
theorem eqvAll_self : ∀ ds : List D, plAll ds = true → eqvAll ds ds = true
  | [], _ => rfl
  | d :: ds, h => by
    simp only [plAll, Bool.and_eq_true] at h
    simp only [eqvAll, eqv_self d h.1, eqvAll_self ds h.2, Bool.and_self]
end
/-! ### small data: plain, of a depth, of a weight -/
structure Sm (n w : Nat) (d : D) : Prop where
  pl : d.pl = true
  six : d.six = true
  dp : d.dp ≤ n
  wt : d.wt ≤ w
theorem Sm.mono {n w n' w' : Nat} {d : D} (h : Sm n w d) (h1 : n ≤ n') (h2 : w ≤ w') : Sm n' w' d := ⟨h.pl, h.six, Nat.le_trans h.dp h1, Nat.le_trans h.wt h2⟩
theorem Sm.fit {n w : Nat} {d : D} (h : Sm n w d) (hn : n ≤ 64 := by decide) : d.fit = true := by
  unfold D.fit
  rw [h.pl, decide_eq_true (Nat.le_trans h.dp hn)]; rfl
theorem Sm.shw {n w : Nat} {d : D} (h : Sm n w d) (hn : n ≤ 64 := by decide) (hw : w ≤ 1000000 := by decide) : d.shw = true := by
  unfold D.shw
  rw [h.fit hn, h.six, decide_eq_true (Nat.le_trans h.wt hw)]; rfl
theorem dpAll_le {ds : List D} {n : Nat} (h : ∀ d ∈ ds, d.dp ≤ n) : dpAll ds ≤ n := dpAll_of h
theorem wtAll_le {ds : List D} {w m : Nat} (h : ∀ d ∈ ds, d.wt ≤ w) (hm : ds.length ≤ m) : wtAll ds ≤ m * (w + 2) := by
  induction ds generalizing m with
  | nil => exact Nat.zero_le _
  | cons d ds ih =>
    rw [List.length_cons] at hm
    have h1 := h d (List.mem_cons_self ..)
    have h2 := ih (m := m - 1) (fun e he => h e (List.mem_cons_of_mem _ he)) (by omega)
    have e : m * (w + 2) = (m - 1) * (w + 2) + (w + 2) := by
      obtain ⟨k, rfl⟩ : ∃ k, m = k + 1 := ⟨m - 1, by omega⟩
      rw [Nat.add_sub_cancel, Nat.succ_mul]
    unfold wtAll
    omega
theorem Sm.lst {n w m : Nat} {ds : List D} (h : ∀ d ∈ ds, Sm n w d) (hm : ds.length ≤ m) : Sm (n + 1) (m * (w + 2) + 3) (.lst ds) :=
  ⟨plAll_iff.mpr fun d hd => (h d hd).pl, sixAll_iff.mpr fun d hd => (h d hd).six, Nat.succ_le_succ (dpAll_le fun d hd => (h d hd).dp), Nat.add_le_add_right (wtAll_le (fun d hd => (h d hd).wt) hm) 3⟩
theorem Sm.tup {n w m : Nat} {ds : List D} (h : ∀ d ∈ ds, Sm n w d) (hm : ds.length ≤ m) : Sm (n + 1) (m * (w + 2) + 3) (.tup ds) :=
  ⟨plAll_iff.mpr fun d hd => (h d hd).pl, sixAll_iff.mpr fun d hd => (h d hd).six, Nat.succ_le_succ (dpAll_le fun d hd => (h d hd).dp), Nat.add_le_add_right (wtAll_le (fun d hd => (h d hd).wt) hm) 3⟩
theorem Sm.non : Sm 0 4 .non := ⟨rfl, rfl, Nat.zero_le _, Nat.le_refl _⟩
theorem Sm.bl (b : Bool) : Sm 0 5 (.bl b) := ⟨rfl, rfl, Nat.zero_le _, Nat.le_refl _⟩
theorem Sm.int {i : Int} (h : i.natAbs < 1000000000000000000) : Sm 0 20 (.int i) := by
  refine ⟨rfl, decide_eq_true ?_, Nat.zero_le _, ?_⟩
  · have : i.natAbs.log2 < 1920 := by
      by_cases h0 : i.natAbs = 0
      · rw [h0]; decide
      · rw [Nat.log2_lt h0]
        exact Nat.lt_of_lt_of_le h (by decide)
    exact this
  · unfold D.wt; rw [if_pos h]; exact Nat.le_refl _
/-! ### ==, in -/
theorem eqB_self {d : D} (hd : d.fit = true) : eqB d d = some true := by
  unfold eqB
  cases hs : D.sc d d with
  | some b =>
    rcases sc_some hs with ⟨i, j, rfl, h, rfl⟩ | ⟨i, j, rfl, h, rfl⟩ | ⟨i, j, rfl, h, rfl⟩ <;> cases h <;> simp
  | none => simp only [hd, Bool.and_self, if_true, eqv_self d (pl_of_fit hd)]
theorem semEq_self {d : D} (hd : d.fit = true) : semEq d d = some (.bl true) := by unfold semEq; rw [eqB_self hd]; rfl
theorem semEq_str (x y : Str) : semEq (.str x) (.str y) = some (.bl (decide (x = y))) := rfl
theorem semNe_str (x y : Str) : semNe (.str x) (.str y) = some (.bl (!decide (x = y))) := rfl
theorem semEq_int (x y : Int) : semEq (.int x) (.int y) = some (.bl (decide (x = y))) := rfl
theorem semNe_int (x y : Int) : semNe (.int x) (.int y) = some (.bl (!decide (x = y))) := rfl
theorem semEq_bl (x y : Bool) : semEq (.bl x) (.bl y) = some (.bl (decide (x = y))) := rfl
theorem semNe_bl (x y : Bool) : semNe (.bl x) (.bl y) = some (.bl (!decide (x = y))) := rfl
theorem any_eqv (k : Bool) {d : D} {ds : List D} (cd : d.cl k = true) (ce : ∀ e ∈ ds, e.cl k = true) : (ds.any fun z => z.eqv d) = decide (d ∈ ds) := by
  induction ds with
  | nil => simp
  | cons e es ih =>
    rw [List.any_cons, ih fun x hx => ce x (List.mem_cons_of_mem _ hx)]
    have := eqv_iff k e d (ce e (List.mem_cons_self ..)) cd
    by_cases h : e = d
    · rw [this.mpr h]; simp [h]
    · have hf : e.eqv d = false := by
        cases hq : e.eqv d with
        | true => exact absurd (this.mp hq) h
        | false => rfl
      rw [hf]
      have hne : ¬ d = e := fun z => h z.symm
      simp [hne]
theorem inB_lst (k : Bool) {d : D} {ds : List D} (hd : d.fit = true) (he : (D.lst ds).fit = true) (cd : d.cl k = true) (ce : ∀ e ∈ ds, e.cl k = true) : inB d (.lst ds) = some (decide (d ∈ ds)) := by
  unfold inB D.seq
  simp only [hd, he, Bool.and_self, if_true, any_eqv k cd ce]
theorem inB2_lst (d : D) (ds : List D) : inB2 d (.lst ds) = inB d (.lst ds) := rfl
theorem semIn_lst (k : Bool) {d : D} {ds : List D} (hd : d.fit = true) (he : (D.lst ds).fit = true) (cd : d.cl k = true) (ce : ∀ e ∈ ds, e.cl k = true) : semIn2 d (.lst ds) = some (.bl (decide (d ∈ ds))) := by
  unfold semIn2; rw [inB2_lst, inB_lst k hd he cd ce]; rfl
theorem semNotIn_lst (k : Bool) {d : D} {ds : List D} (hd : d.fit = true) (he : (D.lst ds).fit = true) (cd : d.cl k = true) (ce : ∀ e ∈ ds, e.cl k = true) : semNotIn2 d (.lst ds) = some (.bl (!decide (d ∈ ds))) := by
  unfold semNotIn2; rw [inB2_lst, inB_lst k hd he cd ce]; rfl
theorem Sm.all {n w : Nat} {ds : List D} (h : ∀ d ∈ ds, Sm n w d) (hn : n ≤ 63 := by decide) : (D.lst ds).fit = true ∧ (D.tup ds).fit = true :=
  ⟨fit_lst hn fun d hd => ⟨(h d hd).pl, (h d hd).dp⟩, fit_tup hn fun d hd => ⟨(h d hd).pl, (h d hd).dp⟩⟩
/-! ### stepping -/
theorem op2_ee (f h : En → Rs D) (sem : D → D → Option D) (r : En) : op2 (.ex f) (.ex h) sem r = (f r).bind fun x r1 => (h r1).bind fun y r2 => ofO (sem x y) r2 := by
  cases e1 : f r with
  | bad => simp only [op2, Opd.run, e1, Rs.map, Rs.bind]
  | ex x r1 => simp only [op2, Opd.run, e1, Rs.map, Rs.bind]
  | ok x r1 =>
    cases e2 : h r1 with
    | bad => simp only [op2, Opd.run, e1, e2, Rs.map, Rs.bind]
    | ex y r2 => simp only [op2, Opd.run, e1, e2, Rs.map, Rs.bind]
    | ok y r2 => simp only [op2, Opd.run, e1, e2, Rs.map, Rs.bind, look, Option.bind_some]
theorem seqS_nx {f h : En → SRs} {r r1 : En} (e : f r = .nx r1) : seqS f h r = h r1 := by unfold seqS; rw [e]
theorem forD_of {f : En → Rs (List D)} {h : D → En → Option En} {b : En → SRs} {r r1 : En} {ds : List D} {x : SRs} (e1 : f r = .ok ds r1) (e2 : forS h b ds r1 = x) : forD f h b r = x := by unfold forD; rw [e1]; exact e2
/-- a comprehension that changes nothing but its own names -/
theorem lcD_map {α : Type} {it : En → Rs (List D)} {vs : List Nat} {h : D → En → Option En} {t : En → Rs Bool} {elt : En → Rs D} {r r1 : En} (r2 : En) (xs : List α) (enc : α → D) (p : α → Bool) (q : α → D)
    (hi : it r = .ok (xs.map enc) r1) (hl : xs.length ≤ 1000000) (hw : wipeE r1 vs = r2) (hw2 : wipeE r2 vs = r2)
    (he : ∀ x ∈ xs, ∃ ra rb, h (enc x) r2 = some ra ∧ t ra = .ok (p x) rb ∧ wipeE rb vs = r2 ∧ (p x = true → ∃ rc, elt rb = .ok (q x) rc ∧ wipeE rc vs = r2)) :
    lcD it vs h t elt r = .ok (.ow ((xs.filter p).map q)) r2 := by
  have go : ∀ ys : List α, (∀ x ∈ ys, x ∈ xs) → ∀ r0, wipeE r0 vs = r2 → ∃ r9, lcS vs h t elt (ys.map enc) r0 = .ok ((ys.filter p).map q) r9 ∧ wipeE r9 vs = r2 := by
    intro ys
    induction ys with
    | nil => exact fun _ r0 e0 => ⟨r0, rfl, e0⟩
    | cons y ys ih =>
      intro hm r0 e0
      obtain ⟨ra, rb, e1, e2, e3, e4⟩ := he y (hm y (List.mem_cons_self ..))
      have ih' := ih fun x hx => hm x (List.mem_cons_of_mem _ hx)
      rw [List.map_cons]
      unfold lcS
      rw [e0, e1]
      simp only [e2, Rs.bind]
      cases hp : p y with
      | false =>
        rw [List.filter_cons_of_neg (by simp [hp])]
        simp only [Bool.false_eq_true, if_false, e3]
        exact ih' r2 hw2
      | true =>
        obtain ⟨rc, e5, e6⟩ := e4 hp
        rw [List.filter_cons_of_pos hp]
        simp only [if_true, e5, e6, List.map_cons]
        obtain ⟨r9, e7, e8⟩ := ih' r2 hw2
        exact ⟨r9, by rw [e7], e8⟩
  obtain ⟨r9, e7, e8⟩ := go xs (fun _ h => h) r1 hw
  unfold lcD
  rw [hi]
  simp only [Rs.bind, Rs.noE, List.length_map, hl, if_true, e7, e8]
/-- the same without a test -/
theorem lcD_map1 {α : Type} {it : En → Rs (List D)} {vs : List Nat} {h : D → En → Option En} {elt : En → Rs D} {r r1 : En} (r2 : En) (xs : List α) (enc : α → D) (q : α → D)
    (hi : it r = .ok (xs.map enc) r1) (hl : xs.length ≤ 1000000) (hw : wipeE r1 vs = r2) (hw2 : wipeE r2 vs = r2)
    (he : ∀ x ∈ xs, ∃ ra, h (enc x) r2 = some ra ∧ wipeE ra vs = r2 ∧ ∃ rc, elt ra = .ok (q x) rc ∧ wipeE rc vs = r2) :
    lcD it vs h yesT elt r = .ok (.ow (xs.map q)) r2 := by
  have := lcD_map (t := yesT) (h := h) (elt := elt) r2 xs enc (fun _ => true) q hi hl hw hw2 fun x hx => by
    obtain ⟨ra, e1, e2, rc, e3, e4⟩ := he x hx
    exact ⟨ra, ra, e1, rfl, e2, fun _ => ⟨rc, e3, e4⟩⟩
  rw [List.filter_eq_self.mpr (fun _ _ => rfl)] at this
  exact this
/-- a comprehension whose turns keep an invariant: what it gives, one by one -/
theorem lcD_inv {it : En → Rs (List D)} {vs : List Nat} {h : D → En → Option En} {elt : En → Rs D} {r r1 : En} {ds : List D} (I : En → Prop) (P : D → Prop)
    (hi : it r = .ok ds r1) (hl : ds.length ≤ 1000000) (h0 : I (wipeE r1 vs)) (hI : ∀ r, I r → wipeE r vs = r)
    (he : ∀ d ∈ ds, ∀ r, I r → ∃ ra y rc, h d r = some ra ∧ elt ra = .ok y rc ∧ P y ∧ I (wipeE rc vs)) :
    ∃ ys r', lcD it vs h yesT elt r = .ok (.ow ys) r' ∧ ys.length = ds.length ∧ (∀ y ∈ ys, P y) ∧ I r' := by
  obtain ⟨ys, r', e1, e2, e3, e4⟩ := lcS_inv (vs := vs) (h := h) (t := yesT) (elt := elt) (fun r => I (wipeE r vs)) P ds (fun d hd r hr => by
    obtain ⟨ra, y, rc, a1, a2, a3, a4⟩ := he d hd _ hr
    exact ⟨ra, ra, y, rc, a1, rfl, a2, a3, by rw [hI _ a4]; exact a4⟩) r1 h0
  refine ⟨ys, wipeE r' vs, ?_, e2, e3, e4⟩
  unfold lcD
  rw [hi]
  simp only [Rs.bind, Rs.noE, hl, if_true, e1]
theorem items_lst (ds : List D) : (D.lst ds).items = some ds := rfl
theorem items_tup (ds : List D) : (D.tup ds).items = some ds := rfl
theorem strsOf_map : ∀ xs : List Str, strsOf (xs.map D.str) = some xs
  | [] => rfl
  | x :: xs => by
    show (strsOf (xs.map D.str)).map _ = _
    rw [strsOf_map xs]; rfl
theorem cutL_map {α β : Type} (f : α → β) (xs : List α) (lo hi : Option Int) : cutL (xs.map f) lo hi = (cutL xs lo hi).map f := by
  unfold cutL
  rw [List.length_map, List.map_take, List.map_drop]
theorem cutL_len {α : Type} (xs : List α) (lo hi : Option Int) : (cutL xs lo hi).length ≤ xs.length := by
  unfold cutL
  rw [List.length_take, List.length_drop]
  omega
theorem cutL_mem {α : Type} {xs : List α} {lo hi : Option Int} {x : α} (h : x ∈ cutL xs lo hi) : x ∈ xs := List.mem_of_mem_drop (List.mem_of_mem_take h)
theorem bools_map {α : Type} (xs : List α) (p : α → Bool) : bools (xs.map fun x => D.bl (p x)) = some (xs.map p) := by
  induction xs with
  | nil => rfl
  | cons x xs ih =>
    rw [List.map_cons]
    show (bools _).map _ = _
    rw [ih]; rfl
theorem atI0 {α : Type} (x : α) (xs : List α) : atI (x :: xs) 0 = some x := atI_nat (j := 0) rfl
theorem atI1 {α : Type} (x y : α) (xs : List α) : atI (x :: y :: xs) 1 = some y := atI_nat (j := 1) rfl
theorem atI2 {α : Type} (x y z : α) (xs : List α) : atI (x :: y :: z :: xs) 2 = some z := atI_nat (j := 2) rfl
theorem atI3 {α : Type} (x y z u : α) (xs : List α) : atI (x :: y :: z :: u :: xs) 3 = some u := atI_nat (j := 3) rfl
theorem atI4 {α : Type} (x y z u w : α) (xs : List α) : atI (x :: y :: z :: u :: w :: xs) 4 = some w := atI_nat (j := 4) rfl
/-! ### results by what holds of them -/
def OkS (P : En → Prop) : SRs → Prop
  | .nx r => P r
  | _ => False
theorem OkS_nx {P : En → Prop} {r : En} : OkS P (.nx r) = P r := rfl
theorem OkS.ex {P : En → Prop} {x : SRs} (h : OkS P x) : ∃ r, x = .nx r ∧ P r := by
  cases x with
  | nx r => exact ⟨r, rfl, h⟩
  | _ => exact h.elim
theorem OkS.imp {P Q : En → Prop} {x : SRs} (h : OkS P x) (i : ∀ r, P r → Q r) : OkS Q x := by
  cases x with
  | nx r => exact i r h
  | _ => exact h.elim
/-- a result, no error -/
def pok {α : Type} (P : α → En → Prop) : Rs α → Prop
  | .ok a r => P a r
  | _ => False
theorem post_ex {α : Type} {P : α → En → Prop} {x : Rs α} (h : pok P x) : ∃ a r, x = .ok a r ∧ P a r := by
  cases x with
  | ok a r => exact ⟨a, r, rfl, h⟩
  | bad => exact h.elim
  | ex _ _ => exact h.elim
theorem post_ok {α : Type} {P : α → En → Prop} {a : α} {r : En} : pok P (.ok a r) = P a r := rfl
theorem lcD_ok {it : En → Rs (List D)} {vs : List Nat} {h : D → En → Option En} {elt : En → Rs D} {r r1 : En} {ds : List D} (I : En → Prop) (P : D → Prop)
    (hi : it r = .ok ds r1) (hl : ds.length ≤ 1000000) (h0 : I (wipeE r1 vs)) (hI : ∀ r, I r → wipeE r vs = r)
    (he : ∀ d ∈ ds, ∀ r, I r → ∃ ra, h d r = some ra ∧ pok (fun y rc => P y ∧ I (wipeE rc vs)) (elt ra)) :
    ∃ ys r', lcD it vs h yesT elt r = .ok (.ow ys) r' ∧ ys.length = ds.length ∧ (∀ y ∈ ys, P y) ∧ I r' :=
  lcD_inv I P hi hl h0 hI fun d hd r hr => by
    obtain ⟨ra, e1, e2⟩ := he d hd r hr
    obtain ⟨y, rc, e3, e4, e5⟩ := post_ex e2
    exact ⟨ra, y, rc, e1, e3, e4, e5⟩
theorem lcD_mp {α : Type} {it : En → Rs (List D)} {vs : List Nat} {h : D → En → Option En} {t : En → Rs Bool} {elt : En → Rs D} {r r1 : En} (r2 : En) (xs : List α) (enc : α → D) (p : α → Bool) (q : α → D)
    (hi : it r = .ok (xs.map enc) r1) (hl : xs.length ≤ 1000000) (hw : wipeE r1 vs = r2) (hw2 : wipeE r2 vs = r2)
    (he : ∀ x ∈ xs, ∃ ra, h (enc x) r2 = some ra ∧ pok (fun b rb => b = p x ∧ wipeE rb vs = r2 ∧ (p x = true → pok (fun y rc => y = q x ∧ wipeE rc vs = r2) (elt rb))) (t ra)) :
    lcD it vs h t elt r = .ok (.ow ((xs.filter p).map q)) r2 :=
  lcD_map r2 xs enc p q hi hl hw hw2 fun x hx => by
    obtain ⟨ra, e1, e2⟩ := he x hx
    obtain ⟨b, rb, e3, rfl, e4, e5⟩ := post_ex e2
    refine ⟨ra, rb, e1, e3, e4, fun hp => ?_⟩
    obtain ⟨y, rc, e6, rfl, e7⟩ := post_ex (e5 hp)
    exact ⟨rc, e6, e7⟩
end DL

/-! Data layer, part 18: methods of lists by data. -/
namespace DL
open PySem L2
section
variable {X : Cx} {g : G} {o e : Expr} {es : List Expr} {name : Str} {apos cpos : Pos} {id : String} {p : Opd} {ps : List Opd}
/-- o.m(e, ..), o a list -/
def mLD (p : Opd) (qs : List Opd) (sem : D → List D → Option D) : En → Rs D := fun r => (p.run r).bind fun x r1 => match look r1 x with
  | some (.lst _) => (runs qs r1).bind fun zs r2 => ofO ((look r2 x).bind fun d => (looks r2 zs).bind fun ds => sem d ds) r2
  | _ => .bad
end
end DL

/-! Data layer, part 19: sorting of tuples that are alike as far as their comparing looks. -/
namespace DL
open PySem PySem.W PySem.SeqAt PyProof.Rows
/-- alike up to the first place at which they differ, and there -/
def lzAll : List PyData → List PyData → Bool
  | x :: xs, y :: ys => alike x y && (!PyData.eqv x y || lzAll xs ys)
  | [], _ => true
  | _ :: _, [] => true
/-- two tuples that are not empty, their first members alike -/
def lzP : PyData → PyData → Bool
  | .tuple (x :: xs), .tuple (y :: ys) => lzAll (x :: xs) (y :: ys)
  | _, _ => false
theorem lz_cons {x y : PyData} {xs ys : List PyData} (h : lzAll (x :: xs) (y :: ys) = true) : alike x y = true ∧ (PyData.eqv x y = true → lzAll xs ys = true) := by
  have z : (alike x y && (!PyData.eqv x y || lzAll xs ys)) = true := h
  obtain ⟨z1, z2⟩ := Bool.and_eq_true_iff.mp z
  exact ⟨z1, fun e => by rw [e] at z2; exact z2⟩
theorem lzP_of {d d' : PyData} (h : lzP d d' = true) : ∃ x xs y ys, d = .tuple (x :: xs) ∧ d' = .tuple (y :: ys) ∧ lzAll (x :: xs) (y :: ys) = true := by
  unfold lzP at h
  split at h
  · exact ⟨_, _, _, _, rfl, rfl, h⟩
  · cases h
theorem lzAll_unique {h : Heap} : ∀ (xs ys : List PyData) (vs : List Value) (as as' : List Addr), lzAll xs ys = true → ReadsAll h vs xs as → ReadsAll h vs ys as' → xs = ys
  | [], _, _, _, _, _, r, r' => by cases r; cases r'; rfl
  | x :: xs, [], _, _, _, _, r, r' => by cases r'; cases r
  | x :: xs, y :: ys, _, _, _, ha, r, r' => by
    obtain ⟨z1, z2⟩ := lz_cons ha
    cases r with
    | cons r1 r2 =>
      cases r' with
      | cons q1 q2 =>
        have e := alike_unique x y _ _ _ z1 r1 q1
        subst e
        rw [lzAll_unique xs ys _ _ _ (z2 (eqv_refl_alike x z1)) r2 q2]
theorem lzP_unique {h : Heap} {d d' : PyData} {v : Value} {as as' : List Addr} (z : lzP d d' = true) (r : Reads h v d as) (r' : Reads h v d' as') : d = d' := by
  obtain ⟨x, xs, y, ys, rfl, rfl, z⟩ := lzP_of z
  cases r with
  | tuple a1 a2 a3 a4 =>
    cases r' with
    | tuple b1 b2 b3 b4 =>
      rw [a1] at b1; cases b1
      rw [a3] at b3; cases b3
      rw [lzAll_unique _ _ _ _ _ z a4 b4]
theorem pairs_pw {ds : List PyData} (hal : ∀ d, d ∈ ds → ∀ d', d' ∈ ds → lzP d d' = true) {h : Heap} {v : Value} {d : PyData} {as : List Addr} (hd : d ∈ ds) (r : Reads h v d as) : (dataKind h ds).keyOf v = some (keyToks d) := by
  have q : ∃ d, d ∈ ds ∧ ∃ as, Reads h v d as := ⟨d, hd, as, r⟩
  have e : (dataKind h ds).keyOf v = some (keyToks q.choose) := by
    show (open Classical in if q : ∃ d, d ∈ ds ∧ ∃ as, Reads h v d as then some (keyToks q.choose) else none) = _
    rw [dif_pos q]
  obtain ⟨m1, as', m2⟩ := q.choose_spec
  rw [e, lzP_unique (hal _ m1 _ hd) m2 r]
section
variable {prog : Program} {w : World} {A : Around} {s : Shared}
end
/-- can be sorted: alike, or lazily so -/
def SrtOk (ds : List PyData) : Prop := (AllAlike ds ∧ Sortable ds) ∨ ∀ d, d ∈ ds → ∀ d', d' ∈ ds → lzP d d' = true
section
variable {prog : Program} {w : World} {A : Around} {E : Value → Shared → Prop} {s : Shared} {β : Type} {vs : List Value} {bs : List β} {enc : β → PyData} {R : Value → β → Prop}
theorem SrtOk.key {ds : List PyData} (k : SrtOk ds) {h : Heap} {v : Value} {d : PyData} {as : List Addr} (hd : d ∈ ds) (r : Reads h v d as) : (dataKind h ds).keyOf v = some (keyToks d) := by
  rcases k with ⟨k1, _⟩ | k
  · exact dataKind_some k1 hd r
  · exact pairs_pw k hd r
theorem SrtOk.keys {h : Heap} {ds : List PyData} (k : SrtOk ds) {vs : List Value} (e : EachIs (fun v d => ∃ as, Reads h v d as) vs ds) : EachIs (fun v d => (dataKind h ds).keyOf v = some (keyToks d)) vs ds :=
  (each_mem e).mono fun v d ⟨⟨as, r⟩, hd⟩ => k.key hd r
theorem SrtOk.vals {h' : Heap} (rev : Bool) (e : EachIs R vs bs) (er : EachIs (fun v b => ∃ as, Reads h' v (enc b) as) vs bs) (k : SrtOk (bs.map enc)) :
    EachIs R (sortVals (dataKind h' (bs.map enc)) rev vs vs) (bs.mergeSort (dataLe rev enc)) :=
  sortVals_each (κ := dataKind h' (bs.map enc)) (fun b => keyToks (enc b)) e (each_of_map enc (k.keys (each_map (R := fun v d => ∃ as, Reads h' v d as) enc er)))
end
end DL

/-! Data layer, part 20: new lists that the taker owns: xs + ys, xs * k, xs[i:j], list(x), list(range(..)). -/
namespace DL
open PySem L2
section
variable {X : Cx} {g : G} {a b c e : Expr} {es : List Expr} {pos p2 : Pos} {p q : Opd} {ps : List Opd}
theorem PO.new {K : PySem.W.Frag} {F H : Hp} {s : St} {r : En} {Q : VK} {ds : List D} {vs : List V} (R : Rel K g F H s r) (hvs : RDs K F vs ds) (q : PO K g F s Q (.ow ds) r) (p : Addr) (np : H p = none) : Q (.ref p) (L2.upd H p (.lst vs)) :=
  q F _ _ (Same.refl _) (R.laid np) (RV.new R np hvs)
def op2O (p q : Opd) (sem : D → D → Option (List D)) : En → Rs OV := fun r => (p.run r).bind fun x r1 => (q.run r1).bind fun y r2 => ofO ((look r2 x).bind fun dx => (look r2 y).bind fun dy => (sem dx dy).map OV.ow) r2
def semAddL : D → D → Option (List D)
  | .lst xs, .lst ys => if xs.length + ys.length ≤ 1000000 then some (xs ++ ys) else none
  | _, _ => none
def semMulL : D → D → Option (List D)
  | .lst xs, .int k => if 0 ≤ k ∧ k ≤ 1000 ∧ xs.length ≤ 1000 then some (List.replicate k.toNat xs).flatten else none
  | _, _ => none
/-- xs[i:j], a new list -/
def slO (p : Opd) (lo hi : En → Rs (Option Int)) : En → Rs OV := fun r => (p.run r).bind fun x r1 => (lo r1).bind fun l r2 => (hi r2).bind fun h r3 => ofO ((look r3 x).bind fun d => match d with
  | .lst xs => some (.ow (cutL xs l h))
  | _ => none) r3
/-- built-ins that give a new list -/
def opNO (ps : List Opd) (sem : List D → Option (List D)) : En → Rs OV := fun r => (runs ps r).bind fun xs r1 => ofO ((looks r1 xs).bind fun ds => (sem ds).map OV.ow) r1
def semListL : List D → Option (List D)
  | [.lst xs] => some xs
  | [.tup xs] => some xs
  | _ => none
/-- list(range(..)) -/
def lrgO (f : En → Rs (List D)) : En → Rs OV := fun r => (f r).map OV.ow
end
end DL

/-! Data layer, part 21: f(e, ..) whose arguments are only lent: what comes back holds nothing of them. -/
namespace DL
open PySem L2
def D.flt : D → Bool
  | .non => true
  | .bl _ => true
  | .int _ => true
  | .str _ => true
  | _ => false
def OV.flt : OV → Bool
  | .sh d => d.flt
  | .ow xs => xs.all D.flt
  | .od _ => false
  | .oi _ _ => false
  | .th _ => false
  | .exc _ => false
theorem RD.flt {K : PySem.W.Frag} {F F' : Hp} {v : V} {d : D} (h : RD K F v d) (hd : d.flt = true) : RD K F' v d := by
  cases d with
  | non => cases h; exact .non
  | bl b => cases h; exact .bl b
  | int i => cases h; exact .int i
  | str x => cases h; exact .str x
  | _ => cases hd
theorem RDs.flt {K : PySem.W.Frag} {F F' : Hp} : ∀ {vs : List V} {ds : List D}, RDs K F vs ds → ds.all D.flt = true → RDs K F' vs ds
  | _, [], h, _ => by cases h; exact .nil
  | _, d :: ds, h, hd => by
    rw [List.all_cons, Bool.and_eq_true] at hd
    cases h with
    | cons h1 h2 => exact .cons (h1.flt hd.1) (RDs.flt h2 hd.2)
def callL (n : Nat) (f : List D → Option OV) (ps : List Opd) : En → Rs OV := fun r => (runs ps r).bind fun xs r1 => ofO ((looks r1 xs).bind fun ds => if ds.length = n then (f ds).bind fun o => if o.flt = true then some o else none else none) r1
section
variable {X : Cx} {g : G} {k n : Nat} {x : Str} {p pos : Pos} {e : Expr} {es : List Expr}
end
end DL

/-! Data layer, part 22: pop, insert, clear as statements; {}; xs[::-1]; defs that call themselves. -/
namespace DL
open PySem L2
section
variable {P : Program} {w : World} {K : PySem.W.Frag} {mg : Str → Option Value} {base : Heap}
end
section
variable {X : Cx} {g : G} {x : Str} {p pos apos cpos : Pos} {e e2 : Expr}
/-- {} -/
theorem de_dict0 : DE X g (.Dict [] [] pos) (cD (.dic [])) :=
  PE.imp (pe_lk pe_dnewK) fun s H Q ⟨F, r, R, q⟩ => fun p np => ⟨p, _, upd_same, trivial, fun od => by
    rw [upd_upd]
    exact q (L2.upd F p (.frz od (.dK []))) (L2.upd H p (.frz od (.dK []))) (.ref p) (same_upd (R.ff np)) (R.alloc np) (.dic upd_same .nil)⟩
/-- xs.pop(i), the value dropped -/
def popF (k : D) : List D → Option (List D) := fun xs => match k with
  | .int i => if 0 ≤ i ∧ i < 1000000 then (ixN xs.length i).map fun j => xs.eraseIdx j else none
  | _ => none
def popS (i : Nat) (f : En → Rs D) : En → SRs := fun r => thenS (fillW r i) fun _ r => thenS (f r) fun d r1 => chgS i (popF d) r1
theorem RDs.erase {K : PySem.W.Frag} {F : Hp} : ∀ {vs : List V} {ds : List D} (n : Nat), RDs K F vs ds → RDs K F (vs.eraseIdx n) (ds.eraseIdx n)
  | _, [], n, h => by cases h; simp; exact .nil
  | _, d :: ds, 0, h => by
    cases h with
    | cons h1 h2 => exact h2
  | _, d :: ds, n + 1, h => by
    cases h with
    | cons h1 h2 => exact .cons h1 (RDs.erase n h2)
/-- xs.insert(i, e) -/
def insF (k d : D) : List D → Option (List D) := fun xs => match k with
  | .int i => if 0 ≤ i ∧ i < 1000000 ∧ xs.length ≤ 1000000 then some (xs.take i.toNat ++ [d] ++ xs.drop i.toNat) else none
  | _ => none
def insS (i : Nat) (f h : En → Rs D) : En → SRs := fun r => thenS (fillW r i) fun _ r => thenS (f r) fun k r1 => thenS (h r1) fun d r2 => chgS i (insF k d) r2
/-- xs.clear() -/
def clrS (i : Nat) : En → SRs := fun r => thenS (fillW r i) fun _ r => chgS i (fun _ => some []) r
end
end DL

/-! Data layer, part 23: t[::-1] of a tuple. -/
namespace DL
open PySem L2 HT PyProof.Rows
section
variable {prog : Program} {w : World} {A : Around} {E : Value → Shared → Prop} {s : Shared}
end
section
variable {X : Cx} {g : G} {e : Expr} {pos : Pos}
/-- xs[::-1] -/
def revO (pd : Opd) : En → Rs OV := fun r => (pd.run r).bind fun x r1 => ofO ((look r1 x).bind fun d => match d with
  | .lst xs => some (.ow xs.reverse)
  | .tup xs => some (.sh (.tup xs.reverse))
  | _ => none) r1
theorem RDs.rev {K : PySem.W.Frag} {F : Hp} : ∀ {vs : List V} {ds : List D}, RDs K F vs ds → RDs K F vs.reverse ds.reverse
  | _, [], h => by cases h; exact .nil
  | _, d :: ds, h => by
    cases h with
    | cons h1 h2 =>
      rw [List.reverse_cons, List.reverse_cons]
      exact h2.rev.app (.cons h1 .nil)
end
end DL

/-! Data layer, part 24: list comprehensions with two fors. -/
namespace DL
open PySem L2
def lc2S (vs : List Nat) (h : D → En → Option En) (t : En → Rs Bool) (f1 : En → Rs (List D)) (vs1 : List Nat) (h1 : D → En → Option En) (t1 : En → Rs Bool) (elt : En → Rs D) : List D → En → Rs (List D)
  | [], r => .ok [] r
  | d :: ds, r =>
    match h d (wipeE r vs) with
    | none => .bad
    | some r1 => (t r1).bind fun b r2 => if b = true then (f1 r2).bind fun ds1 r3 => (lcS vs1 h1 t1 elt ds1 r3).bind fun ys r4 => (lc2S vs h t f1 vs1 h1 t1 elt ds (wipeE r4 vs)).bind fun zs r5 => .ok (ys ++ zs) r5 else lc2S vs h t f1 vs1 h1 t1 elt ds (wipeE r2 vs)
def lc2D (f : En → Rs (List D)) (vs : List Nat) (h : D → En → Option En) (t : En → Rs Bool) (f1 : En → Rs (List D)) (vs1 : List Nat) (h1 : D → En → Option En) (t1 : En → Rs Bool) (elt : En → Rs D) : En → Rs OV := fun r => (f r).bind fun ds r1 => (lc2S vs h t f1 vs1 h1 t1 elt ds r1).noE.bind fun ys r2 => if ys.length ≤ 1000000 then .ok (.ow ys) (wipeE r2 vs) else .bad
/-- between two turns of the inner loop -/
def LcJ (K : PySem.W.Frag) (g : G) (F1 : Hp) (s : St) (A : Addr) (vs1 : List Nat) (h1 : D → En → Option En) (t1 : En → Rs Bool) (fe : En → Rs D) (C : List D → En → Prop) (ds : List D) (i : Nat) (H2 : Hp) : Prop :=
  ∃ F2 r2 acc vacc, Same F1 F2 ∧ Rel K g F2 H2 s r2 ∧ H2 A = some (.lst vacc) ∧ F2 A = none ∧ (∀ (j : Nat) (o : OV), r2[j]? = some (some o) → o.own = true → s[j]? ≠ some (some (.ref A))) ∧ RDs K F2 vacc acc ∧
    post K g.nw (fun ys r3 => C (acc ++ ys) r3) (lcS vs1 h1 t1 fe (ds.drop i) r2)
/-- between two turns of the outer loop -/
def LcK (K : PySem.W.Frag) (g : G) (F1 : Hp) (s : St) (Q : VK) (A : Addr) (vs : List Nat) (h : D → En → Option En) (t : En → Rs Bool) (f1 : En → Rs (List D)) (vs1 : List Nat) (h1 : D → En → Option En) (t1 : En → Rs Bool) (fe : En → Rs D) (ds : List D) (i : Nat) (H2 : Hp) : Prop :=
  ∃ F2 r2 acc vacc, Same F1 F2 ∧ Rel K g F2 H2 s r2 ∧ H2 A = some (.lst vacc) ∧ F2 A = none ∧ (∀ (j : Nat) (o : OV), r2[j]? = some (some o) → o.own = true → s[j]? ≠ some (some (.ref A))) ∧ RDs K F2 vacc acc ∧
    post K g.nw (fun ys r3 => (acc ++ ys).length ≤ 1000000 ∧ PO K g F1 s Q (.ow (acc ++ ys)) (wipeE r3 vs)) (lc2S vs h t f1 vs1 h1 t1 fe (ds.drop i) r2)
section
variable {X : Cx} {g : G} {e a b c tg tg1 : Expr} {pos : Pos}
theorem lc2_imp {K : PySem.W.Frag} {vs ks vs1 ks1 : List Nat} {f f1 : En → Rs (List D)} {h h1 : D → En → Option En} {t t1 : En → Rs Bool} {fe : En → Rs D} {s : St} {H : Hp} {Q : VK} (hb : ∀ p ∈ g.B, p.1 ∉ vs) (hks : ∀ i ∈ ks, i ∈ vs) (hks1 : ∀ i ∈ ks1, i ∈ vs1) (hv1 : ∀ i ∈ vs1, i ∈ vs) (h0 : tO K g (lc2D f vs h t f1 vs1 h1 t1 fe) s H Q) :
    tLc2 (tID K g f) (fun v s H Q => ∃ g' : G, Blk g g' ∧ tGD K g' ks h v s H Q) (fun s H Q => ∃ g' : G, Blk g g' ∧ tTD K g' t s H Q) (fun s H Q => ∃ g' : G, Blk g g' ∧ tID K g' f1 s H Q) (fun v s H Q => ∃ g' : G, Blk g g' ∧ tGD K g' ks1 h1 v s H Q) (fun s H Q => ∃ g' : G, Blk g g' ∧ tTD K g' t1 s H Q) (fun s H Q => ∃ g' : G, Blk g g' ∧ tD K g' fe s H Q) vs vs1 s H Q := by
  have hb1 : ∀ p ∈ g.B, p.1 ∉ vs1 := fun p hp z => hb p hp (hv1 _ z)
  obtain ⟨F, r, R, q⟩ := h0
  refine ⟨F, r, R, post_mono (post_bind q) fun ds r1 q F1 H1 J sm R1 wk => ?_⟩
  have q : post K g.nw _ _ := post_noE (post_bind q)
  intro A nA
  have hA0 : g.H0 A = none := R1.live nA
  have hAX : ∀ p ∈ g.X, p.1 ≠ A := fun p hp z => by have := (R1.ext p hp).1; rw [z, nA] at this; cases this
  refine ⟨fun i m H2 => m = ds.length - i ∧ i ≤ ds.length ∧ LcK K g F1 s Q A vs h t f1 vs1 h1 t1 fe ds i H2, ⟨ds.length, rfl, Nat.zero_le _, F1, r1, [], [], Same.refl _, R1.laid nA, upd_same, R1.ff nA, fun j o e eo => not_own R1 nA j o e eo, .nil, ?_⟩, ?_⟩
  · rw [List.drop_zero]
    refine post_mono q fun ys r3 q => ?_
    obtain ⟨hl, q⟩ := post_if q
    exact ⟨hl, fun F3 H3 v sm3 R3 hv => q F3 H3 v (sm.trans sm3) R3 hv⟩
  rintro i m H2 ⟨rfl, hi2, F2, r2, acc, vacc, sm2, R2, hA, hFA, hAo, hacc, q2⟩
  obtain ⟨w1, w2⟩ := wk g F2 H2 s r2 rfl sm2 R2
  by_cases hlt : i < ds.length
  · have ed : ds[i]? = some ds[i] := List.getElem?_eq_getElem hlt
    obtain ⟨go, yl⟩ := w1 i _ ed
    rw [List.drop_eq_getElem_cons hlt] at q2
    refine .inr ⟨go, fun H3 => LcK K g F1 s Q A vs h t f1 vs1 h1 t1 fe ds (i + 1) H3, fun H3 hh => ⟨ds.length - (i + 1), by omega, rfl, hlt, hh⟩, fun x H3 hy => ?_⟩
    have R2m : Rel K (g.more A (.lst vacc)) F2 H2 s r2 := R2.more hA hFA hAo
    obtain ⟨w1m, _⟩ := wk (g.more A (.lst vacc)) F2 H2 s r2 rfl sm2 R2m
    obtain ⟨F3, sm3, R3, hx⟩ := (w1m i _ ed).2 x H3 hy
    have R3w : Rel K (g.more A (.lst vacc)) F3 H3 (wipe s vs) (wipeE r2 vs) := R3.forget hb (wipe_length _ _) fun i hi => wipe_keep hi
    have q3 : post K g.nw (fun ys r3 => (acc ++ ys).length ≤ 1000000 ∧ PO K g F1 s Q (.ow (acc ++ ys)) (wipeE r3 vs)) (match h ds[i] (wipeE r2 vs) with
      | none => .bad
      | some r1 => (t r1).bind fun b r2 => if b = true then (f1 r2).bind fun ds1 r3 => (lcS vs1 h1 t1 fe ds1 r3).bind fun ys r4 => (lc2S vs h t f1 vs1 h1 t1 fe (ds.drop (i + 1)) (wipeE r4 vs)).bind fun zs r5 => .ok (ys ++ zs) r5 else lc2S vs h t f1 vs1 h1 t1 fe (ds.drop (i + 1)) (wipeE r2 vs)) := q2
    cases eh : h ds[i] (wipeE r2 vs) with
    | none => rw [eh] at q3; exact q3.elim
    | some r3 =>
      rw [eh] at q3
      refine ⟨(g.more A (.lst vacc)).nw, ⟨rfl, rfl, rfl, rfl⟩, F3, _, ds[i], r3, R3w.nw, hx, eh, fun s4 ag R4 => ⟨agr_wipe ag hks, (g.more A (.lst vacc)).nw, ⟨rfl, rfl, rfl, rfl⟩, F3, r3, R4, post_mono (post_w (post_bind q3)) fun b r4 q4 F4 H4 sm4 R4' => ?_⟩⟩
      have wkeep : ∀ i, i ∉ vs → s[i]? = s4[i]? := fun i hi => by rw [ag.2 i fun z => hi (hks i z), wipe_keep hi]
      have hl4 : s.length = s4.length := by rw [ag.1, wipe_length]
      have sm14 : Same F1 F4 := (sm2.trans sm3).trans sm4
      cases b with
      | false =>
        obtain ⟨R5, a1, a2, a3⟩ := R4'.unw.less
        refine ⟨F4, wipeE r4 vs, acc, vacc, sm14, R5.forget hb hl4 wkeep, a1, a2, fun j o e eo => ?_, RDs.mono (sm3.trans sm4) acc hacc, q4⟩
        obtain ⟨e1, e2⟩ := wipeE_some e
        rw [wkeep j e2]
        exact a3 j o e1 eo
      | true =>
        -- the inner loop
        refine ⟨(g.more A (.lst vacc)).nw, ⟨rfl, rfl, rfl, rfl⟩, F4, r4, R4', post_mono (post_w (post_bind q4)) fun ds1 r5 q5 F5 H5 J1 sm5 R5' wk1 => ?_⟩
        obtain ⟨R5, b1, b2, b3⟩ := R5'.unw.less
        have sm15 : Same F1 F5 := sm14.trans sm5
        have hacc5 := RDs.mono ((sm3.trans sm4).trans sm5) acc hacc
        -- behind the inner loop
        have fin : ∀ (H9 : Hp) (F9 : Hp) (r9 : En) (acc9 : List D) (vacc9 : List V), Same F5 F9 → Rel K g F9 H9 s4 r9 → H9 A = some (.lst vacc9) → F9 A = none → (∀ (j : Nat) (o : OV), r9[j]? = some (some o) → o.own = true → s4[j]? ≠ some (some (.ref A))) → RDs K F9 vacc9 acc9 →
            post K g.nw (fun zs r8 => (acc9 ++ zs).length ≤ 1000000 ∧ PO K g F1 s Q (.ow (acc9 ++ zs)) (wipeE r8 vs)) (lc2S vs h t f1 vs1 h1 t1 fe (ds.drop (i + 1)) (wipeE r9 vs)) → LcK K g F1 s Q A vs h t f1 vs1 h1 t1 fe ds (i + 1) H9 := fun H9 F9 r9 acc9 vacc9 sm9 R9 c1 c2 c3 c4 q9 => by
          refine ⟨F9, wipeE r9 vs, acc9, vacc9, sm15.trans sm9, R9.forget hb hl4 wkeep, c1, c2, fun j o e eo => ?_, c4, q9⟩
          obtain ⟨e1, e2⟩ := wipeE_some e
          rw [wkeep j e2]
          exact c3 j o e1 eo
        refine ⟨fun j k H6 => k = ds1.length - j ∧ j ≤ ds1.length ∧ LcJ K g F5 s4 A vs1 h1 t1 fe (fun ys r6 => post K g.nw (fun zs r8 => (ys ++ zs).length ≤ 1000000 ∧ PO K g F1 s Q (.ow (ys ++ zs)) (wipeE r8 vs)) (lc2S vs h t f1 vs1 h1 t1 fe (ds.drop (i + 1)) (wipeE r6 vs))) ds1 j H6, ⟨ds1.length, rfl, Nat.zero_le _, F5, r5, acc, vacc, Same.refl _, R5, b1, b2, b3, hacc5, ?_⟩, ?_⟩
        · rw [List.drop_zero]
          refine post_mono (post_bind q5) fun ys r6 q6 => ?_
          refine post_mono (post_bind q6) fun zs r8 q8 => ?_
          have q8 : (acc ++ (ys ++ zs)).length ≤ 1000000 ∧ PO K g F1 s Q (.ow (acc ++ (ys ++ zs))) (wipeE r8 vs) := q8
          rw [List.append_assoc]
          exact q8
        rintro j k H6 ⟨rfl, hj2, F6, r6, acc6, vacc6, sm6, R6, d1, d2, d3, d4, q6⟩
        have wk1' : Wk K g.B F5 J1 ds1 := wk1
        obtain ⟨v1, v2⟩ := wk1' g F6 H6 s4 r6 rfl sm6 R6
        by_cases hjt : j < ds1.length
        · have ed1 : ds1[j]? = some ds1[j] := List.getElem?_eq_getElem hjt
          obtain ⟨go1, yl1⟩ := v1 j _ ed1
          rw [List.drop_eq_getElem_cons hjt] at q6
          refine .inr ⟨go1, fun H7 => LcJ K g F5 s4 A vs1 h1 t1 fe (fun ys r6 => post K g.nw (fun zs r8 => (ys ++ zs).length ≤ 1000000 ∧ PO K g F1 s Q (.ow (ys ++ zs)) (wipeE r8 vs)) (lc2S vs h t f1 vs1 h1 t1 fe (ds.drop (i + 1)) (wipeE r6 vs))) ds1 (j + 1) H7, fun H7 hh => ⟨ds1.length - (j + 1), by omega, rfl, hjt, hh⟩, fun x1 H7 hy1 => ?_⟩
          have R6m : Rel K (g.more A (.lst vacc6)) F6 H6 s4 r6 := R6.more d1 d2 d3
          obtain ⟨v1m, _⟩ := wk1' (g.more A (.lst vacc6)) F6 H6 s4 r6 rfl sm6 R6m
          obtain ⟨F7, sm7, R7, hx1⟩ := (v1m j _ ed1).2 x1 H7 hy1
          have R7w : Rel K (g.more A (.lst vacc6)) F7 H7 (wipe s4 vs1) (wipeE r6 vs1) := R7.forget hb1 (wipe_length _ _) fun i hi => wipe_keep hi
          have q7 : post K g.nw (fun ys r6 => (fun ys r6 => post K g.nw (fun zs r8 => (ys ++ zs).length ≤ 1000000 ∧ PO K g F1 s Q (.ow (ys ++ zs)) (wipeE r8 vs)) (lc2S vs h t f1 vs1 h1 t1 fe (ds.drop (i + 1)) (wipeE r6 vs))) (acc6 ++ ys) r6) (match h1 ds1[j] (wipeE r6 vs1) with
            | none => .bad
            | some r1 => (t1 r1).bind fun b r2 => if b = true then (fe r2).bind fun y r3 => (lcS vs1 h1 t1 fe (ds1.drop (j + 1)) (wipeE r3 vs1)).bind fun ys r4 => .ok (y :: ys) r4 else lcS vs1 h1 t1 fe (ds1.drop (j + 1)) (wipeE r2 vs1)) := q6
          cases eh1 : h1 ds1[j] (wipeE r6 vs1) with
          | none => rw [eh1] at q7; exact q7.elim
          | some r7 =>
            rw [eh1] at q7
            refine ⟨(g.more A (.lst vacc6)).nw, ⟨rfl, rfl, rfl, rfl⟩, F7, _, ds1[j], r7, R7w.nw, hx1, eh1, fun s8 ag1 R8 => ⟨agr_wipe ag1 hks1, (g.more A (.lst vacc6)).nw, ⟨rfl, rfl, rfl, rfl⟩, F7, r7, R8, post_mono (post_w (post_bind q7)) fun b r8 q8 F8 H8 sm8 R8' => ?_⟩⟩
            have wkeep1 : ∀ i, i ∉ vs1 → s4[i]? = s8[i]? := fun i hi => by rw [ag1.2 i fun z => hi (hks1 i z), wipe_keep hi]
            have hl8 : s4.length = s8.length := by rw [ag1.1, wipe_length]
            cases b with
            | false =>
              obtain ⟨R9, a1, a2, a3⟩ := R8'.unw.less
              refine ⟨F8, wipeE r8 vs1, acc6, vacc6, (sm6.trans sm7).trans sm8, R9.forget hb1 hl8 wkeep1, a1, a2, fun j o e eo => ?_, RDs.mono (sm7.trans sm8) acc6 d4, q8⟩
              obtain ⟨e1, e2⟩ := wipeE_some e
              rw [wkeep1 j e2]
              exact a3 j o e1 eo
            | true =>
              refine ⟨(g.more A (.lst vacc6)).nw, ⟨rfl, rfl, rfl, rfl⟩, F8, r8, R8', post_mono (post_w (post_bind q8)) fun y r9 q9 F9 H9 v sm9 R9' hv => ?_⟩
              have R9' := R9'.unw
              have a1 := R9'.less.2.1
              have a2 := R9'.less.2.2.1
              have a3 := R9'.less.2.2.2
              have hacc9 := RDs.mono ((sm7.trans sm8).trans sm9) acc6 d4
              have q10 : post K g.nw (fun ys r6 => post K g.nw (fun zs r8 => ((acc6 ++ [y] ++ ys) ++ zs).length ≤ 1000000 ∧ PO K g F1 s Q (.ow ((acc6 ++ [y] ++ ys) ++ zs)) (wipeE r8 vs)) (lc2S vs h t f1 vs1 h1 t1 fe (ds.drop (i + 1)) (wipeE r6 vs))) (lcS vs1 h1 t1 fe (ds1.drop (j + 1)) (wipeE r9 vs1)) := by
                refine post_mono (post_bind q9) fun ys r6 q6 => ?_
                have q6 : post K g.nw (fun zs r8 => ((acc6 ++ y :: ys) ++ zs).length ≤ 1000000 ∧ PO K g F1 s Q (.ow ((acc6 ++ y :: ys) ++ zs)) (wipeE r8 vs)) (lc2S vs h t f1 vs1 h1 t1 fe (ds.drop (i + 1)) (wipeE r6 vs)) := q6
                rw [show acc6 ++ [y] ++ ys = acc6 ++ y :: ys by rw [List.append_assoc]; rfl]
                exact q6
              have hlen : acc6.length < 1000000 := by
                revert q10
                cases lcS vs1 h1 t1 fe (ds1.drop (j + 1)) (wipeE r9 vs1) with
                | bad => exact fun z => z.elim
                | ex _ _ => exact fun z => False.elim z
                | ok ys r6 =>
                  intro q10
                  have q10 : post K g.nw (fun zs r8 => ((acc6 ++ [y] ++ ys) ++ zs).length ≤ 1000000 ∧ PO K g F1 s Q (.ow ((acc6 ++ [y] ++ ys) ++ zs)) (wipeE r8 vs)) (lc2S vs h t f1 vs1 h1 t1 fe (ds.drop (i + 1)) (wipeE r6 vs)) := q10
                  revert q10
                  cases lc2S vs h t f1 vs1 h1 t1 fe (ds.drop (i + 1)) (wipeE r6 vs) with
                  | bad => exact fun z => z.elim
                  | ex _ _ => exact fun z => False.elim z
                  | ok zs r8 =>
                    intro q10
                    have := q10.1
                    simp only [List.length_append, List.length_cons, List.length_nil] at this
                    omega
              refine ⟨vacc6, a1, ?_, F9, wipeE r9 vs1, acc6 ++ [y], vacc6 ++ [v], ((sm6.trans sm7).trans sm8).trans sm9, (R9'.grow hA0 hAX).forget hb1 hl8 wkeep1, upd_same, a2, fun j o e eo => ?_, hacc9.app (.cons hv .nil), q10⟩
              · rw [hacc9.length]
                have : (1000000 : Nat) < sizeLine := by decide
                omega
              · obtain ⟨e1, e2⟩ := wipeE_some e
                rw [wkeep1 j e2]
                exact a3 j o e1 eo
        · have hdr : ds1.drop j = [] := List.drop_of_length_le (by omega)
          rw [hdr] at q6
          have q6 : post K g.nw (fun zs r8 => ((acc6 ++ []) ++ zs).length ≤ 1000000 ∧ PO K g F1 s Q (.ow ((acc6 ++ []) ++ zs)) (wipeE r8 vs)) (lc2S vs h t f1 vs1 h1 t1 fe (ds.drop (i + 1)) (wipeE r6 vs)) := q6
          rw [List.append_nil] at q6
          exact .inl ⟨v2 j (by omega), fin H6 F6 r6 acc6 vacc6 sm6 R6 d1 d2 d3 d4 q6⟩
  · rw [List.drop_of_length_le (by omega)] at q2
    have q2 : (acc ++ []).length ≤ 1000000 ∧ PO K g F1 s Q (.ow (acc ++ [])) (wipeE r2 vs) := q2
    rw [List.append_nil] at q2
    refine .inl ⟨w2 i (by omega), q2.2 F2 H2 (.ref A) sm2 (R2.forget hb rfl fun _ _ => rfl) ⟨A, vacc, rfl, hFA, hA, hacc, hA0, fun j o e eo => ?_, hAX⟩⟩
    obtain ⟨e1, e2⟩ := wipeE_some e
    exact hAo j o e1 eo
theorem do_lc2 {elt iter iter1 : Expr} {ifs ifs1 : List Expr} {scope : Scope} {own : List (Str × Nat)} {vs ks vs1 ks1 : List Nat} {f f1 : En → Rs (List D)} {h h1 : D → En → Option En} {t t1 : En → Rs Bool} {fe : En → Rs D} (hc : X.calm = true) (hN : X.N.Nodup) (hi : DI X g tg iter f) (ok : BlkOk X.N X.env.scope scope own)
    (hvs : own.map (·.2) = vs) (hb : ∀ p ∈ g.B, p.1 ∉ vs) (hks : ∀ i ∈ ks, i ∈ vs) (hks1 : ∀ i ∈ ks1, i ∈ vs1) (hv1 : ∀ i ∈ vs1, i ∈ vs)
    (hg : ∀ (s : Shared) (H : Hp) (C : Addr) (cl : List (Str × Addr)) (fp : List Addr) (g' : G), Blk g g' → DG (X.blk s H scope (compEnvC scope cl C X.env) fp) g' tg ks h)
    (ht : ∀ (s : Shared) (H : Hp) (C : Addr) (cl : List (Str × Addr)) (fp : List Addr) (g' : G), Blk g g' → PTs (X.blk s H scope (compEnvC scope cl C X.env) fp) ifs (tTD X.K g' t))
    (hi1 : ∀ (s : Shared) (H : Hp) (C : Addr) (cl : List (Str × Addr)) (fp : List Addr) (g' : G), Blk g g' → DI (X.blk s H scope (compEnvC scope cl C X.env) fp) g' tg1 iter1 f1)
    (hg1 : ∀ (s : Shared) (H : Hp) (C : Addr) (cl : List (Str × Addr)) (fp : List Addr) (g' : G), Blk g g' → DG (X.blk s H scope (compEnvC scope cl C X.env) fp) g' tg1 ks1 h1)
    (ht1 : ∀ (s : Shared) (H : Hp) (C : Addr) (cl : List (Str × Addr)) (fp : List Addr) (g' : G), Blk g g' → PTs (X.blk s H scope (compEnvC scope cl C X.env) fp) ifs1 (tTD X.K g' t1))
    (he : ∀ (s : Shared) (H : Hp) (C : Addr) (cl : List (Str × Addr)) (fp : List Addr) (g' : G), Blk g g' → DE (X.blk s H scope (compEnvC scope cl C X.env) fp) g' elt fe) (hs : ∀ x, foldedSetIterable iter X.env x = pure x := by intro _; rfl) (hs1 : ∀ env x, foldedSetIterable iter1 env x = pure x := by intro _ _; rfl) :
    DO X g (.ListComp elt [⟨tg, iter, ifs, 0⟩, ⟨tg1, iter1, ifs1, 0⟩] scope pos) (lc2D f vs h t f1 vs1 h1 t1 fe) := by
  subst hvs
  exact PE.imp (pe_lc2 hc hN hi ok hv1 (g := fun v s H Q => ∃ g' : G, Blk g g' ∧ tGD X.K g' ks h v s H Q) (tt := fun s H Q => ∃ g' : G, Blk g g' ∧ tTD X.K g' t s H Q) (wi1 := fun s H Q => ∃ g' : G, Blk g g' ∧ tID X.K g' f1 s H Q) (g1 := fun v s H Q => ∃ g' : G, Blk g g' ∧ tGD X.K g' ks1 h1 v s H Q) (tt1 := fun s H Q => ∃ g' : G, Blk g g' ∧ tTD X.K g' t1 s H Q) (te := fun s H Q => ∃ g' : G, Blk g g' ∧ tD X.K g' fe s H Q)
    (fun s H C cl fp => ⟨fun pins s2 σ H2 v u Q I rv ⟨g', eg, q⟩ => (hg s H C cl fp g' eg).run pins s2 σ H2 v u Q I rv q⟩)
    (fun s H C cl fp => ⟨fun pins s2 σ H2 Q I ⟨g', eg, q⟩ => (ht s H C cl fp g' eg).run pins s2 σ H2 Q I q⟩)
    (fun s H C cl fp => ⟨fun pins s2 σ H2 Q I ⟨g', eg, q⟩ => (hi1 s H C cl fp g' eg).run pins s2 σ H2 Q I q⟩)
    (fun s H C cl fp => ⟨fun pins s2 σ H2 v u Q I rv ⟨g', eg, q⟩ => (hg1 s H C cl fp g' eg).run pins s2 σ H2 v u Q I rv q⟩)
    (fun s H C cl fp => ⟨fun pins s2 σ H2 Q I ⟨g', eg, q⟩ => (ht1 s H C cl fp g' eg).run pins s2 σ H2 Q I q⟩)
    (fun s H C cl fp => ⟨fun pins s2 σ H2 Q I ⟨g', eg, q⟩ => (he s H C cl fp g' eg).run pins s2 σ H2 Q I q⟩) hs hs1) fun s H Q h0 => lc2_imp hb hks hks1 hv1 h0
end
end DL

/-! Data layer, part 25: xs[::e]; range with a step; min, max of two. -/
namespace DL
open PySem L2 PyProof.Rows
section
variable {X : Cx} {g : G} {e a b c tg : Expr} {pos : Pos}
/-- xs[::e], e one or minus one -/
def stepL {α : Type} (k : Int) (xs : List α) : List α := if k = 1 then xs else xs.reverse
theorem RDs.step {K : PySem.W.Frag} {F : Hp} {vs : List V} {ds : List D} (k : Int) (h : RDs K F vs ds) : RDs K F (stepL k vs) (stepL k ds) := by
  unfold stepL
  split
  · exact h
  · exact h.rev
/-! ### range(a, b, c), c positive -/
/-! ### min, max of two ints -/
def semMax : List D → Option D
  | [.int i, .int j] => some (.int (if j > i then j else i))
  | _ => none
theorem cd_max (hc : X.calm = true) : CallR X (.builtin "max") (rDN X.K g semMax) := by
  intro pins s sg H xs us Q I r h
  obtain ⟨F, s0, r0, ds, d, R, hx, e, q⟩ := h
  unfold semMax at e
  split at e
  · cases e
    obtain ⟨v, w, rfl, h1, h2⟩ := hx.two
    cases h1.flat (fun _ => nofun); cases h2.flat (fun _ => nofun)
    exact call_max2 hc pins s sg H _ us Q I r ⟨_, _, rfl, q F H _ (Same.refl _) R (.int _)⟩
  · cases e
end
end DL

/-! Data layer, part 26: sets of texts; sorted of them. -/
namespace DL
open PySem L2 PyProof.Rows PySem.Froz
/-- one text more -/
def insT (l : List Str) (k : Str) : List Str := if k ∈ l then l else k :: l
def addT (l : List Str) (ts : List Str) : List Str := ts.foldl insT l
theorem insT_mem {l : List Str} {k j : Str} : j ∈ insT l k ↔ j ∈ l ∨ j = k := by
  unfold insT
  split
  · next h => exact ⟨.inl, fun z => z.elim id fun e => e ▸ h⟩
  · rw [List.mem_cons]; exact Or.comm
theorem insT_nodup {l : List Str} {k : Str} (h : l.Nodup) : (insT l k).Nodup := by
  unfold insT
  split
  · exact h
  · next q => exact List.nodup_cons.mpr ⟨q, h⟩
theorem insT_len (l : List Str) (k : Str) : (insT l k).length ≤ l.length + 1 := by
  unfold insT
  split
  · omega
  · simp
theorem addT_mem : ∀ (ts l : List Str) (j : Str), j ∈ addT l ts ↔ j ∈ l ∨ j ∈ ts
  | [], l, j => by simp [addT]
  | t :: ts, l, j => by
    show j ∈ addT (insT l t) ts ↔ _
    rw [addT_mem ts, insT_mem, List.mem_cons, or_assoc]
theorem addT_nodup : ∀ (ts : List Str) {l : List Str}, l.Nodup → (addT l ts).Nodup
  | [], _, h => h
  | t :: ts, _, h => addT_nodup ts (insT_nodup h)
theorem addT_len : ∀ (ts l : List Str), (addT l ts).length ≤ l.length + ts.length
  | [], l => by simp [addT]
  | t :: ts, l => by
    have h := addT_len ts (insT l t)
    have h2 := insT_len l t
    show (addT (insT l t) ts).length ≤ _
    rw [List.length_cons]
    omega
theorem addT_snoc (l ts : List Str) (t : Str) : addT l (ts ++ [t]) = insT (addT l ts) t := by
  unfold addT
  rw [List.foldl_append]
  rfl
/-- the set of texts at a -/
def SetX (P : Program) (w : World) (h : Heap) (a : Addr) (l : List Str) : Prop := ∃ Z : SD, h.get? a = some (sObj "set" Z) ∧ TxOk P w Z l ∧ l.Nodup ∧ Ris Z.2.2.place.toList ∧ (w.params.followText "set-order" = true ∨ Z.2.2.led = true)
section
variable {P : Program} {w : World} {A : Around} {E : Value → Shared → Prop} {s : Shared} {a : Addr} {l : List Str}
theorem SetX.at {h h' : Heap} (R : SetX P w h a l) (k : ∀ o, h.get? a = some o → h'.get? a = some o) : SetX P w h' a l := by
  obtain ⟨Z, ho, r⟩ := R
  exact ⟨Z, k _ ho, r⟩
theorem SetX.ob {h : Heap} (R : SetX P w h a l) : ∃ o, h.get? a = some o := by
  obtain ⟨Z, ho, r⟩ := R
  exact ⟨_, ho⟩
theorem tailTx_ris {ep : Nat} {es : Array (Int × Value)} {t : SetTable} {b : Bool} (h : Ris t.place.toList) : Ris (tailTx ep es t b).2.2.place.toList := by
  unfold tailTx
  split
  · exact relayAll_ris _ _ _
  · exact h
theorem tailTx_led {ep : Nat} {es : Array (Int × Value)} {t : SetTable} {b : Bool} : (tailTx ep es t b).2.2.led = t.led := by
  unfold tailTx
  split
  · exact relayAll_led _ _ _
  · rfl
theorem addTx_ris {h : Int} {v : Value} {Z : SD} (r : Ris Z.2.2.place.toList) : Ris (addTx h v Z).2.2.place.toList := by
  unfold addTx
  refine tailTx_ris ?_
  have q := layNew_ris Z.2.2 Z.1 h v r
  split <;> exact q
theorem addTx_led {h : Int} {v : Value} {Z : SD} : (addTx h v Z).2.2.led = Z.2.2.led := by
  unfold addTx
  rw [tailTx_led]
  have q := layNew_led Z.2.2 Z.1 h v
  split <;> exact q
theorem setX_add {k : Str} {u : Tok} {Q : Bool → Shared → Prop} (R : SetX P w s.heap a l) (room : l.length + 1 < scanBound)
    (hQ : ∀ b h', Heap.SameBut a s.heap h' → SetX P w h' a (insT l k) → Q b { s with heap := h' }) : wpAny (model P w) A (setAddHashed a (.str k u) (hashStr w k)) Q E s := by
  obtain ⟨Z, ho, T, nd, hr, hl⟩ := R
  by_cases hk : k ∈ l
  · have e : insT l k = l := if_pos hk
    obtain ⟨es, ep, t⟩ := Z
    have hd : (sObj "set" (es, ep, t)).data = .set es ep t := rfl
    have hf : t.fits es.size = true := T.fit
    have hel : ElemsOf (strKind P w) es.toList := T.el
    have hsz : es.size = l.length := T.sz
    have hb0 : es.size < scanBound := by omega
    have hkey : (strKind P w).is k (.str k u) = true := is_str k u
    obtain ⟨x, hx, hxk⟩ := (T.mem k).mp hk
    unfold setAddHashed setAddHashedIn
    refine wpAny_holding (wpAny_bind (wpAny_setState_of ho hd hf ?_))
    dsimp only
    rw [byScan_of rfl hb0 hel]
    simp only [↓reduceIte]
    unfold setAddByScan
    refine wpAny_bind ?_
    refine wpAny_bind (wpAny_rule ?_)
    refine wpAny_bind (wpAny_setScan_of (knd := strKind P w) (k := k) hkey ho hd hf hel ?_)
    cases hr2 : List.findIdx? (fun e => (strKind P w).is k e.2) es.toList with
    | none =>
      have := List.findIdx?_eq_none_iff.mp hr2 x hx
      rw [hxk] at this
      cases this
    | some j =>
      dsimp only
      refine wpAny_pure (wpAny_pure ?_)
      have q := hQ false s.heap (Heap.SameBut.refl a s.heap) (by rw [e]; exact ⟨(es, ep, t), ho, T, nd, hr, hl⟩)
      exact q
  · have e : insT l k = k :: l := if_neg hk
    refine add_x ho T hk room ?_
    refine hQ true _ (Heap.SameBut.update s.heap a _) ?_
    rw [e]
    exact ⟨_, get_upd _ ho rfl, add_ok u T, List.nodup_cons.mpr ⟨hk, nd⟩, addTx_ris hr, hl.imp id fun z => by rw [addTx_led]; exact z⟩
theorem setX_fresh {h : Heap} (ho : h.get? a = some { cls := .type "set", dict := none, data := .set #[] 0 (.fresh 0 0 (!w.params.followText "set-order")) }) : SetX P w h a [] :=
  ⟨(#[], 0, _), ho, TxOk.nil rfl, List.nodup_nil, List.Pairwise.nil, by
    show _ ∨ (!w.params.followText "set-order") = true
    cases w.params.followText "set-order"
    · exact .inr rfl
    · exact .inl rfl⟩
end
/-- the empty set that set(..) lays -/
def set0 (w : World) : Obj := { cls := .type "set", dict := none, data := .set #[] 0 (.fresh 0 0 (!w.params.followText "set-order")) }
section
variable {P : Program} {w : World} {A : Around} {E : Value → Shared → Prop} {s : Shared}
end
end DL

/-! Data layer, part 27: sorted of a set of texts; sorted of lists. -/
namespace DL
open PySem L2 PyProof.Rows PySem.Froz
/-- texts in order -/
def leT (a b : Str) : Bool := decide (a.cps.toList ≤ b.cps.toList)
theorem leT_trans (a b c : Str) (h1 : leT a b = true) (h2 : leT b c = true) : leT a c = true :=
  decide_eq_true (List.le_trans (of_decide_eq_true h1) (of_decide_eq_true h2))
theorem leT_total (a b : Str) : (leT a b || leT b a) = true := by
  rw [Bool.or_eq_true]
  rcases List.le_total a.cps.toList b.cps.toList with h | h
  · exact .inl (decide_eq_true h)
  · exact .inr (decide_eq_true h)
theorem leT_anti {a b : Str} (h1 : leT a b = true) (h2 : leT b a = true) : a = b :=
  PySem.W.str_of_cps (List.le_antisymm (of_decide_eq_true h1) (of_decide_eq_true h2))
/-- sorted(set(ts)) -/
def srtT (ts : List Str) : List Str := (addT [] ts).mergeSort leT
theorem srtT_mem (ts : List Str) (k : Str) : k ∈ srtT ts ↔ k ∈ ts := by
  unfold srtT
  rw [List.mem_mergeSort, addT_mem]
  simp
theorem srtT_nodup (ts : List Str) : (srtT ts).Nodup := (List.mergeSort_perm _ _).nodup_iff.mpr (addT_nodup ts List.nodup_nil)
theorem srtT_of {zs l : List Str} (p : zs.Perm l) (h : zs.Pairwise fun a b => leT a b = true) : zs = l.mergeSort leT :=
  List.Perm.eq_of_pairwise (le := fun a b => leT a b = true) (fun a b _ _ h1 h2 => leT_anti h1 h2) h (List.pairwise_mergeSort leT_trans leT_total _) (p.trans (List.mergeSort_perm _ _).symm)
/-- what has the same members, ascending, each once, is it -/
theorem srtT_uniq {zs ts : List Str} (nd : zs.Nodup) (h : zs.Pairwise fun a b => leT a b = true) (m : ∀ k, k ∈ zs ↔ k ∈ ts) : zs = srtT ts := by
  refine srtT_of ?_ h
  refine (List.perm_ext_iff_of_nodup nd (addT_nodup ts List.nodup_nil)).mpr fun k => ?_
  rw [m, addT_mem]
  simp
def tvS : Value → Str
  | .str x _ => x
  | _ => ""
theorem vals_tv : ∀ (vs : List Value), (∀ v ∈ vs, ∃ k t, v = Value.str k t) → PySem.W.EachIs (fun v b => ∃ t, v = Value.str b t) vs (vs.map tvS)
  | [], _ => .nil
  | v :: vs, h => by
    obtain ⟨k, t, rfl⟩ := h v List.mem_cons_self
    exact .cons ⟨t, rfl⟩ (vals_tv vs fun u hu => h u (List.mem_cons_of_mem _ hu))
theorem perm_of_sub : ∀ {l m : List Str}, l.Nodup → m.length = l.length → (∀ k, k ∈ l → k ∈ m) → m.Perm l
  | [], m, _, h, _ => by
    have : m = [] := List.eq_nil_of_length_eq_zero (by simpa using h)
    rw [this]
  | x :: l, m, nd, h, sub => by
    obtain ⟨h1, h2⟩ := List.nodup_cons.mp nd
    have hx := sub x List.mem_cons_self
    have p := List.perm_cons_erase hx
    have hl : (m.erase x).length = l.length := by
      have := p.length_eq
      rw [List.length_cons] at this h
      omega
    refine p.trans ((perm_of_sub h2 hl fun k hk => ?_).cons x)
    have hne : k ≠ x := fun e => h1 (e ▸ hk)
    exact (List.mem_erase_of_ne hne).mpr (sub k (List.mem_cons_of_mem _ hk))
section
variable {P : Program} {w : World} {A : Around} {E : Value → Shared → Prop} {s : Shared}
theorem sortedX {a : Addr} {l : List Str} {Q : Value → Shared → Prop} (R : SetX P w s.heap a l) (hh : A.handled = none) (hlen : l.length < scanBound) (hu : A.units + 100 < cLine)
    (hQ : ∀ s' p (out : List Value) (c : Nat), (∀ b o, s.heap.get? b = some o → s'.heap.get? b = some o) → s'.gens = s.gens → s'.os = s.os → s.heap.objs.size ≤ p →
      s'.heap.get? p = some (seqObj "list" out.toArray c) → PySem.W.EachIs (fun v b => ∃ t, v = Value.str b t) out (l.mergeSort leT) → Q (.ref p) s') :
    wpAny (model P w) A (call (.builtin "sorted") [.ref a]) Q E s := by
  obtain ⟨⟨es, ep, t⟩, ho, T, nd, hr, hl⟩ := R
  have hsz : es.size = l.length := T.sz
  refine Calls.call_function_entry kind_sorted plain_sorted entry_sorted (args_sorted1 _) ?_
  unfold Builtin.«sorted»
  refine wpAny_bind (m := checkCount "sorted" 1 1 _) (wpAny_pure ?_)
  refine wpAny_bind (collect_set (A := A.in1) hh ⟨_, ho, rfl, rfl⟩ T.fit (by rw [hsz]; exact hlen) hr hl fun s1 vs k1 hz g1 o1 pm => ?_)
  have hst : ∀ v ∈ vs, ∃ k t, v = Value.str k t := fun v hv => by
    obtain ⟨e, he, q⟩ := List.mem_map.mp (pm.mem_iff.mp hv)
    obtain ⟨⟨k, hk, _⟩, _⟩ := T.el e he
    obtain ⟨u, hu⟩ := Value.isStrOf_shape hk
    exact ⟨k, u, q.symm.trans hu⟩
  have hvl : vs.length = l.length := by rw [pm.length_eq, List.length_map, Array.length_toList]; exact hsz
  have hmem : ∀ k, k ∈ l → k ∈ vs.map tvS := fun k hk => by
    obtain ⟨e, he, q⟩ := (T.mem k).mp hk
    obtain ⟨u, hu⟩ := Value.isStrOf_shape q
    exact List.mem_map.mpr ⟨e.2, pm.mem_iff.mpr (List.mem_map.mpr ⟨e, he, rfl⟩), by rw [hu]; rfl⟩
  have hperm : (vs.map tvS).Perm l := perm_of_sub nd (by rw [List.length_map]; exact hvl) hmem
  have hvz : vs.length ≤ sizeLine := by rw [hvl]; exact fits_of_scanBound hlen
  refine wpAny_bind (wpAny_newList ?_ hvz)
  have hoL : (s1.heap.push (seqObj "list" vs.toArray 0)).get? s1.heap.objs.size = some (seqObj "list" vs.toArray 0) := Heap.get?_push_size _ rfl
  have eV := vals_tv vs hst
  refine wpAny_bind (wpAny_holding (PySem.W.list_sort_data (enc := fun b : Str => PyData.str b) hoL eV (eV.mono fun v b ⟨t, q⟩ => ⟨[], by rw [q]; exact Reads.str _ _, by simp⟩)
    (PySem.W.AllAlike.of fun b b' => by simp [PySem.W.alike]) (PySem.W.Sortable.others fun b => ⟨nofun, fun xs => nofun⟩) (by rw [List.length_map]; exact hvz) (fun b _ => ?_) fun out ho2 eo => ?_))
  · have e1 : A.in1.units = A.units ∨ True := .inr trivial
    have : (PyData.str b).depth = 0 := rfl
    rw [this]
    have hin : A.in1.units ≤ A.units + 1 := by
      first | exact Nat.le_refl _ | exact Nat.le_succ _
    omega
  · obtain ⟨c, hc⟩ := sortedHeap_at (vs := vs) (out := out.toArray) hoL
    refine wpAny_pure ⟨_, rfl, hQ _ s1.heap.objs.size out c (fun b u e => ?_) g1 o1 hz hc ?_⟩
    · have q := k1 b u e
      have hlt := Heap.lt_size q
      show (sortedHeap (s1.heap.push (seqObj "list" vs.toArray 0)) s1.heap.objs.size vs out.toArray).get? b = some u
      rw [sortedHeap_old (Nat.ne_of_lt hlt) (by rw [size_push']; exact Nat.lt_succ_of_lt hlt)]
      exact Heap.get?_push_of_some _ q
    · have e1 : (vs.map tvS).mergeSort (PySem.W.dataLe false fun b : Str => PyData.str b) = l.mergeSort leT := by
        have e2 : (PySem.W.dataLe false fun b : Str => PyData.str b) = leT := PySem.W.dataLe_str (fun b : Str => b)
        rw [e2]
        exact srtT_of ((List.mergeSort_perm _ _).trans hperm) (List.pairwise_mergeSort leT_trans leT_total _)
      rw [e1] at eo
      exact eo
end
end DL

/-! Data layer, part 28: sorted(set(e)) of texts, sorted(e) of alike data. -/
namespace DL
open PySem L2 PyProof.Rows PySem.Froz
def SetXO (P : Program) (w : World) (a : Addr) (l : List Str) : HO := .ext fun h => SetX P w h a l
theorem setXO_new {w : World} {P : Program} {H : Hp} {h : Heap} {a : Addr} {l : List Str} (R : SetX P w h a l) : ObjOk P w H h a (SetXO P w a l) := by
  exact ⟨R, R.ob, fun h1 h2 p k => SetX.at p k⟩
theorem each_vals : ∀ {out : List Value} {zs : List Str}, PySem.W.EachIs (fun v b => ∃ t, v = Value.str b t) out zs → Vals (zs.map V.str) out
  | _, _, .nil => .nil
  | _, _, .cons h t => .cons h (each_vals t)
section
variable {X : Cx} {g : G} {e : Expr} {pos : Pos}
def rSrtX (X : Cx) : List V → Hp → VK → Prop := fun vs H Q => ∃ (a : Addr) (l : List Str), vs = [V.ref a] ∧ H a = some (SetXO X.prog X.w a l) ∧ l.length ≤ 4000 ∧ ∀ p, H p = none → Q (.ref p) (L2.upd H p (.lst ((l.mergeSort leT).map V.str)))
theorem cr_srtX {k : Nat} (hr : Room k X.A) : CallR X (.builtin "sorted") (rSrtX X) := by
  intro pins s σ H vs us Q I r h
  obtain ⟨a, l, rfl, ha, hl, q⟩ := h
  have R : SetX X.prog X.w s.heap a l := (I.hok a _ ha).1
  rw [Vals.ref1 r]
  refine sortedX R hr.hd (by unfold scanBound; omega) (by have := hr.un; omega) fun s' p out c kk hg ho hp hpo eo => ?_
  have hv := each_vals eo
  have hz : ((l.mergeSort leT).map V.str).length ≤ sizeLine := by
    rw [List.length_map, List.length_mergeSort]
    exact fits_of_scanBound (by unfold scanBound; omega)
  have new : ObjOk X.prog X.w (L2.upd H p (.lst ((l.mergeSort leT).map V.str))) s'.heap p (.lst ((l.mergeSort leT).map V.str)) := ⟨hz, out, c, hv, hpo⟩
  exact ⟨.ref p, _, I.call' (ch := []) ho (Un.laid kk hp (I.hok.fresh hp)) (I.hok.laid kk hp new) (by rw [hg]; exact I.bare) (fun _ z => nomatch z), rfl, q p (I.hok.fresh hp)⟩
/-! sorted(e) -/
end
end DL

/-! Data layer, part 29: sum(lists, []). -/
namespace DL
open PySem L2 PyProof.Rows
section
variable {P : Program} {w : World} {A : Around} {R : Result → Shared → Prop} {I : Addr} {fp wr : List Addr} {G : Array GenState → Array GenState → Prop} {n : Nat} {Pv : Nat → Value → Prop} {St : Nat → Shared → Prop}
end
namespace Sm
end Sm
section
variable {P : Program} {w : World} {A : Around} {E : Value → Shared → Prop} {s : Shared}
end
def lstsOf : List D → Option (List (List D))
  | [] => some []
  | .lst xs :: ds => (lstsOf ds).map fun xss => xs :: xss
  | _ :: _ => none
def semSumL : D → Option (List D)
  | .lst ds => (lstsOf ds).bind fun xss => if xss.flatten.length ≤ 100000 then some xss.flatten else none
  | _ => none
section
variable {X : Cx} {g : G} {pins : List (Addr × Obj)} {s : Shared} {F H : Hp} {sg : L2.St}
def sumO (p : Opd) : En → Rs OV := fun r => (p.run r).bind fun x r1 => ofO ((look r1 x).bind fun d => (semSumL d).map OV.ow) r1
end
end DL

/-! Data layer, part 30: list(text). -/
namespace DL
open PySem L2
section
variable {X : Cx} {g : G}
end
end DL

/-! Data layer, part 31: dicts that a name owns, with tuples as keys. -/
namespace DL
open PySem L2
theorem od_ok {P : Program} {w : World} {H : Hp} {h : Heap} {a : Addr} {xs : List (NestedKey × Addr × V)} {us : List Value} {ep : Nat} (h1 : (a == sysModules) = false) (h2 : (xs.map (·.1)).Nodup) (h3 : Vals (xs.map (·.2.2)) us)
    (h4 : h.get? a = some { cls := .type "dict", data := .dict (List.zipWith (fun (x : NestedKey × Addr × V) (u : Value) => (⟨x.1.hash w, .ref x.2.1, u⟩ : DictEntry)) xs us).toArray ep }) : ObjOk P w H h a (OdO w a xs) :=
  ⟨⟨h1, h2, us, ep, h3, h4⟩, ⟨_, h4⟩, fun _ _ ⟨a1, a2, us, ep, a3, a4⟩ k => ⟨a1, a2, us, ep, a3, k _ a4⟩⟩
section
variable {X : Cx} {g : G} {pos : Pos}
/-- a slot gets a new dict -/
theorem Rel.setOd {K : PySem.W.Frag} {F H : Hp} {s : St} {r : En} {i : Nat} {p : Addr} (R : Rel K g F H s r) (hb : ∀ p ∈ g.B, p.1 ≠ i) (np : H p = none) : Rel K g F (L2.upd H p (OdO g.w p [])) (s.set i (some (.ref p))) (r.set i (some (.od []))) := by
  have R1 : Rel K g F (L2.upd H p (OdO g.w p [])) s r := R.laid np
  have hl := R.len
  have hF := R.ff np
  have no := not_own R np
  have hX : ∀ q ∈ g.X, q.1 ≠ p := fun q hq z => by have := (R.ext q hq).1; rw [z, np] at this; cases this
  have cs : ∀ (j : Nat) (u : OV), (r.set i (some (.od [])))[j]? = some (some u) → (j = i ∧ u = .od [] ∧ (s.set i (some (V.ref p)))[j]? = some (some (.ref p))) ∨ (j ≠ i ∧ r[j]? = some (some u) ∧ (s.set i (some (V.ref p)))[j]? = s[j]?) := fun j u z => by
    by_cases hj : i = j
    · subst hj
      have hi : i < r.length := by
        have := (List.getElem?_eq_some_iff.mp z).1
        rw [List.length_set] at this
        exact this
      rw [List.getElem?_set_self hi] at z
      cases z
      exact .inl ⟨rfl, rfl, List.getElem?_set_self (by rw [← hl]; exact hi)⟩
    · rw [List.getElem?_set_ne hj] at z
      exact .inr ⟨fun z => hj z.symm, z, List.getElem?_set_ne hj⟩
  refine ⟨R1.sub, R1.f0, R1.fnew, R1.keep, fun j u z => ?_, fun j u a z zo za => ?_, fun j k u w a hjk z zo y yo za ya => ?_, fun q hq => ?_, by rw [List.length_set, List.length_set]; exact hl, fun q hq => ?_⟩
  · rcases cs j u z with ⟨rfl, rfl, e⟩ | ⟨hj, z', e⟩
    · exact ⟨.ref p, e, p, [], rfl, hF, upd_same, .nil⟩
    · rw [e]; exact R1.slot j u z'
  · rcases cs j u z with ⟨rfl, rfl, e⟩ | ⟨hj, z', e⟩
    · rw [e] at za
      cases za
      exact .inl (R.live np)
    · rw [e] at za; exact R1.own j u a z' zo za
  · rcases cs j u z with ⟨ej, eu, e⟩ | ⟨hj, z', e⟩
    · rcases cs k w y with ⟨ek, _, _⟩ | ⟨hk, y', e'⟩
      · exact hjk (ej.trans ek.symm)
      · rw [e] at za
        rw [e'] at ya
        cases za
        exact no k w y' yo ya
    · rcases cs k w y with ⟨ek, ew, e'⟩ | ⟨hk, y', e'⟩
      · rw [e'] at ya
        rw [e] at za
        cases ya
        exact no j u z' zo za
      · rw [e] at za
        rw [e'] at ya
        exact R1.dist j k u w a hjk z' zo y' yo za ya
  · obtain ⟨p1, u, p2, p3⟩ := R1.pin q hq
    have h := hb q hq
    exact ⟨by rw [List.getElem?_set_ne fun z => h z.symm]; exact p1, u, by rw [List.getElem?_set_ne fun z => h z.symm]; exact p2, p3⟩
  · obtain ⟨x1, x2, x3⟩ := R1.ext q hq
    refine ⟨x1, x2, fun j u z zo za => ?_⟩
    rcases cs j u z with ⟨rfl, rfl, e⟩ | ⟨hj, z', e⟩
    · rw [e] at za
      cases za
      exact hX q hq rfl
    · rw [e] at za; exact x3 j u z' zo za
variable {pt pt2 px py pd pl : Pos} {x y : Str} {kt k2 i j : Nat}
/-! keys -/
mutual
theorem RD.nested {pins : List (Addr × Obj)} {s : Shared} {H : Hp} {sg : L2.St} (I : L2.Inv X pins sg H s) : ∀ (d : D) (v : V) (u : Value) (k : NestedKey), d.nk = some k → RD X.K H v d → RelV v u → NestedIs s.heap k u
  | .non, _, _, _, e, h, r => by cases h; cases e; cases r; exact .none
  | .bl b, _, _, _, e, h, r => by cases h; cases e; cases r; exact .bool rfl
  | .int i, _, _, _, e, h, r => by cases h; cases e; obtain ⟨t, rfl⟩ := r; exact .int i t
  | .str x, _, _, _, e, h, r => by cases h; cases e; obtain ⟨t, rfl⟩ := r; exact .text x t
  | .tup ds, _, _, _, e, h, r => by
    have e : (nks ds).map NestedKey.tup = some _ := e
    obtain ⟨ks, e1, rfl⟩ := Option.map_eq_some_iff.mp e
    cases h with
    | tup h1 h2 =>
      cases r
      obtain ⟨its, rv, ⟨o, ho, hc, n, hd⟩, _⟩ := I.tuple h1
      refine .tup ho hc hd ?_
      have := RDs.nested I ds _ its ks e1 h2 rv
      simpa using this
  | .lst ds, _, _, _, e, _, _ => by cases e
  | .dic ds, _, _, _, e, _, _ => by cases e
  | .scr ns, _, _, _, e, _, _ => by cases e
  | .obj _ _, _, _, _, e, _, _ => by cases e
theorem RDs.nested {pins : List (Addr × Obj)} {s : Shared} {H : Hp} {sg : L2.St} (I : L2.Inv X pins sg H s) : ∀ (ds : List D) (vs : List V) (us : List Value) (ks : List NestedKey), nks ds = some ks → RDs X.K H vs ds → Vals vs us → NestedAll s.heap ks us
  | [], _, _, _, e, h, r => by cases h; cases e; cases r; exact .nil
  | d :: ds, _, _, _, e, h, r => by
    have e : (d.nk.bind fun k => (nks ds).map fun ks => k :: ks) = some _ := e
    obtain ⟨k, e1, e2⟩ := Option.bind_eq_some_iff.mp e
    obtain ⟨ks, e3, rfl⟩ := Option.map_eq_some_iff.mp e2
    cases h with
    | cons h1 h2 =>
      cases r with
      | cons r1 r2 => exact .cons (RD.nested I d _ _ k e1 h1 r1) (RDs.nested I ds _ _ ks e3 h2 r2)
end
def KeyAt (K : PySem.W.Frag) (H : Hp) (k : NestedKey) (b : Addr) : Prop := ∃ kd : D, RD K H (.ref b) kd ∧ kd.nk = some k ∧ k.depth ≤ 8
theorem KeyAt.is {pins : List (Addr × Obj)} {s : Shared} {H : Hp} {sg : L2.St} (I : L2.Inv X pins sg H s) {k : NestedKey} {b : Addr} (h : KeyAt X.K H k b) : (nestedKind X.prog X.w).is s.heap k b := by
  obtain ⟨kd, h1, h2, h3⟩ := h
  exact ⟨RD.nested I kd _ _ k h2 h1 rfl, h3⟩
def entsOf (xs : List (NestedKey × Addr × V)) (us : List Value) : List (NestedKey × Addr × Value) := List.zipWith (fun x u => (x.1, x.2.1, u)) xs us
theorem ents_keys : ∀ {xs : List (NestedKey × Addr × V)} {us : List Value}, xs.length = us.length → (entsOf xs us).map (·.1) = xs.map (·.1)
  | [], [], _ => rfl
  | x :: xs, u :: us, h => by
    show x.1 :: (entsOf xs us).map (·.1) = x.1 :: xs.map (·.1)
    rw [ents_keys (by simpa using h)]
  | [], _ :: _, h => by simp at h
  | _ :: _, [], h => by simp at h
theorem ents_any : ∀ {xs : List (NestedKey × Addr × V)} {us : List Value} (k : NestedKey), xs.length = us.length → (atKey (entsOf xs us) k).isSome = xs.any fun x => decide (x.1 = k)
  | [], [], _, _ => rfl
  | x :: xs, u :: us, k, h => by
    have ih := ents_any (xs := xs) (us := us) k (by simpa using h)
    unfold atKey at ih ⊢
    show (((((x.1, x.2.1, u) : NestedKey × Addr × Value) :: entsOf xs us).find? fun x => decide (x.1 = k)).map (·.2)).isSome = (decide (x.1 = k) || xs.any fun x => decide (x.1 = k))
    rw [List.find?_cons]
    cases hd : decide (x.1 = k) with
    | true => simp
    | false => simp only [Bool.false_or]; exact ih
  | [], _ :: _, _, h => by simp at h
  | _ :: _, [], _, h => by simp at h
theorem ents_mem : ∀ {xs : List (NestedKey × Addr × V)} {us : List Value} {q : NestedKey × Addr × Value}, q ∈ entsOf xs us → ∃ x ∈ xs, x.1 = q.1 ∧ x.2.1 = q.2.1
  | [], _, _, h => by simp [entsOf] at h
  | _ :: _, [], _, h => by simp [entsOf] at h
  | x :: xs, u :: us, q, h => by
    rcases List.mem_cons.mp (show q ∈ (x.1, x.2.1, u) :: entsOf xs us from h) with rfl | h
    · exact ⟨x, List.mem_cons_self, rfl, rfl⟩
    · obtain ⟨y, h1, h2⟩ := ents_mem h
      exact ⟨y, List.mem_cons_of_mem _ h1, h2⟩
theorem od_dict {pins : List (Addr × Obj)} {s : Shared} {H : Hp} {sg : L2.St} {a : Addr} {xs : List (NestedKey × Addr × V)} (I : L2.Inv X pins sg H s) (ha : H a = some (OdO X.w a xs)) (hk : ∀ q ∈ xs, KeyAt X.K H q.1 q.2.1) :
    (a == sysModules) = false ∧ (xs.map (·.1)).Nodup ∧ ∃ us, Vals (xs.map (·.2.2)) us ∧ xs.length = us.length ∧ s.heap.DictOfH (nestedKind X.prog X.w) a (entsOf xs us) := by
  obtain ⟨h1, h2, us, ep, h3, h4⟩ := (I.hok a _ ha).1
  have hl : xs.length = us.length := by have := h3.length; rw [List.length_map] at this; exact this
  refine ⟨h1, h2, us, h3, hl, _, _, ep, h4, ⟨rfl, rfl, rfl⟩, rfl, ?_, fun q hq => ?_, by rw [ents_keys hl]; exact h2⟩
  · show List.zipWith _ xs us = (entsOf xs us).map (entryOfKey (nestedKind X.prog X.w))
    unfold entsOf
    rw [List.map_zipWith]
    rfl
  · obtain ⟨x, hx, e1, e2⟩ := ents_mem hq
    rw [← e1, ← e2]
    exact (hk x hx).is I
/-- k in d, k not in d -/
def rOd (X : Cx) (f : Bool → Bool) : R2 := fun x y H Q => ∃ b a k xs, x = .ref b ∧ y = .ref a ∧ H a = some (OdO X.w a xs) ∧ (∀ q ∈ xs, KeyAt X.K H q.1 q.2.1) ∧ KeyAt X.K H k b ∧ Q (.bl (f (xs.any fun x => decide (x.1 = k)))) H
theorem op_odNotIn {k : Nat} (hr : Room k X.A) : OpR X (compareOp .NotIn) (rOd X fun b => !b) := by
  intro pins s σ H x y v u Q I rx ry h
  obtain ⟨b, a, k, xs, rfl, rfl, ha, hk, hb, q⟩ := h
  cases rx
  cases ry
  obtain ⟨h1, h2, us, h3, hl, h4⟩ := od_dict I ha hk
  have hu := hr.un
  refine PyProof.Rows.wpAny_notIn_heap (knd := nestedKind X.prog X.w) (show X.A.in1.units + 8 < cLine from by show X.A.units + 1 + 8 < cLine; omega) (hb.is I) h1 h4 ?_
  rw [ents_any k hl]
  exact ⟨.bl _, H, I.tok _, rfl, q⟩
/-- d[k] = z, k not there yet -/
def tOdSet (X : Cx) : TSet := fun o i z H Q => ∃ b a k xs, i = .ref b ∧ o = .ref a ∧ H a = some (OdO X.w a xs) ∧ (∀ q ∈ xs, KeyAt X.K H q.1 q.2.1) ∧ KeyAt X.K H k b ∧ (xs.any fun x => decide (x.1 = k)) = false ∧ xs.length ≤ 1000000 ∧ Q (L2.upd H a (OdO X.w a (xs ++ [(k, b, z)])))
theorem set_od {k : Nat} (hr : Room k X.A) : PSet X (tOdSet X) := by
  intro pins s σ H o i v ov iv u Q I ro ri rv h
  obtain ⟨b, a, k, xs, rfl, rfl, ha, hk, hb, hno, hz, q⟩ := h
  cases ro
  cases ri
  obtain ⟨h1, h2, us, h3, hl, h4⟩ := od_dict I ha hk
  have hu := hr.un
  have hlen : (entsOf xs us).length = xs.length := by unfold entsOf; rw [List.length_zipWith]; omega
  have hnone : atKey (entsOf xs us) k = none := by
    have := ents_any k hl
    rw [hno] at this
    cases hq : atKey (entsOf xs us) k with
    | none => rfl
    | some z => rw [hq] at this; cases this
  refine wpAny_setItem_heap (knd := nestedKind X.prog X.w) (show X.A.in1.units + 8 < cLine from by show X.A.units + 1 + 8 < cLine; omega) (hb.is I) h4 (fun h' hm hs => ?_) (hsz := by rw [hlen, sizeLine_eq]; omega)
  rw [storedH_new hnone] at hm
  obtain ⟨o, es, ep, ho, hex, hd, he, _, hn⟩ := hm
  have hob : o = { cls := .type "dict", data := .dict es ep } := by
    obtain ⟨c, dd, dt, sl⟩ := o
    obtain ⟨e1, e2, e3⟩ := hex
    cases e1; cases e2; cases e3; cases hd
    rfl
  subst hob
  have hes : es = (List.zipWith (fun (x : NestedKey × Addr × V) (u : Value) => (⟨x.1.hash X.w, .ref x.2.1, u⟩ : DictEntry)) (xs ++ [(k, b, v)]) (us ++ [u])).toArray := by
    apply Array.ext'
    rw [he, List.map_append, List.zipWith_append hl]
    unfold entsOf
    rw [List.map_zipWith]
    rfl
  rw [hes] at ho
  have hn2 : ((xs ++ [(k, b, v)]).map (·.1)).Nodup := by
    rw [List.map_append] at hn ⊢
    rw [ents_keys hl] at hn
    exact hn
  have hv2 : Vals ((xs ++ [(k, b, v)]).map (·.2.2)) (us ++ [u]) := by
    rw [List.map_append]
    exact h3.append (.cons rv .nil)
  exact ⟨_, I.write (e := a) (t' := s.toks + (nestedKind X.prog X.w).draws k) (by rw [ha]; trivial) (.inl rfl) (fun c u hc hu => (hs.2 c hc).trans hu) ⟨_, ho⟩ (od_ok h1 hn2 hv2 ho), q⟩
/-! by data -/
def D.key8 : D → Option NestedKey
  | .tup ds => (nks ds).bind fun ks => if (NestedKey.tup ks).depth ≤ 8 then some (.tup ks) else none
  | _ => none
theorem key8_at {K : PySem.W.Frag} {F H : Hp} {v : V} {d : D} {k : NestedKey} (sub : Same F H) (h : RD K F v d) (e : d.key8 = some k) : ∃ b, v = .ref b ∧ KeyAt K H k b ∧ RD K F (.ref b) d ∧ d.nk = some k ∧ k.depth ≤ 8 := by
  cases d with
  | tup ds =>
    obtain ⟨ks, e1, e2⟩ := Option.bind_eq_some_iff.mp (show ((nks ds).bind fun ks => if (NestedKey.tup ks).depth ≤ 8 then some (NestedKey.tup ks) else none) = some k from e)
    split at e2
    · next hd =>
      cases e2
      have hn : (D.tup ds).nk = some (.tup ks) := by show (nks ds).map NestedKey.tup = _; rw [e1]; rfl
      have h0 := h
      cases h with
      | tup h1 h2 => exact ⟨_, rfl, ⟨.tup ds, RD.mono sub _ h0, hn, hd⟩, h0, hn, hd⟩
    · cases e2
  | _ => cases e
theorem RDm.keys {K : PySem.W.Frag} {F H : Hp} (sub : Same F H) : ∀ {kvs : List (D × D)} {xs : List (NestedKey × Addr × V)}, RDm K F xs kvs → ∀ q ∈ xs, KeyAt K H q.1 q.2.1
  | [], _, h, q, hq => by cases h; cases hq
  | (kd, d) :: kvs, _, h, q, hq => by
    cases h with
    | cons h1 h2 h3 h4 =>
      rcases List.mem_cons.mp hq with rfl | hq
      · exact ⟨kd, RD.mono sub _ h1, h2.1, h2.2⟩
      · exact RDm.keys sub h4 q hq
def odHas (kvs : List (D × D)) (k : NestedKey) : Bool := kvs.any fun p => decide (p.1.nk = some k)
theorem RDm.has {K : PySem.W.Frag} {F : Hp} (k : NestedKey) : ∀ {kvs : List (D × D)} {xs : List (NestedKey × Addr × V)}, RDm K F xs kvs → (xs.any fun x => decide (x.1 = k)) = odHas kvs k
  | [], _, h => by cases h; rfl
  | (kd, d) :: kvs, _, h => by
    cases h with
    | cons h1 h2 h3 h4 =>
      unfold odHas
      rw [List.any_cons, List.any_cons, RDm.has k h4]
      unfold odHas
      congr 1
      rw [h2.1]
      exact decide_eq_decide.mpr ⟨fun e => congrArg some e, fun e => Option.some.inj e⟩
theorem RDm.len {K : PySem.W.Frag} {F : Hp} : ∀ {kvs : List (D × D)} {xs : List (NestedKey × Addr × V)}, RDm K F xs kvs → xs.length = kvs.length
  | [], _, h => by cases h; rfl
  | (kd, d) :: kvs, _, h => by
    cases h with
    | cons h1 h2 h3 h4 => rw [List.length_cons, List.length_cons, RDm.len h4]
theorem RDm.snoc {K : PySem.W.Frag} {F : Hp} {k : NestedKey} {b : Addr} {v : V} {kd d : D} (a1 : RD K F (.ref b) kd) (a2 : kd.nk = some k ∧ k.depth ≤ 8) (a3 : RD K F v d) : ∀ {kvs : List (D × D)} {xs : List (NestedKey × Addr × V)}, RDm K F xs kvs → RDm K F (xs ++ [(k, b, v)]) (kvs ++ [(kd, d)])
  | [], _, h => by cases h; exact .cons a1 a2 a3 .nil
  | (_, _) :: kvs, _, h => by
    cases h with
    | cons h1 h2 h3 h4 => exact .cons h1 h2 h3 (RDm.snoc a1 a2 a3 h4)
/-- e not in d, e in d -/
def inOd (n : Bool → Bool) (i : Nat) (f : En → Rs D) : En → Rs Bool := fun r => (f r).bind fun d r1 =>
  match r1[i]? with
  | some (some (.od kvs)) => ofO (d.key8.map fun k => n (odHas kvs k)) r1
  | _ => .bad
variable {a : Expr} {px : Pos} {x : Str} {i : Nat}
theorem dt_od {op : CmpOp} {n : Bool → Bool} {f : En → Rs D} (hW : g.w = X.w) (ho : OpR X (compareOp op) (rOd X n)) (ha : DE X g a f) (hv : PE X (.Name x px) (tVar i)) (hm : behindInMarks op (.Name x px) = false := by rfl) : DT X g (.Compare a [op] [.Name x px] pos) (inOd n i f) :=
  PT.imp (pt_cmpR ho ha hv hm) fun s H Q ⟨F, r, R, h⟩ => ⟨F, r, R, post_mono (post_bind h) fun d r1 q F1 H1 v sm R1 hvd => by
    cases e : r1[i]? with
    | none => rw [e] at q; exact q.elim
    | some w =>
      cases w with
      | none => rw [e] at q; exact q.elim
      | some o =>
        cases o with
        | sh _ => rw [e] at q; exact q.elim
        | ow _ => rw [e] at q; exact q.elim
        | oi _ _ => rw [e] at q; exact q.elim
        | th _ => rw [e] at q; exact q.elim
        | exc _ => rw [e] at q; exact q.elim
        | od kvs =>
          rw [e] at q
          obtain ⟨b, e1, q⟩ := post_ofO q
          obtain ⟨k, e2, rfl⟩ := Option.map_eq_some_iff.mp e1
          obtain ⟨v', h1, a', xs, rfl, fa, ha', hm'⟩ := R1.slot i _ e
          obtain ⟨b', rfl, k1, _⟩ := key8_at R1.sub hvd e2
          refine ⟨_, h1, b', a', k, xs, rfl, rfl, by rw [← hW]; exact ha', hm'.keys R1.sub, k1, _, rfl, ?_⟩
          rw [hm'.has k]
          exact q F1 H1 sm R1⟩
/-- a slot's dict is changed -/
theorem Rel.chgOd {K : PySem.W.Frag} {F H : Hp} {s : St} {r : En} {i : Nat} {kvs kvs' : List (D × D)} {a : Addr} {xs xs' : List (NestedKey × Addr × V)} (R : Rel K g F H s r) (e : r[i]? = some (some (.od kvs))) (hs : s[i]? = some (some (.ref a))) (fa : F a = none) (ha : H a = some (OdO g.w a xs)) (hv : RDm K F xs' kvs') :
    Rel K g F (L2.upd H a (OdO g.w a xs')) s (r.set i (some (.od kvs'))) := by
  have hi : i < r.length := (List.getElem?_eq_some_iff.mp e).1
  have cs : ∀ (j : Nat) (u : OV), (r.set i (some (.od kvs')))[j]? = some (some u) → (j = i ∧ u = .od kvs') ∨ (j ≠ i ∧ r[j]? = some (some u)) := fun j u z => by
    by_cases hj : i = j
    · subst hj
      rw [List.getElem?_set_self hi] at z
      cases z
      exact .inl ⟨rfl, rfl⟩
    · rw [List.getElem?_set_ne hj] at z
      exact .inr ⟨fun z => hj z.symm, z⟩
  have ow1 : ∀ (j : Nat) (u : OV), (r.set i (some (.od kvs')))[j]? = some (some u) → u.own = true → ∃ u', r[j]? = some (some u') ∧ u'.own = true := fun j u z zo => by
    rcases cs j u z with ⟨rfl, rfl⟩ | ⟨_, z'⟩
    · exact ⟨_, e, rfl⟩
    · exact ⟨u, z', zo⟩
  refine ⟨fun b u eb => ?_, R.f0, R.fnew, fun b u eb hb => ?_, fun j u ej => ?_, fun j u b ej eo es => ?_, fun j k u w b hjk ej eo ek ek' => ?_, fun p hp => ?_, by rw [List.length_set]; exact R.len, fun p hp => ?_⟩
  · rw [upd_ne fun z => by rw [z, fa] at eb; cases eb]; exact R.sub b u eb
  · rw [upd_ne fun z => ?_]
    · exact R.keep b u eb hb
    · subst z
      rcases R.own i _ b e rfl hs with q | q
      · rw [q] at eb; cases eb
      · exact hb _ q rfl
  · rcases cs j u ej with ⟨rfl, rfl⟩ | ⟨hj, ej⟩
    · exact ⟨_, hs, a, xs', rfl, fa, upd_same, hv⟩
    · obtain ⟨v, h1, h2⟩ := R.slot j u ej
      refine ⟨v, h1, ?_⟩
      cases u with
      | sh d => exact h2
      | ow ys =>
        obtain ⟨b, ws, rfl, b2, b3, b4⟩ := h2
        exact ⟨b, ws, rfl, b2, by rw [upd_ne fun z => R.dist j i _ _ a hj ej rfl e rfl (by rw [h1, z]) hs]; exact b3, b4⟩
      | od ys =>
        obtain ⟨b, ws, rfl, b2, b3, b4⟩ := h2
        exact ⟨b, ws, rfl, b2, by rw [upd_ne fun z => R.dist j i _ _ a hj ej rfl e rfl (by rw [h1, z]) hs]; exact b3, b4⟩
      | oi c ys =>
        obtain ⟨b, ws, rfl, b2, b3, b4⟩ := h2
        exact ⟨b, ws, rfl, b2, by rw [upd_ne fun z => R.dist j i _ _ a hj ej rfl e rfl (by rw [h1, z]) hs]; exact b3, b4⟩
      | th ys =>
        obtain ⟨b, ws, rfl, b2, b3, b4⟩ := h2
        exact ⟨b, ws, rfl, b2, by rw [upd_ne fun z => R.dist j i _ _ a hj ej rfl e rfl (by rw [h1, z]) hs]; exact b3, b4⟩
      | exc c => exact h2
  · obtain ⟨u', e1, e2⟩ := ow1 j u ej eo
    exact R.own j u' b e1 e2 es
  · obtain ⟨u', e1, e2⟩ := ow1 j u ej eo
    obtain ⟨w', e3, e4⟩ := ow1 k w ek ek'
    exact R.dist j k u' w' b hjk e1 e2 e3 e4
  · obtain ⟨p1, u, p2, p3⟩ := R.pin p hp
    refine ⟨p1, ?_⟩
    by_cases hj : i = p.1
    · exact ⟨.od kvs', by rw [← hj]; exact List.getElem?_set_self hi, rfl⟩
    · exact ⟨u, by rw [List.getElem?_set_ne hj]; exact p2, p3⟩
  · obtain ⟨x1, x2, x3⟩ := R.ext p hp
    refine ⟨by rw [upd_ne fun z => x3 i _ e rfl (by rw [hs, z])]; exact x1, x2, fun j u ej eo => ?_⟩
    obtain ⟨u', e1, e2⟩ := ow1 j u ej eo
    exact x3 j u' e1 e2
/-- d[e] = f, a new key -/
def putOd (i : Nat) (fi f : En → Rs D) : En → SRs := fun r => thenS (f r) fun d r1 => thenS (fill r1 i) fun _ r1 => thenS (fi r1) fun kd r2 =>
  match r2[i]? with
  | some (some (.od kvs)) => match kd.key8 with
    | some k => if odHas kvs k = false ∧ kvs.length ≤ 1000000 then .nx (r2.set i (some (.od (kvs ++ [(kd, d)])))) else .bad
    | none => .bad
  | _ => .bad
variable {ei e : Expr} {p : Pos}
theorem ds_putOd {k : Nat} {fi f : En → Rs D} {sp : Pos} (hW : g.w = X.w) (hr : Room k X.A) (hv : PE X (.Name x p) (tVar i)) (hi : DE X g ei fi) (h : DE X g e f) (hs : swapsWithSole [.Subscript (.Name x p) ei sp] e pos.line X.env = pure false := by rfl) (hw : swappedStores [.Subscript (.Name x p) ei sp] e X.env = pure none := by rfl)
    (h1 : (assignEach [.Subscript (.Name x p) ei sp] X.env).map (·.2) = [assign (.Subscript (.Name x p) ei sp) X.env] := by rfl)
    (ha : ∀ v, assign (.Subscript (.Name x p) ei sp) X.env v = (do
      let ov ← holding [v] (eval (.Name x p) X.env)
      let iv ← holding [v, ov] (eval ei X.env)
      standAt sp
      holding [v, ov, iv] (setItem ov iv v)
      release [v, ov, iv] []) := by intro _; rfl) : DS X g (.Assign [.Subscript (.Name x p) ei sp] e pos) (putOd i fi f) :=
  PS.imp (ps_asg h (pg_sub hv hi (set_od hr) ha) hs hw h1) fun E s H ⟨F, r, R, q⟩ => ⟨F, r, R, post_mono (post_then q) fun d r1 q F1 H1 w sm R1 hw => by
    obtain ⟨⟨o, e0⟩, q⟩ := post_fill (post_then q)
    obtain ⟨v, h1, _⟩ := R1.slot i o e0
    refine ⟨v, h1, F1, r1, R1, post_mono (post_then q) fun kd r2 q F2 H2 vk sm2 R2 hk => ?_⟩
    cases e2 : r2[i]? with
    | none => rw [e2] at q; exact q.elim
    | some w2 =>
      cases w2 with
      | none => rw [e2] at q; exact q.elim
      | some o2 =>
        cases o2 with
        | sh _ => rw [e2] at q; exact q.elim
        | ow _ => rw [e2] at q; exact q.elim
        | oi _ _ => rw [e2] at q; exact q.elim
        | th _ => rw [e2] at q; exact q.elim
        | exc _ => rw [e2] at q; exact q.elim
        | od kvs =>
          rw [e2] at q
          cases e3 : kd.key8 with
          | none => simp only [e3] at q; exact q.elim
          | some k =>
            simp only [e3] at q
            by_cases hc : odHas kvs k = false ∧ kvs.length ≤ 1000000
            · rw [if_pos hc] at q
              obtain ⟨v', g1, a', xs, rfl, fa, ha', hm'⟩ := R2.slot i _ e2
              rw [h1] at g1
              cases g1
              obtain ⟨b', rfl, k1, k2, k3⟩ := key8_at R2.sub hk e3
              refine ⟨b', a', k, xs, rfl, rfl, by rw [← hW]; exact ha', hm'.keys R2.sub, k1, by rw [hm'.has k]; exact hc.1, by rw [hm'.len]; exact hc.2, ?_⟩
              rw [← hW]
              exact q F2 _ s (sm.trans sm2) (R2.chgOd e2 h1 fa ha' (hm'.snoc k2 k3 (RD.mono sm2 d hw)))
            · rw [if_neg hc] at q
              exact q.elim⟩
end
end DL

/-! Data layer, part 32: comprehensions with any number of fors, lists and sets. -/
namespace DL
open PySem L2 PySem.Spec
/-- a list's comprehension, a set's -/
def cEx (b : Bool) (elt : Expr) (gs : List Comprehension) (scope : Scope) (pos : Pos) : Expr :=
  match b with
  | true => .SetComp elt gs scope pos
  | false => .ListComp elt gs scope pos
/-- what is done at each innermost turn -/
def cEm (b : Bool) (elt : Expr) (acc : Value) (env : Env) : Sem Unit :=
  match b with
  | true => do let v ← eval elt env; standAt elt.pos; let _ ← call (.builtin "set.add") [acc, v]
  | false => do let _ ← call (.builtin "list.append") [acc, ← eval elt env]
/-- behind the tests of a clause: the next clause, or what is done -/
def cIn (b : Bool) (elt : Expr) (gs : List Comprehension) (scope : Scope) (pos : Pos) (depth : Nat) (acc : Value) (env : Env) : Sem Unit :=
  match gs[depth + 1]? with
  | some g' => do
    let x ← eval g'.iter env
    standAt g'.iter.pos
    let x ← foldedSetIterable g'.iter env x
    let _ ← runOwn (.compStart (cEx b elt gs scope pos) (depth + 1) (← holding [x] (pyIter x)) acc env) env
  | none => cEm b elt acc env
theorem turn_n {b : Bool} {elt : Expr} {gs : List Comprehension} {scope : Scope} {pos : Pos} {depth : Nat} {it acc : Value} {env : Env} {g : Comprehension} (hg : gs[depth]? = some g) (hz : ∀ g ∈ gs, g.is_async = 0) :
    compTurn (cEx b elt gs scope pos) depth it acc env = (do
      standAt g.iter.pos
      match ← pyNext it with
      | none => pure (.done .next)
      | some v =>
        letOwnedTupleGo g.target it v
        assign g.target env v
        let mut ok := true
        for c in g.ifs do
          if ok then ok ← isTrue c env (eval c env)
        if ok then
          cIn b elt gs scope pos depth acc env
        again (.compLoop (cEx b elt gs scope pos) depth it acc env)) := by
  have h0 : (g.is_async != 0) = false := by rw [hz g (List.mem_of_getElem? hg)]; rfl
  cases hn : gs[depth + 1]? with
  | none =>
    cases b
    · unfold compTurn cEx cIn cEm
      simp only [hg, h0, hn, Bool.false_eq_true, if_false]
      rfl
    · unfold compTurn cEx cIn cEm
      simp only [hg, h0, hn, Bool.false_eq_true, if_false]
      rfl
  | some g' =>
    have h1 : (g'.is_async != 0) = false := by rw [hz g' (List.mem_of_getElem? hn)]; rfl
    cases b
    · unfold compTurn cEx cIn
      simp only [hg, h0, hn, h1, Bool.false_eq_true, if_false, bind_assoc, pure_bind]
      rfl
    · unfold compTurn cEx cIn
      simp only [hg, h0, hn, h1, Bool.false_eq_true, if_false, bind_assoc, pure_bind]
      rfl
abbrev FF : Value → Shared → Prop := fun _ _ => False
section
variable {prog : Program} {w : World} {A : Around} {R : Result → Shared → Prop} {s : Shared} {b : Bool} {elt : Expr} {gs : List Comprehension} {scope : Scope} {pos : Pos} {depth : Nat} {it acc : Value} {env : Env} {g : Comprehension}
/-- one clause's loop -/
theorem loop_n (hg : gs[depth]? = some g) (hz : ∀ g ∈ gs, g.is_async = 0) (I : Nat → Shared → Prop)
    (turn : ∀ n s, I n s → wpAny (model prog w) A (pyNext it) (fun r s1 => match r with
      | none => R (.ok .next) s1
      | some v => wpAny (model prog w) A (letOwnedTupleGo g.target it v) (fun _ s2 => wpAny (model prog w) A (assign g.target env v) (fun _ s3 =>
          wpAny (model prog w) A (forIn g.ifs true fun c r => if r = true then do let ok ← isTrue c env (eval c env); pure (ForInStep.yield ok) else pure (ForInStep.yield r)) (fun ok s4 =>
            if ok = true then wpAny (model prog w) A (cIn b elt gs scope pos depth acc env) (fun _ s5 => ∃ m, m < n ∧ I m s5) FF s4 else ∃ m, m < n ∧ I m s4) FF s3) FF s2) FF s1) FF s)
    (n : Nat) (h : I n s) : codeAny (model prog w) A (.compLoop (cEx b elt gs scope pos) depth it acc env) R s := by
  have main : ∀ n s, I n s → ∀ {E : Value → Shared → Prop} {Q : PySem.Fin → Shared → Prop}, (∀ s', R (.ok .next) s' → Q (.done .next) s') → (∀ m s', m < n → I m s' → wpAny (model prog w) A (again (.compLoop (cEx b elt gs scope pos) depth it acc env)) Q E s') →
      wpAny (model prog w) A (compTurn (cEx b elt gs scope pos) depth it acc env) Q E s := by
    intro n s hI E Q hd ha
    rw [turn_n hg hz]
    refine wpAny_bind (wpAny_standAt (wpAny_bind (thnF (turn n s hI) fun r s1 h1 => ?_)))
    cases r with
    | none => exact wpAny_pure (hd _ h1)
    | some v =>
      refine wpAny_bind (thnF h1 fun _ s2 h2 => wpAny_bind (thnF h2 fun _ s3 h3 => wpAny_bind (thnF h3 fun ok s4 h4 => ?_)))
      cases ok with
      | false =>
        obtain ⟨m, hm, hi⟩ := h4
        exact ha m s4 hm hi
      | true =>
        refine wpAny_bind (thnF (show wpAny (model prog w) A (cIn b elt gs scope pos depth acc env) _ FF s4 from h4) fun _ s5 h5 => ?_)
        obtain ⟨m, hm, hi⟩ := h5
        exact ha m s5 hm hi
  have fin : ∀ k s, I k s → wpAny (model prog w) A (compTurn (cEx b elt gs scope pos) depth it acc env) (fun fin s' => match fin with | .done f => R (.ok f) s' | .again c' => c' = .compLoop (cEx b elt gs scope pos) depth it acc env ∧ ∃ m, m < k ∧ I m s') (notedBy (model prog w) A env fun e s' => R (.error e) s') s :=
    fun k s hI => main k s hI (fun s' q => q) fun m s' hm hi => wpAny_pure ⟨rfl, m, hm, hi⟩
  cases b with
  | true => exact codeAny_loop rfl I (fun k s hI => wpAny_noted (fin k s hI)) n h
  | false => exact codeAny_loop rfl I (fun k s hI => wpAny_noted (fin k s hI)) n h
/-- one clause's start -/
theorem start_n (hg : gs[depth]? = some g) (hz : ∀ g ∈ gs, g.is_async = 0) (h0 : codeAny (model prog w) A (.compLoop (cEx b elt gs scope pos) depth it acc env) R s)
    (h : ∀ {E : Value → Shared → Prop}, wpAny (model prog w) A (pyIter it) (fun it' s' => codeAny (model prog w) A (.compLoop (cEx b elt gs scope pos) depth it' acc env) R s') E s) :
    codeAny (model prog w) A (.compStart (cEx b elt gs scope pos) depth it acc env) R s := by
  have hc : clausesOf (cEx b elt gs scope pos) = gs := by cases b <;> rfl
  have h1 : (g.is_async != 0) = false := by rw [hz g (List.mem_of_getElem? hg)]; rfl
  have main : ∀ {E : Value → Shared → Prop}, wpAny (model prog w) A (compStart (cEx b elt gs scope pos) depth it acc env) (fun fin s' => match fin with | .done f => R (.ok f) s' | .again c => c.quiet = true ∧ codeAny (model prog w) A c R s') E s := by
    intro E
    have hq : ∀ it', (Code.compLoop (cEx b elt gs scope pos) depth it' acc env).quiet = true := fun it' => by cases b <;> rfl
    unfold compStart
    simp only [hc, hg, Option.elim_some, h1, Bool.false_eq_true, if_false]
    refine wpAny_bind (wpAny_askSetting (wpAny_ite ?_))
    split
    · exact wpAny_pure ⟨hq _, h0⟩
    · exact wpAny_bind (wpAny_rule (wpAny_bind (wpAny_standAt (wpAny_bind (wpAny_mono (h (E := E)) (fun it' s' h' => wpAny_pure ⟨hq _, h'⟩) fun _ _ x => x)))))
  cases b with
  | true => exact codeAny_of_tree (wpAny_notedAt main)
  | false => exact codeAny_of_tree (wpAny_notedAt main)
end
end DL

/-! Data layer, part 33: the clauses of a comprehension, one behind the other. -/
namespace DL
open PySem L2 PySem.Spec
abbrev GRd := TI × TG × TT × List Nat
abbrev TM := L2.St → Hp → (Hp → Prop) → Prop
/-- the loops of the clauses, from the first one's source on -/
def tGs (tm : TM) : List GRd → TM
  | [], σ, H, Q => tm σ H Q
  | (wi, g, tt, vs) :: rest, σ, H, Q => wi σ H fun J H1 => ∃ W : Nat → Nat → Hp → Prop, (∃ m, W 0 m H1) ∧ ∀ i m H, W i m H →
      (J.stop i H ∧ Q H) ∨ (J.go i H ∧ ∃ Nx : Hp → Prop, (∀ H', Nx H' → ∃ m', m' < m ∧ W (i + 1) m' H') ∧ ∀ x H', J.yld i H x H' → g x (wipe σ vs) H' fun σ2 H2 => wipe σ2 vs = wipe σ vs ∧ tt σ2 H2 fun bb H3 =>
        if bb = true then tGs tm rest σ2 H3 Nx else Nx H3)
/-- what is done at each innermost turn, by its reading -/
def PM (Y : Cx) (b : Bool) (elt : Expr) (acc : Value) (tm : TM) : Prop :=
  ∀ (pins : List (Addr × Obj)) (s : Shared) (σ : L2.St) (H : Hp) (Q : Hp → Prop), L2.Inv Y pins σ H s → tm σ H Q → wpAny (model Y.prog Y.w) Y.A (cEm b elt acc Y.env) (fun _ s' => ∃ H', L2.Inv Y pins σ H' s' ∧ Q H') FF s
/-- the clauses from one on have these readings -/
def Al (Y : Cx) (gs : List Comprehension) : Nat → List GRd → List Nat → Prop
  | k, [], _ => gs[k]? = none
  | k, (wi, g, tt, vs) :: rest, vp => ∃ cl, gs[k]? = some cl ∧ PI Y cl.target cl.iter wi ∧ PG Y cl.target g ∧ PTs Y cl.ifs tt ∧ (∀ x, foldedSetIterable cl.iter Y.env x = pure x) ∧ (∀ i ∈ vs, i ∈ vp) ∧ Al Y gs (k + 1) rest vs
theorem weakW {Y : Cx} {pins : List (Addr × Obj)} {σ : L2.St} {H : Hp} {s : Shared} (I : L2.Inv Y pins σ H s) (vs : List Nat) : L2.Inv Y pins (wipe σ vs) H s := I.weak (wipe_length _ _) fun j v e => (wipe_some e).1
theorem weakWW {Y : Cx} {pins : List (Addr × Obj)} {σ : L2.St} {H : Hp} {s : Shared} {vs vp : List Nat} (I : L2.Inv Y pins (wipe σ vs) H s) (h : ∀ i ∈ vs, i ∈ vp) : L2.Inv Y pins (wipe σ vp) H s :=
  I.weak (by rw [wipe_length, wipe_length]) fun j v e => by
    obtain ⟨e1, e2⟩ := wipe_some e
    rw [wipe_out fun z => e2 (h j z)]
    exact e1
theorem in_ok {Y : Cx} {b : Bool} {elt : Expr} {gs : List Comprehension} {scope : Scope} {pos : Pos} {acc : Value} {tm : TM} (hxe : Y.xe = FF) (hc : Y.calm = true) (hz : ∀ g ∈ gs, g.is_async = 0) (hm : PM Y b elt acc tm) :
    ∀ (rs : List GRd) (depth : Nat) (vp : List Nat), Al Y gs (depth + 1) rs vp → ∀ (pins : List (Addr × Obj)) (s : Shared) (σ : L2.St) (H : Hp) (Q : Hp → Prop), L2.Inv Y pins σ H s → tGs tm rs σ H Q →
      wpAny (model Y.prog Y.w) Y.A (cIn b elt gs scope pos depth acc Y.env) (fun _ s' => ∃ H', L2.Inv Y pins (wipe σ vp) H' s' ∧ Q H') FF s := by
  intro rs
  induction rs with
  | nil =>
    intro depth vp al pins s σ H Q I h
    have al : gs[depth + 1]? = none := al
    unfold cIn
    rw [al]
    exact thnF (hm pins s σ H Q I h) fun _ s' ⟨H', I', q⟩ => ⟨H', weakW I' vp, q⟩
  | cons rd rest ih =>
    obtain ⟨wi, g, tt, vs⟩ := rd
    intro depth vp al pins s σ H Q I h
    obtain ⟨cl, hcl, pi, pg, pt, hfs, hsub, al2⟩ := al
    unfold cIn
    rw [hcl]
    have run := pi.run pins s σ H _ I h
    rw [hxe] at run
    refine wpAny_bind (thnF run fun xv s1 hx => wpAny_bind (wpAny_standAt (wpAny_bind (wpAny_of_eq (hfs xv) (wpAny_bind (wpAny_holding (thnF hx fun itv s2 h2 => ?_)))))))
    obtain ⟨it, fp, tn, J, H2, e, I2, T, st2, f2, W, ⟨m0, w0⟩, turn⟩ := h2
    subst e
    refine wpAny_bind (wpAny_runOwn ?_)
    rw [Around.mark_none]
    have stat : ∀ {H' : Hp}, (∀ c ∈ fp, H' c = none) → ∀ c ∈ fp, FpOk Y pins H' c := fun hn c hb => ⟨hn c hb, (f2 c hb).2⟩
    have loop : codeAny (model Y.prog Y.w) Y.A (.compLoop (cEx b elt gs scope pos) (depth + 1) (.ref it) acc Y.env) (fun r s' => match r with
        | .ok _ => ∃ H', L2.Inv Y pins (wipe σ vp) H' s' ∧ Q H'
        | .error _ => False) s2 := by
      refine loop_n hcl hz (fun n s' => ∃ i H', L2.Inv Y pins (wipe σ vs) H' s' ∧ tn i s'.heap ∧ (∀ c ∈ fp, H' c = none) ∧ W i n H') ?_ m0 ⟨0, H2, weakW I2 vs, st2, fun c hb => (f2 c hb).1, w0⟩
      rintro n s5 ⟨i, H5, I5, st5, n5, w5⟩
      rcases turn i n H5 w5 with ⟨stop, qq⟩ | ⟨go, Nx, hNx, step⟩
      · refine thnF (T.done Y rfl rfl rfl hc i pins s5 _ H5 FF I5 (stat n5) st5 stop) fun r s6 ⟨hr, I6⟩ => ?_
        subst hr
        exact ⟨H5, weakWW I6 hsub, qq⟩
      · refine thnF (T.item Y rfl rfl rfl hc i pins s5 _ H5 FF I5 (stat n5) st5 go) fun r s6 ⟨u, hr, h6⟩ => ?_
        subst hr
        refine thnF h6 fun _ s7 ⟨x, H7, I7, r7, y7, st7, n7⟩ => ?_
        have I7' := I7.pinned (stat n7) (T.obj _ _ st7)
        have rg := pg.run _ s7 _ H7 x u _ I7' r7 (step x H7 y7)
        rw [hxe] at rg
        refine thnF rg fun _ s8 ⟨σ8, H8, I8, hw8, q8⟩ => ?_
        have rt := pt.run _ s8 σ8 H8 _ I8 q8
        rw [hxe] at rt
        refine thnF rt fun bb s9 ⟨H9, I9, q9⟩ => ?_
        have fin : ∀ {s' : Shared} {H' : Hp}, L2.Inv Y (pins ++ pinsAt fp s7.heap) (wipe σ8 vs) H' s' → Nx H' → ∃ m, m < n ∧ ∃ i H', L2.Inv Y pins (wipe σ vs) H' s' ∧ tn i s'.heap ∧ (∀ c ∈ fp, H' c = none) ∧ W i m H' := fun {s' H'} I' nx => by
          obtain ⟨m', hm', w'⟩ := hNx H' nx
          have pin' : ∀ c ∈ fp, ∀ o, s7.heap.get? c = some o → s'.heap.get? c = some o ∧ H' c = none := fun c hb o e =>
            let z := I'.pin (c, o) (List.mem_append_right _ (List.mem_append_right _ (mem_pinsAt hb e)))
            ⟨z.1, z.2.1⟩
          rw [hw8] at I'
          refine ⟨m', hm', i + 1, H', I'.unpinned, T.keep _ _ _ st7 fun c hb o e => (pin' c hb o e).1, fun c hb => ?_, w'⟩
          obtain ⟨o, e, _⟩ := T.obj _ _ st7 c hb
          exact (pin' c hb o e).2
        cases bb with
        | false =>
          simp only [Bool.false_eq_true, if_false] at q9 ⊢
          exact fin (weakW I9 vs) q9
        | true =>
          simp only [if_true] at q9 ⊢
          exact thnF (ih (depth + 1) vs al2 _ s9 σ8 H9 Nx I9 q9) fun _ s10 ⟨H10, I10, q10⟩ => fin I10 q10
    refine codeAny_mono (start_n hcl hz loop (T.self Y.A 0 _ _ _ st2 loop)) fun r s' hr => ?_
    cases r with
    | ok f => exact wpAny_pure hr
    | error e => exact hr.elim
end DL

/-! Data layer, part 34: the comprehension as a value. -/
namespace DL
open PySem L2 PySem.Spec PyProof.Rows
/-- the reading: acc0: what is laid first; tm: what each innermost turn does -/
def tCn (acc0 : Addr → HO) (tm : Addr → TM) (wi : TI) (g : TG) (tt : TT) (vs : List Nat) (rest : List GRd) : TE := fun σ H Q => wi σ H fun J H1 => ∀ D, H1 D = none → ∃ W : Nat → Nat → Hp → Prop, (∃ m, W 0 m (L2.upd H1 D (acc0 D))) ∧ ∀ i m H, W i m H →
  (J.stop i H ∧ Q (.ref D) H) ∨ (J.go i H ∧ ∃ Nx : Hp → Prop, (∀ H', Nx H' → ∃ m', m' < m ∧ W (i + 1) m' H') ∧ ∀ x H', J.yld i H x H' → g x (wipe σ vs) H' fun σ2 H2 => wipe σ2 vs = wipe σ vs ∧ tt σ2 H2 fun bb H3 =>
    if bb = true then tGs (tm D) rest σ2 H3 Nx else Nx H3)
section
variable {X : Cx}
theorem comp_coreU {use : Option (Value → Sem Unit)} {Qf : Value → Shared → Prop} {pins : List (Addr × Obj)} {s : Shared} {σ : L2.St} {H : Hp} {Q : VK} {b : Bool} {elt tg iter : Expr} {ifs : List Expr} {gs : List Comprehension} {scope : Scope} {own : List (PySem.Str × Nat)} {pos pos' : Pos} {wi : TI} {g : TG} {tt : TT} {rest : List GRd} {acc0 : Addr → HO} {tm : Addr → TM} {o0 : Obj} {nw : Sem Value}
    (hnw : ∀ {s : Shared} {Q : Value → Shared → Prop}, Q (.ref s.heap.objs.size) { s with heap := s.heap.push o0 } → wpAny (model X.prog X.w) X.A nw Q X.xe s) (h0 : ∀ (H : Hp) (h : Heap), ObjOk X.prog X.w H (h.push o0) h.objs.size (acc0 h.objs.size))
    (hc : X.calm = true) (hN : X.N.Nodup) (I : L2.Inv X pins σ H s) (hi : PI X tg iter wi) (ok : BlkOk X.N X.env.scope scope own) (hz : ∀ g ∈ gs, g.is_async = 0)
    (hg : ∀ (s : Shared) (H : Hp) (C : Addr) (cl : List (PySem.Str × Addr)) (fp : List Addr), PG (X.blk s H scope (compEnvC scope cl C X.env) fp) tg g) (ht : ∀ (s : Shared) (H : Hp) (C : Addr) (cl : List (PySem.Str × Addr)) (fp : List Addr), PTs (X.blk s H scope (compEnvC scope cl C X.env) fp) ifs tt)
    (hm : ∀ (s : Shared) (H : Hp) (C : Addr) (cl : List (PySem.Str × Addr)) (fp : List Addr) (D : Addr), PM (X.blk s H scope (compEnvC scope cl C X.env) fp) b elt (.ref D) (tm D))
    (hal : ∀ (s : Shared) (H : Hp) (C : Addr) (cl : List (PySem.Str × Addr)) (fp : List Addr), Al (X.blk s H scope (compEnvC scope cl C X.env) fp) (⟨tg, iter, ifs, 0⟩ :: gs) 1 rest (own.map (·.2)))
    (hs : ∀ x, foldedSetIterable iter X.env x = pure x) (h : tCn acc0 tm wi g tt (own.map (·.2)) rest σ H Q)
    (hRR : ∀ D C s' m H', L2.Inv X pins σ H' s' → Q (.ref D) H' → s'.heap.Ns C m → FpOk X pins H' C → compPost (model X.prog X.w) X.A X.xe use Qf (.ref D) C (.ok .next) s') :
    wpAny (model X.prog X.w) X.A (comprehension (cEx b elt (⟨tg, iter, ifs, 0⟩ :: gs) scope pos) scope X.env pos' nw false (eval iter X.env) use) Qf X.xe s := by
  have hfree : ∀ y ∈ scope.names, y.2 = .free → ∃ c, X.env.cells.lookup y.1 = some c := fun y hy e => by
    rcases ok.free y hy e with k | k
    · exact I.ok.has _ (.inl k)
    · exact I.ok.has _ (.inr k)
  have hcl : clausesOf (cEx b elt (⟨tg, iter, ifs, 0⟩ :: gs) scope pos) = ⟨tg, iter, ifs, 0⟩ :: gs := by cases b <;> rfl
  have hz2 : ∀ g ∈ (⟨tg, iter, ifs, 0⟩ :: gs : List Comprehension), g.is_async = 0 := fun g hg => (List.mem_cons.mp hg).elim (fun e => by rw [e]) (hz g)
  refine wpAny_comprehension_free (use := use) hcl hs (closure_ok hfree) ok.kind (fun y hy e => by rw [ok.uniq y hy, e]) (thn (hi.run pins s σ H _ I h) fun xv s1 hx => thn hx fun itv s2 h2 => ?_)
  obtain ⟨it, fp, tn, J, H2, e, I2, T, st2, f2, q⟩ := h2
  subst e
  refine hnw (newEnv_comp ?_)
  generalize hD : s2.heap.objs.size = D
  have hDn : H2 D = none := I2.hok.fresh (Nat.le_of_eq hD)
  obtain ⟨W, ⟨m0, w0⟩, turn⟩ := q D hDn
  generalize hs3 : ({ s2 with heap := s2.heap.push o0 } : Shared) = s3
  have I3 : L2.Inv X pins σ (L2.upd H2 D (acc0 D)) s3 := by
    rw [← hs3]
    refine I2.laid (t' := s2.toks) (fun b o e => Heap.get?_push_of_some _ e) (Nat.le_of_eq hD) ?_
    rw [← hD]
    exact h0 _ _
  have h3 : s3.heap = s2.heap.push o0 := by rw [← hs3]
  have f3 : ∀ c ∈ fp, FpOk X pins (L2.upd H2 D (acc0 D)) c ∧ c < s3.heap.objs.size := fun c hb => by
    obtain ⟨o, e, _⟩ := T.obj _ _ st2 c hb
    have hlt := Heap.lt_size e
    refine ⟨⟨?_, (f2 c hb).2⟩, by rw [h3, Heap.size_push]; exact Nat.lt_succ_of_lt hlt⟩
    rw [upd_ne (by rw [← hD]; exact Nat.ne_of_lt hlt)]
    exact (f2 c hb).1
  have st3 : tn 0 s3.heap := T.keep _ _ _ st2 fun c _ o e => by rw [h3]; exact Heap.get?_push_of_some _ e
  have I4 := block_start I3 ok hN f3
  have pg := hg s3 (L2.upd H2 D (acc0 D)) s3.heap.objs.size (cellsFrom (s3.heap.objs.size + 1) scope.names (cloFrom X.env.cells scope.names [])) fp
  have pt := ht s3 (L2.upd H2 D (acc0 D)) s3.heap.objs.size (cellsFrom (s3.heap.objs.size + 1) scope.names (cloFrom X.env.cells scope.names [])) fp
  have pm := hm s3 (L2.upd H2 D (acc0 D)) s3.heap.objs.size (cellsFrom (s3.heap.objs.size + 1) scope.names (cloFrom X.env.cells scope.names [])) fp D
  have pa := hal s3 (L2.upd H2 D (acc0 D)) s3.heap.objs.size (cellsFrom (s3.heap.objs.size + 1) scope.names (cloFrom X.env.cells scope.names [])) fp
  have nfp : ∀ c ∈ fp, (L2.upd H2 D (acc0 D)) c = none := fun c hb => (f3 c hb).1.1
  show codeAny _ _ (.compStart (cEx b elt (⟨tg, iter, ifs, 0⟩ :: gs) scope pos) 0 (.ref it) (.ref D) (compEnvC scope (cellsFrom (s3.heap.objs.size + 1) scope.names (cloFrom X.env.cells scope.names [])) s3.heap.objs.size X.env)) (compPost (model X.prog X.w) X.A X.xe use Qf (.ref D) s3.heap.objs.size) { s3 with heap := pushCells (s3.heap.push { cls := .type "dict", data := .dict #[] }) scope.names }
  generalize hce : compEnvC scope (cellsFrom (s3.heap.objs.size + 1) scope.names (cloFrom X.env.cells scope.names [])) s3.heap.objs.size X.env = ce at I4 pg pt pm pa ⊢
  have cL : ce.locals = s3.heap.objs.size := by subst hce; rfl
  generalize hH3 : L2.upd H2 D (acc0 D) = H3 at I3 I4 pg pt pm pa w0 nfp f3
  generalize hs4 : ({ s3 with heap := pushCells (s3.heap.push { cls := .type "dict", data := .dict #[] }) scope.names } : Shared) = s4 at I4 ⊢
  have st4 : tn 0 s4.heap := T.keep _ _ _ st3 fun c _ o e => by rw [← hs4]; exact pushCells_keeps _ _ _ _ (Heap.get?_push_of_some _ e)
  have stat : ∀ {σ' : L2.St} {H' : Hp} {s' : Shared}, L2.Inv (X.blk s3 H3 scope ce fp) [] σ' H' s' → (∀ c ∈ fp, H' c = none) → ∀ c ∈ fp, FpOk (X.blk s3 H3 scope ce fp) [] H' c := fun {σ' H' s'} I' hn c hb =>
    ⟨hn c hb, (I'.ok.exf c hb).1, I'.ok.exfs c hb, .inl hb, fun x d e => (I'.ok.exf c hb).2 x d e, fun p hp => absurd (show p ∈ ([] : List (Addr × Obj)) ++ [] from hp) (by simp)⟩
  have loop : codeAny (model X.prog X.w) X.A (.compLoop (cEx b elt (⟨tg, iter, ifs, 0⟩ :: gs) scope pos) 0 (.ref it) (.ref D) ce) (compPost (model X.prog X.w) X.A X.xe use Qf (.ref D) s3.heap.objs.size) s4 := by
    refine loop_n (g := ⟨tg, iter, ifs, 0⟩) rfl hz2 (fun n s' => ∃ i H', L2.Inv (X.blk s3 H3 scope ce fp) [] (wipe σ (own.map (·.2))) H' s' ∧ tn i s'.heap ∧ (∀ c ∈ fp, H' c = none) ∧ W i n H') ?_ m0 ⟨0, H3, I4, st4, nfp, w0⟩
    rintro n s5 ⟨i, H5, I5, st5, n5, w5⟩
    rcases turn i n H5 w5 with ⟨stop, qq⟩ | ⟨go, Nx, hNx, step⟩
    · refine thnF (T.done (X.blk s3 H3 scope ce fp) rfl rfl rfl hc i [] s5 _ H5 FF I5 (stat I5 n5) st5 stop) fun r s6 ⟨hr, I6⟩ => ?_
      subst hr
      have I7 : L2.Inv X pins σ H5 s6 := I3.call' (ch := fp) I6.os I6.base I6.hok I6.bare fun c hb => ⟨(f3 c hb).1.2.2.2.1, (f3 c hb).1.2.1, (f3 c hb).1.2.2.2.2.1, (f3 c hb).1.2.2.2.2.2⟩
      have nC : H5 s3.heap.objs.size = none := by
        have z : H5 ce.locals = none := I6.free
        rw [cL] at z
        exact z
      obtain ⟨m, hn, _⟩ := I6.loc
      have hn : s6.heap.Ns ce.locals m := hn
      rw [cL] at hn
      exact hRR D _ s6 m H5 I7 qq hn (I3.fpOk (H' := H5) (Nat.le_refl s3.heap.objs.size) nC)
    · refine thnF (T.item (X.blk s3 H3 scope ce fp) rfl rfl rfl hc i [] s5 _ H5 FF I5 (stat I5 n5) st5 go) fun r s6 ⟨u, hr, h6⟩ => ?_
      subst hr
      refine thnF h6 fun _ s7 ⟨x, H7, I7, r7, y7, st7, n7⟩ => ?_
      have I7' := I7.pinned (stat I7 n7) (T.obj _ _ st7)
      refine thnF (pg.run _ s7 _ H7 x u _ I7' r7 (step x H7 y7)) fun _ s8 ⟨σ8, H8, I8, hw8, q8⟩ => ?_
      refine thnF (pt.run _ s8 σ8 H8 _ I8 q8) fun bb s9 ⟨H9, I9, q9⟩ => ?_
      have fin : ∀ {s' : Shared} {H' : Hp}, L2.Inv (X.blk s3 H3 scope ce fp) ([] ++ pinsAt fp s7.heap) (wipe σ8 (own.map (·.2))) H' s' → Nx H' → ∃ m, m < n ∧ ∃ i H', L2.Inv (X.blk s3 H3 scope ce fp) [] (wipe σ (own.map (·.2))) H' s' ∧ tn i s'.heap ∧ (∀ c ∈ fp, H' c = none) ∧ W i m H' := fun {s' H'} I' nx => by
        obtain ⟨m', hm', w'⟩ := hNx H' nx
        have pin' : ∀ c ∈ fp, ∀ o, s7.heap.get? c = some o → s'.heap.get? c = some o ∧ H' c = none := fun c hb o e =>
          let z := I'.pin (c, o) (List.mem_append_right _ (List.mem_append_right _ (mem_pinsAt hb e)))
          ⟨z.1, z.2.1⟩
        rw [hw8] at I'
        refine ⟨m', hm', i + 1, H', I'.unpinned (pins := []), T.keep _ _ _ st7 fun c hb o e => (pin' c hb o e).1, fun c hb => ?_, w'⟩
        obtain ⟨o, e, _⟩ := T.obj _ _ st7 c hb
        exact (pin' c hb o e).2
      cases bb with
      | false =>
        simp only [Bool.false_eq_true, if_false] at q9 ⊢
        exact fin (weakW I9 _) q9
      | true =>
        simp only [if_true] at q9 ⊢
        exact thnF (in_ok (Y := X.blk s3 H3 scope ce fp) rfl hc hz2 pm rest 0 (own.map (·.2)) pa _ s9 σ8 H9 Nx I9 q9) fun _ s10 ⟨H10, I10, q10⟩ => fin I10 q10
  exact start_n (g := ⟨tg, iter, ifs, 0⟩) rfl hz2 loop (T.self X.A 0 _ _ _ st4 loop)
theorem comp_core {pins : List (Addr × Obj)} {s : Shared} {σ : L2.St} {H : Hp} {Q : VK} {b : Bool} {elt tg iter : Expr} {ifs : List Expr} {gs : List Comprehension} {scope : Scope} {own : List (PySem.Str × Nat)} {pos pos' : Pos} {wi : TI} {g : TG} {tt : TT} {rest : List GRd} {acc0 : Addr → HO} {tm : Addr → TM} {o0 : Obj} {nw : Sem Value}
    (hnw : ∀ {s : Shared} {Q : Value → Shared → Prop}, Q (.ref s.heap.objs.size) { s with heap := s.heap.push o0 } → wpAny (model X.prog X.w) X.A nw Q X.xe s) (h0 : ∀ (H : Hp) (h : Heap), ObjOk X.prog X.w H (h.push o0) h.objs.size (acc0 h.objs.size))
    (hc : X.calm = true) (hN : X.N.Nodup) (I : L2.Inv X pins σ H s) (hi : PI X tg iter wi) (ok : BlkOk X.N X.env.scope scope own) (hz : ∀ g ∈ gs, g.is_async = 0)
    (hg : ∀ (s : Shared) (H : Hp) (C : Addr) (cl : List (PySem.Str × Addr)) (fp : List Addr), PG (X.blk s H scope (compEnvC scope cl C X.env) fp) tg g) (ht : ∀ (s : Shared) (H : Hp) (C : Addr) (cl : List (PySem.Str × Addr)) (fp : List Addr), PTs (X.blk s H scope (compEnvC scope cl C X.env) fp) ifs tt)
    (hm : ∀ (s : Shared) (H : Hp) (C : Addr) (cl : List (PySem.Str × Addr)) (fp : List Addr) (D : Addr), PM (X.blk s H scope (compEnvC scope cl C X.env) fp) b elt (.ref D) (tm D))
    (hal : ∀ (s : Shared) (H : Hp) (C : Addr) (cl : List (PySem.Str × Addr)) (fp : List Addr), Al (X.blk s H scope (compEnvC scope cl C X.env) fp) (⟨tg, iter, ifs, 0⟩ :: gs) 1 rest (own.map (·.2)))
    (hs : ∀ x, foldedSetIterable iter X.env x = pure x) (h : tCn acc0 tm wi g tt (own.map (·.2)) rest σ H Q) :
    wpAny (model X.prog X.w) X.A (comprehension (cEx b elt (⟨tg, iter, ifs, 0⟩ :: gs) scope pos) scope X.env pos' nw false (eval iter X.env) none) (EP X pins σ Q) X.xe s :=
  comp_coreU (use := none) hnw h0 hc hN I hi ok hz hg ht hm hal hs h fun D C s' m H' I' q hn f => ⟨m, hn, fun h'' sb => by
    obtain ⟨f0, f1, f2, f3, f4, f5⟩ := f
    exact ⟨.ref D, H', I'.turned (t' := s'.toks) (fun c o hb e => (sb.2 c hb).trans e) f0 f1 f3 f4 f5, rfl, q⟩⟩
end
end DL

/-! Data layer, part 35: lists, sets of texts. -/
namespace DL
open PySem L2 PySem.Spec PyProof.Rows PySem.Froz
section
variable {P : Program} {w : World} {A : Around} {E : Value → Shared → Prop} {s : Shared} {a : Addr} {l : List Str}
theorem setX_call {k : Str} {u : Tok} {Q : Value → Shared → Prop} (R : SetX P w s.heap a l) (room : l.length + 1 < scanBound)
    (hQ : ∀ h', Heap.SameBut a s.heap h' → SetX P w h' a (insT l k) → Q .none { s with heap := h', toks := s.toks + 1 }) : wpAny (model P w) A (call (.builtin "set.add") [.ref a, .str k u]) Q E s := by
  have hT : s.TypeIs (.ref a) "set" := by
    obtain ⟨Z, ho, _⟩ := R
    exact ⟨_, ho, rfl⟩
  refine wpAny_call_entry PySem.F.slot_set_add hT PySem.F.entry_set_add ?_ (PySem.F.args_set_add_2 _ _)
  unfold Builtin.«set.add» Builtin.Frozenset.oneOther
  simp only [List.isEmpty_nil, bind_assoc]
  unfold Builtin.Frozenset.addrOf setAdd
  refine wpAny_bind (wpAny_pure ?_)
  try dsimp only
  refine wpAny_bind (wpAny_pure ?_)
  try dsimp only
  refine wpAny_bind (wpAny_holding (wpAny_bind ((strKind P w).pyHash (is_str k u) ?_)))
  refine setX_add (s := { s with toks := s.toks + 1 }) R room fun _ h' sb r => ?_
  show wpAny _ _ (ret Value.none) _ _ _
  exact wpAny_pure ⟨_, rfl, hQ h' sb r⟩
end
section
variable {Y : Cx} {elt : Expr} {te : TE} {D : Addr}
end
section
variable {X : Cx} {elt tg iter : Expr} {ifs : List Expr} {gs : List Comprehension} {scope : Scope} {own : List (PySem.Str × Nat)} {pos : Pos} {wi : TI} {g : TG} {tt : TT} {te : TE} {rest : List GRd}
end
end DL

/-! Data layer, part 36: comprehensions with any number of fors, by data. -/
namespace DL
open PySem L2
/-- a clause: its source, its store, its test, the slots of its and later targets, its target's slots -/
structure GDt where
  f : En → Rs (List D)
  h : D → En → Option En
  t : En → Rs Bool
  vs : List Nat
  ks : List Nat
def lcT (k : List D → En → Rs (List D)) (h : D → En → Option En) (t : En → Rs Bool) (vs : List Nat) : List D → List D → En → Rs (List D)
  | [], acc, r => .ok acc (wipeE r vs)
  | d :: ds, acc, r =>
    match h d (wipeE r vs) with
    | none => .bad
    | some r1 => (t r1).bind fun b r2 => if b = true then (k acc r2).bind fun acc' r3 => lcT k h t vs ds acc' (wipeE r3 vs) else lcT k h t vs ds acc (wipeE r2 vs)
def lcA (ok : List D → D → Bool) (fe : En → Rs D) : List GDt → List D → En → Rs (List D)
  | [], acc, r => (fe r).bind fun y r1 => if ok acc y = true then .ok (acc ++ [y]) r1 else .bad
  | c :: cs, acc, r => (c.f r).bind fun ds r1 => lcT (lcA ok fe cs) c.h c.t c.vs ds acc r1
/-- the reading of a clause -/
def rdC (K : PySem.W.Frag) (g : G) (c : GDt) : GRd := (fun s H Q => ∃ g' : G, Blk g g' ∧ tID K g' c.f s H Q, fun v s H Q => ∃ g' : G, Blk g g' ∧ tGD K g' c.ks c.h v s H Q, fun s H Q => ∃ g' : G, Blk g g' ∧ tTD K g' c.t s H Q, c.vs)
def tmG (te : TE) (Em : Hp → V → HO → HO → Prop) (A : Addr) : TM := fun σ H Q => te σ H fun y H4 => ∃ o o', H4 A = some o ∧ Em H4 y o o' ∧ Q (L2.upd H4 A o')
section
variable {g : G} {K : PySem.W.Frag} {A : Addr} {AR : Hp → List D → HO → Prop} {Em : Hp → V → HO → HO → Prop} {ok : List D → D → Bool} {fe : En → Rs D}
theorem gs_imp (hA0 : g.H0 A = none) (hAX : ∀ p ∈ g.X, p.1 ≠ A) (mono : ∀ {F F' acc o}, Same F F' → AR F acc o → AR F' acc o) (em : ∀ {F H acc o v y}, Same F H → AR F acc o → RD K F v y → ok acc y = true → ∃ o', Em H v o o' ∧ AR F (acc ++ [y]) o') :
    ∀ (cs : List GDt), (∀ c ∈ cs, (∀ p ∈ g.B, p.1 ∉ c.vs) ∧ ∀ i ∈ c.ks, i ∈ c.vs) → ∀ (σ : L2.St) (H F : Hp) (r : En) (acc : List D) (o : HO) (C : List D → En → Prop) (Q : Hp → Prop), Rel K g F H σ r → H A = some o → F A = none → (∀ (j : Nat) (u : OV), r[j]? = some (some u) → u.own = true → σ[j]? ≠ some (some (.ref A))) → AR F acc o →
      post K g.nw C (lcA ok fe cs acc r) → (∀ F' r' acc' o' H', Same F F' → Rel K g F' H' σ r' → H' A = some o' → F' A = none → (∀ (j : Nat) (u : OV), r'[j]? = some (some u) → u.own = true → σ[j]? ≠ some (some (.ref A))) → AR F' acc' o' → C acc' r' → Q H') →
      tGs (tmG (fun s H Q => ∃ g' : G, Blk g g' ∧ tD K g' fe s H Q) Em A) (cs.map (rdC K g)) σ H Q := by
  intro cs
  induction cs with
  | nil =>
    intro _ σ H F r acc o C Q R hA hF hno har q hQ
    refine ⟨(g.more A o).nw, ⟨rfl, rfl, rfl, rfl⟩, F, r, (R.more hA hF hno).nw, post_mono (post_w (post_bind q)) fun y r1 q1 F1 H1 v sm R1' hv => ?_⟩
    obtain ⟨hok, q1⟩ := post_if q1
    have R1' := R1'.unw
    have a1 := R1'.less.2.1
    have a2 := R1'.less.2.2.1
    have a3 := R1'.less.2.2.2
    obtain ⟨o', e1, e2⟩ := em R1'.sub (mono sm har) hv hok
    exact ⟨o, o', a1, e1, hQ F1 r1 (acc ++ [y]) o' _ sm (R1'.grow hA0 hAX) upd_same a2 a3 e2 q1⟩
  | cons c cs ih =>
    intro hall σ H F r acc o C Q R hA hF hno har q hQ
    obtain ⟨hb, hks⟩ := hall c List.mem_cons_self
    have hall2 : ∀ c ∈ cs, (∀ p ∈ g.B, p.1 ∉ c.vs) ∧ ∀ i ∈ c.ks, i ∈ c.vs := fun c hc => hall c (List.mem_cons_of_mem _ hc)
    have ih := ih hall2
    obtain ⟨f, h, t, vs, ks⟩ := c
    refine ⟨(g.more A o).nw, ⟨rfl, rfl, rfl, rfl⟩, F, r, (R.more hA hF hno).nw, post_mono (post_w (post_bind q)) fun ds r1 q1 F1 H1 J sm R1' wk => ?_⟩
    obtain ⟨R1, a1, a2, a3⟩ := R1'.unw.less
    have wk' : Wk K g.B F1 J ds := wk
    refine ⟨fun i m H2 => m = ds.length - i ∧ i ≤ ds.length ∧ ∃ F2 r2 acc2 o2, Same F1 F2 ∧ Rel K g F2 H2 σ r2 ∧ H2 A = some o2 ∧ F2 A = none ∧ (∀ (j : Nat) (u : OV), r2[j]? = some (some u) → u.own = true → σ[j]? ≠ some (some (.ref A))) ∧ AR F2 acc2 o2 ∧ post K g.nw C (lcT (lcA ok fe cs) h t vs (ds.drop i) acc2 r2), ⟨ds.length, rfl, Nat.zero_le _, F1, r1, acc, o, Same.refl _, R1, a1, a2, a3, mono sm har, by rw [List.drop_zero]; exact q1⟩, ?_⟩
    rintro i m H2 ⟨rfl, hi2, F2, r2, acc2, o2, sm2, R2, b1, b2, b3, b4, q2⟩
    obtain ⟨w1, w2⟩ := wk' g F2 H2 σ r2 rfl sm2 R2
    by_cases hlt : i < ds.length
    · have ed : ds[i]? = some ds[i] := List.getElem?_eq_getElem hlt
      obtain ⟨go, yl⟩ := w1 i _ ed
      rw [List.drop_eq_getElem_cons hlt] at q2
      refine .inr ⟨go, fun H3 => ∃ F2 r2 acc2 o2, Same F1 F2 ∧ Rel K g F2 H3 σ r2 ∧ H3 A = some o2 ∧ F2 A = none ∧ (∀ (j : Nat) (u : OV), r2[j]? = some (some u) → u.own = true → σ[j]? ≠ some (some (.ref A))) ∧ AR F2 acc2 o2 ∧ post K g.nw C (lcT (lcA ok fe cs) h t vs (ds.drop (i + 1)) acc2 r2), fun H3 hh => ⟨ds.length - (i + 1), by omega, rfl, hlt, hh⟩, fun x H3 hy => ?_⟩
      have R2m : Rel K (g.more A o2) F2 H2 σ r2 := R2.more b1 b2 b3
      obtain ⟨w1m, _⟩ := wk' (g.more A o2) F2 H2 σ r2 rfl sm2 R2m
      obtain ⟨F3, sm3, R3, hx⟩ := (w1m i _ ed).2 x H3 hy
      have R3w : Rel K (g.more A o2) F3 H3 (wipe σ vs) (wipeE r2 vs) := R3.forget hb (wipe_length _ _) fun i hi => wipe_keep hi
      have q3 : post K g.nw C (match h ds[i] (wipeE r2 vs) with
        | none => .bad
        | some r1 => (t r1).bind fun b r2 => if b = true then (lcA ok fe cs acc2 r2).bind fun acc' r3 => lcT (lcA ok fe cs) h t vs (ds.drop (i + 1)) acc' (wipeE r3 vs) else lcT (lcA ok fe cs) h t vs (ds.drop (i + 1)) acc2 (wipeE r2 vs)) := q2
      cases eh : h ds[i] (wipeE r2 vs) with
      | none => rw [eh] at q3; exact q3.elim
      | some r3 =>
        rw [eh] at q3
        refine ⟨(g.more A o2).nw, ⟨rfl, rfl, rfl, rfl⟩, F3, _, ds[i], r3, R3w.nw, hx, eh, fun s4 ag R4 => ⟨agr_wipe ag hks, (g.more A o2).nw, ⟨rfl, rfl, rfl, rfl⟩, F3, r3, R4, post_mono (post_w (post_bind q3)) fun b r4 q4 F4 H4 sm4 R4' => ?_⟩⟩
        have wkeep : ∀ i, i ∉ vs → σ[i]? = s4[i]? := fun i hi => by rw [ag.2 i fun z => hi (hks i z), wipe_keep hi]
        have hl4 : σ.length = s4.length := by rw [ag.1, wipe_length]
        have sm14 : Same F1 F4 := (sm2.trans sm3).trans sm4
        obtain ⟨R5, c1, c2, c3⟩ := R4'.unw.less
        have har4 : AR F4 acc2 o2 := mono (sm3.trans sm4) b4
        cases b with
        | false =>
          refine ⟨F4, wipeE r4 vs, acc2, o2, sm14, R5.forget hb hl4 wkeep, c1, c2, fun j u e eo => ?_, har4, q4⟩
          obtain ⟨e1, e2⟩ := wipeE_some e
          rw [wkeep j e2]
          exact c3 j u e1 eo
        | true =>
          refine ih s4 H4 F4 r4 acc2 o2 (fun acc' r5 => post K g.nw C (lcT (lcA ok fe cs) h t vs (ds.drop (i + 1)) acc' (wipeE r5 vs))) _ R5 c1 c2 c3 har4 (post_bind q4) fun F' r' acc' o' H' s' R' d1 d2 d3 d4 qc => ?_
          refine ⟨F', wipeE r' vs, acc', o', sm14.trans s', R'.forget hb hl4 wkeep, d1, d2, fun j u e eo => ?_, d4, qc⟩
          obtain ⟨e1, e2⟩ := wipeE_some e
          rw [wkeep j e2]
          exact d3 j u e1 eo
    · have e : i = ds.length := by omega
      subst e
      rw [List.drop_length] at q2
      refine .inl ⟨w2 _ (Nat.le_refl _), hQ F2 (wipeE r2 vs) acc2 o2 H2 (sm.trans sm2) (R2.forget hb rfl fun _ _ => rfl) b1 b2 (fun j u e eo => ?_) b4 q2⟩
      obtain ⟨e1, e2⟩ := wipeE_some e
      exact b3 j u e1 eo
end
end DL

/-! Data layer, part 37: [.. for .. for ..], sorted({.. for .. for ..}). -/
namespace DL
open PySem L2 PySem.Froz
section
variable {X : Cx} {g : G}
/-- the later clauses have these functions -/
def AlD (X : Cx) (g : G) (scope : Scope) : List Comprehension → List GDt → List Nat → Prop
  | [], [], _ => True
  | cl :: cls, c :: cs, vp => (∀ (s : Shared) (H : Hp) (C : Addr) (cx : List (Str × Addr)) (fp : List Addr) (g' : G), Blk g g' → DI (X.blk s H scope (compEnvC scope cx C X.env) fp) g' cl.target cl.iter c.f) ∧
      (∀ (s : Shared) (H : Hp) (C : Addr) (cx : List (Str × Addr)) (fp : List Addr) (g' : G), Blk g g' → DG (X.blk s H scope (compEnvC scope cx C X.env) fp) g' cl.target c.ks c.h) ∧
      (∀ (s : Shared) (H : Hp) (C : Addr) (cx : List (Str × Addr)) (fp : List Addr) (g' : G), Blk g g' → PTs (X.blk s H scope (compEnvC scope cx C X.env) fp) cl.ifs (tTD X.K g' c.t)) ∧
      (∀ env x, foldedSetIterable cl.iter env x = pure x) ∧ (∀ i ∈ c.vs, i ∈ vp) ∧ (∀ p ∈ g.B, p.1 ∉ c.vs) ∧ (∀ i ∈ c.ks, i ∈ c.vs) ∧ cl.is_async = 0 ∧ AlD X g scope cls cs c.vs
  | _, _, _ => False
theorem AlD.al {scope : Scope} : ∀ (gs : List Comprehension) (cs : List GDt) (vp : List Nat), AlD X g scope gs cs vp → ∀ (pre : List Comprehension) (s : Shared) (H : Hp) (C : Addr) (cx : List (Str × Addr)) (fp : List Addr),
    Al (X.blk s H scope (compEnvC scope cx C X.env) fp) (pre ++ gs) pre.length (cs.map (rdC X.K g)) vp
  | [], [], vp, _, pre, s, H, C, cx, fp => by
    show (pre ++ [])[pre.length]? = none
    simp
  | cl :: cls, c :: cs, vp, h, pre, s, H, C, cx, fp => by
    obtain ⟨h1, h2, h3, h4, h5, h6, h7, h8, h9⟩ := h
    have rec1 := AlD.al cls cs c.vs h9 (pre ++ [cl]) s H C cx fp
    rw [List.append_assoc, List.length_append] at rec1
    refine ⟨cl, by simp, ⟨fun pins s2 σ H2 Q I ⟨g', eg, q⟩ => (h1 s H C cx fp g' eg).run pins s2 σ H2 Q I q⟩, ⟨fun pins s2 σ H2 v u Q I rv ⟨g', eg, q⟩ => (h2 s H C cx fp g' eg).run pins s2 σ H2 v u Q I rv q⟩, ⟨fun pins s2 σ H2 Q I ⟨g', eg, q⟩ => (h3 s H C cx fp g' eg).run pins s2 σ H2 Q I q⟩, h4 _, h5, rec1⟩
  | [], _ :: _, _, h, _, _, _, _, _, _ => h.elim
  | _ :: _, [], _, h, _, _, _, _, _, _ => h.elim
theorem AlD.z {scope : Scope} : ∀ (gs : List Comprehension) (cs : List GDt) (vp : List Nat), AlD X g scope gs cs vp → ∀ c ∈ gs, c.is_async = 0
  | [], _, _, _, c, hc => by cases hc
  | cl :: cls, c :: cs, vp, h, d, hd => by
    obtain ⟨_, _, _, _, _, _, _, h8, h9⟩ := h
    rcases List.mem_cons.mp hd with rfl | hd
    · exact h8
    · exact AlD.z cls cs c.vs h9 d hd
  | _ :: _, [], _, h, _, _ => h.elim
theorem AlD.bk {scope : Scope} : ∀ (gs : List Comprehension) (cs : List GDt) (vp : List Nat), AlD X g scope gs cs vp → ∀ c ∈ cs, (∀ p ∈ g.B, p.1 ∉ c.vs) ∧ ∀ i ∈ c.ks, i ∈ c.vs
  | _, [], _, _, c, hc => by cases hc
  | cl :: cls, c :: cs, vp, h, d, hd => by
    obtain ⟨_, _, _, _, _, h6, h7, _, h9⟩ := h
    rcases List.mem_cons.mp hd with rfl | hd
    · exact ⟨h6, h7⟩
    · exact AlD.bk cls cs c.vs h9 d hd
  | [], _ :: _, _, h, _, _ => h.elim
end
section
variable {g : G} {K : PySem.W.Frag} {AR : Addr → Hp → List D → HO → Prop} {Em : Addr → Hp → V → HO → HO → Prop} {ok : List D → D → Bool} {fe : En → Rs D} {acc0 : Addr → HO}
/-- the first clause: the new object is laid behind its source -/
theorem top_imp (mono : ∀ {A F F' acc o}, Same F F' → AR A F acc o → AR A F' acc o) (em : ∀ {A F H acc o v y}, Same F H → AR A F acc o → RD K F v y → ok acc y = true → ∃ o', Em A H v o o' ∧ AR A F (acc ++ [y]) o') (h0 : ∀ A F, AR A F [] (acc0 A))
    (c : GDt) (cs : List GDt) (hb : ∀ p ∈ g.B, p.1 ∉ c.vs) (hks : ∀ i ∈ c.ks, i ∈ c.vs) (hall : ∀ c ∈ cs, (∀ p ∈ g.B, p.1 ∉ c.vs) ∧ ∀ i ∈ c.ks, i ∈ c.vs) (σ : L2.St) (H F : Hp) (r : En) (C : List D → En → Prop) (Q : VK) (R : Rel K g F H σ r) (q : post K g.nw C (lcA ok fe (c :: cs) [] r))
    (hQ : ∀ A F' r' acc' o' H', Same F F' → Rel K g F' H' σ r' → H' A = some o' → F' A = none → g.H0 A = none → (∀ p ∈ g.X, p.1 ≠ A) → (∀ (j : Nat) (u : OV), r'[j]? = some (some u) → u.own = true → σ[j]? ≠ some (some (.ref A))) → AR A F' acc' o' → C acc' r' → Q (.ref A) H') :
    tCn acc0 (fun A => tmG (fun s H Q => ∃ g' : G, Blk g g' ∧ tD K g' fe s H Q) (Em A) A) (tID K g c.f) (fun v s H Q => ∃ g' : G, Blk g g' ∧ tGD K g' c.ks c.h v s H Q) (fun s H Q => ∃ g' : G, Blk g g' ∧ tTD K g' c.t s H Q) c.vs (cs.map (rdC K g)) σ H Q := by
  obtain ⟨f, h, t, vs, ks⟩ := c
  refine ⟨F, r, R, post_mono (post_w (post_bind q)) fun ds r1 q1 F1 H1 J sm R1 wk => ?_⟩
  intro A nA
  have hA0 : g.H0 A = none := R1.live nA
  have hAX : ∀ p ∈ g.X, p.1 ≠ A := fun p hp z => by have := (R1.ext p hp).1; rw [z, nA] at this; cases this
  refine ⟨fun i m H2 => m = ds.length - i ∧ i ≤ ds.length ∧ ∃ F2 r2 acc2 o2, Same F1 F2 ∧ Rel K g F2 H2 σ r2 ∧ H2 A = some o2 ∧ F2 A = none ∧ (∀ (j : Nat) (u : OV), r2[j]? = some (some u) → u.own = true → σ[j]? ≠ some (some (.ref A))) ∧ AR A F2 acc2 o2 ∧ post K g.nw C (lcT (lcA ok fe cs) h t vs (ds.drop i) acc2 r2),
    ⟨ds.length, rfl, Nat.zero_le _, F1, r1, [], acc0 A, Same.refl _, R1.laid nA, upd_same, R1.ff nA, fun j u e eo => not_own R1 nA j u e eo, h0 A F1, by rw [List.drop_zero]; exact q1⟩, ?_⟩
  rintro i m H2 ⟨rfl, hi2, F2, r2, acc2, o2, sm2, R2, b1, b2, b3, b4, q2⟩
  obtain ⟨w1, w2⟩ := wk g F2 H2 σ r2 rfl sm2 R2
  by_cases hlt : i < ds.length
  · have ed : ds[i]? = some ds[i] := List.getElem?_eq_getElem hlt
    obtain ⟨go, yl⟩ := w1 i _ ed
    rw [List.drop_eq_getElem_cons hlt] at q2
    refine .inr ⟨go, fun H3 => ∃ F2 r2 acc2 o2, Same F1 F2 ∧ Rel K g F2 H3 σ r2 ∧ H3 A = some o2 ∧ F2 A = none ∧ (∀ (j : Nat) (u : OV), r2[j]? = some (some u) → u.own = true → σ[j]? ≠ some (some (.ref A))) ∧ AR A F2 acc2 o2 ∧ post K g.nw C (lcT (lcA ok fe cs) h t vs (ds.drop (i + 1)) acc2 r2), fun H3 hh => ⟨ds.length - (i + 1), by omega, rfl, hlt, hh⟩, fun x H3 hy => ?_⟩
    have R2m : Rel K (g.more A o2) F2 H2 σ r2 := R2.more b1 b2 b3
    obtain ⟨w1m, _⟩ := wk (g.more A o2) F2 H2 σ r2 rfl sm2 R2m
    obtain ⟨F3, sm3, R3, hx⟩ := (w1m i _ ed).2 x H3 hy
    have R3w : Rel K (g.more A o2) F3 H3 (wipe σ vs) (wipeE r2 vs) := R3.forget hb (wipe_length _ _) fun i hi => wipe_keep hi
    have q3 : post K g.nw C (match h ds[i] (wipeE r2 vs) with
      | none => .bad
      | some r1 => (t r1).bind fun b r2 => if b = true then (lcA ok fe cs acc2 r2).bind fun acc' r3 => lcT (lcA ok fe cs) h t vs (ds.drop (i + 1)) acc' (wipeE r3 vs) else lcT (lcA ok fe cs) h t vs (ds.drop (i + 1)) acc2 (wipeE r2 vs)) := q2
    cases eh : h ds[i] (wipeE r2 vs) with
    | none => rw [eh] at q3; exact q3.elim
    | some r3 =>
      rw [eh] at q3
      refine ⟨(g.more A o2).nw, ⟨rfl, rfl, rfl, rfl⟩, F3, _, ds[i], r3, R3w.nw, hx, eh, fun s4 ag R4 => ⟨agr_wipe ag hks, (g.more A o2).nw, ⟨rfl, rfl, rfl, rfl⟩, F3, r3, R4, post_mono (post_w (post_bind q3)) fun b r4 q4 F4 H4 sm4 R4' => ?_⟩⟩
      have wkeep : ∀ i, i ∉ vs → σ[i]? = s4[i]? := fun i hi => by rw [ag.2 i fun z => hi (hks i z), wipe_keep hi]
      have hl4 : σ.length = s4.length := by rw [ag.1, wipe_length]
      have sm14 : Same F1 F4 := (sm2.trans sm3).trans sm4
      obtain ⟨R5, c1, c2, c3⟩ := R4'.unw.less
      have har4 : AR A F4 acc2 o2 := mono (sm3.trans sm4) b4
      cases b with
      | false =>
        refine ⟨F4, wipeE r4 vs, acc2, o2, sm14, R5.forget hb hl4 wkeep, c1, c2, fun j u e eo => ?_, har4, q4⟩
        obtain ⟨e1, e2⟩ := wipeE_some e
        rw [wkeep j e2]
        exact c3 j u e1 eo
      | true =>
        refine gs_imp (A := A) (AR := AR A) (Em := Em A) hA0 hAX mono em cs hall s4 H4 F4 r4 acc2 o2 (fun acc' r5 => post K g.nw C (lcT (lcA ok fe cs) h t vs (ds.drop (i + 1)) acc' (wipeE r5 vs))) _ R5 c1 c2 c3 har4 (post_bind q4) fun F' r' acc' o' H' s' R' d1 d2 d3 d4 qc => ?_
        refine ⟨F', wipeE r' vs, acc', o', sm14.trans s', R'.forget hb hl4 wkeep, d1, d2, fun j u e eo => ?_, d4, qc⟩
        obtain ⟨e1, e2⟩ := wipeE_some e
        rw [wkeep j e2]
        exact d3 j u e1 eo
  · have e : i = ds.length := by omega
    subst e
    rw [List.drop_length] at q2
    refine .inl ⟨w2 _ (Nat.le_refl _), hQ A F2 (wipeE r2 vs) acc2 o2 H2 (sm.trans sm2) (R2.forget hb rfl fun _ _ => rfl) b1 b2 hA0 hAX (fun j u e eo => ?_) b4 q2⟩
    obtain ⟨e1, e2⟩ := wipeE_some e
    exact b3 j u e1 eo
end
end DL

/-! Data layer, part 38: the rules. -/
namespace DL
open PySem L2 PySem.Froz
def EmS (P : Program) (w : World) : Addr → Hp → V → HO → HO → Prop := fun A _ v o o' => ∃ t l, v = .str t ∧ o = SetXO P w A l ∧ l.length ≤ 4000 ∧ o' = SetXO P w A (insT l t)
section
variable {Y : Cx} {elt : Expr} {te : TE} {D : Addr}
theorem pmG_set (hxe : Y.xe = FF) (he : PE Y elt te) : PM Y true elt (.ref D) (tmG te (EmS Y.prog Y.w D) D) := by
  intro pins s σ H Q I h
  have run := he.run pins s σ H _ I h
  rw [hxe] at run
  show wpAny _ _ (eval elt Y.env >>= fun x => standAt elt.pos >>= fun _ => call (.builtin "set.add") [.ref D, x] >>= fun _ => pure ()) _ _ s
  refine wpAny_bind (thnF run fun z s1 ⟨y, H1, I1, r1, o, o', hD, ⟨t, l, ey, e1, hz, e2⟩, q⟩ => ?_)
  subst ey e1 e2
  obtain ⟨u, rfl⟩ := r1
  refine wpAny_bind (wpAny_standAt (wpAny_bind ?_))
  have R : SetX Y.prog Y.w s1.heap D l := (I1.hok D _ hD).1
  refine setX_call R (by unfold scanBound; omega) fun h' sb new => ?_
  exact wpAny_pure ⟨_, I1.write (e := D) (t' := s1.toks + 1) (by rw [hD]; trivial) (.inl rfl) (fun b u hb hu => (sb.2 b hb).trans hu) new.ob (setXO_new new), q⟩
end
/-- what a list holds; what a set does -/
def okL : List D → D → Bool := fun acc _ => decide (acc.length < 1000000)
def isT : D → Bool
  | .str _ => true
  | _ => false
def okS : List D → D → Bool := fun acc y => isT y && decide (acc.length < 4000)
def ARS (P : Program) (w : World) : Addr → Hp → List D → HO → Prop := fun A _ acc o => ∃ ts, acc = ts.map D.str ∧ o = SetXO P w A (addT [] ts) ∧ ts.length ≤ 4000
section
variable {X : Cx} {g : G} {elt tg iter : Expr} {ifs : List Expr} {gs : List Comprehension} {scope : Scope} {own : List (PySem.Str × Nat)} {pos : Pos} {c : GDt} {cs : List GDt} {fe : En → Rs D}
theorem strsOf_strs (ts : List Str) : strsOf (ts.map D.str) = some ts := by
  induction ts with
  | nil => rfl
  | cons t ts ih =>
    show (strsOf (ts.map D.str)).map _ = _
    rw [ih]
    rfl
end
end DL

/-! Data layer, part 39: [*xs, e, ..]. -/
namespace DL
open PySem L2
def stL (f : En → Rs D) (fs : List (En → Rs D)) : En → Rs OV := fun r => (f r).bind fun d r1 =>
  match d with
  | .lst xs => (evs fs r1).bind fun ds r2 => if (xs ++ ds).length ≤ 1000 then .ok (.ow (xs ++ ds)) r2 else .bad
  | _ => .bad
section
variable {X : Cx} {g : G} {e : Expr} {es : List Expr} {f : En → Rs D} {fs : List (En → Rs D)} {p pos : Pos}
end
end DL

/-! Data layer, part 40: a, b = x, y where both names own what they get. -/
namespace DL
open PySem L2
section
variable {X : Cx} {g : G} {a b : Expr} {pos pt pt2 px py : Pos} {x y : Str} {kt k2 i j : Nat}
def par2o (i j : Nat) (f h : En → Rs OV) : En → SRs := fun r => thenS (f r) fun o r1 => thenS (h r1).noE fun o2 r2 => .nx ((r2.set i (some o)).set j (some o2))
end
end DL

/-! Data layer, part 41: defs that may raise, their calls. -/
namespace DL
open PySem L2
/-- what a def that may raise gives -/
inductive FR where
  | ok (o : OV)
  | ex (x : Exn)
  | bad
/-- what is wished of errors is taken -/
def TkG (X : Cx) (g : G) : Prop := ∀ W, g.W = some W → Takes X W
theorem TkG.none {X : Cx} {g : G} (h : g.W = none) : TkG X g := fun W e => by rw [h] at e; cases e
/-- the wish at the slots σ -/
def WG (g : G) (σ : St) : XK := fun cls d H => match g.W with
  | none => False
  | some W => W cls d σ H
/-- what is wanted of a def's result -/
def QX (K : PySem.W.Frag) (F H : Hp) (Q : VK) (E : XK) : FR → Prop
  | .ok o => ∀ F' H' v, Same F F' → Same F' H' → Fresh F F' H → Same H H' → RVf K F' H' H v o → Q v H'
  | .ex x => ∀ F' H' cls d, Same F F' → Same F' H' → Fresh F F' H → Same H H' → RX K F' cls d x → E cls d H'
  | .bad => False
def spX (K : PySem.W.Frag) (n : Nat) (f : List D → FR) : Sp := fun vs H Q E => ∃ F ds, Same F H ∧ RDs K F vs ds ∧ ds.length = n ∧ QX K F H Q E (f ds)
section
variable {P : Program} {w : World} {K : PySem.W.Frag} {mg : Str → Option Value} {base : Heap}
end
structure HasX (P : Program) (w : World) (K : PySem.W.Frag) (mg : Str → Option Value) (base : Heap) (k : Nat) (x : Str) (n : Nat) (f : List D → FR) : Prop where
  ex : ∃ fa fd ps, FnG P w K mg base (L2.CX P w) k fa fd ps (spX K n f) ∧ mg x = some (.ref fa) ∧ PySem.W.keepIn K (.ref fa) = true ∧ Binds K fd ps []
/-- a result handed on -/
def frR (z : FR) (r : En) : Rs OV := match z with
  | .ok o => .ok o r
  | .ex x => .ex x r
  | .bad => .bad
def callX (n : Nat) (f : List D → FR) (fs : List (En → Rs D)) : En → Rs OV := fun r => (evs fs r).bind fun ds r1 => if ds.length = n then frR (f ds) r1 else .bad
/-- behind a call that changed nothing that was there -/
theorem Rel.after {K : PySem.W.Frag} {g : G} {F1 H1 F' H' : Hp} {s : St} {r1 : En} (R1 : Rel K g F1 H1 s r1) (s1 : Same F1 F') (s2 : Same F' H') (fr : Fresh F1 F' H1) (s3 : Same H1 H') : Rel K g F' H' s r1 := by
  have fn : ∀ {a : Addr} {u : HO}, F1 a = none → H1 a = some u → F' a = none := fun {a u} z1 z2 => by
    cases z : F' a with
    | none => rfl
    | some o' => rw [fr a o' z z1] at z2; cases z2
  refine ⟨s2, R1.f0.trans s1, fun b u e e0 => ?_, fun b u e hb => s3 _ _ (R1.keep b u e hb), fun i u e => ?_, R1.own, R1.dist, R1.pin, R1.len, fun q hq => ?_⟩
  · cases z : F1 b with
    | some u' => exact R1.fnew b u' z e0
    | none => exact R1.live (fr b u e z)
  · obtain ⟨w, a1, a2⟩ := R1.slot i u e
    exact ⟨w, a1, RO.mono s1 (fun a vs ew e2 e3 => ⟨fn e2 e3, s3 _ _ e3⟩) a2⟩
  · obtain ⟨x1, x2, x3⟩ := R1.ext q hq
    exact ⟨s3 _ _ x1, fn x2 x1, x3⟩
theorem RVf.rv {K : PySem.W.Frag} {g : G} {F1 H1 F' H' : Hp} {s : St} {r1 : En} {v : V} {o : OV} (R1 : Rel K g F1 H1 s r1) (hv : RVf K F' H' H1 v o) : RV K g F' H' s r1 v o := by
  cases o with
  | sh d => exact hv
  | ow xs =>
    obtain ⟨a, us, e1, e2, e3, e4, e5⟩ := hv
    exact ⟨a, us, e1, e2, e3, e4, R1.live e5, fun j o e eo => not_own R1 e5 j o e eo, fun q hq z => by have := (R1.ext q hq).1; rw [z, e5] at this; cases this⟩
  | od xs => exact hv.elim
  | oi c xs => exact hv.elim
  | th xs => exact hv.elim
  | exc c => exact hv.elim
/-- the promise of a callee, by what is wanted of the call -/
theorem QX.of {K : PySem.W.Frag} {g : G} {F F1 H1 : Hp} {s : St} {r1 : En} {Q : VK} {z : FR} (R1 : Rel K g F1 H1 s r1) (sm : Same F F1) (q : post K g (PO K g F s Q) (frR z r1)) : QX K F1 H1 Q (WG g s) z := by
  cases z with
  | ok o => exact fun F' H' v s1 s2 fr s3 hv => q F' H' v (sm.trans s1) (R1.after s1 s2 fr s3) (hv.rv R1)
  | ex x =>
    intro F' H' cls d s1 s2 fr s3 hx
    have q : exW K g x r1 := q
    unfold exW at q
    unfold WG
    revert q
    cases g.W with
    | none => exact fun q => q
    | some W => exact fun q => q F' H' s cls d (R1.after s1 s2 fr s3) hx
  | bad => exact q
section
variable {X : Cx} {CX : CXT} {k : Nat} {f : Addr} {fd : FuncData} {ps : List Str} {sp : Sp} {E : St → XK} {x : Str} {p pos : Pos} {e : Expr} {es : List Expr} {t : TA}
end
section
variable {X : Cx} {g : G} {k n : Nat} {x : Str} {p pos : Pos} {e : Expr} {es : List Expr}
end
end DL

/-! Data layer, part 42: raise C(e), C an error class whose __init__ stores its one argument. -/
namespace DL
open PySem L2
/-- __init__(self, p): self.f = p -/
def spEI (K : PySem.W.Frag) (f : Str) : Sp := fun vs H Q _ => ∃ (a C : Addr) (y : V), vs = [.ref a, y] ∧ OexC K C ∧ PySem.W.findIn K (.ref C) f = some none ∧ H a = some (exo a C none) ∧ ∀ dx, H dx = none → dx ≠ a → Q .non (L2.upd (L2.upd H dx (exd dx [(f, y)])) a (exo a C (some dx)))
section
variable {P : Program} {w : World} {K : PySem.W.Frag} {mg : Str → Option Value} {base : Heap}
end
/-- the error class c with its one attribute f -/
structure HasE (P : Program) (w : World) (K : PySem.W.Frag) (mg : Str → Option Value) (base : Heap) (c f : Str) : Prop where
  ex : ∃ C fI fd ps, mg c = some (.ref C) ∧ ClsAt K c C ∧ OexC K C ∧ PySem.W.findIn K (.ref C) f = some none ∧ PySem.W.findIn K (.ref C) "__init__" = some (some (.ref fI)) ∧ PySem.W.typeIn K (.ref fI) = some (.type "function") ∧ FnOk P w K mg base CX0 1 fI fd ps (spEI K f) ∧ Binds K fd ps []
def raiseS (c f : Str) (fe : En → Rs D) : En → SRs := fun r => thenS (fe r) fun d r1 => .ex ⟨c, [(f, d)]⟩ r1
section
variable {X : Cx} {g : G} {e : Expr} {p pos pos2 : Pos} {c f : Str}
end
end DL

/-! Data layer, part 43: try .. except C as n; isinstance(n, C), n.f in its suite. -/
namespace DL
open PySem L2
/-- no slot holds an error -/
def noX (r : En) : Bool := r.all fun o => match o with
  | some (.exc _) => false
  | _ => true
def tryS (ct : Str → Option Bool) (i : Nat) (fb fs : En → SRs) : En → SRs := fun r => match fb r with
  | .ex x r1 => match ct x.c with
    | some true => match fs (r1.set i (some (.exc x))) with
      | .nx r2 => if noX (r2.set i none) = true then .nx (r2.set i none) else .bad
      | .rt o r2 => if noX (r2.set i none) = true then .rt o (r2.set i none) else .bad
      | .bk r2 => if noX (r2.set i none) = true then .bk (r2.set i none) else .bad
      | .ct r2 => if noX (r2.set i none) = true then .ct (r2.set i none) else .bad
      | .ex _ _ => .bad
      | .bad => .bad
    | some false => .ex x r1
    | none => .bad
  | y => y
structure Tri (g g' : G) : Prop where
  B : g'.B = g.B
  w : g'.w = g.w
  xc : g'.xc = g.xc
structure Sui (g g' : G) (a : Addr) (cls : Value) (d : Option Addr) : Prop where
  B : g'.B = g.B
  w : g'.w = g.w
  W : g'.W = none
  xc : g'.xc = some (a, cls, d)
/-- with the error that is handled -/
def G.hnd (g : G) (a : Addr) (cls : Value) (d : Option Addr) : G := { g with W := none, xc := some (a, cls, d) }
section
variable {K : PySem.W.Frag} {g : G} {F H : Hp} {s : St} {r : En} {i : Nat} {a : Addr} {cls : Value} {d : Option Addr} {x : Exn}
theorem Rel.setX (R : Rel K g F H s r) (hxc : g.xc = none) (hb : ∀ p ∈ g.B, p.1 ≠ i) (hx : RX K F cls d x) : Rel K (g.hnd a cls d) F H (s.set i (some (.ref a))) (r.set i (some (.exc x))) := by
  have hl := R.len
  have cs : ∀ (j : Nat) (u : OV), (r.set i (some (.exc x)))[j]? = some (some u) → (j = i ∧ u = .exc x ∧ (s.set i (some (.ref a)))[j]? = some (some (.ref a))) ∨ (j ≠ i ∧ r[j]? = some (some u) ∧ (s.set i (some (V.ref a)))[j]? = s[j]?) := fun j u z => by
    by_cases hj : i = j
    · subst hj
      have hi : i < r.length := by
        have := (List.getElem?_eq_some_iff.mp z).1
        rw [List.length_set] at this
        exact this
      rw [List.getElem?_set_self hi] at z
      cases z
      exact .inl ⟨rfl, rfl, List.getElem?_set_self (by rw [← hl]; exact hi)⟩
    · rw [List.getElem?_set_ne hj] at z
      exact .inr ⟨fun z => hj z.symm, z, List.getElem?_set_ne hj⟩
  have ow : ∀ (j : Nat) (u : OV), (r.set i (some (.exc x)))[j]? = some (some u) → u.own = true → r[j]? = some (some u) ∧ (s.set i (some (V.ref a)))[j]? = s[j]? := fun j u z zo => by
    rcases cs j u z with ⟨rfl, rfl, _⟩ | ⟨_, h1, h2⟩
    · cases zo
    · exact ⟨h1, h2⟩
  refine ⟨R.sub, R.f0, R.fnew, R.keep, fun j u z => ?_, fun j u b z zo za => ?_, fun j k u w b hjk z zo y yo za ya => ?_, fun p hp => ?_, by rw [List.length_set, List.length_set]; exact hl, fun p hp => ?_⟩
  · rcases cs j u z with ⟨rfl, rfl, e⟩ | ⟨hj, z', e⟩
    · exact ⟨_, e, a, cls, d, rfl, rfl, hx⟩
    · obtain ⟨v, h1, h2⟩ := R.slot j u z'
      refine ⟨v, by rw [e]; exact h1, ?_⟩
      cases u with
      | sh d => exact h2
      | ow xs => exact h2
      | od xs => exact h2
      | oi c xs => exact h2
      | th xs => exact h2
      | exc y =>
        obtain ⟨_, _, _, _, z, _⟩ := h2
        rw [hxc] at z
        cases z
  · obtain ⟨h1, h2⟩ := ow j u z zo
    rw [h2] at za
    exact R.own j u b h1 zo za
  · obtain ⟨h1, h2⟩ := ow j u z zo
    obtain ⟨h3, h4⟩ := ow k w y yo
    rw [h2] at za
    rw [h4] at ya
    exact R.dist j k u w b hjk h1 zo h3 yo za ya
  · obtain ⟨p1, u, p2, p3⟩ := R.pin p hp
    have h := hb p hp
    exact ⟨by rw [List.getElem?_set_ne fun z => h z.symm]; exact p1, u, by rw [List.getElem?_set_ne fun z => h z.symm]; exact p2, p3⟩
  · obtain ⟨x1, x2, x3⟩ := R.ext p hp
    refine ⟨x1, x2, fun j u z zo => ?_⟩
    obtain ⟨h1, h2⟩ := ow j u z zo
    rw [h2]
    exact x3 j u h1 zo
end
section
variable {X : Cx} {g : G} {xn n : Str} {cv : Value} {i : Nat} {body suite : List Stmt} {b₀ : Stmt} {np pos pos' : Pos} {fb fs : En → SRs} {ct : Str → Option Bool}
/-! ### in the suite -/
def isxD (i : Nat) (t : Str → Option Bool) : En → Rs D := fun r => match r[i]? with
  | some (some (.exc x)) => ofO ((t x.c).map D.bl) r
  | _ => .bad
theorem RDf.look {K : PySem.W.Frag} {F : Hp} {f : Str} {d : D} : ∀ {vs : List (Str × V)} {ds : List (Str × D)}, RDf K F vs ds → ds.lookup f = some d → ∃ v, vs.lookup f = some v ∧ RD K F v d
  | _, [], h, e => by cases e
  | _, (k, d') :: ds, h, e => by
    cases h with
    | cons h1 h2 =>
      rw [List.lookup_cons] at e
      rw [List.lookup_cons]
      cases hk : f == k with
      | true =>
        simp only [hk] at e
        cases e
        exact ⟨_, rfl, h1⟩
      | false =>
        simp only [hk] at e
        exact RDf.look h2 e
variable {a : Addr} {oe : Obj} {cls : Value} {d : Option Addr} {pn : List (Addr × Obj)} {g' : G} {p : Pos}
def xfD' (i : Nat) (f : Str) (cs : List Str) : En → Rs D := fun r => match r[i]? with
  | some (some (.exc x)) => if x.c ∈ cs then ofO (x.fs.lookup f) r else .bad
  | _ => .bad
end
end DL

/-! Data layer, part 44: instances: __init__, C(e, ..), self.f = e, o.f. -/
namespace DL
open PySem L2
theorem ClsAt.inj {K : PySem.W.Frag} {c : Str} {C C' : Addr} (h : ClsAt K c C) (h' : ClsAt K c C') : C = C' := by
  unfold ClsAt at h h'
  rw [h] at h'
  cases h'
  rfl
/-- the attribute f of instances of c is read and stored plainly -/
def FldOk (K : PySem.W.Frag) (c f : Str) : Prop := ∀ C, ClsAt K c C → Cls K C ∧ NoAttr K C f
theorem FldOk.of {K : PySem.W.Frag} {c f : Str} {C : Addr} (h : ClsAt K c C) (h1 : Cls K C) (h2 : NoAttr K C f) : FldOk K c f := fun C' h' => by
  cases h.inj h'
  exact ⟨h1, h2⟩
/-! ### __init__ -/
inductive FI where
  | ok (fs : List (Str × D))
  | ex (x : Exn)
  | bad
def QI (K : PySem.W.Frag) (c : Str) (F H : Hp) (a : Addr) (Q : VK) (E : XK) : FI → Prop
  | .ok fs => ∀ F' H' C dx vs, Same F F' → Same F' H' → Fresh F F' H → (∀ b o, H b = some o → b ≠ a → H' b = some o) → F' a = none → H' a = some (.ins C dx vs) → ClsAt K c C → RDf K F' vs fs → Q .non H'
  | .ex x => ∀ F' H' cls d, Same F F' → Same F' H' → Fresh F F' H → (∀ b o, H b = some o → b ≠ a → H' b = some o) → RX K F' cls d x → E cls d H'
  | .bad => False
def spI (K : PySem.W.Frag) (c : Str) (n : Nat) (f : List D → FI) : Sp := fun vs H Q E => ∃ F a C dx ws ds, vs = .ref a :: ws ∧ Same F H ∧ F a = none ∧ H a = some (.ins C dx []) ∧ ClsAt K c C ∧ RDs K F ws ds ∧ ds.length = n ∧ QI K c F H a Q E (f ds)
section
variable {K : PySem.W.Frag} {F H : Hp} {w : World} {W : Option WX}
end
section
variable {P : Program} {w : World} {K : PySem.W.Frag} {mg : Str → Option Value} {base : Heap}
end
/-! ### self.f = e, o.f -/
def putFd (f : Str) (d : D) : List (Str × D) → List (Str × D)
  | [] => [(f, d)]
  | (g, x) :: r => if g = f then (g, d) :: r else (g, x) :: putFd f d r
theorem RDf.put {K : PySem.W.Frag} {F : Hp} {f : Str} {v : V} {d : D} (hv : RD K F v d) : ∀ {vs : List (Str × V)} {ds : List (Str × D)}, RDf K F vs ds → RDf K F (L2.putF f v vs) (putFd f d ds)
  | _, [], h => by cases h; exact .cons hv .nil
  | _, (k, d') :: ds, h => by
    cases h with
    | cons h1 h2 =>
      unfold L2.putF putFd
      split
      · exact .cons hv h2
      · exact .cons h1 (RDf.put hv h2)
theorem RDf.length {K : PySem.W.Frag} {F : Hp} : ∀ {vs : List (Str × V)} {ds : List (Str × D)}, RDf K F vs ds → vs.length = ds.length
  | _, [], h => by cases h; rfl
  | _, (k, d') :: ds, h => by
    cases h with
    | cons h1 h2 => rw [List.length_cons, List.length_cons, RDf.length h2]
def fldS (i : Nat) (c f : Str) (fe : En → Rs D) : En → SRs := fun r => thenS (fe r) fun d r1 => match r1[i]? with
  | some (some (OV.oi c' fs)) => if c' = c ∧ fs.length < 900 then .nx (r1.set i (some (.oi c (putFd f d fs)))) else .bad
  | _ => .bad
def semFld (c f : Str) : D → Option D
  | .obj c' fs => if c' = c then fs.lookup f else none
  | _ => none
section
variable {X : Cx} {g : G} {e : Expr} {p pos pos' : Pos} {c f n : Str} {i : Nat}
/-- the attribute of an instance that a slot owns -/
def fldO (i : Nat) (c f : Str) : En → Rs D := fun r => match r[i]? with
  | some (some (OV.oi c' fs)) => if c' = c then ofO (fs.lookup f) r else .bad
  | _ => .bad
end
end DL

/-! Data layer, part 45: C(e, ..), o.m(e, ..), properties. -/
namespace DL
open PySem L2
section
variable {K : PySem.W.Frag} {g : G} {F1 H1 F' H' : Hp} {s : St} {r1 : En} {a : Addr}
/-- what stands at a, nobody's, is frozen -/
theorem Rel.frzA {o : HO} (R : Rel K g F' H' s r1) (h0 : g.H0 a = none) (ho : ∀ (j : Nat) (u : OV), r1[j]? = some (some u) → u.own = true → s[j]? ≠ some (some (.ref a))) (hX : ∀ p ∈ g.X, p.1 ≠ a) (fa : F' a = none) (ha : H' a = some o) : Same F' (L2.upd F' a o) ∧ Rel K g (L2.upd F' a o) H' s r1 := by
  have sF : Same F' (L2.upd F' a o) := same_upd fa
  refine ⟨sF, fun b u e => ?_, R.f0.trans sF, fun b u e e0 => ?_, R.keep, fun i u e => ?_, R.own, R.dist, R.pin, R.len, fun q hq => ⟨(R.ext q hq).1, by rw [upd_ne (hX q hq)]; exact (R.ext q hq).2.1, (R.ext q hq).2.2⟩⟩
  · by_cases hb : b = a
    · subst hb; rw [L2.upd_same] at e; cases e; exact ha
    · rw [upd_ne hb] at e; exact R.sub b u e
  · by_cases hb : b = a
    · subst hb; exact h0
    · rw [upd_ne hb] at e; exact R.fnew b u e e0
  · obtain ⟨v, h1, h2⟩ := R.slot i u e
    refine ⟨v, h1, ?_⟩
    by_cases hu : u.own = true
    · exact RO.mono sF (fun c vs ew e2 e3 => ⟨by rw [upd_ne fun z => ho i u e hu (by rw [h1, ew, z])]; exact e2, e3⟩) h2
    · cases u with
      | sh d => exact RD.mono sF d h2
      | exc x => exact RE.mono sF h2
      | ow xs => exact absurd rfl hu
      | od xs => exact absurd rfl hu
      | oi c xs => exact absurd rfl hu
      | th xs => exact absurd rfl hu
end
/-! ### C(e, ..) -/
structure HasI (P : Program) (w : World) (K : PySem.W.Frag) (mg : Str → Option Value) (base : Heap) (k : Nat) (c : Str) (n : Nat) (f : List D → FI) : Prop where
  ex : ∃ C fa fd ps, FnG P w K mg base (L2.CX P w) k fa fd ps (spI K c n f) ∧ mg c = some (.ref C) ∧ ClsAt K c C ∧ Mk K C fa ∧ Binds K fd ps []
def fiR (c : Str) (z : FI) (r : En) : Rs OV := match z with
  | .ok fs => .ok (.sh (.obj c fs)) r
  | .ex x => .ex x r
  | .bad => .bad
def makeD (c : Str) (n : Nat) (f : List D → FI) (fs : List (En → Rs D)) : En → Rs OV := fun r => (evs fs r).bind fun ds r1 => if ds.length = n then fiR c (f ds) r1 else .bad
section
variable {X : Cx} {CX : CXT} {k : Nat} {f C : Addr} {fd : FuncData} {ps : List Str} {sp : Sp} {E : St → XK} {x m : Str} {p pos apos : Pos} {e o : Expr} {es : List Expr} {t : TA} {ta : TE}
end
section
variable {X : Cx} {g : G} {k n : Nat} {c m : Str} {p pos apos : Pos} {e o : Expr} {es : List Expr}
/-! ### o.m(e, ..) -/
/-- a method that raises nothing; one that may raise: the object is its first argument -/
structure HasMP (P : Program) (w : World) (K : PySem.W.Frag) (mg : Str → Option Value) (base : Heap) (k : Nat) (c m : Str) (n : Nat) (f : List D → Option OV) : Prop where
  ex : ∃ C fa fd ps, FnG P w K mg base CX0 k fa fd ps (spP K n f) ∧ ClsAt K c C ∧ Cls K C ∧ Meth K C m fa ∧ Binds K fd ps []
structure HasMX (P : Program) (w : World) (K : PySem.W.Frag) (mg : Str → Option Value) (base : Heap) (k : Nat) (c m : Str) (n : Nat) (f : List D → FR) : Prop where
  ex : ∃ C fa fd ps, FnG P w K mg base (L2.CX P w) k fa fd ps (spX K n f) ∧ ClsAt K c C ∧ Cls K C ∧ Meth K C m fa ∧ Binds K fd ps []
def toFR (o : Option OV) : FR := match o with
  | some o => .ok o
  | none => .bad
/-- an instance of c without an attribute m of its own -/
def objOk (c m : Str) : D → Bool
  | .obj c' fl => decide (c' = c) && decide (fl.lookup m = none)
  | _ => false
def methX (c m : Str) (n : Nat) (f : List D → FR) (fo : En → Rs D) (fs : List (En → Rs D)) : En → Rs OV := fun r => (fo r).bind fun x r1 => if objOk c m x = true then (evs fs r1).bind fun ds r2 => if ds.length + 1 = n then frR (f (x :: ds)) r2 else .bad else .bad
/-! ### o.f, a property whose getter returns an attribute -/
/-- c's property f returns the attribute a -/
structure HasG (P : Program) (w : World) (K : PySem.W.Frag) (mg : Str → Option Value) (base : Heap) (c f a : Str) : Prop where
  ex : ∃ C p ga fd, ClsAt K c C ∧ Cls K C ∧ PropOf K C f p ga ∧ FnOk P w K mg base CX0 1 ga fd ["self"] (getSp C a) ∧ Binds K fd ["self"] []
end
end DL

/-! Data layer, part 46: what the written part says of classes, put together. -/
namespace DL
open PySem L2
/-- c's __init__ is the def st -/
structure InitAt (K : PySem.W.Frag) (mg : Str → Option Value) (c qual : Str) (st : Stmt) : Prop where
  ex : ∃ C f fd, mg c = some (.ref C) ∧ ClsAt K c C ∧ Mk K C f ∧ Fun K "__init__" qual st f fd
/-- c's method m is the def st -/
structure MethAt (K : PySem.W.Frag) (c m qual : Str) (st : Stmt) : Prop where
  ex : ∃ C f fd, ClsAt K c C ∧ Cls K C ∧ Meth K C m f ∧ Fun K m qual st f fd
end DL

/-! Data layer, part 47: d.values() walked. -/
namespace DL
open PySem L2
theorem RDk.get {K : PySem.W.Frag} {F : Hp} : ∀ {ds : List (Key × D)} {vs : List (Key × V)} {i : Nat} {k : Key} {d : D}, RDk K F vs ds → ds[i]? = some (k, d) → ∃ v, vs[i]? = some (k, v) ∧ RD K F v d
  | [], _, _, _, _, h, e => by simp at e
  | (j, d') :: ds, _, 0, k, d, h, e => by
    cases h with
    | cons h1 h2 =>
      simp only [List.getElem?_cons_zero, Option.some.injEq, Prod.mk.injEq] at e
      obtain ⟨rfl, rfl⟩ := e
      exact ⟨_, rfl, h1⟩
  | (j, d') :: ds, _, i + 1, k, d, h, e => by
    cases h with
    | cons h1 h2 =>
      rw [List.getElem?_cons_succ] at e
      obtain ⟨v, e1, e2⟩ := RDk.get h2 e
      exact ⟨v, by rw [List.getElem?_cons_succ]; exact e1, e2⟩
def D.vals : D → Option (List D)
  | .dic kds => some (kds.map (·.2))
  | _ => none
def vaD (f : En → Rs D) : En → Rs (List D) := fun r => (f r).bind fun d r1 => ofO d.vals r1
section
variable {X : Cx} {g : G} {e tg : Expr} {apos cpos : Pos}
end
end DL

/-! Data layer, part 48: displays with stars anywhere: [*a, x, *b], (*a, x). -/
namespace DL
open PySem L2
def DZ (X : Cx) (g : G) (es : List Expr) (f : En → Rs (List D)) : Prop := PA X es (tAD X.K g f)
def nlZ : En → Rs (List D) := fun r => .ok [] r
def cnZ (f : En → Rs D) (h : En → Rs (List D)) : En → Rs (List D) := fun r => (f r).bind fun d r1 => (h r1).bind fun ds r2 => .ok (d :: ds) r2
def D.sq : D → Option (List D)
  | .lst xs => some xs
  | .tup xs => some xs
  | _ => none
def stZ (f : En → Rs D) (h : En → Rs (List D)) : En → Rs (List D) := fun r => (f r).bind fun d r1 => (ofO d.sq r1).bind fun xs r1 => (h r1).bind fun ds r2 => .ok (xs ++ ds) r2
def lstZ (f : En → Rs (List D)) : En → Rs OV := fun r => (f r).bind fun ds r1 => if ds.length ≤ 1000 then .ok (.ow ds) r1 else .bad
def tupZ (f : En → Rs (List D)) : En → Rs D := fun r => (f r).bind fun ds r1 => if ds.length ≤ 1000 then .ok (.tup ds) r1 else .bad
section
variable {X : Cx} {g : G} {e : Expr} {es : List Expr} {f : En → Rs D} {h : En → Rs (List D)} {p pos : Pos}
theorem dz_nil : DZ X g [] nlZ := PA.imp pa_nil fun s H Q ⟨F, r, R, q⟩ => q F H [] (Same.refl _) R .nil
theorem dz_cons (he : DE X g e f) (hs : DZ X g es h) (hst : starEach (e :: es) X.env = (false, eval e X.env) :: starEach es X.env := by rfl) : DZ X g (e :: es) (cnZ f h) :=
  PA.imp (pa_cons he hs hst) fun s H Q ⟨F, r, R, q⟩ => ⟨F, r, R, post_mono (post_bind q) fun d r1 q F1 H1 v sm R1 hv => ⟨F1, r1, R1, post_mono (post_bind q) fun ds r2 q F2 H2 vs s2 R2 hvs =>
    q F2 H2 (v :: vs) (sm.trans s2) R2 (.cons (RD.mono s2 d hv) hvs)⟩⟩
theorem sq_rd {K : PySem.W.Frag} {F : Hp} {v : V} {d : D} {xs : List D} (hv : RD K F v d) (hd : d.sq = some xs) : ∃ a vs, v = .ref a ∧ (SqT K F a vs ∨ F a = some (.lst vs)) ∧ RDs K F vs xs := by
  cases d with
  | lst ys =>
    cases hd
    cases hv with
    | lst h1 h2 => exact ⟨_, _, rfl, .inr h1, h2⟩
  | tup ys =>
    cases hd
    cases hv with
    | tup h1 h2 => exact ⟨_, _, rfl, .inl h1, h2⟩
  | _ => cases hd
theorem dz_star (he : DE X g e f) (hs : DZ X g es h) (hst : starEach (.Starred e p :: es) X.env = (true, eval e X.env) :: starEach es X.env := by rfl) : DZ X g (.Starred e p :: es) (stZ f h) :=
  PA.imp (StX.pa_star he hs hst) fun s H Q ⟨F, r, R, q⟩ => ⟨F, r, R, post_mono (post_bind q) fun d r1 q F1 H1 v sm R1 hv => by
    have q := post_bind q
    obtain ⟨xs, ed, q⟩ := post_ofO q
    obtain ⟨a, vs, rfl, h1, h2⟩ := sq_rd hv ed
    refine ⟨_, _, rfl, h1.imp (fun z => same_sqT R1.sub z) (fun z => .of (R1.sub _ _ z)), F1, r1, R1, post_mono (post_bind q) fun ds r2 q F2 H2 ws s2 R2 hws => ?_⟩
    exact q F2 H2 _ (sm.trans s2) R2 (RDs.app (RDs.mono s2 xs h2) hws)⟩
theorem de_tupZ {k : Nat} (hs : DZ X g es h) : DE X g (.Tuple es k pos) (tupZ h) :=
  PE.imp (pe_tup hs) fun s H Q ⟨F, r, R, q⟩ => ⟨F, r, R, post_mono (post_bind q) fun ds r1 q F1 H1 vs sm R1 hvs => by
    obtain ⟨hl, q⟩ := post_if q
    refine ⟨le_line (by rw [hvs.length]; exact hl), fun p np => ?_⟩
    have sF := same_upd (o := .tup vs) (R1.ff np)
    exact q _ _ _ (sm.trans sF) (R1.alloc np) (.tup (.of upd_same) (RDs.mono sF ds hvs))⟩
end
end DL

/-! Data layer, part 49: list(d.items()), d frozen. -/
namespace DL
open PySem PySem.Spec PyProof.Rows L2
section
variable {X : Cx} {g : G} {e : Expr} {te : TE} {p apos cpos pos : Pos}
def keyD : Key → D
  | .inl i => .int i
  | .inr x => .str x
def D.itms : D → Option (List D)
  | .dic kds => some (kds.map fun z => .tup [keyD z.1, z.2])
  | _ => none
theorem Rel.up {K : PySem.W.Frag} {F H H' : Hp} {s : L2.St} {r : En} (R : Rel K g F H s r) (e : Same H H') : Rel K g F H' s r :=
  ⟨R.sub.trans e, R.f0, R.fnew, fun b u x hb => e _ _ (R.keep b u x hb), fun i u x => let ⟨v, h1, h2⟩ := R.slot i u x; ⟨v, h1, RO.mono (Same.refl _) (fun a vs _ e1 e2 => ⟨e1, e _ _ e2⟩) h2⟩, R.own, R.dist, R.pin, R.len, fun q hq => ⟨e _ _ (R.ext q hq).1, (R.ext q hq).2⟩⟩
def itsO (f : En → Rs D) : En → Rs OV := fun r => (f r).bind fun d r1 => (ofO d.itms r1).bind fun ds r1 => .ok (.ow ds) r1
end
end DL

/-! Data layer, part 50: {**d, k: e}. -/
namespace DL
open PySem PySem.Spec PyProof
section
variable {prog : Program} {w : World} {K : Type} [DecidableEq K] {knd : KeyKind prog w K} {A : Around} {E : Value → Shared → Prop} {s : Shared}
end
end DL

/-! Data layer, part 51: {**d, k: e}, the rule. -/
namespace DL
open PySem PySem.Spec PyProof
section
variable {prog : Program} {w : World} {K : Type} [DecidableEq K] {knd : KeyKind prog w K} {A : Around} {E : Value → Shared → Prop} {s : Shared}
end
end DL

/-! Data layer, part 52: {**d, k: e}, as a judgement. -/
namespace DL
open PySem PySem.Spec PyProof L2
section
variable {X : Cx} {e k x : Expr} {te : TE} {trs : List (TE × TE)} {pos : Pos}
end
end DL

/-! Data layer, part 53: {**d, k: e}, by data. -/
namespace DL
open PySem L2
def dstD (f : En → Rs D) (fs : List ((En → Rs D) × (En → Rs D))) : En → Rs D := fun r => (f r).noE.bind fun d r1 =>
  match d with
  | .dic kds => if kds.length ≤ 1000 then (evPs fs r1).noE.bind fun rs r2 => if rs.length ≤ 15 then .ok (.dic (mergeD (mergeD [] kds) (mergeD [] rs))) r2 else .bad else .bad
  | _ => .bad
section
variable {X : Cx} {g : G} {pos : Pos} {e k x : Expr} {f : En → Rs D} {fs : List ((En → Rs D) × (En → Rs D))}
end
end DL

/-! Data layer, part 54: len(o) by o's own __len__. -/
namespace DL
open PySem L2 PySem.Calls Builtin
section
variable {prog : Program} {w : World} {A : Around} {E : Value → Shared → Prop} {s : Shared} {K : PySem.W.Frag} {x C f : Addr} {ox : Obj} {od : Option Obj} {Q : Value → Shared → Prop}
end
section
variable {X : Cx} {k : Nat} {f C : Addr} {fd : FuncData} {ps : List Str} {sp : Sp}
end
/-- len of an instance of c, f its __len__ -/
def lenF (c : Str) (f : List D → Option OV) : D → Option D
  | .obj c' fl => if c' = c then (match f [.obj c' fl] with
    | some (.sh (.int n)) => if 0 ≤ n ∧ n < 1000000000 then some (.int n) else none
    | _ => none) else none
  | _ => none
def lenM (c : Str) (f : List D → Option OV) (fo : En → Rs D) : En → Rs D := fun r => (fo r).bind fun x r1 => ofO (lenF c f x) r1
section
variable {X : Cx} {g : G} {k : Nat} {c : Str} {p pos : Pos} {e : Expr}
end
end DL

/-! Data layer, part 55: == of alike data, dicts among them. -/
namespace PySem.SeqAt
open AutoSeq1 (wpAny_loadPart')
open MeetsSeq MeetsSeq2 MeetsSeq3 SeqRoads2
section
variable {prog : Program} {w : World}
theorem dl_tupEq (p q : Addr) (vs us : Array Value) (i j : Nat) (o o' : Option Addr) (z z' : Array (Option Value)) (hn : vs.size = us.size) :
    MeetsIn prog w (Builtin.«tuple.__eq__» ⟨[.ref p, .ref q], []⟩)
      (fun A R s => s.heap.get? p = some { cls := .type "tuple", dict := o, data := .seq vs i, slots := z } ∧ s.heap.get? q = some { cls := .type "tuple", dict := o', data := .seq us j, slots := z' } ∧
        (∀ k (g : k < vs.size) (g' : k < us.size), EqP prog w A.in1 s vs[k] us[k] true) ∧ R (.ok (.ret (.bool true))) s) := by
  intro A R s h
  obtain ⟨hp, g, d, tk, os⟩ := s
  obtain ⟨h1, h2, h3, h4⟩ := h
  have f2 := AutoSeq1.sub_tuple_tuple
  have zl : (vs.toList.zip us.toList).length = vs.size := by simp [hn]
  wp_walk using wpAny_loadPart' h1, wpAny_loadPart' h2, wpAny_forIn_list _ (fun l b s' => b.1 = none ∧ s' = ⟨hp, g, d, tk, os⟩ ∧ ∃ k, l = (vs.toList.zip us.toList).drop k ∧ R (.ok (.ret (.bool true))) ⟨hp, g, d, tk, os⟩) _
  case turn =>
    rintro ⟨y, x⟩ l b s' ⟨hb, rfl, k, hk, hR⟩
    have lt : k < (vs.toList.zip us.toList).length := Nat.lt_of_not_le fun c => by
      rw [List.drop_of_length_le c] at hk
      cases hk
    have l1 : k < vs.size := zl ▸ lt
    have l2 : k < us.size := hn ▸ l1
    rw [List.drop_eq_getElem_cons lt] at hk
    injection hk with e1 e2
    have ey : y = vs[k] := by simpa using congrArg Prod.fst e1
    have ex : x = us[k] := by simpa using congrArg Prod.snd e1
    subst ey ex
    refine wpAny_bind (h3 k l1 l2 _ _ ?_)
    wp_walk
    exact ⟨rfl, rfl, k + 1, e2, hR⟩
  case fin =>
    rintro ⟨b1, b2⟩ s' ⟨hb, rfl, k, hk, hR⟩
    simp only at hb
    subst hb
    wp_walk
    simpa [Builtin.Tuple.tupleCompareSizes, hn] using hR
  case h => exact ⟨rfl, rfl, 0, rfl, h4⟩
theorem dl_rcTup {A : Around} {s : Shared} {p q : Addr} {vs us : Array Value} (h1 : s.heap.IsTuple p vs) (h2 : s.heap.IsTuple q us) (hn : vs.size = us.size) (hu : A.units < cLine)
    (he : ∀ k (g : k < vs.size) (g' : k < us.size), EqP prog w A.in1 s vs[k] us[k] true) (E Q : Value → Shared → Prop) (h : Q (.bool true) s) : wpAny (model prog w) A (richCompare .Eq (.ref p) (.ref q)) Q E s := by
  obtain ⟨⟨c, o, d, z⟩, a1, a2, i, a3⟩ := id h1
  obtain ⟨⟨c', o', d', z'⟩, b1, b2, j, b3⟩ := id h2
  simp only at a2 a3 b2 b3
  subst a2 a3 b2 b3
  have ta : s.TypeIs (.ref p) "tuple" := ⟨_, a1, rfl⟩
  have tb : s.TypeIs (.ref q) "tuple" := ⟨_, b1, rfl⟩
  exact wpAny_richCompare_same_room (op := .Eq) ta tb F.slot_tuple_eq (call_meetsIn F.slot_tuple_eq ta F.entry_tuple_eq (F.args_tuple_eq_2 _ _) (dl_tupEq p q vs us i j o o' z z' hn)
    ⟨a1, b1, he, show Value.bool true ≠ Value.notImplemented ∧ Q (.bool true) s from ⟨(fun x => nomatch x), h⟩⟩) hu
end
end PySem.SeqAt
namespace DL
open PySem L2
mutual
def D.same : D → D → Bool
  | .non, .non => true
  | .bl a, .bl b => a == b
  | .int a, .int b => decide (a = b)
  | .str a, .str b => decide (a = b)
  | .lst xs, .lst ys => sames xs ys
  | .tup xs, .tup ys => sames xs ys
  | .dic xs, .dic ys => decide (xs.map (·.1)).Nodup && samek xs ys
  | _, _ => false
def sames : List D → List D → Bool
  | [], [] => true
  | x :: xs, y :: ys => x.same y && sames xs ys
  | _, _ => false
def samek : List (Key × D) → List (Key × D) → Bool
  | [], [] => true
  | (k, x) :: xs, (j, y) :: ys => decide (k = j) && (x.same y && samek xs ys)
  | _, _ => false
end
section
variable {X : Cx} {pins : List (Addr × Obj)} {s : Shared} {H : Hp} {sg : L2.St}
/-- read alike, they are equal -/
def EqU (X : Cx) (s : Shared) (n : Nat) (v u : Value) : Prop := ∀ A : Around, A.units + n < cLine → SeqAt.EqP X.prog X.w A s v u true
theorem EqU.refs {n : Nat} {a b : Addr} (h : ∀ A : Around, A.units + n + 1 < cLine → ∀ (E Q : Value → Shared → Prop), Q (.bool true) s → wpAny (model X.prog X.w) A (richCompare .Eq (.ref a) (.ref b)) Q E s) : EqU X s (n + 1) (.ref a) (.ref b) := fun A hu => by
  by_cases e : a = b
  · subst e
    exact (SeqAt.EqAt.same _).eqP
  · exact SeqAt.eqP_refs e (h A (by omega))
theorem rdk_val {K : PySem.W.Frag} {F : Hp} : ∀ {ds es : List (Key × D)} {ks ls : List (Key × V)}, samek ds es = true → RDk K F ks ds → RDk K F ls es → (ds.map (·.1)).Nodup → ∀ p ∈ ks, ∃ u, valV ls p.1 = some u ∧ ∃ d e, (p.1, d) ∈ ds ∧ d.same e = true ∧ RD K F p.2 d ∧ RD K F u e
  | [], _, _, _, _, h1, _, _ => by
    cases h1
    exact fun p hp => by cases hp
  | (k, d) :: ds, [], _, _, hs, _, _, _ => by cases hs
  | (k, d) :: ds, (j, e) :: es, _, _, hs, h1, h2, hn => by
    have hs : (decide (k = j) && (d.same e && samek ds es)) = true := hs
    simp only [Bool.and_eq_true, decide_eq_true_eq] at hs
    obtain ⟨hk, s1, s2⟩ := hs
    subst hk
    cases h1 with
    | @cons _ v vs _ _ a1 a2 =>
      cases h2 with
      | @cons _ u us _ _ b1 b2 =>
        intro p hp
        rcases List.mem_cons.mp hp with rfl | hp
        · exact ⟨u, by simp [valV], d, e, List.mem_cons_self, s1, a1, b1⟩
        · rw [List.map_cons, List.nodup_cons] at hn
          obtain ⟨u', c1, d', e', c2, c3, c4, c5⟩ := rdk_val s2 a2 b2 hn.2 p hp
          have : ¬ k = p.1 := fun z => hn.1 (by rw [z]; exact List.mem_map.mpr ⟨_, c2, rfl⟩)
          refine ⟨u', ?_, d', e', List.mem_cons_of_mem _ c2, c3, c4, c5⟩
          have c1' : valV us p.1 = some u' := c1
          unfold valV at c1' ⊢
          rw [List.find?_cons]
          simp only [this, decide_false]
          exact c1'
theorem samek_len : ∀ {ds es : List (Key × D)}, samek ds es = true → ds.length = es.length
  | [], [], _ => rfl
  | [], _ :: _, h => by cases h
  | _ :: _, [], h => by cases h
  | (k, d) :: ds, (j, e) :: es, h => by
    have h : (decide (k = j) && (d.same e && samek ds es)) = true := h
    simp only [Bool.and_eq_true] at h
    rw [List.length_cons, List.length_cons, samek_len h.2.2]
theorem sames_len : ∀ {ds es : List D}, sames ds es = true → ds.length = es.length
  | [], [], _ => rfl
  | [], _ :: _, h => by cases h
  | _ :: _, [], h => by cases h
  | d :: ds, e :: es, h => by
    have h : (d.same e && sames ds es) = true := h
    simp only [Bool.and_eq_true] at h
    rw [List.length_cons, List.length_cons, sames_len h.2]
theorem RDk.len {K : PySem.W.Frag} {F : Hp} : ∀ {ks : List (Key × V)} {ds : List (Key × D)}, RDk K F ks ds → ks.length = ds.length
  | _, [], h => by cases h; rfl
  | _, (k, d) :: ds, h => by
    cases h with
    | cons h1 h2 => rw [List.length_cons, List.length_cons, RDk.len h2]
theorem units_in1 (A : Around) (n : Nat) : A.in1.units + n = A.units + n + 1 := by
  show A.units + 1 + n = _
  omega
theorem dq_mem : ∀ {ds : List D} {d : D}, d ∈ ds → d.dq ≤ dqAll ds
  | d' :: ds, d, h => by
    show d.dq ≤ max d'.dq (dqAll ds)
    rcases List.mem_cons.mp h with rfl | h
    · omega
    · have := dq_mem h
      omega
theorem dq_memK : ∀ {ds : List (Key × D)} {k : Key} {d : D}, (k, d) ∈ ds → d.dq ≤ dqK ds
  | (j, d') :: ds, k, d, h => by
    show d.dq ≤ max d'.dq (dqK ds)
    rcases List.mem_cons.mp h with h | h
    · cases h
      omega
    · have := dq_memK h
      omega
theorem sames_at : ∀ {ds es : List D}, sames ds es = true → ∀ k (g : k < ds.length) (g' : k < es.length), ds[k].same es[k] = true
  | d :: ds, e :: es, h, k, g, g' => by
    have h : (d.same e && sames ds es) = true := h
    obtain ⟨s1, s2⟩ := Bool.and_eq_true_iff.mp h
    cases k with
    | zero => exact s1
    | succ k => exact sames_at s2 k (by simpa using g) (by simpa using g')
/-- what is asked of data of that depth -/
def SameU (X : Cx) (s : Shared) (H : Hp) (n : Nat) : Prop := ∀ (d e : D) (x y : V) (v u : Value), d.same e = true → d.dq ≤ n → RD X.K H x d → RD X.K H y e → RelV x v → RelV y u → EqU X s (n + 1) v u
theorem items_same (I : L2.Inv X pins sg H s) {n : Nat} (ih : SameU X s H n) {ds es : List D} {xs ys : List V} {vs us : List Value} (hs : sames ds es = true) (hd : dqAll ds ≤ n) (h1 : RDs X.K H xs ds) (h2 : RDs X.K H ys es) (r1 : Vals xs vs) (r2 : Vals ys us) (k : Nat) (g : k < vs.length) (g' : k < us.length) : EqU X s (n + 1) vs[k] us[k] := by
  have l1 := r1.length
  have l2 := r2.length
  have l3 := h1.length
  have l4 := h2.length
  obtain ⟨x, e1, a1⟩ := h1.get (List.getElem?_eq_getElem (l := ds) (i := k) (by omega))
  obtain ⟨y, e2, a2⟩ := h2.get (List.getElem?_eq_getElem (l := es) (i := k) (by omega))
  obtain ⟨v, e3, a3⟩ := r1.get e1
  obtain ⟨u, e4, a4⟩ := r2.get e2
  rw [List.getElem?_eq_getElem g] at e3
  rw [List.getElem?_eq_getElem g'] at e4
  cases e3
  cases e4
  exact ih _ _ _ _ _ _ (sames_at hs k (by omega) (by omega)) (Nat.le_trans (dq_mem (List.getElem_mem _)) hd) a1 a2 a3 a4
theorem same_flat {n : Nat} {d e : D} {x y : V} {v u : Value} (hs : d.same e = true) (h1 : RD X.K H x d) (h2 : RD X.K H y e) (r1 : RelV x v) (r2 : RelV y u) (hd : match d with | .lst _ => False | .tup _ => False | .dic _ => False | _ => True) : EqU X s n v u := fun A _ => by
  cases d with
  | non => cases e <;> first | cases hs; done | skip
           cases h1; cases h2
           exact (eqAt_same r1 r2 rfl).eqP
  | bl a =>
    cases e <;> first | cases hs; done | skip
    have : _ = _ := beq_iff_eq.mp hs
    subst this
    cases h1; cases h2
    exact (eqAt_same r1 r2 rfl).eqP
  | int a =>
    cases e <;> first | cases hs; done | skip
    have : _ = _ := of_decide_eq_true hs
    subst this
    cases h1; cases h2
    exact (eqAt_same r1 r2 rfl).eqP
  | str a =>
    cases e <;> first | cases hs; done | skip
    have : _ = _ := of_decide_eq_true hs
    subst this
    cases h1; cases h2
    exact (eqAt_same r1 r2 rfl).eqP
  | lst _ => exact hd.elim
  | tup _ => exact hd.elim
  | dic _ => exact hd.elim
  | scr _ => cases e <;> cases hs
  | obj _ _ => cases e <;> cases hs
theorem same_all (I : L2.Inv X pins sg H s) : ∀ n, SameU X s H n := by
  intro n
  induction n with
  | zero =>
    intro d e x y v u hs hd h1 h2 r1 r2
    refine same_flat hs h1 h2 r1 r2 ?_
    cases d with
    | lst _ => exact absurd (show dqAll _ + 1 ≤ 0 from hd) (by omega)
    | tup _ => exact absurd (show dqAll _ + 1 ≤ 0 from hd) (by omega)
    | dic _ => exact absurd (show dqK _ + 1 ≤ 0 from hd) (by omega)
    | _ => trivial
  | succ n ih =>
    intro d e x y v u hs hd h1 h2 r1 r2
    cases d with
    | lst ds =>
      have hd : dqAll ds + 1 ≤ n + 1 := hd
      cases e with
      | lst es =>
        have hs : sames ds es = true := hs
        cases h1 with
        | lst a1 a2 =>
          cases h2 with
          | lst b1 b2 =>
            have r1 := (show v = _ from r1)
            have r2 := (show u = _ from r2)
            subst r1
            subst r2
            obtain ⟨its, rv, pl, _⟩ := I.list (SqL.of a1)
            obtain ⟨its2, rv2, pl2, _⟩ := I.list (SqL.of b1)
            have l1 := rv.length
            have l2 := rv2.length
            have l3 := a2.length
            have l4 := b2.length
            have l5 := sames_len hs
            refine EqU.refs fun A hu E Q q => ?_
            refine SeqAt.rcP_lists (e := fun _ => true) pl.isList pl2.isList (by simp only [List.size_toArray]; omega) (by omega) (fun k g g' => ?_) E Q ?_
            · have := items_same I ih hs (by omega) a2 b2 rv rv2 k (by simpa using g) (by simpa using g') A.in1 (by rw [units_in1]; omega)
              simpa using this
            · rw [show ((List.range its.toArray.size).all fun _ => true) = true from List.all_eq_true.mpr fun _ _ => rfl]
              exact q
      | _ => cases hs
    | tup ds =>
      have hd : dqAll ds + 1 ≤ n + 1 := hd
      cases e with
      | tup es =>
        have hs : sames ds es = true := hs
        cases h1 with
        | tup a1 a2 =>
          cases h2 with
          | tup b1 b2 =>
            have r1 := (show v = _ from r1)
            have r2 := (show u = _ from r2)
            subst r1
            subst r2
            obtain ⟨its, rv, pl, _⟩ := I.tuple a1
            obtain ⟨its2, rv2, pl2, _⟩ := I.tuple b1
            have l1 := rv.length
            have l2 := rv2.length
            have l3 := a2.length
            have l4 := b2.length
            have l5 := sames_len hs
            refine EqU.refs fun A hu E Q q => ?_
            refine SeqAt.dl_rcTup pl pl2 (by simp only [List.size_toArray]; omega) (by omega) (fun k g g' => ?_) E Q q
            have := items_same I ih hs (by omega) a2 b2 rv rv2 k (by simpa using g) (by simpa using g') A.in1 (by rw [units_in1]; omega)
            simpa using this
      | _ => cases hs
    | dic ds =>
      have hd : dqK ds + 1 ≤ n + 1 := hd
      cases e with
      | dic es =>
        have hs : (decide (ds.map (·.1)).Nodup && samek ds es) = true := hs
        simp only [Bool.and_eq_true, decide_eq_true_eq] at hs
        obtain ⟨hn, hs⟩ := hs
        cases h1 with
        | @dic a _ ks _ a1 a2 =>
          cases h2 with
          | @dic b _ ls _ b1 b2 =>
            have r1 := (show v = _ from r1)
            have r2 := (show u = _ from r2)
            subst r1
            subst r2
            obtain ⟨_, _, ya, va, ra, da⟩ := (show ObjOk X.prog X.w H s.heap a (.frz _ (.dK ks)) from I.hok a _ a1)
            obtain ⟨_, _, yb, vb, rb, db⟩ := (show ObjOk X.prog X.w H s.heap b (.frz _ (.dK ls)) from I.hok b _ b1)
            refine EqU.refs fun A hu E Q q => ?_
            have hv := rdk_val hs a2 b2 hn
            have el : va.length = vb.length := by
              have h1 := ra.length
              have h2 := rb.length
              have h3 := a2.len
              have h4 := b2.len
              have h5 := samek_len hs
              omega
            refine PySem.W.rcP_dicts (knd := mixKind X.prog X.w) (r := true) ya yb da db (by omega) (fun _ => ?_) E Q ?_
            · refine hits_run (F := fun x y => ∀ v u, RelV x v → RelV y u → SeqAt.EqP X.prog X.w A.in1 s v u true) (fun x y v u f rx ry => f v u rx ry) rb ra fun p hp => ?_
              obtain ⟨u, c1, d, e, c2, c3, c4, c5⟩ := hv p hp
              exact ⟨u, c1, fun v' u' rx ry => ih d e _ _ v' u' c3 (Nat.le_trans (dq_memK c2) (by omega)) c4 c5 rx ry A.in1 (by rw [units_in1]; omega)⟩
            · rw [show (va.length == vb.length && true) = true from by rw [el]; simp]
              exact q
      | _ => cases hs
    | non => exact same_flat hs h1 h2 r1 r2 trivial
    | bl _ => exact same_flat hs h1 h2 r1 r2 trivial
    | int _ => exact same_flat hs h1 h2 r1 r2 trivial
    | str _ => exact same_flat hs h1 h2 r1 r2 trivial
    | scr _ => exact same_flat hs h1 h2 r1 r2 trivial
    | obj _ _ => exact same_flat hs h1 h2 r1 r2 trivial
end
/-- what is read alike is equal, dicts too -/
def semEqX (d e : D) : Option D := match semEq d e with
  | some z => some z
  | none => match d, e with
    | .tup ds, .tup es => if sames ds es && decide (dqAll ds ≤ 50) then some (.bl true) else none
    | .lst ds, .lst es => if sames ds es && decide (dqAll ds ≤ 50) then some (.bl true) else none
    | _, _ => none
theorem semEqX_of {d e : D} {z : D} (h : semEq d e = some z) : semEqX d e = some z := by unfold semEqX; rw [h]
section
variable {X : Cx} {g : G}
theorem opd_eqX (hu : X.A.units + 64 < cLine) : OpR X (compareOp .Eq) (rD2 X.K g semEqX) := by
  intro pins s sg H x y v u Q I rx ry h
  obtain ⟨F, s0, r, dx, dy, d, R, hx, hy, e, q⟩ := h
  unfold semEqX at e
  split at e
  · next z es =>
    cases e
    exact opd_eq hu pins s sg H x y v u Q I rx ry ⟨F, s0, r, dx, dy, d, R, hx, hy, es, q⟩
  · split at e
    · next ds es _ =>
      split at e
      · next hc =>
        cases e
        obtain ⟨hs, hd⟩ := Bool.and_eq_true_iff.mp hc
        have hd : dqAll ds ≤ 50 := of_decide_eq_true hd
        cases hx.rd R.sub with
        | tup a1 a2 =>
          cases hy.rd R.sub with
          | tup b1 b2 =>
            have r1 := (show v = _ from rx)
            have r2 := (show u = _ from ry)
            subst r1
            subst r2
            obtain ⟨its, rv, pl, _⟩ := I.tuple a1
            obtain ⟨its2, rv2, pl2, _⟩ := I.tuple b1
            have l1 := rv.length
            have l2 := rv2.length
            have l3 := a2.length
            have l4 := b2.length
            have l5 := sames_len hs
            refine SeqAt.dl_rcTup pl pl2 (by simp only [List.size_toArray]; omega) (by omega) (fun k g g' => ?_) _ _ ⟨.bl true, H, I, rfl, q F H _ (Same.refl _) R (.bl _)⟩
            have := items_same I (same_all I 50) hs hd a2 b2 rv rv2 k (by simpa using g) (by simpa using g') X.A.in1 (by rw [units_in1]; omega)
            simpa using this
      · cases e
    · next ds es _ =>
      split at e
      · next hc =>
        cases e
        obtain ⟨hs, hd⟩ := Bool.and_eq_true_iff.mp hc
        have hd : dqAll ds ≤ 50 := of_decide_eq_true hd
        cases hx.rd R.sub with
        | lst a1 a2 =>
          cases hy.rd R.sub with
          | lst b1 b2 =>
            have r1 := (show v = _ from rx)
            have r2 := (show u = _ from ry)
            subst r1
            subst r2
            obtain ⟨its, rv, pl, _⟩ := I.list (SqL.of a1)
            obtain ⟨its2, rv2, pl2, _⟩ := I.list (SqL.of b1)
            have l1 := rv.length
            have l2 := rv2.length
            have l3 := a2.length
            have l4 := b2.length
            have l5 := sames_len hs
            refine SeqAt.rcP_lists (e := fun _ => true) pl.isList pl2.isList (by simp only [List.size_toArray]; omega) (by omega) (fun k g g' => ?_) _ _ ?_
            · have := items_same I (same_all I 50) hs hd a2 b2 rv rv2 k (by simpa using g) (by simpa using g') X.A.in1 (by rw [units_in1]; omega)
              simpa using this
            · rw [show ((List.range its.toArray.size).all fun _ => true) = true from List.all_eq_true.mpr fun _ _ => rfl]
              exact ⟨.bl true, H, I, rfl, q F H _ (Same.refl _) R (.bl _)⟩
      · cases e
    · cases e
end
end DL

/-! Data layer, part 56: set(e) of a list or a tuple of tuples;  -/
namespace DL
open PySem L2 PyProof.Rows PySem.Froz
theorem takeS {α : Type} {l : List α} {i : Nat} {x : α} (e : l[i]? = some x) : l.take (i + 1) = l.take i ++ [x] := by
  rw [List.take_succ, e]
  rfl
theorem GotN.add {ks L L' : List KA} {i : Nat} {x : KA} (g : GotN ks i L) (e : ks[i]? = some x) (c1 : x.2 ∈ L.map (·.2) → L' = L) (c2 : x.2 ∉ L.map (·.2) → L'.Perm (x :: L)) : GotN ks (i + 1) L' := by
  have eT := takeS e
  rcases Classical.em (x.2 ∈ L.map (·.2)) with c | c
  · rw [c1 c]
    refine ⟨fun p hp => ?_, fun p hp => ?_, Nat.le_succ_of_le g.len⟩
    · rw [eT]; exact List.mem_append_left _ (g.sub p hp)
    · rw [eT] at hp
      rcases List.mem_append.mp hp with z | z
      · exact g.all p z
      · rw [List.mem_singleton.mp z]; exact c
  · have pm := c2 c
    refine ⟨fun p hp => ?_, fun p hp => ?_, by rw [pm.length_eq]; exact Nat.succ_le_succ g.len⟩
    · rw [eT]
      rcases List.mem_cons.mp (pm.mem_iff.mp hp) with z | z
      · rw [z]; exact List.mem_append_right _ (List.mem_singleton.mpr rfl)
      · exact List.mem_append_left _ (g.sub p z)
    · rw [(pm.map (·.2)).mem_iff, List.map_cons]
      rw [eT] at hp
      rcases List.mem_append.mp hp with z | z
      · exact List.mem_cons_of_mem _ (g.all p z)
      · rw [List.mem_singleton.mp z]; exact List.mem_cons_self
section
variable {P : Program} {w : World} {A : Around} {E : Value → Shared → Prop} {s : Shared}
theorem SetN.up {h h' : Heap} {a : Addr} {L : List KA} {es : Array (Int × Value)} {ep : Nat} {t : SetTable} (R : SetN w h a L es ep t) (ka : ∀ o, h.get? a = some o → h'.get? a = some o) (kt : ∀ p ∈ L, IsN h' p.2 p.1) : SetN w h' a L es ep t := by
  obtain ⟨o, oa, r⟩ := R.ob
  exact ⟨⟨o, ka o oa, r⟩, R.rows, R.tab, R.nd, kt, R.led, R.room, R.few⟩
end
end DL

/-! Data layer, part 57: set(e), sorted(set(e)) and len(set(e)) of texts or tuples, by data. -/
namespace DL
open PySem L2 PyProof.Rows PySem.Froz
/-! keys tell data without truths apart -/
/-! of alike data neither of which is less the two are equal -/
theorem SrtOk.perm {ds es : List PyData} (k : SrtOk ds) (p : ∀ x, x ∈ es → x ∈ ds) : SrtOk es := by
  rcases k with ⟨k1, k2⟩ | k
  · refine .inl ⟨fun d h d' h' => k1 d (p d h) d' (p d' h'), ?_⟩
    rcases k2 with k2 | k2
    · exact .inl fun d h => k2 d (p d h)
    · exact .inr fun d h => k2 d (p d h)
  · exact .inr fun d h d' h' => k d (p d h) d' (p d' h')
/-! each once -/
/-! ### set(e) -/
theorem RDn.keys {K : PySem.W.Frag} {F H : Hp} (sub : Same F H) : ∀ {ds : List D} {ks : List KA}, RDn K F ks ds → ∀ p ∈ ks, KeyAt K H p.2 p.1
  | [], _, h, p, hp => by cases h; cases hp
  | d :: ds, _, h, p, hp => by
    cases h with
    | cons h1 h2 h3 =>
      rcases List.mem_cons.mp hp with rfl | hp
      · exact ⟨d, RD.mono sub d h1, h2.1, h2.2⟩
      · exact RDn.keys sub h3 p hp
theorem RDn.length {K : PySem.W.Frag} {F : Hp} : ∀ {ds : List D} {ks : List KA}, RDn K F ks ds → ks.length = ds.length
  | [], _, h => by cases h; rfl
  | d :: ds, _, h => by
    cases h with
    | cons h1 h2 h3 => rw [List.length_cons, List.length_cons, RDn.length h3]
theorem KeyAt.isN {X : Cx} {pins : List (Addr × Obj)} {s : Shared} {H : Hp} {sg : L2.St} (I : L2.Inv X pins sg H s) {k : NestedKey} {b : Addr} (h : KeyAt X.K H k b) : IsN s.heap k b := by
  obtain ⟨kd, h1, h2, h3⟩ := h
  exact ⟨RD.nested I kd _ _ k h2 h1 rfl, h3⟩
section
variable {X : Cx} {g : G} {e : Expr} {pos : Pos}
/-! ### sorted(set(e)) -/
theorem RDn.zip {K : PySem.W.Frag} {F : Hp} : ∀ {es : List D} {L : List KA}, RDn K F L es → ∃ Z : List (KA × D), Z.map (·.1) = L ∧ Z.map (·.2) = es ∧ ∀ z ∈ Z, RD K F (.ref z.1.1) z.2
  | [], _, h => by cases h; exact ⟨[], rfl, rfl, fun z hz => by cases hz⟩
  | e :: es, _, h => by
    cases h with
    | @cons a k _ L _ h1 h2 h3 =>
      obtain ⟨Z, z1, z2, z3⟩ := RDn.zip h3
      refine ⟨((a, k), e) :: Z, by rw [List.map_cons, z1], by rw [List.map_cons, z2], fun z hz => ?_⟩
      rcases List.mem_cons.mp hz with rfl | hz
      · exact h1
      · exact z3 z hz
end
end DL

/-! Data layer, part 58: x = {.. for ..} of tuples, sorted(x). -/
namespace DL
open PySem L2 PyProof.Rows PySem.Froz
/-- a slot gets a thing that is nobody's yet -/
theorem Rel.setTh {K : PySem.W.Frag} {g : G} {F H : Hp} {s : L2.St} {r : En} {i : Nat} {p : Addr} {o : HO} {t : Tg} (R1 : Rel K g F H s r) (hb : ∀ p ∈ g.B, p.1 ≠ i) (hA : H p = some o) (hF : F p = none) (h0 : g.H0 p = none) (hX : ∀ q ∈ g.X, q.1 ≠ p)
    (no : ∀ (j : Nat) (u : OV), r[j]? = some (some u) → u.own = true → s[j]? ≠ some (some (.ref p))) (rt : RT K g.w F p o t) : Rel K g F H (s.set i (some (.ref p))) (r.set i (some (.th t))) := by
  have hl := R1.len
  have cs : ∀ (j : Nat) (u : OV), (r.set i (some (.th t)))[j]? = some (some u) → (j = i ∧ u = .th t ∧ (s.set i (some (V.ref p)))[j]? = some (some (.ref p))) ∨ (j ≠ i ∧ r[j]? = some (some u) ∧ (s.set i (some (V.ref p)))[j]? = s[j]?) := fun j u z => by
    by_cases hj : i = j
    · subst hj
      have hi : i < r.length := by
        have := (List.getElem?_eq_some_iff.mp z).1
        rw [List.length_set] at this
        exact this
      rw [List.getElem?_set_self hi] at z
      cases z
      exact .inl ⟨rfl, rfl, List.getElem?_set_self (by rw [← hl]; exact hi)⟩
    · rw [List.getElem?_set_ne hj] at z
      exact .inr ⟨fun z => hj z.symm, z, List.getElem?_set_ne hj⟩
  refine ⟨R1.sub, R1.f0, R1.fnew, R1.keep, fun j u z => ?_, fun j u a z zo za => ?_, fun j k u w a hjk z zo y yo za ya => ?_, fun q hq => ?_, by rw [List.length_set, List.length_set]; exact hl, fun q hq => ?_⟩
  · rcases cs j u z with ⟨rfl, rfl, e⟩ | ⟨hj, z', e⟩
    · exact ⟨.ref p, e, p, o, rfl, hF, hA, rt⟩
    · rw [e]; exact R1.slot j u z'
  · rcases cs j u z with ⟨rfl, rfl, e⟩ | ⟨hj, z', e⟩
    · rw [e] at za
      cases za
      exact .inl h0
    · rw [e] at za; exact R1.own j u a z' zo za
  · rcases cs j u z with ⟨ej, eu, e⟩ | ⟨hj, z', e⟩
    · rcases cs k w y with ⟨ek, _, _⟩ | ⟨hk, y', e'⟩
      · exact hjk (ej.trans ek.symm)
      · rw [e] at za
        rw [e'] at ya
        cases za
        exact no k w y' yo ya
    · rcases cs k w y with ⟨ek, ew, e'⟩ | ⟨hk, y', e'⟩
      · rw [e'] at ya
        rw [e] at za
        cases ya
        exact no j u z' zo za
      · rw [e] at za
        rw [e'] at ya
        exact R1.dist j k u w a hjk z' zo y' yo za ya
  · obtain ⟨p1, u, p2, p3⟩ := R1.pin q hq
    have h := hb q hq
    exact ⟨by rw [List.getElem?_set_ne fun z => h z.symm]; exact p1, u, by rw [List.getElem?_set_ne fun z => h z.symm]; exact p2, p3⟩
  · obtain ⟨x1, x2, x3⟩ := R1.ext q hq
    refine ⟨x1, x2, fun j u z zo za => ?_⟩
    rcases cs j u z with ⟨rfl, rfl, e⟩ | ⟨hj, z', e⟩
    · rw [e] at za
      cases za
      exact hX q hq rfl
    · rw [e] at za; exact x3 j u z' zo za
/-! a set's comprehension -/
section
variable {Y : Cx} {elt : Expr} {te : TE} {D : Addr}
end
theorem RDn.snoc {K : PySem.W.Frag} {F : Hp} {a : Addr} {k : NestedKey} {d : D} (h1 : RD K F (.ref a) d) (h2 : d.nk = some k ∧ k.depth ≤ 8) : ∀ {ds : List D} {L : List KA}, RDn K F L ds → RDn K F (L ++ [(a, k)]) (ds ++ [d])
  | [], _, h => by cases h; exact .cons h1 h2 .nil
  | e :: es, _, h => by
    cases h with
    | cons g1 g2 g3 => exact .cons g1 g2 (RDn.snoc h1 h2 g3)
section
variable {X : Cx} {g : G} {elt tg iter : Expr} {ifs : List Expr} {gs : List Comprehension} {scope : Scope} {own : List (PySem.Str × Nat)} {pos : Pos} {c : GDt} {cs : List GDt} {fe : En → Rs D} {x : Str} {px pos2 : Pos}
end
end DL

/-! Data layer, part 59: a name's list lent to an expression whose value holds nothing of it. -/
namespace DL
open PySem L2
def hideO (o : Option OV) : Option OV := match o with
  | some u => if u.own = true then none else some u
  | none => none
/-- e, with the list that slot i owns lent to it -/
def bwR (x : Rs D) (r : En) : Rs D := match x with
  | .ok d _ => if d.flt = true then .ok d r else .bad
  | _ => .bad
def bwD (i : Nat) (f : En → Rs D) : En → Rs D := fun r => match r[i]? with
  | some (some (.ow xs)) => bwR (f ((r.map hideO).set i (some (.sh (.lst xs))))) r
  | _ => .bad
/-- what a part is told of the whole: nobody changes anything -/
def G.part (g : G) (F H : Hp) : G := ⟨F, H, [], [], g.w, none, g.xc⟩
section
variable {X : Cx} {g : G} {e : Expr}
end
end DL

/-! Data layer, part 60: dict(zip(xs, ys)); d.get(k, x). -/
namespace DL
open PySem L2
section
variable {X : Cx} {g : G} {e e2 : Expr} {p p2 q pos : Pos} {ps : List Opd}
/-! ### d.get(k, x) -/
def D.isDic : D → Bool
  | .dic _ => true
  | _ => false
/-- no list -/
def D.nol : D → Bool
  | .lst _ => false
  | _ => true
def semGet : D → D → D → Option D
  | .dic ds, k, x => if x.nol = true then k.key.map fun k => (valD ds k).getD x else none
  | _, _, _ => none
def getD2 (p k x : Opd) : En → Rs D := fun r => (p.run r).bind fun z r1 => (ofO ((look r1 z).bind fun d => if d.isDic = true then some d else none) r1).bind fun _ r1 => (k.run r1).bind fun y r2 => (x.run r2).bind fun u r3 =>
  ofO ((look r3 z).bind fun d => (look r3 y).bind fun e => (look r3 u).bind fun c => semGet d e c) r3
end
end DL

/-! Data layer, part 61: {k: v for x in xs if ..}. -/
namespace DL
open PySem L2
def dcS (vs : List Nat) (h : D → En → Option En) (t : En → Rs Bool) (fk fe : En → Rs D) : List D → En → Rs (List (Key × D))
  | [], r => .ok [] r
  | d :: ds, r =>
    match h d (wipeE r vs) with
    | none => .bad
    | some r1 => (t r1).bind fun b r2 => if b = true then (fk r2).bind fun kd r3 => (fe r3).bind fun y r4 => (ofO kd.key r4).bind fun k r5 => (dcS vs h t fk fe ds (wipeE r5 vs)).bind fun ys r6 => .ok ((k, y) :: ys) r6 else dcS vs h t fk fe ds (wipeE r2 vs)
theorem RDk.snocD {K : PySem.W.Frag} {F : Hp} {k : Key} {v : V} {d : D} (h : RD K F v d) : ∀ {vs : List (Key × V)} {ds : List (Key × D)}, RDk K F vs ds → RDk K F (vs ++ [(k, v)]) (ds ++ [(k, d)])
  | _, [], h1 => by cases h1; exact .cons h .nil
  | _, (j, e) :: ds, h1 => by
    cases h1 with
    | cons a b => exact .cons a (RDk.snocD h b)
theorem mergeK_snoc (xs ys : List (Key × V)) (k : Key) (v : V) : mergeK xs (ys ++ [(k, v)]) = putK (mergeK xs ys) k v := by
  unfold mergeK
  rw [List.foldl_append]
  rfl
section
variable {X : Cx} {g : G} {tg iter kx elt : Expr} {ifs : List Expr} {scope : Scope} {pos : Pos}
theorem ps_setDc {i : Nat} {y : Str} {py spos : Pos} {own : List (Str × Nat)} {wi : TI} {gt : TG} {tt : TT} {tk tv : TE} (hc : X.calm = true) (hN : X.N.Nodup) (hy : X.N[i]? = some y) (hyl : X.env.scope.names.lookup y = some .local)
    (hsw : swapsWith (.DictComp kx elt [⟨tg, iter, ifs, 0⟩] scope pos) (some (.Name y py)) spos.line X.env = pure true) (hi : PI X tg iter wi) (ok : BlkOk X.N X.env.scope scope own)
    (hg : ∀ (s : Shared) (H : Hp) (C : Addr) (cl : List (Str × Addr)) (fp : List Addr), PG (X.blk s H scope (compEnvC scope cl C X.env) fp) tg gt) (ht : ∀ (s : Shared) (H : Hp) (C : Addr) (cl : List (Str × Addr)) (fp : List Addr), PTs (X.blk s H scope (compEnvC scope cl C X.env) fp) ifs tt)
    (hk : ∀ (s : Shared) (H : Hp) (C : Addr) (cl : List (Str × Addr)) (fp : List Addr), PE (X.blk s H scope (compEnvC scope cl C X.env) fp) kx tk)
    (he : ∀ (s : Shared) (H : Hp) (C : Addr) (cl : List (Str × Addr)) (fp : List Addr), PE (X.blk s H scope (compEnvC scope cl C X.env) fp) elt tv) (hs : ∀ x, foldedSetIterable iter X.env x = pure x := by intro _; rfl) :
    PS X (.Assign [.Name y py] (.DictComp kx elt [⟨tg, iter, ifs, 0⟩] scope pos) spos) (tAsg (tDc wi gt tt tk tv (own.map (·.2))) (gName i)) := by
  refine ⟨fun pins s σ H D I h => ?_⟩
  rw [exec_Assign_Name_used _ _ _ _ hsw]
  refine wpAny_bind (wpAny_standAt (wpAny_bind ?_))
  show wpAny _ X.A (do let _ ← comprehension (.DictComp kx elt [⟨tg, iter, ifs, 0⟩] scope pos) scope X.env (firstIterPos [⟨tg, iter, ifs, 0⟩] pos) newDict false (eval iter X.env) (some (assign (.Name y py) X.env))) _ _ s
  have h : tDc wi gt tt tk tv (own.map (·.2)) σ H (fun x H1 => gName i x σ H1 D.nx) := h
  refine wpAny_bind (thn (dc_core (Qf := fun _ s' => SP X pins D .next s') hc hN I hi ok hg ht hk he hs h fun L C s' m H' I' q hn f => ?_) fun _ s' hq => wpAny_pure (wpAny_pure hq))
  show wpAny _ _ (assign (.Name y py) X.env (.ref L)) _ _ _
  refine wpAny_assign_Name (store_ok2 (v := V.ref L) I' hN hy (.inl hyl) rfl (fun s2 I2 ⟨a, sb, ha⟩ => ?_) (.inr hyl))
  obtain ⟨f0, f1, f2, f3, f4, f5⟩ := f
  have haC : C ≠ a := by
    rcases ha with z | z
    · rw [z]; exact f1
    · exact fun e => f4 y a z e.symm
  refine ⟨m, hn.sameBut sb haC, fun h3 sb3 => ?_⟩
  exact ⟨_, H', I2.turned (t' := s2.toks) (fun b o hb e => (sb3.2 b hb).trans e) f0 f1 f3 f4 f5, q⟩
theorem sw_trueD {gs : List Comprehension} {py : Pos} {y : Str} {l : Nat} {env : Env} (hk : env.scope.kind = .function) (hy : env.scope.names.lookup y = some .local) (hl : (py.line == pos.line) = true)
    (ha : (scope.names.any fun (n, k) => n == y && (k == .local || k == .cell)) = false) : swapsWith (.DictComp kx elt gs scope pos) (some (.Name y py)) l env = pure true := by
  have ky : env.kindOf y = some .local := hy
  have hb : env.blockKind = .function := by unfold Env.blockKind; rw [hk]; rfl
  unfold swapsWith
  simp only [hb, ky, ha, Expr.pos, hl]
  rfl
end
end DL

/-! Data layer, part 62: len(set(xs)), xs of tuples. -/
namespace DL
open PySem PySem.Spec PyProof L2
section
variable {X : Cx} {g : G} {e : Expr} {pos : Pos}
end
end DL

/-! Data layer, part 63: dicts with texts or numbers as keys that a name owns: x = {}, x = {k: v for ..}, x[e] = f, x[e], len(x), the dict handed out. -/
namespace DL
open PySem L2
section
variable {X : Cx} {g : G} {x : Str} {p pos px : Pos} {i : Nat} {e ei : Expr}
/-- what a slot owns is changed -/
theorem Rel.chgTh {K : PySem.W.Frag} {F H : Hp} {s : St} {r : En} {t t' : Tg} {a : Addr} {o' : HO} (R : Rel K g F H s r) (e : r[i]? = some (some (.th t))) (hs : s[i]? = some (some (.ref a))) (fa : F a = none) (hv : RT K g.w F a o' t') :
    Rel K g F (L2.upd H a o') s (r.set i (some (.th t'))) := by
  have hi : i < r.length := (List.getElem?_eq_some_iff.mp e).1
  have cs : ∀ (j : Nat) (u : OV), (r.set i (some (.th t')))[j]? = some (some u) → (j = i ∧ u = .th t') ∨ (j ≠ i ∧ r[j]? = some (some u)) := fun j u z => by
    by_cases hj : i = j
    · subst hj
      rw [List.getElem?_set_self hi] at z
      cases z
      exact .inl ⟨rfl, rfl⟩
    · rw [List.getElem?_set_ne hj] at z
      exact .inr ⟨fun z => hj z.symm, z⟩
  have ow1 : ∀ (j : Nat) (u : OV), (r.set i (some (.th t')))[j]? = some (some u) → u.own = true → ∃ u', r[j]? = some (some u') ∧ u'.own = true := fun j u z zo => by
    rcases cs j u z with ⟨rfl, rfl⟩ | ⟨_, z'⟩
    · exact ⟨_, e, rfl⟩
    · exact ⟨u, z', zo⟩
  refine ⟨fun b u eb => ?_, R.f0, R.fnew, fun b u eb hb => ?_, fun j u ej => ?_, fun j u b ej eo es => ?_, fun j k u w b hjk ej eo ek ek' => ?_, fun p hp => ?_, by rw [List.length_set]; exact R.len, fun p hp => ?_⟩
  · rw [upd_ne fun z => by rw [z, fa] at eb; cases eb]; exact R.sub b u eb
  · rw [upd_ne fun z => ?_]
    · exact R.keep b u eb hb
    · subst z
      rcases R.own i _ b e rfl hs with q | q
      · rw [q] at eb; cases eb
      · exact hb _ q rfl
  · rcases cs j u ej with ⟨rfl, rfl⟩ | ⟨hj, ej⟩
    · exact ⟨_, hs, a, o', rfl, fa, upd_same, hv⟩
    · obtain ⟨v, h1, h2⟩ := R.slot j u ej
      refine ⟨v, h1, ?_⟩
      cases u with
      | sh d => exact h2
      | ow ys =>
        obtain ⟨b, ws, rfl, b2, b3, b4⟩ := h2
        exact ⟨b, ws, rfl, b2, by rw [upd_ne fun z => R.dist j i _ _ a hj ej rfl e rfl (by rw [h1, z]) hs]; exact b3, b4⟩
      | od ys =>
        obtain ⟨b, ws, rfl, b2, b3, b4⟩ := h2
        exact ⟨b, ws, rfl, b2, by rw [upd_ne fun z => R.dist j i _ _ a hj ej rfl e rfl (by rw [h1, z]) hs]; exact b3, b4⟩
      | oi c ys =>
        obtain ⟨b, ws, rfl, b2, b3, b4⟩ := h2
        exact ⟨b, ws, rfl, b2, by rw [upd_ne fun z => R.dist j i _ _ a hj ej rfl e rfl (by rw [h1, z]) hs]; exact b3, b4⟩
      | th ys =>
        obtain ⟨b, ws, rfl, b2, b3, b4⟩ := h2
        exact ⟨b, ws, rfl, b2, by rw [upd_ne fun z => R.dist j i _ _ a hj ej rfl e rfl (by rw [h1, z]) hs]; exact b3, b4⟩
      | exc c => exact h2
  · obtain ⟨u', e1, e2⟩ := ow1 j u ej eo
    exact R.own j u' b e1 e2 es
  · obtain ⟨u', e1, e2⟩ := ow1 j u ej eo
    obtain ⟨w', e3, e4⟩ := ow1 k w ek ek'
    exact R.dist j k u' w' b hjk e1 e2 e3 e4
  · obtain ⟨p1, u, p2, p3⟩ := R.pin p hp
    refine ⟨p1, ?_⟩
    by_cases hj : i = p.1
    · exact ⟨.th t', by rw [← hj]; exact List.getElem?_set_self hi, rfl⟩
    · exact ⟨u, by rw [List.getElem?_set_ne hj]; exact p2, p3⟩
  · obtain ⟨x1, x2, x3⟩ := R.ext p hp
    refine ⟨by rw [upd_ne fun z => x3 i _ e rfl (by rw [hs, z])]; exact x1, x2, fun j u ej eo => ?_⟩
    obtain ⟨u', e1, e2⟩ := ow1 j u ej eo
    exact x3 j u' e1 e2
/-- what a slot owned, the slot forgotten, is nobody's and held still -/
theorem Rel.freeTh {K : PySem.W.Frag} {F H : Hp} {s : St} {r : En} {t : Tg} {a : Addr} {o : HO} (R : Rel K g F H s r) (hb : ∀ p ∈ g.B, p.1 ≠ i) (e : r[i]? = some (some (.th t))) (hs : s[i]? = some (some (.ref a))) (fa : F a = none) (ha : H a = some o) :
    g.H0 a = none ∧ (∀ p ∈ g.X, p.1 ≠ a) ∧ Rel K (g.more a o) F H s (wipeE r [i]) := by
  have h0 : g.H0 a = none := by
    rcases R.own i _ a e rfl hs with z | z
    · exact z
    · exact absurd rfl (hb _ z)
  have R' : Rel K g F H s (wipeE r [i]) := R.forget (fun p hp z => hb p hp (List.mem_singleton.mp z)) rfl fun _ _ => rfl
  refine ⟨h0, fun p hp z => (R.ext p hp).2.2 i _ e rfl (by rw [hs, z]), R'.more ha fa fun j u ej eo z => ?_⟩
  obtain ⟨e5, e6⟩ := wipeE_some ej
  exact R.dist i j _ _ a (fun z => e6 (List.mem_singleton.mpr z.symm)) e rfl e5 eo hs z
/-- x = {} -/
def newDk (i : Nat) : En → SRs := fun r => .nx (r.set i (some (.th (.dk []))))
/-- the dict of a slot -/
def OV.dk? : OV → Option (List (Key × D))
  | .th (.dk kvs) => some kvs
  | _ => none
def slDk (r : En) (i : Nat) : Option (List (Key × D)) := (r[i]?).bind fun o => o.bind OV.dk?
theorem slDk_some {r : En} {kvs : List (Key × D)} (h : slDk r i = some kvs) : r[i]? = some (some (.th (.dk kvs))) := by
  unfold slDk at h
  obtain ⟨o, e1, h⟩ := Option.bind_eq_some_iff.mp h
  obtain ⟨u, e2, h⟩ := Option.bind_eq_some_iff.mp h
  subst e2
  rw [e1]
  cases u with
  | th t =>
    cases t with
    | dk ks => cases h; rfl
    | st ds => cases h
  | _ => cases h
/-- x[e] = f -/
def putDk (i : Nat) (fi f : En → Rs D) : En → SRs := fun r => thenS (f r) fun d r1 => thenS (fill r1 i) fun _ r1 => thenS (fi r1) fun kd r2 =>
  thenS (ofO ((slDk r2 i).bind fun kvs => if kvs.length ≤ 1000000 then kd.key.map fun k => putD kvs k d else none) r2) fun kvs r2 => .nx (r2.set i (some (.th (.dk kvs))))
theorem ds_putDk {fi f : En → Rs D} {sp : Pos} (hu : X.A.units + 65 < cLine) (hv : PE X (.Name x p) (tVar i)) (hi : DE X g ei fi) (h : DE X g e f) (hs : swapsWithSole [.Subscript (.Name x p) ei sp] e pos.line X.env = pure false := by rfl) (hw : swappedStores [.Subscript (.Name x p) ei sp] e X.env = pure none := by rfl)
    (h1 : (assignEach [.Subscript (.Name x p) ei sp] X.env).map (·.2) = [assign (.Subscript (.Name x p) ei sp) X.env] := by rfl)
    (ha : ∀ v, assign (.Subscript (.Name x p) ei sp) X.env v = (do
      let ov ← holding [v] (eval (.Name x p) X.env)
      let iv ← holding [v, ov] (eval ei X.env)
      standAt sp
      holding [v, ov, iv] (setItem ov iv v)
      release [v, ov, iv] []) := by intro _; rfl) : DS X g (.Assign [.Subscript (.Name x p) ei sp] e pos) (putDk i fi f) :=
  PS.imp (ps_asg h (pg_sub hv hi (set_dict (by omega)) ha) hs hw h1) fun E s H ⟨F, r, R, q⟩ => ⟨F, r, R, post_mono (post_then q) fun d r1 q F1 H1 w sm R1 hw => by
    obtain ⟨⟨o, e0⟩, q⟩ := post_fill (post_then q)
    obtain ⟨v, h1, _⟩ := R1.slot i o e0
    refine ⟨v, h1, F1, r1, R1, post_mono (post_then q) fun kd r2 q F2 H2 vk sm2 R2 hk => ?_⟩
    obtain ⟨kvs', e1, q⟩ := post_ofO (post_then q)
    obtain ⟨kvs, e2, e1⟩ := Option.bind_eq_some_iff.mp e1
    have e2 := slDk_some e2
    split at e1
    · next hl =>
      obtain ⟨k, ek, rfl⟩ := Option.map_eq_some_iff.mp e1
      obtain ⟨v', g1, a, o', rfl, fa, ha', vs, rfl, hm⟩ := R2.slot i _ e2
      rw [h1] at g1
      cases g1
      refine ⟨a, _, rfl, .inl ⟨vs, k, ha', key_of hk ek, by rw [RDk.length hm, sizeLine_eq]; omega, rfl⟩, ?_⟩
      have m : RDk X.K F2 (putK vs k w) (putD kvs k d) := RDk.put (RD.mono sm2 d hw) hm
      exact q F2 _ s (sm.trans sm2) (R2.chgTh e2 h1 fa ⟨_, rfl, m⟩)
    · cases e1⟩
/-! ### read, counted, handed out -/
/-- x[e] -/
def getDk (i : Nat) (f : En → Rs D) : En → Rs D := fun r => (fill r i).bind fun _ r => (f r).bind fun kd r1 => ofO ((slDk r1 i).bind fun kvs => kd.key.bind fun k => valD kvs k) r1
def rDkGet : V → V → Hp → VK → Prop := fun x y H Q => ∃ a vs k v, x = .ref a ∧ H a = some (.dK vs) ∧ y = kV k ∧ valV vs k = some v ∧ Q v H
theorem ix_dk (hu : X.A.units + 65 < cLine) : IxR X rDkGet := by
  intro value slice pins s sg H x y v u Q I rx ry h hs
  obtain ⟨a, vs, k, w, rfl, ha, rfl, ev, q⟩ := h
  obtain rfl : v = Value.ref a := rx
  have gt : DGet H a (kV k) (some w) := .inl ⟨vs, k, .inl ha, rfl, ev.symm⟩
  exact PyProof.Rows.tail_any (dict_typeIs I gt) PySem.F.slot_dict_getitem.lookup (d_getItem (by omega) I gt ry fun w' s' I' rw' => ⟨w, H, I', rw', q⟩) hs
/-- len(x) -/
def lenDk (i : Nat) : En → Rs D := fun r => ofO ((slDk r i).map fun kvs => .int (kvs.length : Nat)) r
def rDkLen : List V → Hp → VK → Prop := fun vs H Q => ∃ a ks, vs = [.ref a] ∧ H a = some (.dK ks) ∧ Q (.int (ks.length : Nat)) H
theorem cr_lenDk : CallR X (.builtin "len") rDkLen := by
  intro pins s σ H vs us Q I r h
  obtain ⟨a, ks, rfl, ha, q⟩ := h
  rw [Vals.ref1 r]
  exact d_len I (.inl ha) fun t s' I' => ⟨.int (ks.length : Nat), H, I', ⟨_, rfl⟩, q⟩
theorem de_lenDk {p1 : Pos} (hm1 : X.mg "len" = none) (hv : PE X (.Name x p) (tVar i)) (hg1 : Gl X "len" := by rfl)
    (he : starEach [.Name x p] X.env = (false, eval (.Name x p) X.env) :: starEach [] X.env := by rfl) : DE X g (.Call (.Name "len" p1) [.Name x p] [] pos) (lenDk i) := by
  refine PE.imp (pe_callB cr_lenDk hg1 hm1 (by decide +kernel) (pa_cons hv pa_nil he) (he := he)) fun s H Q ⟨F, r, R, q⟩ => ?_
  obtain ⟨d, e, q⟩ := post_ofO q
  obtain ⟨kvs, e1, rfl⟩ := Option.map_eq_some_iff.mp e
  obtain ⟨v, h1, a, o, rfl, fa, ha, vs, rfl, hm⟩ := R.slot i _ (slDk_some e1)
  refine ⟨_, h1, a, vs, rfl, ha, ?_⟩
  rw [RDk.length hm]
  exact q F H _ (Same.refl _) R (.int _)
/-- return x: locked, the name empty -/
def frzDk (i : Nat) : En → Rs D := fun r => ofO (slDk r i) r |>.bind fun kvs r1 => .ok (.dic kvs) (wipeE r1 [i])
theorem de_frzDk (hb : ∀ p ∈ g.B, p.1 ≠ i) (hv : PE X (.Name x p) (tVar i)) : DE X g (.Name x p) (frzDk i) :=
  PE.imp (pe_lk hv) fun s H Q ⟨F, r, R, q⟩ => by
    obtain ⟨kvs, e1, q⟩ := post_ofO (post_bind q)
    have e1 := slDk_some e1
    obtain ⟨v, h1, a, o, rfl, fa, ha, vs, rfl, hm⟩ := R.slot i _ e1
    refine ⟨_, h1, a, _, ha, trivial, fun od => ?_⟩
    obtain ⟨h0, hX, R'⟩ := R.freeTh hb e1 h1 fa ha
    obtain ⟨sF, R3⟩ := R'.fill (o' := .frz od (.dK vs)) h0 hX
    exact q _ _ _ sF R3 (.dic upd_same (RDk.mono sF _ hm))
theorem de_getDk {f : En → Rs D} (hu : X.A.units + 65 < cLine) (hv : PE X (.Name x p) (tVar i)) (h : DE X g e f) (hs : PlainIx e) : DE X g (.Subscript (.Name x p) e pos) (getDk i f) :=
  PE.imp (pe_ix (ix_dk hu) hv h hs) fun s H Q ⟨F, r, R, q⟩ => by
    obtain ⟨⟨o, e0⟩, q⟩ := post_fill (post_bind q)
    obtain ⟨v, h1, _⟩ := R.slot i o e0
    refine ⟨v, h1, F, r, R, post_mono (post_bind q) fun kd r1 q F1 H1 w sm R1 hw => ?_⟩
    obtain ⟨d, e1, q⟩ := post_ofO q
    obtain ⟨kvs, e2, e1⟩ := Option.bind_eq_some_iff.mp e1
    obtain ⟨k, ek, e1⟩ := Option.bind_eq_some_iff.mp e1
    obtain ⟨v', g1, a, o', rfl, fa, ha', vs, rfl, hm⟩ := R1.slot i _ (slDk_some e2)
    rw [h1] at g1
    cases g1
    obtain ⟨w1, ew, hw1⟩ := hm.find.1 d e1
    exact ⟨a, vs, k, w1, rfl, ha', key_of hw ek, ew, q F1 H1 w1 sm R1 hw1⟩
end
section
variable {X : Cx} {g : G} {tg iter kx elt : Expr} {ifs : List Expr} {scope : Scope} {pos : Pos}
/-- x = {k: v for ..}, the name owns it -/
def dkS (i : Nat) (f : En → Rs (List D)) (vs : List Nat) (h : D → En → Option En) (t : En → Rs Bool) (fk fe : En → Rs D) : En → SRs := fun r => thenS (f r) fun ds r1 => thenS (ofO (if ds.length ≤ 1000 then some () else none) r1) fun _ r1 => thenS (dcS vs h t fk fe ds r1).noE fun ys r2 => .nx ((wipeE r2 vs).set i (some (.th (.dk (mergeD [] ys)))))
def DkI (K : PySem.W.Frag) (g : G) (F1 : Hp) (s : St) (E : Ends) (n : Nat) (A : Addr) (vs : List Nat) (h : D → En → Option En) (t : En → Rs Bool) (fk fe : En → Rs D) (ds : List D) (i : Nat) (H2 : Hp) : Prop :=
  ∃ F2 r2 acc vacc, Same F1 F2 ∧ Rel K g F2 H2 s r2 ∧ H2 A = some (.dK (mergeK [] vacc)) ∧ F2 A = none ∧ (∀ (j : Nat) (o : OV), r2[j]? = some (some o) → o.own = true → s[j]? ≠ some (some (.ref A))) ∧ RDk K F2 vacc acc ∧ acc.length ≤ i ∧
    post K g.nw (fun ys r3 => SPost K g F1 E (.nx ((wipeE r3 vs).set n (some (.th (.dk (mergeD [] (acc ++ ys)))))))) (dcS vs h t fk fe (ds.drop i) r2)
theorem dk_imp {K : PySem.W.Frag} {n : Nat} {vs ks : List Nat} {f : En → Rs (List D)} {h : D → En → Option En} {t : En → Rs Bool} {fk fe : En → Rs D} {s : St} {H : Hp} {E : Ends} (hbn : ∀ p ∈ g.B, p.1 ≠ n) (hb : ∀ p ∈ g.B, p.1 ∉ vs) (hks : ∀ i ∈ ks, i ∈ vs) (h0 : tSD K g (dkS n f vs h t fk fe) E s H) :
    tDc (tID K g f) (fun v s H Q => ∃ g' : G, Blk g g' ∧ tGD K g' ks h v s H Q) (fun s H Q => ∃ g' : G, Blk g g' ∧ tTD K g' t s H Q) (fun s H Q => ∃ g' : G, Blk g g' ∧ tD K g' fk s H Q) (fun s H Q => ∃ g' : G, Blk g g' ∧ tD K g' fe s H Q) vs s H (fun v H' => E.nx (s.set n (some v)) H') := by
  obtain ⟨F, r, R, q⟩ := h0
  refine ⟨F, r, R, post_mono (post_then q) fun ds r1 q F1 H1 J sm R1 wk => ?_⟩
  obtain ⟨_, hl0, q⟩ := post_ofO (post_then q)
  have hl : ds.length ≤ 1000 := by
    split at hl0
    · assumption
    · cases hl0
  have q : post K g.nw _ _ := post_noE (post_then q)
  intro A nA
  have hA0 : g.H0 A = none := R1.live nA
  have hAX : ∀ p ∈ g.X, p.1 ≠ A := fun p hp z => by have := (R1.ext p hp).1; rw [z, nA] at this; cases this
  refine ⟨fun i m H2 => m = ds.length - i ∧ i ≤ ds.length ∧ DkI K g F1 s E n A vs h t fk fe ds i H2, ⟨ds.length, rfl, Nat.zero_le _, F1, r1, [], [], Same.refl _, R1.laid nA, upd_same, R1.ff nA, fun j o e eo => not_own R1 nA j o e eo, .nil, Nat.le_refl _, ?_⟩, ?_⟩
  · rw [List.drop_zero]
    exact post_mono q fun ys r3 q F3 H3 s3 sm3 R3 => q F3 H3 s3 (sm.trans sm3) R3
  rintro i m H2 ⟨rfl, hi2, F2, r2, acc, vacc, sm2, R2, hA, hFA, hAo, hacc, hal, q2⟩
  obtain ⟨w1, w2⟩ := wk g F2 H2 s r2 rfl sm2 R2
  by_cases hlt : i < ds.length
  · have ed : ds[i]? = some ds[i] := List.getElem?_eq_getElem hlt
    obtain ⟨go, yl⟩ := w1 i _ ed
    rw [List.drop_eq_getElem_cons hlt] at q2
    refine .inr ⟨go, fun H3 => DkI K g F1 s E n A vs h t fk fe ds (i + 1) H3, fun H3 hh => ⟨ds.length - (i + 1), by omega, rfl, hlt, hh⟩, fun x H3 hy => ?_⟩
    -- the turn, with the dict at A held still
    have R2m : Rel K (g.more A (.dK (mergeK [] vacc))) F2 H2 s r2 := R2.more hA hFA hAo
    obtain ⟨w1m, _⟩ := wk (g.more A (.dK (mergeK [] vacc))) F2 H2 s r2 rfl sm2 R2m
    obtain ⟨F3, sm3, R3, hx⟩ := (w1m i _ ed).2 x H3 hy
    have R3w : Rel K (g.more A (.dK (mergeK [] vacc))) F3 H3 (wipe s vs) (wipeE r2 vs) := R3.forget hb (wipe_length _ _) fun i hi => wipe_keep hi
    have q3 : post K g.nw (fun ys r3 => SPost K g F1 E (.nx ((wipeE r3 vs).set n (some (.th (.dk (mergeD [] (acc ++ ys)))))))) (match h ds[i] (wipeE r2 vs) with
      | none => .bad
      | some r1 => (t r1).bind fun b r2 => if b = true then (fk r2).bind fun kd r3 => (fe r3).bind fun y r4 => (ofO kd.key r4).bind fun k r5 => (dcS vs h t fk fe (ds.drop (i + 1)) (wipeE r5 vs)).bind fun ys r6 => .ok ((k, y) :: ys) r6 else dcS vs h t fk fe (ds.drop (i + 1)) (wipeE r2 vs)) := q2
    cases eh : h ds[i] (wipeE r2 vs) with
    | none => rw [eh] at q3; exact q3.elim
    | some r3 =>
      rw [eh] at q3
      refine ⟨(g.more A (.dK (mergeK [] vacc))).nw, ⟨rfl, rfl, rfl, rfl⟩, F3, _, ds[i], r3, R3w.nw, hx, eh, fun s4 ag R4 => ⟨agr_wipe ag hks, (g.more A (.dK (mergeK [] vacc))).nw, ⟨rfl, rfl, rfl, rfl⟩, F3, r3, R4, post_mono (post_w (post_bind q3)) fun b r4 q4 F4 H4 sm4 R4' => ?_⟩⟩
      have wkeep : ∀ i, i ∉ vs → s[i]? = s4[i]? := fun i hi => by rw [ag.2 i fun z => hi (hks i z), wipe_keep hi]
      have hl4 : s.length = s4.length := by rw [ag.1, wipe_length]
      have sm14 : Same F1 F4 := (sm2.trans sm3).trans sm4
      cases b with
      | false =>
        obtain ⟨R5, a1, a2, a3⟩ := R4'.unw.less
        refine ⟨F4, wipeE r4 vs, acc, vacc, sm14, R5.forget hb hl4 wkeep, a1, a2, fun j o e eo => ?_, RDk.mono (sm3.trans sm4) acc hacc, by omega, q4⟩
        obtain ⟨e1, e2⟩ := wipeE_some e
        rw [wkeep j e2]
        exact a3 j o e1 eo
      | true =>
        refine ⟨(g.more A (.dK (mergeK [] vacc))).nw, ⟨rfl, rfl, rfl, rfl⟩, F4, r4, R4', post_mono (post_w (post_bind q4)) fun kd r5 q5 F5 H5 kv sm5 R5k hkv => ?_⟩
        refine ⟨(g.more A (.dK (mergeK [] vacc))).nw, ⟨rfl, rfl, rfl, rfl⟩, F5, r5, R5k, post_mono (post_w (post_bind q5)) fun y r6 q6 F6 H6 v sm6 R6' hv => ?_⟩
        obtain ⟨k, ek, q6⟩ := post_ofO (post_bind q6)
        have R6' := R6'.unw
        have a1 := R6'.less.2.1
        have a2 := R6'.less.2.2.1
        have a3 := R6'.less.2.2.2
        have sm16 : Same F1 F6 := (sm14.trans sm5).trans sm6
        have hacc6 := RDk.mono (((sm3.trans sm4).trans sm5).trans sm6) acc hacc
        have hlen : (mergeK [] vacc).length ≤ 1000 := by
          have := length_mergeK vacc []
          rw [RDk.length hacc] at this
          simp only [List.length_nil] at this
          omega
        refine ⟨mergeK [] vacc, k, key_of hkv ek, a1, by rw [sizeLine_eq]; omega, F6, wipeE r6 vs, acc ++ [(k, y)], vacc ++ [(k, v)], sm16, (R6'.grow hA0 hAX).forget hb hl4 wkeep, by rw [mergeK_snoc]; exact upd_same, a2, fun j o e eo => ?_, RDk.snocD hv hacc6, by rw [List.length_append]; simp; omega, ?_⟩
        · obtain ⟨e1, e2⟩ := wipeE_some e
          rw [wkeep j e2]
          exact a3 j o e1 eo
        · refine post_mono (post_bind q6) fun ys r7 q7 => ?_
          have q7 : SPost K g F1 E (.nx ((wipeE r7 vs).set n (some (.th (.dk (mergeD [] (acc ++ (k, y) :: ys))))))) := q7
          rw [List.append_assoc]
          exact q7
  · rw [List.drop_of_length_le (by omega)] at q2
    have q2 : SPost K g F1 E (.nx ((wipeE r2 vs).set n (some (.th (.dk (mergeD [] (acc ++ []))))))) := q2
    rw [List.append_nil] at q2
    refine .inl ⟨w2 i (by omega), q2 F2 H2 (s.set n (some (.ref A))) sm2 (Rel.setTh (R2.forget hb rfl fun _ _ => rfl) hbn hA hFA hA0 hAX (fun j o e eo => ?_) ⟨_, rfl, RDk.merge .nil hacc⟩)⟩
    obtain ⟨e1, e2⟩ := wipeE_some e
    exact hAo j o e1 eo
/-- name = {..} on one line, the name a plain local that owns it -/
theorem ds_setDk {i : Nat} {y : Str} {py spos : Pos} {own : List (Str × Nat)} {vs ks : List Nat} {f : En → Rs (List D)} {h : D → En → Option En} {t : En → Rs Bool} {fk fe : En → Rs D} (hbi : ∀ p ∈ g.B, p.1 ≠ i) (hc : X.calm = true) (hN : X.N.Nodup) (hi : DI X g tg iter f) (ok : BlkOk X.N X.env.scope scope own)
    (hvs : own.map (·.2) = vs) (hb : ∀ p ∈ g.B, p.1 ∉ vs) (hks : ∀ i ∈ ks, i ∈ vs)
    (hg : ∀ (s : Shared) (H : Hp) (C : Addr) (cl : List (Str × Addr)) (fp : List Addr) (g' : G), Blk g g' → DG (X.blk s H scope (compEnvC scope cl C X.env) fp) g' tg ks h)
    (ht : ∀ (s : Shared) (H : Hp) (C : Addr) (cl : List (Str × Addr)) (fp : List Addr) (g' : G), Blk g g' → PTs (X.blk s H scope (compEnvC scope cl C X.env) fp) ifs (tTD X.K g' t))
    (hk : ∀ (s : Shared) (H : Hp) (C : Addr) (cl : List (Str × Addr)) (fp : List Addr) (g' : G), Blk g g' → DE (X.blk s H scope (compEnvC scope cl C X.env) fp) g' kx fk)
    (he : ∀ (s : Shared) (H : Hp) (C : Addr) (cl : List (Str × Addr)) (fp : List Addr) (g' : G), Blk g g' → DE (X.blk s H scope (compEnvC scope cl C X.env) fp) g' elt fe)
    (hsw : swapsWith (.DictComp kx elt [⟨tg, iter, ifs, 0⟩] scope pos) (some (.Name y py)) spos.line X.env = pure true) (hy : X.N[i]? = some y := by rfl) (hyl : X.env.scope.names.lookup y = some .local := by rfl) (hs : ∀ x, foldedSetIterable iter X.env x = pure x := by intro _; rfl) :
    DS X g (.Assign [.Name y py] (.DictComp kx elt [⟨tg, iter, ifs, 0⟩] scope pos) spos) (dkS i f vs h t fk fe) := by
  subst hvs
  refine PS.imp (ps_setDc hc hN hy hyl hsw hi ok (gt := fun v s H Q => ∃ g' : G, Blk g g' ∧ tGD X.K g' ks h v s H Q) (tt := fun s H Q => ∃ g' : G, Blk g g' ∧ tTD X.K g' t s H Q) (tk := fun s H Q => ∃ g' : G, Blk g g' ∧ tD X.K g' fk s H Q) (tv := fun s H Q => ∃ g' : G, Blk g g' ∧ tD X.K g' fe s H Q)
    (fun s H C cl fp => ⟨fun pins s2 σ H2 v u Q I rv ⟨g', eg, q⟩ => (hg s H C cl fp g' eg).run pins s2 σ H2 v u Q I rv q⟩)
    (fun s H C cl fp => ⟨fun pins s2 σ H2 Q I ⟨g', eg, q⟩ => (ht s H C cl fp g' eg).run pins s2 σ H2 Q I q⟩)
    (fun s H C cl fp => ⟨fun pins s2 σ H2 Q I ⟨g', eg, q⟩ => (hk s H C cl fp g' eg).run pins s2 σ H2 Q I q⟩)
    (fun s H C cl fp => ⟨fun pins s2 σ H2 Q I ⟨g', eg, q⟩ => (he s H C cl fp g' eg).run pins s2 σ H2 Q I q⟩) hs) fun E s H h0 => dk_imp hbi hb hks h0
end
end DL

/-! Data layer, part 64: C(k = v, ..), all of __init__'s keyword-only parameters given, in their order. -/
namespace DL
open PySem L2
structure HasK (P : Program) (w : World) (K : PySem.W.Frag) (mg : Str → Option Value) (base : Heap) (k : Nat) (c : Str) (ks : List Str) (f : List D → FI) : Prop where
  ex : ∃ C fa fd ps, FnG P w K mg base (L2.CX P w) k fa fd ps (spI K c ks.length f) ∧ mg c = some (.ref C) ∧ ClsAt K c C ∧ Mk K C fa ∧ KBn K fd ps 1 ks (fun us ws => us ++ ws) (fun vs zs => vs ++ zs)
theorem PK.imp {X : Cx} {e : List Keyword} {t t' : TA} (h : PK X e t) (i : ∀ s H Q, t' s H Q → t s H Q) : PK X e t' := ⟨fun pos pins s σ H Q I q => h.run pos pins s σ H Q I (i σ H Q q)⟩
section
variable {X : Cx} {g : G} {CX : CXT} {k n : Nat} {f C : Addr} {fd : FuncData} {ps ks : List Str} {sp : Sp} {E : St → XK} {x c : Str} {p pos kpos : Pos} {e : Expr} {kws : List Keyword} {tk : TA} {nm : Option Str}
end
end DL

/-! Data layer, part 65: self.a, self.b = e, f. -/
namespace DL
open PySem L2
section
variable {X : Cx} {g : G} {a b o : Expr} {p p2 pos pos1 pos2 pt pt2 : Pos} {c f f1 f2 n : Str} {i kt k2 : Nat}
def putFs (i : Nat) (c f : Str) (d : D) (r : En) : Option En := match r[i]? with
  | some (some (OV.oi c' fs)) => if c' = c ∧ fs.length < 900 then some (r.set i (some (.oi c (putFd f d fs)))) else none
  | _ => none
def fld2S (i : Nat) (c f1 f2 : Str) (h1 h2 : En → Rs D) : En → SRs := fun r => thenS (h1 r) fun d1 r1 => thenS (h2 r1) fun d2 r2 => thenS (ofO ((putFs i c f1 d1 r2).bind fun r3 => putFs i c f2 d2 r3) r2) fun r4 _ => .nx r4
end
end DL

/-! Data layer, part 66: isinstance(e, C), C a class of the program whose instances have no classes below it. -/
namespace DL
open PySem L2
def dTys : List String := ["NoneType", "bool", "int", "str", "list", "tuple", "dict"]
structure IsoOk (K : PySem.W.Frag) (mg : Str → Option Value) (c : Str) : Prop where
  ex : ∃ C, mg c = some (.ref C) ∧ ClsAt K c C ∧ C8.InsC K C ∧ ∀ T ∈ dTys, PySem.W.kitOne K (.type T) (.ref C) = some false
def isoB (c : Str) : D → Option Bool
  | .scr _ => none
  | .obj c' _ => if c' = c then some true else none
  | _ => some false
def isoD (p : Opd) (c : Str) : En → Rs D := fun r => (p.run r).bind fun x r1 => ofO (((look r1 x).bind (isoB c)).map D.bl) r1
section
variable {X : Cx} {g : G} {e : Expr} {p : Opd} {pos : Pos}
end
end DL

/-! Data layer, part 67: min(xs) of a list of whole numbers; e is not True. -/
namespace DL
open PySem L2
section
variable {X : Cx} {g : G}
end
end DL

/-! Data layer, part 68: == of instances by their own __eq__, & by their own __and__. -/
namespace DL
open PySem L2
section
variable {X : Cx} {CX : CXT} {k : Nat} {f C : Addr} {fd : FuncData} {ps : List Str} {sp : Sp} {E : St → XK} {pos : Pos} {a b : Expr} {ta tb : TE}
/-- the type of what stands to the right does not come first -/
def TyN (X : Cx) (C : Addr) (y : V) (H : Hp) : Prop := ∃ t, TyX X.K H y t ∧ PySem.W.notFirst X.K C t = true
end
/-- an instance of c -/
def isC (c : Str) : D → Bool
  | .obj c' _ => decide (c' = c)
  | _ => false
/-- what may stand to the right of an own == -/
def eqArg (c : Str) : D → Bool
  | .obj c' _ => decide (c' = c)
  | .scr _ => false
  | _ => true
def opM (c : Str) (ok : D → Bool) (f : List D → FR) (fo fe : En → Rs D) : En → Rs OV := fun r => (fo r).bind fun x r1 => (fe r1).bind fun y r2 => if (isC c x && ok y) = true then frR (f [x, y]) r2 else .bad
structure EqOk (K : PySem.W.Frag) (c : Str) : Prop where
  ex : ∃ C, ClsAt K c C ∧ C8.InsC K C ∧ ∀ T ∈ dTys, PySem.W.subIn K (.type T) (.ref C) = some false
theorem EqOk.ty {X : Cx} {c : Str} {C : Addr} (h : EqOk X.K c) (hcl : ClsAt X.K c C) {F H : Hp} {y : V} {dy : D} (sub : Same F H) (hy : RD X.K F y dy) (ho : eqArg c dy = true) : TyN X C y H := by
  obtain ⟨C', h1, IC, hT⟩ := h.ex
  cases hcl.inj h1
  have tyB : ∀ T, T ∈ dTys → PySem.W.notFirst X.K C (.type T) = true := fun T hT2 => by
    unfold PySem.W.notFirst
    rw [hT T hT2]
    simp
  cases dy with
  | scr _ => cases ho
  | obj c' fl =>
    have ho := of_decide_eq_true ho
    subst ho
    cases hy with
    | obj k1 k2 k3 =>
      cases hcl.inj k1
      exact ⟨.ref C, .base (TyOf.ins (sub _ _ k2) IC.cl IC.ha IC.hn IC.htk IC.hm), by unfold PySem.W.notFirst; simp⟩
  | non => exact ⟨_, ty_of sub (.inl hy) ⟨fun _ => nofun, fun _ _ => nofun⟩, tyB _ (by show ("NoneType" : String) ∈ dTys; decide)⟩
  | bl b => exact ⟨_, ty_of sub (.inl hy) ⟨fun _ => nofun, fun _ _ => nofun⟩, tyB _ (by show ("bool" : String) ∈ dTys; decide)⟩
  | int b => exact ⟨_, ty_of sub (.inl hy) ⟨fun _ => nofun, fun _ _ => nofun⟩, tyB _ (by show ("int" : String) ∈ dTys; decide)⟩
  | str b => exact ⟨_, ty_of sub (.inl hy) ⟨fun _ => nofun, fun _ _ => nofun⟩, tyB _ (by show ("str" : String) ∈ dTys; decide)⟩
  | lst b => exact ⟨_, ty_of sub (.inl hy) ⟨fun _ => nofun, fun _ _ => nofun⟩, tyB _ (by show ("list" : String) ∈ dTys; decide)⟩
  | tup b => exact ⟨_, ty_of sub (.inl hy) ⟨fun _ => nofun, fun _ _ => nofun⟩, tyB _ (by show ("tuple" : String) ∈ dTys; decide)⟩
  | dic b => exact ⟨_, ty_of sub (.inl hy) ⟨fun _ => nofun, fun _ _ => nofun⟩, tyB _ (by show ("dict" : String) ∈ dTys; decide)⟩
section
variable {X : Cx} {g : G} {k : Nat} {c : Str} {pos : Pos} {a b : Expr} {fo fe : En → Rs D}
end
end DL

/-! Data layer, part 69: != of instances by their own __eq__. -/
namespace DL
open PySem L2
section
variable {prog : Program} {w : World} {A : Around} {E : Value → Shared → Prop} {s : Shared} {K : PySem.W.Frag} {x C f L : Addr} {ox : Obj} {od : Option Obj} {h₀ : Heap} {m : Str → Option Value} {b tb : Value}
end
section
variable {X : Cx} {CX : CXT} {k : Nat} {f C : Addr} {fd : FuncData} {ps : List Str} {sp : Sp} {E : St → XK} {pos : Pos} {a b : Expr} {ta tb : TE}
end
/-- not what f tells of the two -/
def neM (c : Str) (f : List D → Option OV) (fo fe : En → Rs D) : En → Rs D := fun r => (fo r).bind fun x r1 => (fe r1).bind fun y r2 => if (isC c x && eqArg c y) = true then (match f [x, y] with
  | some (.sh (.bl b)) => .ok (.bl (!b)) r2
  | _ => .bad) else .bad
structure NeOk (K : PySem.W.Frag) (c : Str) : Prop where
  ex : ∃ C, ClsAt K c C ∧ PySem.W.findIn K (.ref C) "__ne__" = some (some (.builtin "object.__ne__")) ∧ PySem.W.mroIn K C (.type "object") = some true
section
variable {X : Cx} {g : G} {k : Nat} {c : Str} {pos : Pos} {a b : Expr} {fo fe : En → Rs D}
end
end DL

/-! Data layer, part 70: == and != of dicts whose values are plain data, with both answers. -/
namespace DL
open PySem L2
section
variable {X : Cx} {pins : List (Addr × Obj)} {s : Shared} {H : Hp} {sg : L2.St} {g : G}
end
end DL

/-! Data layer, part 71: expressions that give a dict that nobody else has: dict(d), a call of a def that returns its own dict, a if c else b; x = e. -/
namespace DL
open PySem L2
/-- a new dict, no slot's -/
def RVk (K : PySem.W.Frag) (g : G) (F H : Hp) (s : St) (r : En) (v : V) (kvs : List (Key × D)) : Prop :=
  ∃ a vs, v = .ref a ∧ F a = none ∧ H a = some (.dK vs) ∧ RDk K F vs kvs ∧ g.H0 a = none ∧ (∀ (j : Nat) (o : OV), r[j]? = some (some o) → o.own = true → s[j]? ≠ some (some (.ref a))) ∧ ∀ p ∈ g.X, p.1 ≠ a
def POk (K : PySem.W.Frag) (g : G) (F : Hp) (s : St) (Q : VK) (kvs : List (Key × D)) (r' : En) : Prop := ∀ F' H' v, Same F F' → Rel K g F' H' s r' → RVk K g F' H' s r' v kvs → Q v H'
def tOk (K : PySem.W.Frag) (g : G) (f : En → Rs (List (Key × D))) : TE := fun s H Q => ∃ F r, Rel K g F H s r ∧ post K g (POk K g F s Q) (f r)
def DOk (X : Cx) (g : G) (e : Expr) (f : En → Rs (List (Key × D))) : Prop := PE X e (tOk X.K g f)
def setK (i : Nat) (f : En → Rs (List (Key × D))) : En → SRs := fun r => thenS (f r) fun kvs r1 => .nx (r1.set i (some (.th (.dk kvs))))
section
variable {X : Cx} {g : G} {x : Str} {p pos : Pos} {i : Nat} {e a b c : Expr}
theorem ds_setK {f : En → Rs (List (Key × D))} {pos' : Pos} (hb : ∀ p ∈ g.B, p.1 ≠ i) (hN : X.N.Nodup) (h : DOk X g e f) (hi : X.N[i]? = some x := by rfl) (hx : Loc X.env.scope x := by first | exact Or.inl rfl | exact Or.inr rfl)
    (hs : swapsWith e (some (.Name x pos')) pos.line X.env = pure false := by rfl) (hf : X.fn x = true ∨ X.env.scope.names.lookup x = some .local := by first | exact .inl rfl | exact .inr rfl | assumption) : DS X g (.Assign [.Name x pos'] e pos) (setK i f) :=
  PS.imp (ps_set hN hi hx h hs hf) fun E s H ⟨F, r, R, q⟩ => ⟨F, r, R, post_mono (post_then q) fun kvs r1 q F1 H1 v sm R1 ⟨a, vs, ev, fa, ha, hm, h0, ho, hX⟩ => by
    subst ev
    exact q F1 H1 _ sm (R1.setTh hb ha fa h0 hX ho ⟨vs, rfl, hm⟩)⟩
def ifK (t : En → Rs Bool) (f h : En → Rs (List (Key × D))) : En → Rs (List (Key × D)) := fun r => (t r).bind fun b r1 => if b = true then f r1 else h r1
/-- dict(d), d a dict -/
def cpK (f : En → Rs D) : En → Rs (List (Key × D)) := fun r => (f r).bind fun d r1 => match d with
  | .dic kvs => .ok kvs r1
  | _ => .bad
theorem dok_dict {f : En → Rs D} {p1 : Pos} (hm1 : X.mg "dict" = none) (h : DE X g e f) (hg1 : Gl X "dict" := by rfl) (he : starEach [e] X.env = (false, eval e X.env) :: starEach [] X.env := by rfl) (hpl : (backTo pos (starEach [] X.env)).any (·.1) = false := by rfl) :
    DOk X g (.Call (.Name "dict" p1) [e] [] pos) (cpK f) := by
  refine PE.imp (pe_callTy call_dictD hg1 hm1 (by decide +kernel) (pa_cons h pa_nil he) (by decide) (by decide) he hpl) fun s H Q ⟨F, r, R, q⟩ => ?_
  refine ⟨F, r, R, post_mono (post_bind q) fun d r1 q F1 H1 v sm R1 hv => ?_⟩
  cases d with
  | dic kvs =>
    cases hv with
    | @dic a o vs _ k1 k2 =>
      refine ⟨a, vs, rfl, .inr ⟨o, R1.sub _ _ k1⟩, fun p np => ?_⟩
      refine q F1 _ _ sm (R1.laid np) ⟨p, vs, rfl, R1.ff np, upd_same, k2, R1.live np, fun j o e eo => not_own R1 np j o e eo, fun q hq z => ?_⟩
      have := (R1.ext q hq).1
      rw [z, np] at this
      cases this
  | _ => exact q.elim
end
end DL

/-! Data layer, part 72: defs whose first parameter is a list by reference and that return their own dict; such a dict frozen. -/
namespace DL
open PySem L2
section
variable {X : Cx} {g : G} {x : Str} {p pos : Pos} {i : Nat} {e a b c : Expr} {st : Stmt} {sts : List Stmt}
/-- a new dict as a value: frozen -/
def frzK (f : En → Rs (List (Key × D))) : En → Rs D := fun r => (f r).bind fun kvs r1 => .ok (.dic kvs) r1
/-- a name's dict as a value: frozen in its place -/
def vDk (i : Nat) : En → Rs D := fun r => match r[i]? with
  | some (some (.sh d)) => .ok d r
  | some (some (.th (.dk kvs))) => .ok (.dic kvs) (r.set i (some (.sh (.dic kvs))))
  | _ => .bad
theorem set_self {α : Type} {l : List α} {i : Nat} {a : α} (h : l[i]? = some a) : l.set i a = l := by
  apply List.ext_getElem?
  intro j
  by_cases hj : i = j
  · subst hj
    rw [List.getElem?_set_self (List.getElem?_eq_some_iff.mp h).1, h]
  · rw [List.getElem?_set_ne hj]
theorem de_vDk (hb : ∀ p ∈ g.B, p.1 ≠ i) (hv : PE X (.Name x p) (tVar i)) : DE X g (.Name x p) (vDk i) := by
  -- both ways a value is seen: as it is, or locked
  refine ⟨fun pins s σ H Q I hw => ?_⟩
  obtain ⟨F, r, R, q⟩ := hw
  unfold vDk at q
  revert q
  cases e : r[i]? with
  | none => exact fun q => q.elim
  | some w =>
    cases w with
    | none => exact fun q => q.elim
    | some o =>
      obtain ⟨v, h1, h2⟩ := R.slot i o e
      cases o with
      | sh d => exact fun q => hv.run pins s σ H Q I ⟨v, h1, q F H v (Same.refl _) R h2⟩
      | th t =>
        cases t with
        | dk kvs =>
          intro q
          obtain ⟨a, o, rfl, fa, ha, vs, rfl, hm⟩ := h2
          refine (pe_lk hv).run pins s σ H Q I ⟨_, h1, a, _, ha, trivial, fun od => ?_⟩
          obtain ⟨h0, hX, R'⟩ := R.freeTh hb e h1 fa ha
          obtain ⟨sF, R3⟩ := R'.fill (o' := .frz od (.dK vs)) h0 hX
          have hd : RD X.K (L2.upd F a (.frz od (.dK vs))) (.ref a) (.dic kvs) := .dic upd_same (RDk.mono sF _ hm)
          have R4 := R3.set (v := .ref a) (o := .sh (.dic kvs)) hb hd
          rw [set_self h1] at R4
          have ew : (wipeE r [i]).set i (some (.sh (.dic kvs))) = r.set i (some (.sh (.dic kvs))) := by
            show (r.set i none).set i _ = _
            rw [List.set_set]
          rw [ew] at R4
          exact q _ _ _ sF R4 hd
        | st ds => exact fun q => q.elim
      | ow xs => exact fun q => q.elim
      | od xs => exact fun q => q.elim
      | oi c xs => exact fun q => q.elim
      | exc c => exact fun q => q.elim
/-! ### bodies that end with: return x, the dict of slot i -/
def SPk (K : PySem.W.Frag) (g : G) (F : Hp) (E : Ends) (i : Nat) : SRs → Prop
  | .nx r' => (∃ kvs, r'[i]? = some (some (.th (.dk kvs)))) ∧ ∀ F' H' s' v, Same F F' → Rel K g F' H' s' r' → s'[i]? = some (some v) → E.rt v H'
  | _ => False
theorem SPk.mono {K : PySem.W.Frag} {F F' : Hp} {E : Ends} {y : SRs} (h : SPk K g F E i y) (e : Same F F') : SPk K g F' E i y := by
  cases y with
  | nx r => exact ⟨h.1, fun F2 H2 s2 v e2 R2 hv => h.2 F2 H2 s2 v (e.trans e2) R2 hv⟩
  | _ => exact h
end
/-! ### the promise -/
def spBD (K : PySem.W.Frag) (n : Nat) (f : List D → List D → Option (List (Key × D) × List D)) : Sp := fun vs H Q _ => ∃ F a bs vb ws ds kvs bs', vs = .ref a :: ws ∧ Same F H ∧ F a = none ∧ H a = some (.lst vb) ∧ RDs K F vb bs ∧ RDs K F ws ds ∧ ds.length = n ∧ f bs ds = some (kvs, bs') ∧
  ∀ F' H' v vb', Same F F' → Same F' H' → Fresh F F' H → (∀ b o, H b = some o → b ≠ a → H' b = some o) → F' a = none → H' a = some (.lst vb') → RDs K F' vb' bs' → (∃ c us, v = .ref c ∧ F' c = none ∧ H' c = some (.dK us) ∧ RDk K F' us kvs ∧ H c = none) → Q v H'
section
variable {P : Program} {w : World} {K : PySem.W.Frag} {mg : Str → Option Value} {base : Heap}
end
structure HasBD (P : Program) (w : World) (K : PySem.W.Frag) (mg : Str → Option Value) (base : Heap) (k : Nat) (x : Str) (n : Nat) (f : List D → List D → Option (List (Key × D) × List D)) : Prop where
  ex : ∃ fa fd ps, FnG P w K mg base CX0 k fa fd ps (spBD K n f) ∧ mg x = some (.ref fa) ∧ PySem.W.keepIn K (.ref fa) = true ∧ Binds K fd ps []
/-- f(bag, e, ..), the bag in slot j: a dict of its own -/
def callBD (n : Nat) (f : List D → List D → Option (List (Key × D) × List D)) (j : Nat) (fs : List (En → Rs D)) : En → Rs (List (Key × D)) := fun r => (fill r j).bind fun _ r => (evs fs r).bind fun ds r1 => if ds.length = n then
  (ofO (((lookV r1 j).bind OV.lst?).bind fun bs => f bs ds) r1).bind fun z r1 => .ok z.1 (r1.set j (some (.ow z.2))) else .bad
section
variable {X : Cx} {g : G} {k n : Nat} {x : Str} {p pos : Pos} {e : Expr} {es : List Expr}
end
end DL

/-! Data layer, part 73: xs.pop(i) as a value; d[k] of an owned dict with tuples as keys; x, y = {k: v}, e. -/
namespace DL
open PySem L2
section
variable {X : Cx} {g : G} {x y : Str} {p pos apos cpos px py pt pt2 pd : Pos} {e e2 ek ev : Expr} {kt k2 i j : Nat}
/-! ### pop -/
def popP (k : D) : List D → Option (D × List D) := fun xs => match k with
  | .int i => if 0 ≤ i ∧ i < 1000000 then (ixN xs.length i).bind fun j => (xs[j]?).map fun d => (d, xs.eraseIdx j) else none
  | _ => none
def popV (i : Nat) (f : En → Rs D) : En → Rs D := fun r => (fillW r i).bind fun _ r => (f r).bind fun d r1 => match r1[i]? with
  | some (some (.ow xs)) => match popP d xs with
    | some z => .ok z.1 (r1.set i (some (.ow z.2)))
    | none => .bad
  | _ => .bad
theorem de_popV {f : En → Rs D} (hv : PE X (.Name x p) (tVar i)) (h : DE X g e f) (hst : starEach [e] X.env = [(false, eval e X.env)] := by rfl) (hb : attributeBase (.Name x p) "pop" X.env (eval (.Name x p) X.env) = eval (.Name x p) X.env := by rfl)
    (hline : (apos.endLine == cpos.line) = true := by rfl)
    (hfew : ((backTo cpos (starEach [e] X.env)).all (fun x => !x.1) && (backToKw cpos (keywordEach [] X.env)).all (fun x => x.1.isSome) && decide ([e].length + ([] : List Keyword).length + (if ([] : List Keyword).isEmpty then 0 else 1) < 30)) = true := by rfl)
    (hpl : (backTo cpos (starEach [] X.env)).any (·.1) = false := by rfl) : DE X g (.Call (.Attribute (.Name x p) "pop" apos) [e] [] cpos) (popV i f) :=
  PE.imp (pe_bm PySem.F.plainAttrs_list PySem.F.slot_list_pop PySem.F.type_list_pop mt_popAt hv (pa_cons h pa_nil hst) hb hfew hline hst hpl) fun s H Q ⟨F, r, R, q⟩ => by
    obtain ⟨⟨xs, e0⟩, q⟩ := post_fillW (post_bind q)
    obtain ⟨v, h1, a, vs, rfl, fa, ha, hvs⟩ := R.slot i _ e0
    refine ⟨_, h1, .inl ⟨rfl, vs, .of ha⟩, F, r, R, post_mono (post_bind q) fun d r1 q F1 H1 w sm R1 hw => ?_⟩
    split at q
    · next ys e1 =>
      obtain ⟨v', g1, b, ws, rfl, fb, hb', hws⟩ := R1.slot i _ e1
      rw [h1] at g1
      cases g1
      split at q
      · next z ez =>
        unfold popP at ez
        split at ez
        · split at ez
          · next hk =>
            obtain ⟨j, ej, ez⟩ := Option.bind_eq_some_iff.mp ez
            obtain ⟨d', ed, rfl⟩ := Option.map_eq_some_iff.mp ez
            cases hw
            obtain ⟨z1, z2, z3, z4⟩ := ixN_seq ej
            rw [← hws.length] at z1 z2
            obtain ⟨u, eu, hu⟩ := hws.get ed
            have eu2 : ws[j] = u := by
              rw [List.getElem?_eq_getElem z2] at eu
              exact Option.some.inj eu
            exact ⟨a, ws, _, j, ws[j], rfl, rfl, hb', by omega, by omega, z1, List.getElem?_eq_getElem z2, q F1 _ _ sm (R1.chg e1 h1 fb hb' (hws.erase j)) (by rw [eu2]; exact hu)⟩
          · cases ez
        · cases ez
      · exact q.elim
    · exact q.elim
/-! ### d[k] -/
def odAt (kvs : List (D × D)) (k : NestedKey) : Option D := (kvs.find? fun p => decide (p.1.nk = some k)).map (·.2)
theorem RDm.at {K : PySem.W.Frag} {F : Hp} {k : NestedKey} {d : D} : ∀ {kvs : List (D × D)} {xs : List (NestedKey × Addr × V)}, RDm K F xs kvs → odAt kvs k = some d → ∃ x, (xs.find? fun x => decide (x.1 = k)) = some x ∧ RD K F x.2.2 d
  | [], _, _, h => by cases h
  | (kd, d') :: kvs, _, h, e => by
    cases h with
    | @cons k' a v xs _ _ _ h1 h2 h3 h4 =>
      by_cases hk : k' = k
      · have : kd.nk = some k := by rw [h2.1, hk]
        have e : (List.find? (fun p : D × D => decide (p.1.nk = some k)) ((kd, d') :: kvs)).map (·.2) = some d := e
        rw [List.find?_cons_of_pos (by simpa using this)] at e
        refine ⟨(k', a, v), List.find?_cons_of_pos (by simpa using hk), ?_⟩
        have e : d' = d := Option.some.inj e
        rw [← e]
        exact h3
      · have hn : ¬ kd.nk = some k := fun z => hk (by rw [h2.1] at z; exact Option.some.inj z)
        have e : (List.find? (fun p : D × D => decide (p.1.nk = some k)) ((kd, d') :: kvs)).map (·.2) = some d := e
        rw [List.find?_cons_of_neg (by simpa using hn)] at e
        obtain ⟨x, e1, e2⟩ := RDm.at h4 e
        exact ⟨x, by rw [List.find?_cons_of_neg (by simpa using hk)]; exact e1, e2⟩
theorem ents_at {k : NestedKey} {x : NestedKey × Addr × V} : ∀ {xs : List (NestedKey × Addr × V)} {us : List Value}, Vals (xs.map (·.2.2)) us → (xs.find? fun x => decide (x.1 = k)) = some x → ∃ u, atKey (entsOf xs us) k = some (x.2.1, u) ∧ RelV x.2.2 u
  | [], _, _, h => by cases h
  | z :: xs, _, h, e => by
    rw [List.map_cons] at h
    cases h with
    | @cons _ u _ us h1 h2 =>
      by_cases hk : z.1 = k
      · rw [List.find?_cons_of_pos (by simpa using hk)] at e
        have e := Option.some.inj e
        subst e
        refine ⟨u, ?_, h1⟩
        show (List.find? (fun x : NestedKey × Addr × Value => decide (x.1 = k)) ((z.1, z.2.1, u) :: entsOf xs us)).map (·.2) = _
        rw [List.find?_cons_of_pos (by simpa using hk)]
        rfl
      · rw [List.find?_cons_of_neg (by simpa using hk)] at e
        obtain ⟨w, e1, e2⟩ := ents_at h2 e
        refine ⟨w, ?_, e2⟩
        show (List.find? (fun x : NestedKey × Addr × Value => decide (x.1 = k)) ((z.1, z.2.1, u) :: entsOf xs us)).map (·.2) = _
        rw [List.find?_cons_of_neg (by simpa using hk)]
        exact e1
def rOdGet (X : Cx) : V → V → Hp → VK → Prop := fun x y H Q => ∃ a b k xs z, x = .ref a ∧ y = .ref b ∧ H a = some (OdO X.w a xs) ∧ (∀ q ∈ xs, KeyAt X.K H q.1 q.2.1) ∧ KeyAt X.K H k b ∧ (xs.find? fun x => decide (x.1 = k)) = some z ∧ Q z.2.2 H
theorem ix_od {k : Nat} (hr : Room k X.A) : IxR X (rOdGet X) := by
  intro value slice pins s sg H x y v u Q I rx ry h hs
  obtain ⟨a, b, k, xs, z, rfl, rfl, ha, hk, hb, hz, q⟩ := h
  cases rx
  cases ry
  obtain ⟨h1, h2, us, h3, hl, h4⟩ := od_dict I ha hk
  obtain ⟨w, e1, e2⟩ := ents_at h3 hz
  have hu := hr.un
  refine PyProof.Rows.tail_any h4.typeIs PySem.F.slot_dict_getitem.lookup (wpAny_getItem_heap (knd := nestedKind X.prog X.w) (show X.A.in1.units + 8 < cLine from by show X.A.units + 1 + 8 < cLine; omega) (hb.is I) h4 e1 ?_) hs
  exact ⟨_, H, I.tok _, e2, q⟩
def getOd (i : Nat) (f : En → Rs D) : En → Rs D := fun r => (fill r i).bind fun _ r => (f r).bind fun kd r1 => match r1[i]? with
  | some (some (.od kvs)) => ofO (kd.key8.bind fun k => odAt kvs k) r1
  | _ => .bad
theorem de_getOd {k : Nat} {f : En → Rs D} (hW : g.w = X.w) (hr : Room k X.A) (hv : PE X (.Name x p) (tVar i)) (h : DE X g e f) (hs : PlainIx e) : DE X g (.Subscript (.Name x p) e pos) (getOd i f) :=
  PE.imp (pe_ix (ix_od hr) hv h hs) fun s H Q ⟨F, r, R, q⟩ => by
    obtain ⟨⟨o, e0⟩, q⟩ := post_fill (post_bind q)
    obtain ⟨v, h1, _⟩ := R.slot i o e0
    refine ⟨v, h1, F, r, R, post_mono (post_bind q) fun kd r1 q F1 H1 w sm R1 hw => ?_⟩
    split at q
    · next kvs e1 =>
      obtain ⟨d, e2, q⟩ := post_ofO q
      obtain ⟨k, ek, e2⟩ := Option.bind_eq_some_iff.mp e2
      obtain ⟨v', g1, a, xs, rfl, fa, ha', hm⟩ := R1.slot i _ e1
      rw [h1] at g1
      cases g1
      obtain ⟨b, rfl, k1, k2, k3⟩ := key8_at R1.sub hw ek
      obtain ⟨z, ez, hz⟩ := hm.at e2
      exact ⟨a, b, k, xs, z, rfl, rfl, by rw [← hW]; exact ha', hm.keys R1.sub, k1, ez, q F1 H1 _ sm R1 hz⟩
    · exact q.elim
/-! ### x, y = {k: v}, e -/
def tOd1 (X : Cx) (tk tv : TE) : TE := fun σ H Q => ∀ p, H p = none → tk σ (L2.upd H p (OdO X.w p [])) fun x H1 => tv σ H1 fun y H2 => H2 p = some (OdO X.w p []) ∧ ∃ b k, x = .ref b ∧ KeyAt X.K H2 k b ∧ Q (.ref p) (L2.upd H2 p (OdO X.w p [(k, b, y)]))
theorem pe_od1 {k : Nat} {tk tv : TE} (hr : Room k X.A) (hk : PE X ek tk) (hv : PE X ev tv) : PE X (.Dict [some ek] [ev] pos) (tOd1 X tk tv) := by
  refine ⟨fun pins s σ H Q I q => ?_⟩
  have hn := I.hok.fresh (Nat.le_refl s.heap.objs.size)
  have ns : (s.heap.objs.size == sysModules) = false := beq_eq_false_iff_ne.mpr (Ne.symm (Nat.ne_of_lt I.big))
  have I1 := I.laid (a := s.heap.objs.size) (o := OdO X.w s.heap.objs.size []) (h' := s.heap.push { cls := .type "dict", data := .dict #[] }) (t' := s.toks) (fun _ _ q => Heap.get?_push_of_some _ q) (Nat.le_refl _)
    (od_ok (us := []) (ep := 0) ns List.nodup_nil .nil (Heap.get?_push_size _ rfl))
  have hu := hr.un
  rw [arm_eval_Dict, zip_pairTrees [some ek] [ev] X.env pos rfl rfl, dictDisplay_pairs (pairTrees [some ek] [ev] X.env pos) (by intro z; cases z) (by show 1 < 17; decide)]
  refine wpAny_bind (wpAny_standAt (wpAny_bind (wpAny_subDictH (knd := nestedKind X.prog X.w) (show X.A.units + 8 < cLine by omega) (by show 1 ≤ 15; decide) (pairTrees_cons_walk
    (thn (hk.run pins _ σ _ _ I1 (q _ hn)) fun u s1 ⟨x, H1, J1, rx, q1⟩ => thn (hv.run pins s1 σ H1 _ J1 q1) fun w2 s2 ⟨y, H2, J2, ry, e2, b, k, ex, kb, q2⟩ => pairTrees_nil_walk ?_)))))
  subst ex
  cases rx
  obtain ⟨_, _, us, _, hl, h4⟩ := od_dict J2 e2 (fun q hq => by cases hq)
  have us0 : us = [] := List.eq_nil_of_length_eq_zero hl.symm
  subst us0
  refine ⟨[(k, b, w2)], ⟨rfl, rfl, kb.is J2, trivial⟩, h4, fun h' tk hm hs => wpAny_pure ?_⟩
  refine ⟨.ref s.heap.objs.size, _, ?_, rfl, q2⟩
  have hst : storedAllH [] [(k, b, w2)] = [(k, b, w2)] := rfl
  rw [hst] at hm
  obtain ⟨o, es, ep, ho, hex, hd, he, _, hn2⟩ := hm
  have hob : o = { cls := .type "dict", data := .dict es ep } := by
    obtain ⟨c, dd, dt, sl⟩ := o
    obtain ⟨e1, e2, e3⟩ := hex
    cases e1; cases e2; cases e3; cases hd
    rfl
  subst hob
  have hes : es = (List.zipWith (fun (x : NestedKey × Addr × V) (u : Value) => (⟨x.1.hash X.w, .ref x.2.1, u⟩ : DictEntry)) [(k, b, y)] [w2]).toArray := by
    apply Array.ext'
    rw [he]
    rfl
  subst hes
  exact J2.write (e := s.heap.objs.size) (t' := tk) (by rw [e2]; trivial) (.inl rfl) (fun c u hc hu => (hs.2 c hc).trans hu) ⟨_, ho⟩ (od_ok ns (by simp) (.cons ry .nil) ho)
/-- a slot gets a dict that is nobody's yet -/
theorem Rel.setOdA {K : PySem.W.Frag} {g : G} {F H : Hp} {s : L2.St} {r : En} {i : Nat} {p : Addr} {xs : List (NestedKey × Addr × V)} {kvs : List (D × D)} (R1 : Rel K g F H s r) (hb : ∀ p ∈ g.B, p.1 ≠ i) (hA : H p = some (OdO g.w p xs)) (hF : F p = none) (h0 : g.H0 p = none) (hX : ∀ q ∈ g.X, q.1 ≠ p)
    (no : ∀ (j : Nat) (u : OV), r[j]? = some (some u) → u.own = true → s[j]? ≠ some (some (.ref p))) (rt : RDm K F xs kvs) : Rel K g F H (s.set i (some (.ref p))) (r.set i (some (.od kvs))) := by
  have hl := R1.len
  have cs : ∀ (j : Nat) (u : OV), (r.set i (some (.od kvs)))[j]? = some (some u) → (j = i ∧ u = .od kvs ∧ (s.set i (some (V.ref p)))[j]? = some (some (.ref p))) ∨ (j ≠ i ∧ r[j]? = some (some u) ∧ (s.set i (some (V.ref p)))[j]? = s[j]?) := fun j u z => by
    by_cases hj : i = j
    · subst hj
      have hi : i < r.length := by
        have := (List.getElem?_eq_some_iff.mp z).1
        rw [List.length_set] at this
        exact this
      rw [List.getElem?_set_self hi] at z
      cases z
      exact .inl ⟨rfl, rfl, List.getElem?_set_self (by rw [← hl]; exact hi)⟩
    · rw [List.getElem?_set_ne hj] at z
      exact .inr ⟨fun z => hj z.symm, z, List.getElem?_set_ne hj⟩
  refine ⟨R1.sub, R1.f0, R1.fnew, R1.keep, fun j u z => ?_, fun j u a z zo za => ?_, fun j k u w a hjk z zo y yo za ya => ?_, fun q hq => ?_, by rw [List.length_set, List.length_set]; exact hl, fun q hq => ?_⟩
  · rcases cs j u z with ⟨rfl, rfl, e⟩ | ⟨hj, z', e⟩
    · exact ⟨.ref p, e, p, xs, rfl, hF, hA, rt⟩
    · rw [e]; exact R1.slot j u z'
  · rcases cs j u z with ⟨rfl, rfl, e⟩ | ⟨hj, z', e⟩
    · rw [e] at za
      cases za
      exact .inl h0
    · rw [e] at za; exact R1.own j u a z' zo za
  · rcases cs j u z with ⟨ej, eu, e⟩ | ⟨hj, z', e⟩
    · rcases cs k w y with ⟨ek, _, _⟩ | ⟨hk, y', e'⟩
      · exact hjk (ej.trans ek.symm)
      · rw [e] at za
        rw [e'] at ya
        cases za
        exact no k w y' yo ya
    · rcases cs k w y with ⟨ek, ew, e'⟩ | ⟨hk, y', e'⟩
      · rw [e'] at ya
        rw [e] at za
        cases ya
        exact no j u z' zo za
      · rw [e] at za
        rw [e'] at ya
        exact R1.dist j k u w a hjk z' zo y' yo za ya
  · obtain ⟨p1, u, p2, p3⟩ := R1.pin q hq
    have h := hb q hq
    exact ⟨by rw [List.getElem?_set_ne fun z => h z.symm]; exact p1, u, by rw [List.getElem?_set_ne fun z => h z.symm]; exact p2, p3⟩
  · obtain ⟨x1, x2, x3⟩ := R1.ext q hq
    refine ⟨x1, x2, fun j u z zo za => ?_⟩
    rcases cs j u z with ⟨rfl, rfl, e⟩ | ⟨hj, z', e⟩
    · rw [e] at za
      cases za
      exact hX q hq rfl
    · rw [e] at za; exact x3 j u z' zo za
theorem RV.setOd {K : PySem.W.Frag} {F H : Hp} {s : St} {r : En} {w : V} {o : OV} {p : Addr} {q : HO} {kvs : List (D × D)} {i : Nat} (hw : RV K (g.more p q) F H s r w o) : RV K g F H (s.set i (some (.ref p))) (r.set i (some (.od kvs))) w o := by
  cases o with
  | sh d' => exact hw
  | ow ys =>
    obtain ⟨a, vs, e1, e2, e3, e4, e5, e6, e7⟩ := hw
    have hpa : p ≠ a := e7 (p, q) (List.mem_cons_self ..)
    refine ⟨a, vs, e1, e2, e3, e4, e5, fun k u ek eo => ?_, fun z hz => e7 z (List.mem_cons_of_mem _ hz)⟩
    by_cases hk : i = k
    · subst hk
      by_cases hi : i < s.length
      · rw [List.getElem?_set_self hi]
        intro z
        cases z
        exact hpa rfl
      · rw [List.getElem?_eq_none (by simpa using hi)]
        intro z
        cases z
    · rw [List.getElem?_set_ne hk] at ek ⊢
      exact e6 k u ek eo
  | od ys => exact hw.elim
  | oi c ys => exact hw.elim
  | th ys => exact hw.elim
  | exc c => exact hw.elim
/-- what is nobody's is changed -/
theorem Rel.chgN {K : PySem.W.Frag} {g : G} {F H : Hp} {s : St} {r : En} {p : Addr} {o : HO} (R : Rel K g F H s r) (fp : F p = none) (h0 : g.H0 p = none) (no : ∀ (j : Nat) (u : OV), r[j]? = some (some u) → u.own = true → s[j]? ≠ some (some (.ref p))) (hX : ∀ q ∈ g.X, q.1 ≠ p) : Rel K g F (L2.upd H p o) s r := by
  have nF : ∀ b u, F b = some u → b ≠ p := fun b u e z => by rw [z, fp] at e; cases e
  have nH : ∀ b u, g.H0 b = some u → b ≠ p := fun b u e z => by rw [z, h0] at e; cases e
  refine ⟨fun b u e => by rw [upd_ne (nF b u e)]; exact R.sub b u e, R.f0, R.fnew, fun b u e hb => by rw [upd_ne (nH b u e)]; exact R.keep b u e hb, fun j u z => ?_, R.own, R.dist, R.pin, R.len, fun q hq => ?_⟩
  · obtain ⟨v, h1, h2⟩ := R.slot j u z
    refine ⟨v, h1, ?_⟩
    have key : ∀ a, u.own = true → v = .ref a → a ≠ p := fun a ho ev e => by
      subst ev
      rw [e] at h1
      exact no j u z ho h1
    cases u with
    | sh d => exact h2
    | ow xs =>
      obtain ⟨a, vs, e1, e2, e3, e4⟩ := h2
      exact ⟨a, vs, e1, e2, by rw [upd_ne (key a rfl e1)]; exact e3, e4⟩
    | od xs =>
      obtain ⟨a, vs, e1, e2, e3, e4⟩ := h2
      exact ⟨a, vs, e1, e2, by rw [upd_ne (key a rfl e1)]; exact e3, e4⟩
    | oi c xs =>
      obtain ⟨a, vs, e1, e2, e3, e4⟩ := h2
      exact ⟨a, vs, e1, e2, by rw [upd_ne (key a rfl e1)]; exact e3, e4⟩
    | th xs =>
      obtain ⟨a, vs, e1, e2, e3, e4⟩ := h2
      exact ⟨a, vs, e1, e2, by rw [upd_ne (key a rfl e1)]; exact e3, e4⟩
    | exc c => exact h2
  · obtain ⟨x1, x2, x3⟩ := R.ext q hq
    exact ⟨by rw [upd_ne (hX q hq)]; exact x1, x2, x3⟩
def parOd1 (i j : Nat) (fk fv : En → Rs D) (h : En → Rs OV) : En → SRs := fun r => thenS (fk r).noE fun kd r1 => thenS (fv r1).noE fun d r2 => thenS (ofO kd.key8 r2) fun _ r2 => thenS (h r2).noE fun o r3 => .nx ((r3.set i (some (.od [(kd, d)]))).set j (some o))
theorem ds_parOd1 {k : Nat} {fk fv : En → Rs D} {h : En → Rs OV} (hW : g.w = X.w) (hr : Room k X.A) (hbi : ∀ p ∈ g.B, p.1 ≠ i) (hbj : ∀ p ∈ g.B, p.1 ≠ j) (hN : X.N.Nodup) (hc : X.calm = true) (hij : i ≠ j) (hk : ∀ g' : G, Blk g g' → DE X g' ek fk) (hv : ∀ g' : G, Blk g g' → DE X g' ev fv) (hh : ∀ g' : G, Blk g g' → DO X g' e h) (hi : X.N[i]? = some x := by rfl) (hj : X.N[j]? = some y := by rfl)
    (hx : X.env.scope.names.lookup x = some .local := by rfl) (hy : X.env.scope.names.lookup y = some .local := by rfl)
    (hw : swappedStores [.Tuple [.Name x px, .Name y py] kt pt] (.Tuple [.Dict [some ek] [ev] pd, e] k2 pt2) X.env = pure (some [x, y]) := by rfl)
    (hs : swapsWithSole [.Tuple [.Name x px, .Name y py] kt pt] (.Tuple [.Dict [some ek] [ev] pd, e] k2 pt2) pos.line X.env = pure false := by rfl)
    (h1 : starEach [.Dict [some ek] [ev] pd, e] X.env = (false, eval (.Dict [some ek] [ev] pd) X.env) :: starEach [e] X.env := by rfl) (h2 : starEach [e] X.env = (false, eval e X.env) :: starEach [] X.env := by rfl) :
    DS X g (.Assign [.Tuple [.Name x px, .Name y py] kt pt] (.Tuple [.Dict [some ek] [ev] pd, e] k2 pt2) pos) (parOd1 i j fk fv h) := by
  have hb : PE X e (fun s H Q => ∃ g' : G, Blk g g' ∧ tO X.K g' h s H Q) := ⟨fun pins s σ H Q I ⟨g', eg, q⟩ => (hh g' eg).run pins s σ H Q I q⟩
  have hkk : PE X ek (fun s H Q => ∃ g' : G, Blk g g' ∧ tD X.K g' fk s H Q) := ⟨fun pins s σ H Q I ⟨g', eg, q⟩ => (hk g' eg).run pins s σ H Q I q⟩
  have hvv : PE X ev (fun s H Q => ∃ g' : G, Blk g g' ∧ tD X.K g' fv s H Q) := ⟨fun pins s σ H Q I ⟨g', eg, q⟩ => (hv g' eg).run pins s σ H Q I q⟩
  refine PS.imp (ps_par hc hN hi hj hij hx hy (pa_cons (pe_od1 hr hkk hvv) (pa_cons hb pa_nil h2) h1) hw hs) fun E s H ⟨F, r, R, q⟩ => fun p np => ?_
  have hF := R.ff np
  have R1 := (R.laid (o := OdO X.w p []) np).more upd_same hF (not_own R np)
  refine ⟨(g.more p (OdO X.w p [])).nw, ⟨rfl, rfl, rfl, rfl⟩, F, r, R1.nw, post_mono (post_noE (post_then q)) fun kd r1 q F1 H1 v sm R2 hv => ?_⟩
  refine ⟨(g.more p (OdO X.w p [])).nw, ⟨rfl, rfl, rfl, rfl⟩, F1, r1, R2, post_mono (post_noE (post_then q)) fun d r2 q F2 H2 u sm2 R3 hu => ?_⟩
  obtain ⟨k, e3, q⟩ := post_ofO (post_then q)
  obtain ⟨R4, f1, f2, f3⟩ := R3.unw.less
  obtain ⟨b, rfl, k1, k2, k2', k3⟩ := key8_at R3.sub (RD.mono sm2 kd hv) e3
  have h0 := R.live np
  have hX : ∀ q ∈ g.X, q.1 ≠ p := fun q hq z => by have := (R.ext q hq).1; rw [z, np] at this; cases this
  refine ⟨by rw [← hW]; exact f1, b, k, rfl, k1, ?_⟩
  have R5 := ((R4.chgN (o := OdO g.w p [(k, b, u)]) f2 h0 f3 hX).more upd_same f2 f3).nw
  rw [← hW]
  refine ⟨(g.more p (OdO g.w p [(k, b, u)])).nw, ⟨rfl, rfl, rfl, rfl⟩, F2, r2, R5, post_mono (post_noE (post_then q)) fun o r3 q F3 H3 w sm3 R6 hw => ?_⟩
  have hw : RV X.K (g.more p (OdO g.w p [(k, b, u)])) F3 H3 s r3 w o := by cases o <;> exact hw
  obtain ⟨R7, a1, a2, a3⟩ := R6.unw.less
  refine ⟨.ref p, w, rfl, ?_⟩
  exact q F3 H3 _ (((sm.trans sm2)).trans sm3) ((R7.setOdA hbi a1 a2 h0 hX a3 (.cons (RD.mono (sm2.trans sm3) kd hv) ⟨k2', k3⟩ (RD.mono sm3 d hu) .nil)).set hbj hw.setOd)
end
end DL

/-! Data layer, part 74: a set's table laid anew has a place for each. -/
namespace DL
open PySem L2
open PySem.SetTable
/-! ### the search for a place -/
def lcg (M n i : Nat) : Nat := match n with
  | 0 => i
  | n + 1 => lcg M n ((i * 5 + 1) % M)
def orb (M : Nat) : Nat → Nat → List Nat
  | 0, _ => []
  | n + 1, i => i :: orb M n ((i * 5 + 1) % M)
theorem orb_mem {M j : Nat} : ∀ {n i : Nat}, j ∈ orb M n i → ∃ k, k < n ∧ lcg M k i = j
  | 0, _, h => by cases h
  | n + 1, i, h => by
    rcases List.mem_cons.mp h with rfl | h
    · exact ⟨0, Nat.succ_pos _, rfl⟩
    · obtain ⟨k, hk, e⟩ := orb_mem h
      exact ⟨k + 1, Nat.succ_lt_succ hk, e⟩
def coverB (M : Nat) : Bool := (List.range M).all fun i => let o := orb M M i; (List.range M).all fun j => o.contains j
theorem cover_of {M : Nat} (h : coverB M = true) {i j : Nat} (hi : i < M) (hj : j < M) : ∃ k, k < M ∧ lcg M k i = j := by
  unfold coverB at h
  rw [List.all_eq_true] at h
  have h1 := h i (List.mem_range.mpr hi)
  have h1 : ((List.range M).all fun j => (orb M M i).contains j) = true := h1
  rw [List.all_eq_true] at h1
  exact orb_mem (List.contains_iff_mem.mp (h1 j (List.mem_range.mpr hj)))
theorem cover8 : coverB 8 = true := by decide +kernel
theorem cover16 : coverB 16 = true := by decide +kernel
theorem cover32 : coverB 32 = true := by decide +kernel
theorem cover64 : coverB 64 = true := by decide +kernel
/-- the steps of a search -/
def stp (mask : Nat) : Nat → Nat × Nat → Nat × Nat
  | 0, q => q
  | n + 1, q => stp mask n (leap mask q.1 q.2)
theorem stp_add (mask : Nat) : ∀ (m n : Nat) (q : Nat × Nat), stp mask (m + n) q = stp mask n (stp mask m q)
  | 0, n, q => by rw [Nat.zero_add]; rfl
  | m + 1, n, q => by
    rw [Nat.add_right_comm]
    show stp mask (m + n) (leap mask q.1 q.2) = _
    rw [stp_add mask m n]
    rfl
theorem stp_lt {mask : Nat} : ∀ (n : Nat) {q : Nat × Nat}, q.1 < mask + 1 → (stp mask n q).1 < mask + 1
  | 0, _, h => h
  | n + 1, q, h => stp_lt n (Nat.mod_lt _ (Nat.succ_pos _))
theorem stp_snd {mask : Nat} : ∀ (n : Nat) (q : Nat × Nat), (stp mask n q).2 = q.2 / 32 ^ n
  | 0, q => by rw [Nat.pow_zero, Nat.div_one]; rfl
  | n + 1, q => by
    show (stp mask n (leap mask q.1 q.2)).2 = _
    rw [stp_snd n]
    show q.2 / 32 / 32 ^ n = _
    rw [Nat.div_div_eq_div_mul, Nat.pow_succ, Nat.mul_comm]
theorem stp_zero {mask : Nat} : ∀ (n i : Nat), stp mask n (i, 0) = (lcg (mask + 1) n i, 0)
  | 0, i => rfl
  | n + 1, i => by
    show stp mask n (leap mask i 0) = _
    have : leap mask i 0 = ((i * 5 + 1) % (mask + 1), 0) := by
      unfold leap
      rw [Nat.zero_div, Nat.add_zero]
    rw [this, stp_zero n]
    rfl
/-- each place is met in time -/
theorem meets {mask : Nat} (hc : coverB (mask + 1) = true) {i p j : Nat} (hi : i < mask + 1) (hp : p < 2 ^ 64) (hj : j < mask + 1) : ∃ n, n < turns mask ∧ (stp mask n (i, p)).1 = j := by
  have h13 : (stp mask 13 (i, p)).2 = 0 := by
    rw [stp_snd]
    exact Nat.div_eq_of_lt (Nat.lt_trans hp (by decide))
  obtain ⟨k, hk, e⟩ := cover_of hc (stp_lt 13 (q := (i, p)) hi) hj
  refine ⟨13 + k, by unfold turns; omega, ?_⟩
  rw [stp_add]
  have : stp mask 13 (i, p) = ((stp mask 13 (i, p)).1, 0) := by rw [← h13]
  rw [this, stp_zero]
  exact e
theorem free_some {mask : Nat} {owner : Array (Option Nat)} : ∀ (fuel i p n : Nat), n < fuel → owner[(stp mask n (i, p)).1]? = some none → ∃ j, layClean.free mask owner fuel i p = some j ∧ owner[j]? = some none
  | 0, _, _, _, h, _ => by omega
  | fuel + 1, i, p, n, hn, ho => by
    unfold layClean.free
    cases hf : (List.range (runEnd mask i + 1 - i)).find? fun k => (owner.getD (i + k) (some 0)).isNone with
    | some k =>
      refine ⟨i + k, rfl, ?_⟩
      have h1 := List.find?_some hf
      have h1 : (owner.getD (i + k) (some 0)).isNone = true := h1
      by_cases hl : i + k < owner.size
      · rw [Array.getElem?_eq_getElem hl]
        unfold Array.getD at h1
        rw [dif_pos hl] at h1
        have := Option.isNone_iff_eq_none.mp h1
        exact congrArg some this
      · unfold Array.getD at h1
        rw [dif_neg hl] at h1
        cases h1
    | none =>
      cases n with
      | zero =>
        exfalso
        have ho : owner[i]? = some none := ho
        rw [List.find?_eq_none] at hf
        have h0 := hf 0 (List.mem_range.mpr (by
          unfold runEnd
          split <;> omega))
        apply h0
        obtain ⟨hl, e⟩ := Array.getElem?_eq_some_iff.mp ho
        show (owner.getD (i + 0) (some 0)).isNone = true
        rw [Nat.add_zero]
        unfold Array.getD
        rw [dif_pos hl]
        rw [show owner.getInternal i hl = owner[i] from rfl, e]
        rfl
      | succ n => exact free_some fuel _ _ n (by omega) ho
/-! ### a table laid -/
theorem none_at : ∀ l : List (Option Nat), (l.filterMap id).length < l.length → ∃ j : Nat, l[j]? = some none
  | [], h => by simp at h
  | none :: l, _ => ⟨0, rfl⟩
  | some x :: l, h => by
    have h : (x :: l.filterMap id).length < (some x :: l).length := h
    rw [List.length_cons, List.length_cons] at h
    obtain ⟨j, e⟩ := none_at l (by omega)
    exact ⟨j + 1, e⟩
theorem set_perm {k : Nat} : ∀ {l : List (Option Nat)} {j : Nat}, l[j]? = some none → ((l.set j (some k)).filterMap id).Perm (k :: l.filterMap id)
  | [], _, h => by simp at h
  | x :: l, 0, h => by
    have h : x = none := Option.some.inj h
    subst h
    exact .refl _
  | none :: l, j + 1, h => set_perm (l := l) (j := j) h
  | some x :: l, j + 1, h => by
    show (x :: (l.set j (some k)).filterMap id).Perm (k :: x :: l.filterMap id)
    exact ((set_perm (l := l) (j := j) h).cons x).trans (List.Perm.swap k x _)
theorem bits_lt (h : Int) : bits h < 2 ^ 64 := by
  unfold bits
  have h1 : 0 ≤ h % (2 ^ 64 : Int) := Int.emod_nonneg _ (by decide)
  have h2 : h % (2 ^ 64 : Int) < 2 ^ 64 := Int.emod_lt_of_pos _ (by decide)
  omega
def layF (mask : Nat) (acc : Option (Array (Option Nat) × Nat)) (h : Int) : Option (Array (Option Nat) × Nat) := do
  let (owner, k) ← acc
  let j ← layClean.free mask owner (turns mask) (bits h % (mask + 1)) (bits h)
  pure (owner.setIfInBounds j (some k), k + 1)
theorem layF_ok {mask : Nat} (hc : coverB (mask + 1) = true) : ∀ (hs : List Int) (owner : Array (Option Nat)) (k : Nat), owner.size = mask + 1 → (owner.toList.filterMap id).Perm (List.range k) → k + hs.length ≤ mask →
    ∃ owner', hs.foldl (layF mask) (some (owner, k)) = some (owner', k + hs.length) ∧ owner'.size = mask + 1 ∧ (owner'.toList.filterMap id).Perm (List.range (k + hs.length))
  | [], owner, k, h1, h2, _ => ⟨owner, rfl, h1, h2⟩
  | h :: hs, owner, k, h1, h2, h3 => by
    rw [List.length_cons] at h3
    have hl : (owner.toList.filterMap id).length < owner.toList.length := by
      rw [h2.length_eq, List.length_range, Array.length_toList, h1]
      omega
    obtain ⟨j0, e0⟩ := none_at _ hl
    rw [Array.getElem?_toList] at e0
    have hj0 : j0 < mask + 1 := by
      have := (Array.getElem?_eq_some_iff.mp e0).1
      omega
    obtain ⟨n, hn, en⟩ := meets hc (i := bits h % (mask + 1)) (p := bits h) (Nat.mod_lt _ (Nat.succ_pos _)) (bits_lt h) hj0
    obtain ⟨j, ej, oj⟩ := free_some (mask := mask) (owner := owner) (turns mask) (bits h % (mask + 1)) (bits h) n hn (by rw [en]; exact e0)
    have step : layF mask (some (owner, k)) h = some (owner.setIfInBounds j (some k), k + 1) := by
      show ((layClean.free mask owner (turns mask) (bits h % (mask + 1)) (bits h)).bind fun j => some (owner.setIfInBounds j (some k), k + 1)) = _
      rw [ej]
      rfl
    rw [List.foldl_cons, step]
    obtain ⟨o', e1, e2, e3⟩ := layF_ok hc hs (owner.setIfInBounds j (some k)) (k + 1) (by rw [Array.size_setIfInBounds]; exact h1) (by
      rw [Array.toList_setIfInBounds]
      refine (set_perm (by rw [Array.getElem?_toList]; exact oj)).trans ?_
      rw [List.range_succ]
      exact (h2.cons k).trans (List.perm_append_singleton k (List.range k)).symm) (by omega)
    have ek : k + 1 + hs.length = k + (hs.length + 1) := by omega
    rw [ek] at e1 e3
    exact ⟨o', e1, e2, e3⟩
theorem clean_ok {mask : Nat} (hc : coverB (mask + 1) = true) (hashes : Array Int) (hn : hashes.size ≤ mask) : ∃ owner, layClean mask hashes = some owner ∧ owner.size = mask + 1 ∧ (owner.toList.filterMap id).Perm (List.range hashes.size) := by
  obtain ⟨o, e1, e2, e3⟩ := layF_ok hc hashes.toList (Array.replicate (mask + 1) none) 0 (by simp) (by
    have : (Array.replicate (mask + 1) (none : Option Nat)).toList.filterMap id = [] := by
      rw [Array.toList_replicate, List.filterMap_eq_nil_iff]
      intro x hx
      rw [List.eq_of_mem_replicate hx]
      rfl
    rw [this]
    exact .refl _) (by rw [Array.length_toList]; omega)
  rw [Nat.zero_add, Array.length_toList] at e3
  refine ⟨o, ?_, e2, e3⟩
  have : layClean mask hashes = (hashes.foldl (layF mask) (some (Array.replicate (mask + 1) none, 0))).map (·.1) := rfl
  rw [this, ← Array.foldl_toList, e1]
  rfl
theorem laid_ok {mask : Nat} (hc : coverB (mask + 1) = true) (finger moves : Nat) (led plain : Bool) (hashes : Array Int) (hn : hashes.size ≤ mask) :
    ∃ t order, laid mask finger moves led plain hashes = some (t, order) ∧ t.mask = mask ∧ t.dummies = #[] ∧ t.led = led ∧ t.place.size = hashes.size ∧ Ris t.place.toList ∧ order.toList.Perm (List.range hashes.size) := by
  obtain ⟨o, e1, e2, e3⟩ := clean_ok hc hashes hn
  have eg : o.toList = (List.range (mask + 1)).map fun j => o.getD j none := by
    apply List.ext_getElem?
    intro i
    rw [Array.getElem?_toList, List.getElem?_map]
    by_cases hi : i < mask + 1
    · rw [List.getElem?_range hi, Array.getElem?_eq_getElem (by omega)]
      show some o[i] = some (o.getD i none)
      unfold Array.getD
      rw [dif_pos (show i < o.size by omega)]
      rfl
    · rw [Array.getElem?_eq_none (by omega), List.getElem?_eq_none (by rw [List.length_range]; omega)]
      rfl
  have es : ((List.range (mask + 1)).filterMap fun j => (o.getD j none).map (j, ·)).map (·.2) = o.toList.filterMap id := by
    rw [eg, List.filterMap_map, List.map_filterMap]
    congr 1
    funext j
    show ((o.getD j none).map fun x => (j, x)).map (·.2) = o.getD j none
    cases o.getD j none <;> rfl
  have ef : (((List.range (mask + 1)).filterMap fun j => (o.getD j none).map (j, ·)).map (·.1)).Sublist (List.range (mask + 1)) := by
    have : ((List.range (mask + 1)).filterMap fun j => (o.getD j none).map (j, ·)).map (·.1) = (List.range (mask + 1)).filter fun j => (o.getD j none).isSome := by
      rw [List.map_filterMap, ← List.filterMap_eq_filter]
      congr 1
      funext j
      show ((o.getD j none).map fun x => (j, x)).map (·.1) = (if (o.getD j none).isSome = true then some j else none)
      cases o.getD j none <;> rfl
    rw [this]
    exact List.filter_sublist
  refine ⟨_, _, by unfold laid; rw [e1]; rfl, rfl, rfl, rfl, ?_, ?_, ?_⟩
  · show (((List.range (mask + 1)).filterMap fun j => (o.getD j none).map (j, ·)).map (·.1)).toArray.size = _
    have hh : (((List.range (mask + 1)).filterMap fun j => (o.getD j none).map (j, ·)).map (·.2)).length = hashes.size := by
      rw [es, e3.length_eq, List.length_range]
    rw [List.size_toArray, List.length_map]
    rw [List.length_map] at hh
    exact hh
  · show Ris (((List.range (mask + 1)).filterMap fun j => (o.getD j none).map (j, ·)).map (·.1)).toArray.toList
    exact (List.pairwise_lt_range).sublist ef
  · show (((List.range (mask + 1)).filterMap fun j => (o.getD j none).map (j, ·)).map (·.2)).toArray.toList.Perm _
    rw [show (((List.range (mask + 1)).filterMap fun j => (o.getD j none).map (j, ·)).map (·.2)).toArray.toList = _ from rfl, es]
    exact e3
end DL

/-! Data layer, part 75: a set of texts merged into another one. -/
namespace DL
open PySem L2 PyProof.Rows PySem.Froz
section
variable {P : Program} {w : World} {A : Around} {E : Value → Shared → Prop} {s : Shared} {a r : Addr} {l : List Str}
theorem filt_range {α : Type} : ∀ l : List α, (List.range l.length).filterMap (fun i => l[i]?) = l
  | [] => rfl
  | x :: l => by
    rw [List.length_cons, List.range_succ_eq_map]
    show x :: (((List.range l.length).map Nat.succ).filterMap fun i => (x :: l)[i]?) = x :: l
    rw [List.filterMap_map]
    exact congrArg (x :: ·) (filt_range l)
theorem order_perm {α : Type} {es : Array α} {order : Array Nat} (p : order.toList.Perm (List.range es.size)) : (order.filterMap (es[·]?)).toList.Perm es.toList := by
  rw [Array.toList_filterMap]
  refine (p.filterMap _).trans ?_
  have := filt_range es.toList
  rw [Array.length_toList] at this
  have e : (fun i : Nat => es[i]?) = fun i => es.toList[i]? := by funext i; rw [Array.getElem?_toList]
  rw [e, this]
/-- elements in their new order -/
theorem wp_reordered {es : Array (Int × Value)} {t : SetTable} {order : Array Nat} {Q : Array (Int × Value) × SetTable → Shared → Prop} (p : order.toList.Perm (List.range es.size)) (h : Q (order.filterMap (es[·]?), t) s) :
    wpAny (model P w) A (do
      let some (t, order) := (some (t, order) : Option (SetTable × Array Nat)) | unsupported "internal:set-table-without-room"
      let es' := order.filterMap (es[·]?)
      if es'.size != es.size then unsupported "internal:set-table-lost-an-element"
      pure (es', t)) Q E s := by
  have hz : (order.filterMap (es[·]?)).size = es.size := by
    have := (order_perm p).length_eq
    rwa [Array.length_toList, Array.length_toList] at this
  show wpAny _ _ (do
      let es' := order.filterMap (es[·]?)
      if es'.size != es.size then unsupported "internal:set-table-lost-an-element"
      pure (es', t)) _ _ _
  have hb : ((order.filterMap (es[·]?)).size != es.size) = false := by simp [hz]
  simp only [hb, Bool.false_eq_true, if_false]
  exact wpAny_pure h
theorem relay_def (a : Addr) (wanted : Nat) : setRelay a wanted = (do
    let (es, _, t) ← setState a
    if SetTable.sizeAbove wanted > sizeLine then unsupported "set:memory"
    let (es, t) ← (do
      let some (t, order) := t.relaid (es.map (·.1)) wanted | unsupported "internal:set-table-without-room"
      let es' := order.filterMap (es[·]?)
      if es'.size != es.size then unsupported "internal:set-table-lost-an-element"
      pure (es', t))
    storeSet a es t) := rfl
theorem size_above : ∀ n : Fin 61, (SetTable.sizeAbove n.val = 8 ∨ SetTable.sizeAbove n.val = 16 ∨ SetTable.sizeAbove n.val = 32 ∨ SetTable.sizeAbove n.val = 64) ∧ n.val < SetTable.sizeAbove n.val := by decide +kernel
theorem size_cover {n : Nat} (h : n ≤ 60) : coverB (SetTable.sizeAbove n - 1 + 1) = true ∧ n < SetTable.sizeAbove n ∧ SetTable.sizeAbove n ≤ 64 := by
  obtain ⟨h1, h2⟩ := size_above ⟨n, by omega⟩
  simp only at h1 h2
  rcases h1 with e | e | e | e <;> rw [e] at h2 ⊢
  · exact ⟨cover8, h2, by omega⟩
  · exact ⟨cover16, h2, by omega⟩
  · exact ⟨cover32, h2, by omega⟩
  · exact ⟨cover64, h2, by omega⟩
/-- what a set of texts needs of a table laid anew -/
theorem setX_laid {h : Heap} {es es' : Array (Int × Value)} {ep ep' : Nat} {t t' : SetTable} (R : TxOk P w (es, ep, t) l) (nd : l.Nodup) (hl : w.params.followText "set-order" = true ∨ t'.led = true) (p : es'.toList.Perm es.toList) (hz : t'.place.size = es.size) (hr : Ris t'.place.toList) (hf : t'.fill ≤ t'.mask)
    (ho : h.get? a = some (sObj "set" (es', ep', t'))) : SetX P w h a l := by
  have hs : es'.size = es.size := by have := p.length_eq; rwa [Array.length_toList, Array.length_toList] at this
  refine ⟨_, ho, R.perm p ?_, nd, hr, hl⟩
  unfold SetTable.fits
  rw [hz, hs]
  simp [hf]
theorem wp_relay {wanted : Nat} {Z : SD} {Q : Unit → Shared → Prop} (ho : s.heap.get? a = some (sObj "set" Z)) (hf : Z.2.2.fits Z.1.size = true) (hw : wanted ≤ 60) (hn : Z.1.size ≤ wanted)
    (h : ∀ es' t', es'.toList.Perm Z.1.toList → t'.mask = SetTable.sizeAbove wanted - 1 → t'.dummies = #[] → t'.led = Z.2.2.led → t'.place.size = Z.1.size → Ris t'.place.toList →
      Q () { s with heap := s.heap.update a (fun _ => sObj "set" (es', Z.2.1 + 1, t')) }) : wpAny (model P w) A (setRelay a wanted) Q E s := by
  obtain ⟨es, ep, t⟩ := Z
  obtain ⟨hc, h1, h2⟩ := size_cover hw
  rw [relay_def]
  refine wpAny_bind (wpAny_setState_of ho rfl hf ?_)
  dsimp only
  rw [if_neg (by rw [sizeLine_eq]; omega)]
  obtain ⟨t', order, e, m1, m2, m3, m4, m5, m6⟩ := laid_ok hc t.finger (t.movedTo (SetTable.sizeAbove wanted - 1)) t.led t.plain (es.map (·.1)) (by rw [Array.size_map]; show es.size ≤ _; have : es.size ≤ wanted := hn; omega)
  rw [Array.size_map] at m4 m6
  have er : t.relaid (es.map (·.1)) wanted = some (t', order) := e
  rw [er]
  refine wpAny_bind (wp_reordered m6 ?_)
  have pp := order_perm (es := es) m6
  have hz : (order.filterMap (es[·]?)).size = es.size := by
    have := pp.length_eq
    rwa [Array.length_toList, Array.length_toList] at this
  refine wpAny_storeSet_of ho rfl ?_ (by rw [hz, sizeLine_eq]; have : es.size ≤ wanted := hn; omega)
  have hu : s.heap.update a (Obj.putSet (order.filterMap (es[·]?)) t') = s.heap.update a (fun _ => sObj "set" (order.filterMap (es[·]?), ep + 1, t')) := by
    rw [upd_const _ ho]
    rfl
  rw [hu]
  exact h _ t' pp m1 m2 m3 m4 m5
theorem room_def (a : Addr) (more : Nat) : setRoomFor a more = (do
    if let some wanted := (← setState a).2.2.roomFor more then setRelay a wanted) := rfl
/-- room in a set for some more -/
theorem wp_room {more : Nat} {Q : Unit → Shared → Prop} (R : SetX P w s.heap a l) (hb : l.length + more ≤ 30) (h : ∀ h', Heap.SameBut a s.heap h' → SetX P w h' a l → Q () { s with heap := h' }) : wpAny (model P w) A (setRoomFor a more) Q E s := by
  obtain ⟨Z, ho, T, nd, hr, hl⟩ := R
  rw [room_def]
  refine wpAny_bind (wpAny_setState_of ho rfl T.fit ?_)
  dsimp only
  cases hm : Z.2.2.roomFor more with
  | none => exact wpAny_pure (h s.heap (Heap.SameBut.refl a s.heap) ⟨Z, ho, T, nd, hr, hl⟩)
  | some wanted =>
    have hp : Z.2.2.place.size = Z.1.size := by
      have := T.fit
      unfold SetTable.fits at this
      simp only [Bool.and_eq_true, beq_iff_eq] at this
      exact this.1
    have hz := T.sz
    unfold SetTable.roomFor at hm
    split at hm
    · have hm := Option.some.inj hm
      refine wp_relay ho T.fit (wanted := wanted) (by omega) (by omega) fun es' t' p m1 m2 m3 m4 m5 => ?_
      refine h _ (Heap.SameBut.update s.heap a _) (setX_laid (es := Z.1) (ep := Z.2.1) (t := Z.2.2) T nd ?_ p m4 m5 ?_ (get_upd _ ho rfl))
      · rw [m3]; exact hl
      · obtain ⟨_, h1, _⟩ := size_cover (n := wanted) (by omega)
        unfold SetTable.fill
        rw [m2, m4, m1]
        show Z.1.size + 0 ≤ _
        omega
    · cases hm
/-- the set at a is as newly made, or with a table laid for no element -/
def Bare0 (w : World) (h : Heap) (a : Addr) (m : Nat) : Prop := ∃ ep t, h.get? a = some (sObj "set" (#[], ep, t)) ∧ t.place = #[] ∧ t.dummies = #[] ∧ t.mask = m ∧ (w.params.followText "set-order" = true ∨ t.led = true)
theorem wp_room0 {more : Nat} {Q : Unit → Shared → Prop} (R : Bare0 w s.heap a 7) (hb : more ≤ 30) (h : ∀ h' m, Heap.SameBut a s.heap h' → Bare0 w h' a m → more ≤ m → coverB (m + 1) = true → Q () { s with heap := h' }) : wpAny (model P w) A (setRoomFor a more) Q E s := by
  obtain ⟨ep, t, ho, h1, h2, h3, hl⟩ := R
  have hf : t.fits (#[] : Array (Int × Value)).size = true := by
    unfold SetTable.fits SetTable.fill
    rw [h1, h2]
    simp
  rw [room_def]
  refine wpAny_bind (wpAny_setState_of ho rfl hf ?_)
  dsimp only
  cases hm : t.roomFor more with
  | none =>
    refine wpAny_pure (h s.heap 7 (Heap.SameBut.refl a s.heap) ⟨ep, t, ho, h1, h2, h3, hl⟩ ?_ cover8)
    unfold SetTable.roomFor SetTable.fill at hm
    rw [h1, h2, h3] at hm
    split at hm
    · cases hm
    · next q => simp at q; omega
  | some wanted =>
    unfold SetTable.roomFor at hm
    split at hm
    · have hm := Option.some.inj hm
      rw [h1] at hm
      have hm : (0 + more) * 2 = wanted := hm
      obtain ⟨c1, c2, c3⟩ := size_cover (n := wanted) (by omega)
      refine wp_relay (Z := (#[], ep, t)) ho hf (wanted := wanted) (by omega) (by simp) fun es' t' p m1 m2 m3 m4 m5 => ?_
      have he : es' = #[] := by
        apply Array.eq_empty_of_size_eq_zero
        have := p.length_eq
        simpa using this
      subst he
      refine h _ _ (Heap.SameBut.update s.heap a _) ⟨ep + 1, t', get_upd _ ho rfl, ?_, m2, m1, ?_⟩ (by omega) c1
      · exact Array.eq_empty_of_size_eq_zero (by rw [m4]; rfl)
      · rw [m3]; exact hl
    · cases hm
theorem merge_def (a b : Addr) (each : Sem Unit) : setMerge a b each = (do
    if a == b then return
    let (eo, epoch, to) ← setState b
    if eo.isEmpty then return
    setRoomFor a eo.size
    let (_, _, ts) ← setState a
    match ts.road to with
    | .slotForSlot => storeSet a eo { to with finger := ts.finger, led := ts.led && to.led, moves := ts.moves, plain := ts.plain && to.plain }
    | .clean =>
      let (es, t) ← (do
        let some (t, order) := SetTable.laid ts.mask ts.finger ts.moves (led := ts.led && to.led) (plain := ts.plain && to.plain) (eo.map (·.1)) | unsupported "internal:set-table-without-room"
        let es' := order.filterMap (eo[·]?)
        if es'.size != eo.size then unsupported "internal:set-table-lost-an-element"
        pure (es', t))
      storeSet a es t
    | .oneByOne =>
      for (h, x) in ← setWalkUnseen b [a] (some a) do
        let _ ← holding [x] (setAddHashed a x h)
        each
        if (← setState b).2.1 != epoch then unsupported "set.changed-during-merge") := rfl
variable {b : Addr} {l2 : List Str}
theorem wp_clean {es : Array (Int × Value)} {mask finger moves : Nat} {led plain : Bool} {Q : Array (Int × Value) × SetTable → Shared → Prop} (hc : coverB (mask + 1) = true) (hn : es.size ≤ mask)
    (h : ∀ es' t', es'.toList.Perm es.toList → t'.mask = mask → t'.dummies = #[] → t'.led = led → t'.place.size = es.size → Ris t'.place.toList → Q (es', t') s) : wpAny (model P w) A (do
      let some (t, order) := SetTable.laid mask finger moves (led := led) (plain := plain) (es.map (·.1)) | unsupported "internal:set-table-without-room"
      let es' := order.filterMap (es[·]?)
      if es'.size != es.size then unsupported "internal:set-table-lost-an-element"
      pure (es', t)) Q E s := by
  obtain ⟨t', order, e, m1, m2, m3, m4, m5, m6⟩ := laid_ok hc finger moves led plain (es.map (·.1)) (by rw [Array.size_map]; exact hn)
  rw [Array.size_map] at m4 m6
  rw [e]
  exact wp_reordered m6 (h _ t' (order_perm m6) m1 m2 m3 m4 m5)
/-- a set of texts merged into one that is as newly made -/
theorem wp_merge0 {each : Sem Unit} {Q : Unit → Shared → Prop} (R : Bare0 w s.heap a 7) (R2 : SetX P w s.heap b l2) (hab : a ≠ b) (hb : l2.length ≤ 15)
    (h : ∀ h', Heap.SameBut a s.heap h' → (SetX P w h' a l2 ∧ l2 ≠ [] ∨ (l2 = [] ∧ h' = s.heap)) → Q () { s with heap := h' }) : wpAny (model P w) A (setMerge a b each) Q E s := by
  obtain ⟨Z, ho, T, nd, hr, hl⟩ := R2
  obtain ⟨eo, epoch, to⟩ := Z
  rw [merge_def]
  rw [if_neg (by simpa using hab)]
  refine wpAny_bind (wpAny_setState_of ho rfl T.fit ?_)
  dsimp only
  have hsz : eo.size = l2.length := T.sz
  cases hem : eo.isEmpty with
  | true =>
    rw [if_pos rfl]
    have : l2 = [] := by
      have := Array.isEmpty_iff.mp hem
      rw [this] at hsz
      exact List.eq_nil_of_length_eq_zero hsz.symm
    exact wpAny_pure (h s.heap (Heap.SameBut.refl a s.heap) (.inr ⟨this, rfl⟩))
  | false =>
    rw [if_neg (by decide)]
    refine wpAny_bind (wp_room0 R (by omega) fun h' m sb R' hmm hc => ?_)
    obtain ⟨ep, ts, hoa, p1, p2, p3, pl⟩ := R'
    have hf : ts.fits (#[] : Array (Int × Value)).size = true := by
      unfold SetTable.fits SetTable.fill
      rw [p1, p2]
      simp
    have hob : h'.get? b = some (sObj "set" (eo, epoch, to)) := (sb.2 b (Ne.symm hab)).trans ho
    refine wpAny_bind (wpAny_setState_of hoa rfl hf ?_)
    dsimp only
    have led' : w.params.followText "set-order" = true ∨ (ts.led && to.led) = true := by
      rcases pl with z | z
      · exact .inl z
      · rcases hl with y | y
        · exact .inl y
        · have y : to.led = true := y
          exact .inr (by rw [z, y]; rfl)
    have fin : ∀ (es' : Array (Int × Value)) (t' : SetTable), es'.toList.Perm eo.toList → t'.place.size = eo.size → Ris t'.place.toList → t'.fill ≤ t'.mask → (w.params.followText "set-order" = true ∨ t'.led = true) →
        wpAny (model P w) A (storeSet a es' t') Q E { s with heap := h' } := fun es' t' p q1 q2 q3 q4 => by
      have hz : es'.size = eo.size := by have := p.length_eq; rwa [Array.length_toList, Array.length_toList] at this
      refine wpAny_storeSet_of hoa rfl ?_ (by rw [hz, sizeLine_eq]; omega)
      rw [upd_const _ hoa]
      refine h _ (sb.trans (Heap.SameBut.update h' a _)) (.inl ⟨setX_laid (ep' := ep + 1) T nd q4 p q1 q2 q3 (get_upd _ hoa rfl), fun z => by
        rw [z, List.length_nil] at hsz
        have := Array.eq_empty_of_size_eq_zero hsz
        rw [this] at hem
        cases hem⟩)
    have hto : to.place.size = eo.size ∧ to.fill ≤ to.mask := by
      have := T.fit
      unfold SetTable.fits at this
      simp only [Bool.and_eq_true, beq_iff_eq, decide_eq_true_eq] at this
      exact this
    cases hroad : ts.road to with
    | slotForSlot => exact fin eo _ (.refl _) hto.1 hr hto.2 led'
    | clean =>
      dsimp only
      rw [p3]
      refine wpAny_bind (wp_clean hc (by omega) fun es' t' q1 q2 q3 q4 q5 q6 => ?_)
      refine fin es' t' q1 q5 q6 ?_ (by rw [q4]; exact led')
      unfold SetTable.fill
      rw [q3, q5, q2]
      show eo.size + 0 ≤ m
      omega
    | oneByOne =>
      exfalso
      unfold SetTable.road SetTable.fill at hroad
      rw [p1, p2] at hroad
      simp at hroad
      split at hroad <;> cases hroad
theorem str_of {v : Value} {k : Str} (h : (strKind P w).is k v = true) : ∃ u, v = .str k u := by
  have h : v.isStrOf k = true := h
  cases v with
  | str x u =>
    unfold Value.isStrOf at h
    exact ⟨u, by rw [show x = k by simpa using h]⟩
  | _ => simp [Value.isStrOf] at h
theorem wp_quiet {S : List Addr} {Q : Bool → Shared → Prop} (hS : ∀ a ∈ S, ∃ l, SetX P w s.heap a l) (h : Q true s) : wpAny (model P w) A (setsQuiet S) Q E s := by
  unfold setsQuiet
  refine wpAny_bind (wpAny_forIn_list _ (fun rest z s' => z = ⟨none, PUnit.unit⟩ ∧ s' = s ∧ ∀ x ∈ rest, x ∈ S) _ ?_ ?_ S _ ⟨rfl, rfl, fun x hx => hx⟩)
  · rintro a rest z s' ⟨rfl, rfl, hr⟩
    obtain ⟨l, Z, ho, T, _⟩ := hS a (hr a List.mem_cons_self)
    refine wpAny_bind (wpAny_setEntries_of ho rfl T.fit ?_)
    rw [← Array.forIn_toList]
    refine wpAny_bind (wpAny_forIn_list _ (fun rest' z' s'' => z' = ⟨none, PUnit.unit⟩ ∧ s'' = s' ∧ ∀ x ∈ rest', x ∈ Z.1.toList) _ ?_ ?_ _ _ ⟨rfl, rfl, fun x hx => hx⟩)
    · rintro ⟨hh, x⟩ rest' z' s'' ⟨rfl, rfl, hr'⟩
      obtain ⟨⟨k, hk, _⟩, _⟩ := T.el _ (hr' (hh, x) List.mem_cons_self)
      obtain ⟨u, e⟩ := str_of (P := P) (w := w) hk
      have e : x = .str k u := e
      subst e
      exact wpAny_pure ⟨rfl, rfl, fun y hy => hr' y (List.mem_cons_of_mem _ hy)⟩
    · rintro z' s'' ⟨rfl, rfl, _⟩
      exact wpAny_pure ⟨rfl, rfl, fun y hy => hr y (List.mem_cons_of_mem _ hy)⟩
  · rintro z s' ⟨rfl, rfl, _⟩
    exact wpAny_pure h
theorem unseen_def (a : Addr) (others : List Addr) (filled : Option Addr) : setWalkUnseen a others filled = (do
    let (es, _, t) ← setState a
    let byText ← setsByText
    if byText || (t.led && t.plain) || es.size ≤ 1 then return ← setWalk a
    if !(← setsQuiet (a :: others)) then return ← setWalk a
    rule "set.walk.of-a-marked-set-that-nobody-sees"
    if let some f := filled then
      let (ef, _, tf) ← setState f
      if (tf.led && !t.led) || (tf.plain && !t.plain) then storeSet f ef { tf with led := tf.led && t.led, plain := tf.plain && t.plain }
    return es) := rfl
theorem walk_def (a : Addr) : setWalk a = (do
    let (es, epoch, t) ← setState a
    if ← setsByText then return pickOrder ((← ask).params.setOrder a epoch) es
    if (!t.plain && es.size > 1) then return (← drawOrder es.size es.toList).toArray
    (do if !t.led && es.size > 1 then unsupported "set:maker-not-led" : Sem Unit)
    return es) := rfl
/-- a set's texts, in some order, as one walks that fills another set -/
theorem wp_unseen {Q : Array (Int × Value) → Shared → Prop} (R : SetX P w s.heap a l) (R2 : SetX P w s.heap b l2) (hab : a ≠ b) (hlen : l.length ≤ 100)
    (h : ∀ es h', Heap.SameBut a s.heap h' → SetX P w h' a l → ElemsOf (strKind P w) es.toList → (∀ k : Str, k ∈ l2 ↔ ∃ e ∈ es.toList, (strKind P w).is k e.2 = true) → es.size = l2.length → Q es { s with heap := h' }) : wpAny (model P w) A (setWalkUnseen b [a] (some a)) Q E s := by
  have R0 := R
  have R20 := R2
  obtain ⟨Z, ho, T, nd, hr, hl⟩ := R2
  obtain ⟨Y, hoa, Ta, nda, hra, hla⟩ := R
  obtain ⟨es, ep, t⟩ := Z
  have fin : ∀ es' : Array (Int × Value), es'.toList.Perm es.toList → Q es' s := fun es' p => by
    have hz : es'.size = es.size := by have := p.length_eq; rwa [Array.length_toList, Array.length_toList] at this
    exact h es' s.heap (Heap.SameBut.refl a s.heap) R0 (T.el.perm p) (fun k => (T.mem k).trans ⟨fun ⟨e, he, q⟩ => ⟨e, p.mem_iff.mpr he, q⟩, fun ⟨e, he, q⟩ => ⟨e, p.mem_iff.mp he, q⟩⟩) (hz.trans T.sz)
  rw [unseen_def]
  refine wpAny_bind (wpAny_setState_of ho rfl T.fit ?_)
  dsimp only
  refine wpAny_bind (wpAny_byText ?_)
  by_cases hc : (w.params.followText "set-order" || (t.led && t.plain) || decide (es.size ≤ 1)) = true
  · rw [if_pos hc, walk_def]
    refine wpAny_bind (wpAny_setState_of ho rfl T.fit ?_)
    dsimp only
    refine wpAny_bind (wpAny_byText ?_)
    cases hb : w.params.followText "set-order" with
    | true =>
      rw [if_pos rfl]
      exact wpAny_bind (wpAny_askSetting (wpAny_pure (fin _ (pick_perm _ es))))
    | false =>
      rw [if_neg (by decide)]
      rw [hb, Bool.false_or, Bool.or_eq_true, Bool.and_eq_true, decide_eq_true_eq] at hc
      have h1 : (!t.plain && decide (es.size > 1)) = false := by
        rcases hc with ⟨_, z⟩ | z
        · rw [z]; rfl
        · rw [decide_eq_false (by omega), Bool.and_false]
      have h2 : (!t.led && decide (es.size > 1)) = false := by
        rcases hc with ⟨z, _⟩ | z
        · rw [z]; rfl
        · rw [decide_eq_false (by omega), Bool.and_false]
      rw [h1, h2]
      exact wpAny_bind (wpAny_pure (wpAny_pure (fin es (.refl _))))
  · rw [if_neg hc]
    refine wpAny_bind (wp_quiet (S := [b, a]) (fun x hx => ?_) ?_)
    · simp only [List.mem_cons, List.not_mem_nil, or_false] at hx
      rcases hx with rfl | rfl
      · exact ⟨_, R20⟩
      · exact ⟨_, R0⟩
    · rw [if_neg (by decide)]
      refine wpAny_bind (wpAny_rule ?_)
      refine wpAny_bind (wpAny_setState_of hoa rfl Ta.fit ?_)
      obtain ⟨ef, ef2, tf⟩ := Y
      dsimp only
      have hes : ElemsOf (strKind P w) es.toList := T.el
      by_cases hq : (tf.led && !t.led || tf.plain && !t.plain) = true
      · rw [if_pos hq]
        have hzf : ef.size = l.length := Ta.sz
        refine wpAny_bind (wpAny_storeSet_of hoa rfl ?_ ?_)
        · rw [upd_const _ hoa]
          have hto : tf.place.size = ef.size ∧ tf.fill ≤ tf.mask := by
            have := Ta.fit
            unfold SetTable.fits at this
            simp only [Bool.and_eq_true, beq_iff_eq, decide_eq_true_eq] at this
            exact this
          refine wpAny_pure (h es _ (Heap.SameBut.update s.heap a _) (setX_laid (es := ef) (es' := ef) (ep := ef2) (ep' := ef2 + 1) (t := tf) (t' := { tf with led := tf.led && t.led, plain := tf.plain && t.plain }) Ta nda ?_ (.refl _) hto.1 hra hto.2 (get_upd _ hoa rfl)) T.el T.mem T.sz)
          rcases hl with z | z
          · exact .inl z
          · rcases hla with y | y
            · exact .inl y
            · have y : tf.led = true := y
              have z : t.led = true := z
              exact .inr (by show (tf.led && t.led) = true; rw [y, z]; rfl)
        · rw [sizeLine_eq]
          omega
      · rw [if_neg hq]
        exact wpAny_pure (fin es (.refl _))
/-- a set of texts merged into another one -/
theorem wp_merge {was : Nat} {id : String} {Q : Unit → Shared → Prop} (R : SetX P w s.heap a l) (R2 : SetX P w s.heap b l2) (hab : a ≠ b) (hne : l ≠ []) (hb : l.length ≤ 15) (hb2 : l2.length ≤ 15) (hw : ∀ Z : SD, s.heap.get? b = some (sObj "set" Z) → Z.2.1 = was)
    (h : ∀ h' l', Heap.SameBut a s.heap h' → SetX P w h' a l' → (∀ k, k ∈ l' ↔ k ∈ l ∨ k ∈ l2) → l'.length ≤ 30 → Q () { s with heap := h' }) : wpAny (model P w) A (setMerge a b (Builtin.Frozenset.unchanged id b was)) Q E s := by
  have R20 := R2
  obtain ⟨Z, ho, T, nd, hr, hl⟩ := R2
  obtain ⟨eo, epoch, to⟩ := Z
  rw [merge_def]
  rw [if_neg (by simpa using hab)]
  refine wpAny_bind (wpAny_setState_of ho rfl T.fit ?_)
  dsimp only
  have hsz : eo.size = l2.length := T.sz
  have hep : epoch = was := hw _ ho
  cases hem : eo.isEmpty with
  | true =>
    rw [if_pos rfl]
    have : l2 = [] := by
      have := Array.isEmpty_iff.mp hem
      rw [this] at hsz
      exact List.eq_nil_of_length_eq_zero hsz.symm
    refine wpAny_pure (h s.heap l (Heap.SameBut.refl a s.heap) R (fun k => ?_) (by omega))
    rw [this]
    simp
  | false =>
    rw [if_neg (by decide)]
    refine wpAny_bind (wp_room R (by omega) fun h' sb R' => ?_)
    have R'0 := R'
    obtain ⟨Y, hoa, Ta, nda, hra, hla⟩ := R'
    have hob : h'.get? b = some (sObj "set" (eo, epoch, to)) := (sb.2 b (Ne.symm hab)).trans ho
    have Rb : SetX P w h' b l2 := ⟨_, hob, T, nd, hr, hl⟩
    refine wpAny_bind (wpAny_setState_of hoa rfl Ta.fit ?_)
    dsimp only
    have hroad : Y.2.2.road to = .oneByOne := by
      have h1 := Ta.fit
      unfold SetTable.fits at h1
      simp only [Bool.and_eq_true, beq_iff_eq, decide_eq_true_eq] at h1
      have h2 := Ta.sz
      have h3 : 0 < l.length := List.length_pos_iff.mpr hne
      have h4 : Y.2.2.fill ≠ 0 := by unfold SetTable.fill; omega
      unfold SetTable.road
      rw [if_pos (by simpa using h4)]
    rw [hroad]
    dsimp only
    refine wpAny_bind (wp_unseen (s := { s with heap := h' }) R'0 Rb hab (by omega) fun es h2 sb2 R3 el mem hz => ?_)
    rw [← Array.forIn_toList]
    have hzl : es.toList.length = l2.length := by rw [Array.length_toList]; exact hz
    refine wpAny_bind (wpAny_mono (wpAny_forIn_list _ (fun (rest : List (Int × Value)) (_ : PUnit) s' => ∃ done hh l', es.toList = done ++ rest ∧ s' = { s with heap := hh } ∧ Heap.SameBut a s.heap hh ∧ SetX P w hh a l' ∧ l'.length ≤ l.length + done.length ∧ (∀ k, k ∈ l' ↔ k ∈ l ∨ ∃ e ∈ done, (strKind P w).is k e.2 = true))
      (fun (_ : PUnit) s' => ∃ hh l', s' = { s with heap := hh } ∧ Heap.SameBut a s.heap hh ∧ SetX P w hh a l' ∧ l'.length ≤ l.length + l2.length ∧ (∀ k, k ∈ l' ↔ k ∈ l ∨ k ∈ l2)) ?_ ?_ es.toList _ ⟨[], h2, l, rfl, rfl, sb.trans sb2, R3, Nat.le_refl _, fun k => by simp⟩) (fun _ s' ⟨hh, l', e, q1, q2, q3, q4⟩ => ?_) fun _ _ e => e)
    · rintro ⟨hx, x⟩ rest z s' ⟨done, hh, l', e1, rfl, q1, q2, q3, q4⟩
      have hmem : (hx, x) ∈ es.toList := by rw [e1]; simp
      obtain ⟨⟨k, hk, hhk⟩, _⟩ := el _ hmem
      obtain ⟨u, e⟩ := str_of (P := P) (w := w) hk
      have e : x = .str k u := e
      subst e
      have hhk : hx = hashStr w k := hhk
      subst hhk
      have hdl : done.length ≤ 15 := by
        have := congrArg List.length e1
        rw [List.length_append, List.length_cons, hzl] at this
        omega
      dsimp only
      refine wpAny_bind (wpAny_holding (setX_add (s := { s with heap := hh }) q2 (by show _ < scanBound; unfold scanBound; omega) fun bb h3 sb3 R4 => ?_))
      have hob3 : h3.get? b = some (sObj "set" (eo, epoch, to)) := ((q1.trans sb3).2 b (Ne.symm hab)).trans ho
      unfold Builtin.Frozenset.unchanged setEpoch
      refine wpAny_bind (wpAny_bind (wpAny_bind (wpAny_setState_of (s := { s with heap := h3 }) hob3 rfl T.fit (wpAny_pure ?_))))
      have hb1 : (epoch != was) = false := by rw [hep]; simp
      have hb2 : (epoch != epoch) = false := by simp
      show wpAny (model P w) A (if (epoch != was) = true then unsupported _ else pure ()) _ _ _
      rw [if_neg (by rw [hb1]; decide)]
      refine wpAny_pure (wpAny_bind (wpAny_setState_of (s := { s with heap := h3 }) hob3 rfl T.fit ?_))
      dsimp only
      rw [if_neg (by rw [hb2]; decide)]
      refine wpAny_pure ⟨done ++ [(hashStr w k, .str k u)], h3, insT l' k, by rw [e1, List.append_assoc]; rfl, rfl, q1.trans sb3, R4, ?_, fun j => ?_⟩
      · have := insT_len l' k
        rw [List.length_append]
        show _ ≤ l.length + (done.length + 1)
        omega
      · rw [insT_mem, q4]
        constructor
        · rintro ((z | ⟨e, he, hz⟩) | z)
          · exact .inl z
          · exact .inr ⟨e, List.mem_append_left _ he, hz⟩
          · exact .inr ⟨_, List.mem_append_right _ (List.mem_singleton.mpr rfl), by rw [z]; exact hk⟩
        · rintro (z | ⟨e, he, hz⟩)
          · exact .inl (.inl z)
          · rcases List.mem_append.mp he with he | he
            · exact .inl (.inr ⟨e, he, hz⟩)
            · rw [List.mem_singleton.mp he] at hz
              obtain ⟨u', e'⟩ := str_of (P := P) (w := w) hz
              have e' : Value.str k u = .str j u' := e'
              cases e'
              exact .inr rfl
    · rintro z s' ⟨done, hh, l', e1, rfl, q1, q2, q3, q4⟩
      rw [List.append_nil] at e1
      refine ⟨hh, l', rfl, q1, q2, by rw [← e1, hzl] at q3; exact q3, fun k => ?_⟩
      rw [q4, mem, e1]
    · subst e
      exact wpAny_pure (h hh l' q1 q2 q4 (by omega))
end
end DL

/-! Data layer, part 76: the union of two sets of texts; sorted({..} | {..}). -/
namespace DL
open PySem L2 PyProof.Rows PySem.Froz
open Builtin.Frozenset in
theorem or_def : Builtin.«frozenset.__or__» = fun args => (do
    let (self, other) ← slot1 "__or__" args
    let (l, r) := if false then (other, self) else (self, other)
    if !(← isAnySet l <&&> isAnySet r) then rule s!"frozenset.{"__or__"}.declined"; return ← ret .notImplemented
    let la ← addrOf l
    let v ← (do
      let result ← copyOf la
      if r != .ref la then holding [result] (updateFrom s!"frozenset.{"__or__"}" (← addrOf result) r)
      return result)
    ret v) := rfl
theorem entry_set_or : entryFor table "set.__or__" = some Builtin.«frozenset.__or__» :=
  entryFor_alias (id' := "frozenset.__or__") (by kernel_rfl) rfl (by decide +kernel) (by kernel_rfl)
section
variable {P : Program} {w : World} {A : Around} {E : Value → Shared → Prop} {s : Shared} {a b : Addr} {l l2 : List Str}
theorem SetX.typeIs {s : Shared} {a : Addr} {l : List Str} (R : SetX P w s.heap a l) : s.TypeIs (.ref a) "set" := by
  obtain ⟨Z, ho, _⟩ := R
  exact ⟨_, ho, rfl⟩
open Builtin Builtin.Frozenset in
theorem copy_def (a : Addr) : Builtin.Frozenset.copyOf a = (do
    let r ← newSet (← Builtin.Frozenset.baseOf a)
    setMerge (← addrOf r) a (pure ())
    return r) := rfl
open Builtin Builtin.Frozenset in
theorem upd_def (id : String) (a : Addr) (x : Value) : Builtin.Frozenset.updateFrom id a x = (do
    if ← Builtin.Frozenset.isAnySet x then return ← Builtin.Frozenset.merge id a (← addrOf x)
    if (← typeOf x) == .type "dict" then
      rule s!"{id}.from-dict"
      let d ← addrOf x
      if d == sysModules then unsupported "sys.modules:all-start-up-values-wanted"
      let epoch ← dictEpoch d
      setRoomFor a (← dictEntries d).size
      for i in [0:(← dictEntries d).size] do
        let some e := (← dictEntries d)[i]? | unsupported "internal:set-from-dict"
        let _ ← holding [e.key] (setAddHashed a e.key e.hash)
        if (← dictEpoch d) != epoch then unsupported s!"{id}:changed-during-callback"
      return
    let _ ← runValue (.builtin "set.update.loop" ⟨[.ref a, ← pyIter x], []⟩)) := rfl
theorem wp_anySet {Q : Bool → Shared → Prop} (h : s.TypeIs (.ref a) "set") (q : Q true s) : wpAny (model P w) A (Builtin.Frozenset.isAnySet (.ref a)) Q E s := by
  unfold Builtin.Frozenset.isAnySet
  refine wpAny_bind (wpAny_isInstance (b := true) h (by rw [isSubtype_type]; kernel_rfl) ?_)
  exact wpAny_pure q
theorem wp_newSet {Q : Value → Shared → Prop} (h : ∀ led, led = !(w.params.followText "set-order") → Q (.ref s.heap.objs.size) { s with heap := s.heap.push { cls := .type "set", dict := none, data := .set #[] 0 (.fresh 0 0 led) } }) :
    wpAny (model P w) A (newSet (.type "set")) Q E s := by
  unfold newSet
  refine wpAny_bind (wpAny_byText ?_)
  dsimp only
  simp only [newObj]
  exact wpAny_bind (wpAny_alloc (wpAny_pure (h _ rfl)))
theorem wp_copy {Q : Value → Shared → Prop} (R : SetX P w s.heap a l) (hb : l.length ≤ 15) (h : ∀ h', (∀ c o, s.heap.get? c = some o → h'.get? c = some o) → (SetX P w h' s.heap.objs.size l ∧ l ≠ [] ∨ l = [] ∧ Bare0 w h' s.heap.objs.size 7) → Q (.ref s.heap.objs.size) { s with heap := h' }) :
    wpAny (model P w) A (Builtin.Frozenset.copyOf a) Q E s := by
  rw [copy_def]
  unfold Builtin.Frozenset.baseOf
  refine wpAny_bind (wpAny_bind (wpAny_isInstance (b := true) R.typeIs (by rw [isSubtype_type]; kernel_rfl) (wpAny_pure ?_)))
  refine wpAny_bind (wp_newSet fun led hled => ?_)
  have hlt : ∀ c o, s.heap.get? c = some o → c ≠ s.heap.objs.size := fun c o e z => by
    rw [z] at e
    exact Nat.lt_irrefl _ (Heap.lt_size e)
  have k1 : ∀ c o, s.heap.get? c = some o → (s.heap.push { cls := .type "set", dict := none, data := .set #[] 0 (.fresh 0 0 led) }).get? c = some o := fun c o e => Heap.get?_push_of_some _ e
  have B : Bare0 w (s.heap.push { cls := .type "set", dict := none, data := .set #[] 0 (.fresh 0 0 led) }) s.heap.objs.size 7 := by
    refine ⟨0, .fresh 0 0 led, Heap.get?_push_size _ rfl, rfl, rfl, rfl, ?_⟩
    show _ ∨ led = true
    rw [hled]
    cases w.params.followText "set-order"
    · exact .inr rfl
    · exact .inl rfl
  obtain ⟨o, ho⟩ := R.ob
  have hne : s.heap.objs.size ≠ a := fun z => hlt a o ho z.symm
  show wpAny _ _ (do setMerge s.heap.objs.size a (pure ()); pure (Value.ref s.heap.objs.size)) _ _ _
  refine wpAny_bind (wp_merge0 (s := { s with heap := _ }) B (R.at (k1 a)) hne hb fun h' sb hr => wpAny_pure ?_)
  refine h h' (fun c o e => (sb.2 c (hlt c o e)).trans (k1 c o e)) ?_
  rcases hr with hr | ⟨h1, h2⟩
  · exact .inl hr
  · subst h2
    exact .inr ⟨h1, B⟩
theorem merge_id (id : String) (a b : Addr) : Builtin.Frozenset.merge id a b = (do
    let was ← setEpoch b
    setMerge a b (Builtin.Frozenset.unchanged id b was)) := rfl
theorem Bare0.setX {h : Heap} {m : Nat} (B : Bare0 w h a m) : SetX P w h a [] := by
  obtain ⟨ep, t, ho, h1, h2, h3, h4⟩ := B
  refine ⟨(#[], ep, t), ho, TxOk.nil ?_, List.nodup_nil, ?_, h4⟩
  · simp [SetTable.fits, h1, h2, SetTable.fill]
  · rw [show (#[], ep, t).2.2.place.toList = [] by rw [h1]]
    exact List.Pairwise.nil
/-- a | b -/
theorem call_or {Q : Value → Shared → Prop} (R : SetX P w s.heap a l) (R2 : SetX P w s.heap b l2) (hab : a ≠ b) (hb : l.length ≤ 15) (hb2 : l2.length ≤ 15)
    (h : ∀ h' l', (∀ c o, s.heap.get? c = some o → h'.get? c = some o) → SetX P w h' s.heap.objs.size l' → (∀ k, k ∈ l' ↔ k ∈ l ∨ k ∈ l2) → l'.length ≤ 30 → Q (.ref s.heap.objs.size) { s with heap := h' }) :
    wpAny (model P w) A (call (.builtin "set.__or__") [.ref a, .ref b]) Q E s := by
  refine wpAny_call_entry PySem.F.slot_set_or R.typeIs entry_set_or ?_ (PySem.F.args_set_or_2 _ _)
  rw [or_def]
  unfold Builtin.Frozenset.slot1 slotArgs
  show wpAny _ _ (do
    if !(← Builtin.Frozenset.isAnySet (.ref a) <&&> Builtin.Frozenset.isAnySet (.ref b)) then rule s!"frozenset.{"__or__"}.declined"; return ← ret .notImplemented
    let v ← (do
      let result ← Builtin.Frozenset.copyOf a
      if (Value.ref b) != .ref a then holding [result] (Builtin.Frozenset.updateFrom s!"frozenset.{"__or__"}" (← Builtin.Frozenset.addrOf result) (.ref b))
      return result)
    ret v) _ _ _
  refine wpAny_bind (wpAny_bind (wp_anySet R.typeIs (wp_anySet R2.typeIs ?_)))
  refine wpAny_bind (wpAny_bind (wp_copy R hb fun h' keep hs => ?_))
  have hlt : ∀ c o, s.heap.get? c = some o → c ≠ s.heap.objs.size := fun c o e z => by
    rw [z] at e
    exact Nat.lt_irrefl _ (Heap.lt_size e)
  obtain ⟨ob, hob⟩ := R2.ob
  have hne : s.heap.objs.size ≠ b := fun z => hlt b ob hob z.symm
  have hv : ((Value.ref b) != Value.ref a) = true := by
    simp [bne, BEq.beq]
    exact fun z => hab z.symm
  have fin : ∀ s2 : Shared, Q (.ref s.heap.objs.size) s2 → wpAny (model P w) A.in1 (ret (.ref s.heap.objs.size)) (fun fin s' => ∃ v, fin = Fin.done (Flow.ret v) ∧ Q v s') E s2 := fun s2 q => wpAny_pure ⟨_, rfl, q⟩
  have R2' : SetX P w h' b l2 := R2.at (keep b)
  obtain ⟨Z, ho, T, _⟩ := R2'
  rw [hv]
  simp only [if_true]
  refine wpAny_bind (wpAny_pure (wpAny_bind (wpAny_holding ?_)))
  rw [upd_def]
  refine wpAny_bind (wp_anySet (s := { s with heap := h' }) (R2.at (keep b)).typeIs ?_)
  simp only [if_true]
  refine wpAny_bind (wpAny_pure ?_)
  rw [merge_id]
  refine wpAny_bind (wpAny_setEpoch_of ho rfl T.fit ?_)
  rcases hs with ⟨RX, hne0⟩ | ⟨hl0, B⟩
  · refine wp_merge (s := { s with heap := h' }) RX (R2.at (keep b)) hne hne0 hb hb2 (fun Z' hZ => ?_) fun h2 l' sb RX' mem len => ?_
    · rw [ho] at hZ
      have e := congrArg (fun o : Option Obj => match o with | some ⟨_, _, .set _ e _, _⟩ => e | _ => 0) hZ
      exact e.symm
    · refine wpAny_pure (fin _ (h h2 l' (fun c o e => (sb.2 c (hlt c o e)).trans (keep c o e)) RX' mem len))
  · refine wp_merge0 (s := { s with heap := h' }) B (R2.at (keep b)) hne hb2 fun h2 sb hr => ?_
    refine wpAny_pure (fin _ (h h2 l2 (fun c o e => (sb.2 c (hlt c o e)).trans (keep c o e)) ?_ (fun k => by simp [hl0]) (by omega)))
    rcases hr with hr | ⟨h1, h3⟩
    · exact hr.1
    · subst h1
      rw [h3]
      exact B.setX
end
end DL

/-! Data layer, part 77: sorted({..} | {..}), texts. -/
namespace DL
open PySem L2 PySem.Froz PyProof.Rows
/-- e makes a new set of texts -/
def tZ (P : Program) (w : World) (K : PySem.W.Frag) (g : G) (f : En → Rs (List Str)) : TE := fun s H Q => ∃ F r, Rel K g F H s r ∧ post K g (fun ts r1 => ∀ F1 H1 A, Same F F1 → Rel K g F1 H1 s r1 → F A = none → F1 A = some (SetXO P w A (addT [] ts)) → ts.length ≤ 4000 → Q (.ref A) H1) (f r)
def scZ (cs : List GDt) (fe : En → Rs D) : En → Rs (List Str) := fun r => (lcA okS fe cs [] r).noE.bind fun ys r1 => ofO (strsOf ys) r1
section
variable {X : Cx} {g : G} {elt tg iter a b : Expr} {ifs : List Expr} {gs : List Comprehension} {scope : Scope} {own : List (PySem.Str × Nat)} {pos : Pos} {c : GDt} {cs : List GDt} {fe : En → Rs D} {fa fb : En → Rs (List Str)}
theorem pe_scZ (hc : X.calm = true) (hN : X.N.Nodup) (hi : DI X g tg iter c.f) (ok : BlkOk X.N X.env.scope scope own) (hvs : own.map (·.2) = c.vs) (hb : ∀ p ∈ g.B, p.1 ∉ c.vs) (hks : ∀ i ∈ c.ks, i ∈ c.vs)
    (hg : ∀ (s : Shared) (H : Hp) (C : Addr) (cx : List (PySem.Str × Addr)) (fp : List Addr) (g' : G), Blk g g' → DG (X.blk s H scope (compEnvC scope cx C X.env) fp) g' tg c.ks c.h)
    (ht : ∀ (s : Shared) (H : Hp) (C : Addr) (cx : List (PySem.Str × Addr)) (fp : List Addr) (g' : G), Blk g g' → PTs (X.blk s H scope (compEnvC scope cx C X.env) fp) ifs (tTD X.K g' c.t))
    (hal : AlD X g scope gs cs c.vs)
    (he : ∀ (s : Shared) (H : Hp) (C : Addr) (cx : List (PySem.Str × Addr)) (fp : List Addr) (g' : G), Blk g g' → DE (X.blk s H scope (compEnvC scope cx C X.env) fp) g' elt fe) (hs : ∀ x, foldedSetIterable iter X.env x = pure x := by intro _; rfl) :
    PE X (.SetComp elt (⟨tg, iter, ifs, 0⟩ :: gs) scope pos) (tZ X.prog X.w X.K g (scZ (c :: cs) fe)) := by
  have pe : PE X (.SetComp elt (⟨tg, iter, ifs, 0⟩ :: gs) scope pos) (tCn (fun D => SetXO X.prog X.w D []) (fun A => tmG (fun s H Q => ∃ g' : G, Blk g g' ∧ tD X.K g' fe s H Q) (EmS X.prog X.w A) A) (tID X.K g c.f) (fun v s H Q => ∃ g' : G, Blk g g' ∧ tGD X.K g' c.ks c.h v s H Q) (fun s H Q => ∃ g' : G, Blk g g' ∧ tTD X.K g' c.t s H Q) c.vs (cs.map (rdC X.K g))) := by
    rw [← hvs] at hal ⊢
    refine ⟨fun pins s σ H Q I h => ?_⟩
    rw [PpSet.eval_SetComp]
    exact comp_core (b := true) (acc0 := fun D => SetXO X.prog X.w D []) (o0 := set0 X.w) (fun {s Q} q => PpSet.newSet_ok q) (fun H h => setXO_new (setX_fresh (Heap.get?_push_size _ rfl))) hc hN I hi ok (AlD.z gs cs _ hal)
      (fun s H C cx fp => ⟨fun pins s2 σ H2 v u Q I rv ⟨g', eg, q⟩ => (hg s H C cx fp g' eg).run pins s2 σ H2 v u Q I rv q⟩)
      (fun s H C cx fp => ⟨fun pins s2 σ H2 Q I ⟨g', eg, q⟩ => (ht s H C cx fp g' eg).run pins s2 σ H2 Q I q⟩)
      (fun s H C cx fp D => pmG_set (Y := X.blk s H scope (compEnvC scope cx C X.env) fp) rfl ⟨fun pins s2 σ H2 Q I ⟨g', eg, q⟩ => (he s H C cx fp g' eg).run pins s2 σ H2 Q I q⟩)
      (fun s H C cx fp => AlD.al gs cs _ hal [⟨tg, iter, ifs, 0⟩] s H C cx fp) hs h
  refine PE.imp pe fun s H Q ⟨F, r, R, q⟩ => ?_
  refine top_imp (AR := ARS X.prog X.w) (Em := EmS X.prog X.w) (acc0 := fun D => SetXO X.prog X.w D []) (ok := okS) (fun sm h => h) (fun {A F H acc o v y} _ ⟨ts, e1, e2, hl⟩ hv hok => ?_) (fun A F => ⟨[], rfl, rfl, Nat.zero_le _⟩) c cs hb hks (AlD.bk gs cs _ hal) s H F r _ _ R (post_noE (post_bind q)) fun A F' r' acc' o' H' sm R' h1 h2 h3 h4 h5 ⟨ts, e1, e2, hl⟩ qc => ?_
  · subst e1 e2
    obtain ⟨k1, k2⟩ := Bool.and_eq_true_iff.mp (show (isT y && decide ((ts.map D.str).length < 4000)) = true from hok)
    have k2 := of_decide_eq_true k2
    rw [List.length_map] at k2
    cases y with
    | str t =>
      cases hv
      have hal2 := addT_len ts []
      simp only [List.length_nil] at hal2
      exact ⟨_, ⟨t, addT [] ts, rfl, rfl, by omega, rfl⟩, ts ++ [t], by rw [List.map_append]; rfl, by rw [addT_snoc], by rw [List.length_append]; exact k2⟩
    | _ => cases k1
  · subst e1 e2
    have qc := qc
    rw [strsOf_strs] at qc
    obtain ⟨s1, R1⟩ := R'.frzA h3 h5 h4 h2 h1
    refine qc _ H' A (sm.trans s1) R1 ?_ (L2.upd_same ..) hl
    cases eF : F A with
    | none => rfl
    | some u =>
      have := sm _ _ eF
      rw [h2] at this
      cases this
def rOrX (X : Cx) : R2 := fun x y H Q => ∃ a b l l2, x = .ref a ∧ y = .ref b ∧ a ≠ b ∧ H a = some (SetXO X.prog X.w a l) ∧ H b = some (SetXO X.prog X.w b l2) ∧ l.length ≤ 15 ∧ l2.length ≤ 15 ∧ ∀ p l', H p = none → l'.Nodup → (∀ k, k ∈ l' ↔ k ∈ l ∨ k ∈ l2) → l'.length ≤ 30 → Q (.ref p) (L2.upd H p (SetXO X.prog X.w p l'))
theorem opr_orX : OpR X (binaryOp .BitOr) (rOrX X) := by
  intro pins s σ H x y v u Q I rx ry h
  obtain ⟨a, b, l, l2, ex, ey, hab, ha, hb, hl, hl2, q⟩ := h
  subst ex ey
  obtain rfl : v = Value.ref a := rx
  obtain rfl : u = Value.ref b := ry
  have R : SetX X.prog X.w s.heap a l := (I.hok a _ ha).1
  have R2 : SetX X.prog X.w s.heap b l2 := (I.hok b _ hb).1
  refine wpAny_binaryOp_same (id := "set.__or__") R.typeIs R2.typeIs PySem.F.fills_set_or PySem.F.slot_set_or ?_
  refine call_or R R2 hab hl hl2 fun h' l' keep new mem len => ⟨nofun, ?_⟩
  obtain ⟨Z, _, _, nd, _⟩ := id new
  exact ⟨.ref _, _, I.laid (t' := s.toks) keep (Nat.le_refl _) (setXO_new new), rfl, q _ l' (I.hok.fresh (Nat.le_refl _)) nd mem len⟩
/-- sorted(a | b), sets of texts -/
def orS (fa fb : En → Rs (List Str)) : En → Rs OV := fun r => (fa r).bind fun ts r1 => (fb r1).bind fun us r2 => ofO (if (addT [] ts).length ≤ 15 ∧ (addT [] us).length ≤ 15 then some (OV.ow ((srtT (ts ++ us)).map D.str)) else none) r2
theorem do_srtOr {k : Nat} {p1 p2 p3 : Pos} (hr : Room k X.A) (hm : X.mg "sorted" = none) (ha : PE X a (tZ X.prog X.w X.K g fa)) (hb : PE X b (tZ X.prog X.w X.K g fb)) 
    (hgl : Gl X "sorted" := by rfl) (hst : starEach [.BinOp a .BitOr b p3] X.env = (false, eval (.BinOp a .BitOr b p3) X.env) :: starEach [] X.env := by rfl) :
    DO X g (.Call (.Name "sorted" p1) [.BinOp a .BitOr b p3] [] p2) (orS fa fb) := by
  refine PE.imp (pe_callB (cr_srtX hr) hgl hm (by decide +kernel) (pa_cons (pe_op opr_orX ha hb) pa_nil hst) (he := hst)) fun s H Q ⟨F, r, R, q⟩ => ?_
  unfold tCB tCons tNil tOp
  refine ⟨F, r, R, post_mono (post_bind q) fun ts r1 q1 F1 H1 A sm R1 fA eA hl => ?_⟩
  refine ⟨F1, r1, R1, post_mono (post_bind q1) fun us r2 q2 F2 H2 B sm2 R2 fB eB hl2 => ?_⟩
  obtain ⟨d, e, q2⟩ := post_ofO q2
  split at e
  · next hle =>
    cases e
    have eA2 := sm2 _ _ eA
    have hab : A ≠ B := fun z => by
      rw [← z, eA] at fB
      cases fB
    refine ⟨A, B, _, _, rfl, rfl, hab, R2.sub _ _ eA2, R2.sub _ _ eB, hle.1, hle.2, fun p l' np nd mem len => ?_⟩
    refine ⟨p, l', rfl, L2.upd_same .., by omega, fun p2 np2 => ?_⟩
    have e9 : l'.mergeSort leT = srtT (ts ++ us) := by
      refine srtT_uniq ((List.mergeSort_perm _ _).nodup_iff.mpr nd) (List.pairwise_mergeSort leT_trans leT_total _) fun k => ?_
      rw [List.mem_mergeSort, mem, List.mem_append]
      have a1 := srtT_mem ts k
      have a2 := srtT_mem us k
      unfold srtT at a1 a2
      rw [List.mem_mergeSort] at a1 a2
      rw [a1, a2]
    rw [e9]
    exact PO.new (R2.laid np) (RDs.strs _) (fun F3 H3 v s3 R3 h3 => q2 F3 H3 v ((sm.trans sm2).trans s3) R3 h3) p2 np2
  · cases e
end
end DL

/-! Data layer, part 78: a dict of the module whose values are any flat data. -/
namespace DL
open PySem L2
def TabV (K : PySem.W.Frag) (d : Addr) : List (Str × D) → Prop
  | [] => True
  | p :: r => (∃ u v, PySem.W.nsIn K d p.1 = some (some u) ∧ RelV v u ∧ ∀ F : Hp, RD K F v p.2) ∧ TabV K d r
theorem tab_ofV {K : PySem.W.Frag} {w : World} {d : Addr} {es : Array DictEntry} {n : Nat} (hl : K.lookup d = some ⟨.type "dict", none, .dict es n, #[]⟩) (hk : PySem.W.KeysLit w.params es.toList) (t : List (Str × D)) (h : TabV K d t) : Tab K w d t := by
  refine ⟨fun x z e => ?_⟩
  induction t with
  | nil => cases e
  | cons p r ih =>
    obtain ⟨⟨u, v, h1, rv, rd⟩, h2⟩ := h
    have e : (match x == p.1 with | true => some p.2 | false => r.lookup x) = some z := e
    cases hb : x == p.1 with
    | true =>
      rw [hb] at e
      cases e
      have hx : x = p.1 := eq_of_beq hb
      subst hx
      exact ⟨v, ⟨es, n, u, hl, hk, h1, rv⟩, rd⟩
    | false =>
      rw [hb] at e
      exact ih h2 e
end DL

/-! Data layer, part 79: enumerate of a list or of a tuple. -/
namespace DL
open PySem PySem.Spec PyProof.Rows L2
set_option maxHeartbeats 4000000 in
theorem meets_enumOf {v : Value} {o : Obj} {H : Heap → Prop} (B : Begins v o H) :
    Meets (Builtin.«enumerate.__new__» ⟨[.type "enumerate", v], []⟩) (fun _ R s => H s.heap ∧
      R (.ok (.ret (.ref (s.heap.push o).objs.size))) { s with heap := (s.heap.push o).push { cls := .type "enumerate", data := .fields #[.none, .bool false, .ref s.heap.objs.size, rawInt 0, .none, .none] } }) :=
  .of_wp fun prog w A R s h => by
    obtain ⟨hp, g, d, tk, os⟩ := s; obtain ⟨h1, h⟩ := h
    have hsub := sub_enumerate
    have q1 : ∀ {A' : Around} {E : Value → Shared → Prop} {Q : Value → Shared → Prop}, Q (.ref hp.objs.size) ⟨hp.push o, g, d, tk, os⟩ → wpAny (model prog w) A' (pyIter v) Q E ⟨hp, g, d, tk, os⟩ :=
      fun q => B.iter prog w _ _ ⟨hp, g, d, tk, os⟩ _ h1 q
    wp_walk using q1
    refine wpAny_stack_any fun st => wpAny_pure ?_
    split
    · rename_i c _ _ _ _ _
      cases (c == Value.type "enumerate")
      · wp_walk using q1
        exact ⟨_, rfl, h⟩
      · wp_walk using q1
        exact ⟨_, rfl, h⟩
    · wp_walk using q1
      exact ⟨_, rfl, h⟩
section
variable {prog : Program} {w : World} {A : Around} {E : Value → Shared → Prop} {s : Shared}
theorem call_enumOf {v : Value} {o : Obj} {H : Heap → Prop} {Q : Value → Shared → Prop} (B : Begins v o H) (h1 : H s.heap)
    (h : ∀ h', IsEnum h' (s.heap.objs.size + 1) s.heap.objs.size 0 .none → h'.get? s.heap.objs.size = some o → h'.objs.size = s.heap.objs.size + 2 →
      (∀ b o, s.heap.get? b = some o → h'.get? b = some o) → Q (.ref (s.heap.objs.size + 1)) { s with heap := h' }) :
    wpAny (model prog w) A (call (.type "enumerate") [v]) Q E s := by
  refine callType_new F.called_enumerate (by decide) (F.typeCall_enumerate_1 _) (F.newCall_enumerate_1 _) (fun obj => F.args_object_init_2 obj _) F.entry_enumerate_new
    (meets_enumOf B) ⟨h1, ?_⟩
  have hz : (s.heap.push o).objs.size = s.heap.objs.size + 1 := Heap.size_push ..
  show _ ∧ _
  rw [hz]
  have he : IsEnum ((s.heap.push o).push { cls := .type "enumerate", data := .fields #[.none, .bool false, .ref s.heap.objs.size, rawInt 0, .none, .none] }) (s.heap.objs.size + 1) s.heap.objs.size 0 .none := by
    have := Heap.get?_push_size (s.heap.push o) (o := { cls := .type "enumerate", data := .fields #[.none, .bool false, .ref s.heap.objs.size, rawInt 0, .none, .none] }) rfl
    rw [hz] at this; exact this
  refine ⟨⟨_, he, rfl⟩, h _ he (Heap.get?_push_of_some _ (Heap.get?_push_size _ B.free)) (by rw [Heap.size_push, hz]) fun b o x => Heap.get?_push_of_some _ (Heap.get?_push_of_some _ x)⟩
end
/-- the tuple at a, each item in a new pair -/
def IteT (K : PySem.W.Frag) (a : Addr) : It :=
  ⟨fun i H => ∃ (xs : List V) (x : V), SqT K H a xs ∧ xs[i]? = some x, fun i H v H' => ∃ T x, v = .ref T ∧ H T = none ∧ H' = L2.upd H T (.tup [.int (i : Nat), x]) ∧ ∀ xs, SqT K H a xs → xs[i]? = some x, fun i H => ∃ xs : List V, SqT K H a xs ∧ xs.length ≤ i⟩
theorem turn_enumT {P : Program} {w : World} {K : PySem.W.Frag} {elts : List Expr} {kk : Nat} {tpos : Pos} (a e it : Addr) :
    Turn P w K (.Tuple elts kk tpos) (IteT K a) [e, it] e (fun i h => (∃ old, IsEnum h e it ((i : Nat) : Int) old) ∧ h.IsTupleIter it a i ∧ e ≠ it) where
  mem := by simp
  obj := fun i h st b hb => by
    obtain ⟨⟨old, he⟩, ⟨o, ho, hc, hd⟩, _⟩ := st
    have e' : b = e ∨ b = it := by simpa using hb
    rcases e' with z | z
    · rw [z]; exact ⟨_, he, fun v q => nomatch q⟩
    · rw [z]; exact ⟨o, ho, fun v q => by rw [hd] at q; cases q⟩
  keep := fun i h h' st k => let ⟨⟨old, he⟩, hi, hne⟩ := st; ⟨⟨old, k e (by simp) _ he⟩, hi.at fun o q => k it (by simp) o q, hne⟩
  item := by
    intro X hP hw hK hc i pins s σ H E I hf st hg
    subst hP hw hK
    obtain ⟨⟨old, he⟩, hit, hne⟩ := st
    obtain ⟨xs, x, hq, hx⟩ := hg
    obtain ⟨its, rv, p, hz⟩ := I.tuple hq
    obtain ⟨u, hu, ru⟩ := rv.get hx
    have hel : e < s.heap.objs.size := Heap.lt_size he
    have hil : it < s.heap.objs.size := by obtain ⟨_, q, _⟩ := hit; exact Heap.lt_size q
    have hit0 : a ≠ it := fun z => by
      obtain ⟨o1, e1, c1, _⟩ := p
      obtain ⟨o2, e2, c2, _⟩ := hit
      rw [z, e2] at e1
      cases e1
      rw [c1] at c2
      exact absurd c2 (by decide)
    have hea : e ≠ a := fun z => by
      obtain ⟨o1, e1, c1, _⟩ := p
      rw [← z, he] at e1
      cases e1
      have c1 : Value.type "enumerate" = Value.type "tuple" := c1
      exact absurd c1 (by decide)
    have D := Draws.tuple (prog := X.prog) (w := X.w) (A := X.A.in1) (I.ok.hd hc) it a hit0 its.toArray
    have hlt : i < its.toArray.size := by
      have e0 : its[i]? = some u := hu
      have := (List.getElem?_eq_some_iff.mp e0).1
      simpa using this
    refine wpAny_pyNext_enum_itemD D he ⟨hit, p⟩ hlt hne (by simp [hne, hea]) fun y h' tk hy ho hit' hT hsz hk => ?_
    have hyu : y = u := by
      have h1 : its.toArray[i]? = some y := hy
      rw [show its.toArray[i]? = some u by simpa using hu] at h1
      exact (Option.some.inj h1).symm
    subst hyu
    refine ⟨_, rfl, wpAny_letOwnedTupleGo_enum (s := { s with heap := h', toks := tk + 1 }) ho fun h'' he' sb => ?_⟩
    have hT2 : h''.get? s.heap.objs.size = some { cls := .type "tuple", data := .seq #[.int i tk, y] } := (sb.2 _ (Nat.ne_of_gt hel)).trans hT
    have new : ObjOk X.prog X.w (L2.upd H s.heap.objs.size (.tup [.int (i : Nat), x])) h'' s.heap.objs.size (.tup [.int (i : Nat), x]) :=
      ⟨by show 2 ≤ sizeLine; decide, [.int i tk, y], .cons ⟨_, rfl⟩ (.cons ru .nil), ⟨_, hT2, rfl, _, rfl⟩⟩
    have I1 : Inv X pins σ (L2.upd H s.heap.objs.size (.tup [.int (i : Nat), x])) { s with heap := h'', toks := tk + 1 } :=
      I.turnedNew (ch := [e, it]) (fun b ob hb q => (sb.2 b (fun z => hb (by simp [z]))).trans (hk b ob (fun z => hb (by simp [z])) (fun z => hb (by simp [z])) q)) hf (Nat.le_refl _) new
    refine ⟨.ref s.heap.objs.size, _, I1, rfl, ⟨_, x, rfl, I.hok.fresh (Nat.le_refl _), rfl, fun ys hy => by rw [I.tuple_inj hy hq]; exact hx⟩, ⟨⟨y, ?_⟩, hit'.1.at fun o q => (sb.2 it (Ne.symm hne)).trans q, hne⟩, fun b hb => ?_⟩
    · have e1 : ((i + 1 : Nat) : Int) = (i : Int) + 1 := by omega
      rw [e1]; exact he'
    · have hb' : b < s.heap.objs.size := by
        have e' : b = e ∨ b = it := by simpa using hb
        rcases e' with z | z
        · rw [z]; exact hel
        · rw [z]; exact hil
      rw [upd_ne (Nat.ne_of_lt hb')]
      exact (hf b hb).1
  done := by
    intro X hP hw hK hc i pins s σ H E I hf st hg
    subst hP hw hK
    obtain ⟨⟨old, he⟩, hit, hne⟩ := st
    obtain ⟨xs, hq, hx⟩ := hg
    obtain ⟨its, rv, p, hz⟩ := I.tuple hq
    obtain ⟨f0, f1, f2, f3, f4, f5⟩ := hf it (by simp)
    have hl := rv.length
    have hT : s.TypeIs (.ref e) "enumerate" := ⟨_, he, rfl⟩
    unfold pyNext
    refine wpAny_bind (wpAny_attempt (wpAny_callSpecial?_slot (name := Str.ofString "__next__") hT F.slot_enumerate_next
      (wpAny_call_entry F.slot_enumerate_next hT F.entry_enumerate_next ?_ (F.args_enumerate_next_1 _))))
    show wpAny _ _ (field (.ref e) 2 >>= _) _ _ _
    refine wpAny_bind (wpAny_field he rfl (x := .ref it) rfl ?_)
    refine wpAny_bind (wpAny_nextOf_tuple_end (I.ok.hd hc) hit (show s.heap.IsTuple a its.toArray from p) (by simp; omega) fun h' x he' hx' => ?_)
    obtain ⟨o, ho, hc'⟩ := hx'
    refine wpAny_bind (wpAny_isInstance (T := "StopIteration") (b := true) ⟨o, ho, hc'⟩ isSubtype_stop ?_)
    exact wpAny_pure ⟨rfl, I.turned (t' := s.toks) (fun b o hb q => he' b o hb q) f0 f1 f3 f4 f5⟩
  self := fun A i s Q E st h => let ⟨⟨_, he⟩, _⟩ := st; wpAny_pyIter_enum he h
def iEnumA (K : PySem.W.Frag) (ta : TA) : TI := fun σ H R => ta σ H fun vs H1 => ∃ a xs, vs = [.ref a] ∧ ((SqL K H1 a xs ∧ R (Ite K a) H1) ∨ (SqT K H1 a xs ∧ R (IteT K a) H1))
theorem pi_enumA {X : Cx} {e : Expr} {ta : TA} {p pos tpos : Pos} {elts : List Expr} {kk : Nat} (hg : Gl X "enumerate") (hm : X.mg "enumerate" = none) (ha : PA X [e] ta) (hs : starEach [e] X.env = [(false, eval e X.env)] := by rfl) :
    PI X (.Tuple elts kk tpos) (.Call (.Name "enumerate" p) [e] [] pos) (iEnumA X.K ta) := by
  refine ⟨fun pins s σ H R I h => ?_⟩
  refine Call_ (ld_blt I hg hm boot_enumerate (PyProof.Rows.callWith_type1 (thn (ha.run pos pins s σ H _ I h) fun us s1 ⟨vs, H1, I1, r1, q1⟩ => ?_) hs rfl))
  obtain ⟨a, xs, ex, q1⟩ := q1
  subst ex
  cases r1 with
  | cons r rr =>
    cases rr
    cases r
    have fp : ∀ b, b ∈ [s1.heap.objs.size + 1, s1.heap.objs.size] → FpOk X pins H1 b := fun b hb => by
      have e' : b = s1.heap.objs.size + 1 ∨ b = s1.heap.objs.size := by simpa using hb
      have hle : s1.heap.objs.size ≤ b := by
        rcases e' with z | z
        · rw [z]; exact Nat.le_add_right _ _
        · rw [z]; exact Nat.le_refl _
      exact I1.fpOk hle (I1.hok.fresh hle)
    rcases q1 with ⟨hq, q⟩ | ⟨hq, q⟩
    · obtain ⟨its, rv, p', hz⟩ := I1.list hq
      refine call_enumerate_list p'.isList fun h' he hit hsz hk => wpAny_pyIter_enum he ?_
      have I2 : Inv X pins σ H1 { s1 with heap := h' } := I1.kept (t' := s1.toks) hk
      exact ⟨s1.heap.objs.size + 1, [s1.heap.objs.size + 1, s1.heap.objs.size], _, _, H1, rfl, I2, turn_enum a (s1.heap.objs.size + 1) s1.heap.objs.size, ⟨⟨.none, he⟩, hit, Nat.succ_ne_self _⟩, fp, q⟩
    · obtain ⟨its, rv, p', hz⟩ := I1.tuple hq
      refine call_enumOf (begins_tuple a its.toArray) (show s1.heap.IsTuple a its.toArray from p') fun h' he hit hsz hk => wpAny_pyIter_enum he ?_
      have I2 : Inv X pins σ H1 { s1 with heap := h' } := I1.kept (t' := s1.toks) hk
      exact ⟨s1.heap.objs.size + 1, [s1.heap.objs.size + 1, s1.heap.objs.size], _, _, H1, rfl, I2, turn_enumT a (s1.heap.objs.size + 1) s1.heap.objs.size, ⟨⟨.none, he⟩, ⟨_, hit, rfl, rfl⟩, Nat.succ_ne_self _⟩, fp, q⟩
/-! by data -/
section
variable {X : Cx} {g : G} {tg e a b : Expr} {pos p : Pos}
def D.asE : D → Option (List D)
  | .lst ds => some ds
  | .tup ds => some ds
  | _ => none
def enX (f : En → Rs D) : En → Rs (List D) := fun r => (f r).bind fun d r1 => ofO (d.asE.map (enumD 0)) r1
theorem di_enumX {f : En → Rs D} {elts : List Expr} {kk : Nat} {tpos : Pos} (hm : X.mg "enumerate" = none) (hf : DE X g a f) (hg : Gl X "enumerate" := by rfl) (hs : starEach [a] X.env = [(false, eval a X.env)] := by rfl) : DI X g (.Tuple elts kk tpos) (.Call (.Name "enumerate" p) [a] [] pos) (enX f) :=
  PI.imp (pi_enumA hg hm (pa_cons hf pa_nil hs) hs) fun s H Q ⟨F, r, R, q⟩ => ⟨F, r, R, post_mono (post_bind q) fun d r1 q F1 H1 v sm R1 hv => by
    obtain ⟨ds, ez, q⟩ := post_ofO q
    obtain ⟨xs, e1, rfl⟩ := Option.map_eq_some_iff.mp ez
    cases d with
    | lst ds' =>
      cases e1
      cases hv with
      | lst h1 h2 =>
        refine ⟨_, _, rfl, .inl ⟨.of (R1.sub _ _ h1), q F1 H1 _ sm R1 fun g F2 H2 s2 r2 _ sm2 R2 => ?_⟩⟩
        have h1' : SqL X.K H2 _ _ := .of (R2.sub _ _ (sm2 _ _ h1))
        refine ⟨fun i d e => ?_, fun i hi => ⟨_, h1', by rw [enumD_len] at hi; rw [h2.length]; exact hi⟩⟩
        obtain ⟨x, e1, rfl⟩ := enumD_get e
        obtain ⟨w, e3, e4⟩ := h2.get e1
        refine ⟨⟨_, w, h1', e3⟩, fun z H3 ⟨T, x', ez, nT, eH, f1⟩ => ?_⟩
        subst ez eH
        have g1 := f1 _ h1'
        rw [e3] at g1
        cases g1
        have sF := same_upd (o := .tup [.int (i : Nat), w]) (R2.ff nT)
        refine ⟨_, sF, R2.alloc nT, .tup (.of upd_same) (.cons ?_ (.cons (RD.mono (sm2.trans sF) x e4) .nil))⟩
        rw [Nat.zero_add]
        exact .int _
    | tup ds' =>
      cases e1
      cases hv with
      | tup h1 h2 =>
        refine ⟨_, _, rfl, .inr ⟨same_sqT R1.sub h1, q F1 H1 _ sm R1 fun g F2 H2 s2 r2 _ sm2 R2 => ?_⟩⟩
        have h1' : SqT X.K H2 _ _ := same_sqT R2.sub (same_sqT sm2 h1)
        refine ⟨fun i d e => ?_, fun i hi => ⟨_, h1', by rw [enumD_len] at hi; rw [h2.length]; exact hi⟩⟩
        obtain ⟨x, e1, rfl⟩ := enumD_get e
        obtain ⟨w, e3, e4⟩ := h2.get e1
        refine ⟨⟨_, w, h1', e3⟩, fun z H3 ⟨T, x', ez, nT, eH, f1⟩ => ?_⟩
        subst ez eH
        have g1 := f1 _ h1'
        rw [e3] at g1
        cases g1
        have sF := same_upd (o := .tup [.int (i : Nat), w]) (R2.ff nT)
        refine ⟨_, sF, R2.alloc nT, .tup (.of upd_same) (.cons ?_ (.cons (RD.mono (sm2.trans sF) x e4) .nil))⟩
        rw [Nat.zero_add]
        exact .int _
    | _ => cases e1⟩
end
end DL

/-! Data layer, part 19: plain lemmas about dicts. -/
namespace DL
open PySem L2
theorem eqB_nil (ds : List D) : eqB (.lst ds) (.lst []) = some ds.isEmpty := by
  cases ds with
  | nil => decide
  | cons d ds =>
    unfold eqB
    show (if (D.lst (d :: ds)).fit && (D.lst []).fit then some (D.eqv (.lst (d :: ds)) (.lst [])) else lenB (.lst (d :: ds)) (.lst [])) = _
    split
    · rfl
    · rfl
theorem semEq_nil (ds : List D) : semEq (.lst ds) (.lst []) = some (.bl ds.isEmpty) := by unfold semEq; rw [eqB_nil]; rfl
theorem semNe_nil (ds : List D) : semNe (.lst ds) (.lst []) = some (.bl (!ds.isEmpty)) := by unfold semNe; rw [eqB_nil]; rfl
theorem semAt_lst (xs : List D) (i : Int) : semAt (.lst xs) (.int i) = atI xs i := rfl
theorem semAt_tup (xs : List D) (i : Int) : semAt (.tup xs) (.int i) = atI xs i := rfl
theorem semAt_str (x : Str) (i : Int) : semAt (.str x) (.int i) = if x.length ≤ 1000000 then (atI x.cps.toList i).map fun c => .str ⟨#[c]⟩ else none := rfl
theorem semAt_dic (ds : List (Key × D)) (y : D) : semAt (.dic ds) y = y.key.bind fun k => valD ds k := rfl
end DL

/-! Tools, part 2: plain data can be shown. -/
namespace DL
open PySem L2
end DL

/-! Tools, part 3: slices by natural numbers, lists. -/
namespace DL
open PySem L2
end DL

/-! Tools, part 4: comprehensions with two fors, dicts that can be shown. -/
namespace DL
open PySem L2
theorem wipeE_in {r : En} {i : Nat} : ∀ {vs : List Nat}, i ∈ vs → (wipeE r vs)[i]? = if i < r.length then some none else none
  | [], h => by cases h
  | v :: vs, h => by
    unfold wipeE
    by_cases hv : v = i
    · subst hv
      by_cases hl : v < (wipeE r vs).length
      · rw [List.getElem?_set_self hl, if_pos (by rw [wipeE_len] at hl; exact hl)]
      · rw [List.getElem?_eq_none (by simpa using hl), if_neg (by rw [wipeE_len] at hl; exact hl)]
    · rw [List.getElem?_set_ne hv]
      exact wipeE_in ((List.mem_cons.mp h).resolve_left fun z => hv z.symm)
theorem wipeE_sub {r : En} {vs vs1 : List Nat} (h : ∀ i ∈ vs1, i ∈ vs) : wipeE (wipeE r vs1) vs = wipeE r vs := by
  refine List.ext_getElem? fun i => ?_
  by_cases hi : i ∈ vs
  · rw [wipeE_in hi, wipeE_in hi, wipeE_len]
  · rw [wipeE_keep hi, wipeE_keep hi, wipeE_keep fun z => hi (h i z)]
/-- the inner walk, that changes nothing but its own names -/
theorem lcS_mp {α : Type} {vs : List Nat} {h : D → En → Option En} {t : En → Rs Bool} {elt : En → Rs D} (r2 : En) (enc : α → D) (p : α → Bool) (q : α → D) (hw2 : wipeE r2 vs = r2) : ∀ (xs : List α) (r0 : En), wipeE r0 vs = r2 →
    (∀ x ∈ xs, ∃ ra, h (enc x) r2 = some ra ∧ pok (fun b rb => b = p x ∧ wipeE rb vs = r2 ∧ (p x = true → pok (fun y rc => y = q x ∧ wipeE rc vs = r2) (elt rb))) (t ra)) →
    ∃ r9, lcS vs h t elt (xs.map enc) r0 = .ok ((xs.filter p).map q) r9 ∧ wipeE r9 vs = r2
  | [], r0, e0, _ => ⟨r0, rfl, e0⟩
  | x :: xs, r0, e0, he => by
    obtain ⟨ra, e1, e2⟩ := he x (List.mem_cons_self ..)
    obtain ⟨b, rb, e3, rfl, e4, e5⟩ := post_ex e2
    have ih := lcS_mp r2 enc p q hw2 xs r2 hw2 fun y hy => he y (List.mem_cons_of_mem _ hy)
    rw [List.map_cons]
    unfold lcS
    rw [e0, e1]
    simp only [e3, Rs.bind]
    cases hp : p x with
    | false =>
      rw [List.filter_cons_of_neg (by simp [hp])]
      simp only [Bool.false_eq_true, if_false, e4]
      exact ih
    | true =>
      obtain ⟨y, rc, e6, rfl, e7⟩ := post_ex (e5 hp)
      rw [List.filter_cons_of_pos hp]
      simp only [if_true, e6, e7, List.map_cons]
      obtain ⟨r9, e8, e9⟩ := ih
      exact ⟨r9, by rw [e8], e9⟩
/-- a comprehension with two fors that changes nothing but its own names -/
theorem lc2D_mp {α β : Type} {it it1 : En → Rs (List D)} {vs vs1 : List Nat} {h h1 : D → En → Option En} {t t1 : En → Rs Bool} {elt : En → Rs D} {r r1 : En} (r2 : En) (xs : List α) (enc : α → D) (p : α → Bool) (ys : α → List β) (enc1 : α → β → D) (p1 : α → β → Bool) (q : α → β → D) (mid : α → En)
    (hv : ∀ i ∈ vs1, i ∈ vs) (hi : it r = .ok (xs.map enc) r1) (hw : wipeE r1 vs = r2) (hw2 : wipeE r2 vs = r2)
    (hl : (xs.flatMap fun x => if p x then ((ys x).filter (p1 x)).map (q x) else []).length ≤ 1000000)
    (he : ∀ x ∈ xs, ∃ ra, h (enc x) r2 = some ra ∧ pok (fun b rb => b = p x ∧ wipeE rb vs = r2 ∧ (p x = true → pok (fun ds rc => ds = (ys x).map (enc1 x) ∧ wipeE rc vs1 = mid x ∧ wipeE (mid x) vs1 = mid x ∧ wipeE (mid x) vs = r2) (it1 rb))) (t ra))
    (he1 : ∀ x ∈ xs, p x = true → ∀ y ∈ ys x, ∃ ra, h1 (enc1 x y) (mid x) = some ra ∧ pok (fun b rb => b = p1 x y ∧ wipeE rb vs1 = mid x ∧ (p1 x y = true → pok (fun z rc => z = q x y ∧ wipeE rc vs1 = mid x) (elt rb))) (t1 ra)) :
    lc2D it vs h t it1 vs1 h1 t1 elt r = .ok (.ow (xs.flatMap fun x => if p x then ((ys x).filter (p1 x)).map (q x) else [])) r2 := by
  have go : ∀ zs : List α, (∀ x ∈ zs, x ∈ xs) → ∀ r0, wipeE r0 vs = r2 → ∃ r9, lc2S vs h t it1 vs1 h1 t1 elt (zs.map enc) r0 = .ok (zs.flatMap fun x => if p x then ((ys x).filter (p1 x)).map (q x) else []) r9 ∧ wipeE r9 vs = r2 := by
    intro zs
    induction zs with
    | nil => exact fun _ r0 e0 => ⟨r0, rfl, e0⟩
    | cons z zs ih =>
      intro hm r0 e0
      obtain ⟨ra, e1, e2⟩ := he z (hm z (List.mem_cons_self ..))
      obtain ⟨b, rb, e3, rfl, e4, e5⟩ := post_ex e2
      have ih' := ih fun x hx => hm x (List.mem_cons_of_mem _ hx)
      rw [List.map_cons]
      unfold lc2S
      rw [e0, e1]
      simp only [e3, Rs.bind]
      rw [List.flatMap_cons]
      cases hp : p z with
      | false =>
        simp only [Bool.false_eq_true, if_false, e4, List.nil_append]
        exact ih' r2 hw2
      | true =>
        obtain ⟨ds, rc, e6, rfl, e7, e8, e9⟩ := post_ex (e5 hp)
        obtain ⟨rd, f1, f2⟩ := lcS_mp (mid z) (enc1 z) (p1 z) (q z) e8 (ys z) rc e7 (he1 z (hm z (List.mem_cons_self ..)) hp)
        have f3 : wipeE rd vs = r2 := by rw [← wipeE_sub hv, f2, e9]
        simp only [if_true, e6, f1, f3]
        obtain ⟨r9, g1, g2⟩ := ih' r2 hw2
        exact ⟨r9, by rw [g1], g2⟩
  obtain ⟨r9, e7, e8⟩ := go xs (fun _ h => h) r1 hw
  unfold lc2D
  rw [hi]
  simp only [Rs.bind, Rs.noE, e7, hl, if_true, e8]
/-- the same without tests -/
theorem lc2D_mp1 {α β : Type} {it it1 : En → Rs (List D)} {vs vs1 : List Nat} {h h1 : D → En → Option En} {elt : En → Rs D} {r r1 : En} (r2 : En) (xs : List α) (enc : α → D) (ys : α → List β) (enc1 : α → β → D) (q : α → β → D) (mid : α → En)
    (hv : ∀ i ∈ vs1, i ∈ vs) (hi : it r = .ok (xs.map enc) r1) (hw : wipeE r1 vs = r2) (hw2 : wipeE r2 vs = r2) (hl : (xs.flatMap fun x => (ys x).map (q x)).length ≤ 1000000)
    (he : ∀ x ∈ xs, ∃ ra, h (enc x) r2 = some ra ∧ wipeE ra vs = r2 ∧ pok (fun ds rc => ds = (ys x).map (enc1 x) ∧ wipeE rc vs1 = mid x ∧ wipeE (mid x) vs1 = mid x ∧ wipeE (mid x) vs = r2) (it1 ra))
    (he1 : ∀ x ∈ xs, ∀ y ∈ ys x, ∃ ra, h1 (enc1 x y) (mid x) = some ra ∧ wipeE ra vs1 = mid x ∧ pok (fun z rc => z = q x y ∧ wipeE rc vs1 = mid x) (elt ra)) :
    lc2D it vs h yesT it1 vs1 h1 yesT elt r = .ok (.ow (xs.flatMap fun x => (ys x).map (q x))) r2 := by
  have e : (xs.flatMap fun x => if (fun _ => true) x = true then ((ys x).filter ((fun _ _ => true) x)).map (q x) else []) = xs.flatMap fun x => (ys x).map (q x) := by
    congr 1
    funext x
    rw [if_pos rfl, List.filter_eq_self.mpr fun _ _ => rfl]
  have := lc2D_mp (it := it) (it1 := it1) (vs := vs) (vs1 := vs1) (h := h) (h1 := h1) (t := yesT) (t1 := yesT) (elt := elt) (r := r) (r1 := r1) r2 xs enc (fun _ => true) ys enc1 (fun _ _ => true) q mid hv hi hw hw2 (by rw [e]; exact hl) (fun x hx => by
    obtain ⟨ra, a1, a2, a3⟩ := he x hx
    exact ⟨ra, a1, rfl, a2, fun _ => a3⟩) (fun x hx _ y hy => by
    obtain ⟨ra, a1, a2, a3⟩ := he1 x hx y hy
    exact ⟨ra, a1, rfl, a2, fun _ => a3⟩)
  rw [e] at this
  exact this
theorem none_not {α : Type} (p : α → Bool) : ∀ l : List α, (l.filter fun r => !p r).isEmpty = l.all p
  | [] => rfl
  | a :: l => by
    rw [List.filter_cons, List.all_cons]
    cases ha : p a with
    | true => simp [none_not p l]
    | false => simp
theorem bools_bl (bs : List Bool) : bools (bs.map D.bl) = some bs := by
  show bools (bs.map fun x => D.bl (id x)) = _
  rw [bools_map, List.map_id]
/-! ### dicts -/
end DL

/-! plain tools, part 5: stepping through ifs, returns, whiles. -/
namespace DL
open PySem L2
/-! operations put together -/
end DL

/-! plain tools, part 6: sorted texts, comprehensions with two clauses. -/
namespace DL
open PySem L2
end DL

/-! plain tools, part 7: calls put together. -/
namespace DL
open PySem L2
end DL

/-! plain tools, part 8: errors, instances. -/
namespace DL
open PySem L2
section
variable {ct : Str → Option Bool} {i : Nat} {fb fs : En → SRs} {r r1 r2 : En} {x : Exn} {o : OV}
end
end DL

/-! plain tools, part 9: running by what is wanted of the end. -/
namespace DL
open PySem L2
/-- the expression ends well, with Q, or in an error, with E -/
def wE {α : Type} (f : En → Rs α) (r : En) (Q : α → En → Prop) (E : Exn → En → Prop) : Prop := match f r with
  | .ok a r1 => Q a r1
  | .ex x r1 => E x r1
  | .bad => False
def wS (f : En → SRs) (r : En) (Q : SRs → Prop) : Prop := Q (f r)
/-- no error -/
def nE : Exn → En → Prop := fun _ _ => False
section
variable {α β : Type} {r r1 : En} {Q : α → En → Prop} {E : Exn → En → Prop} {S : SRs → Prop}
theorem wE_ok {f : En → Rs α} {a : α} (e : f r = .ok a r1) (q : Q a r1) : wE f r Q E := by unfold wE; rw [e]; exact q
theorem wE_get {f : En → Rs α} (h : wE f r Q nE) : ∃ a r1, f r = .ok a r1 ∧ Q a r1 := by
  unfold wE at h
  revert h
  cases e : f r with
  | ok a r1 => exact fun h => ⟨a, r1, rfl, h⟩
  | ex x r1 => exact fun h => h.elim
  | bad => exact fun h => h.elim
theorem wE_mono {f : En → Rs α} {Q' : α → En → Prop} {E' : Exn → En → Prop} (h : wE f r Q E) (i : ∀ a r1, Q a r1 → Q' a r1) (j : ∀ x r1, E x r1 → E' x r1) : wE f r Q' E' := by
  unfold wE at *
  cases e : f r with
  | ok a r1 => rw [e] at h; exact i _ _ h
  | ex x r1 => rw [e] at h; exact j _ _ h
  | bad => rw [e] at h; exact h
/-! the parts' rules; the ones of bind's make -/
theorem wE_bind {f : En → Rs β} {k : β → En → Rs α} {g : En → Rs α} (hg : g r = (f r).bind k) (h : wE f r (fun b r1 => wE (k b) r1 Q E) E) : wE g r Q E := by
  unfold wE at *
  rw [hg]
  cases e : f r with
  | ok a r1 => rw [e] at h; exact h
  | ex x r1 => rw [e] at h; exact h
  | bad => rw [e] at h; exact h
theorem wE_map {f : En → Rs β} {k : β → α} {g : En → Rs α} (hg : g r = (f r).map k) (h : wE f r (fun b r1 => Q (k b) r1) E) : wE g r Q E := by
  unfold wE at *
  rw [hg]
  cases e : f r with
  | ok a r1 => rw [e] at h; exact h
  | ex x r1 => rw [e] at h; exact h
  | bad => rw [e] at h; exact h
theorem wE_ofO {o : Option α} {a : α} (e : o = some a) (q : Q a r) : wE (fun r => ofO o r) r Q E := by subst e; exact q
end
section
variable {r : En} {Q : D → En → Prop} {E : Exn → En → Prop}
theorem w_con {d : D} (q : Q d r) : wE (cD d) r Q E := q
theorem w_var {i : Nat} {d : D} (e : r[i]? = some (some (.sh d))) (q : Q d r) : wE (vD i) r Q E := by unfold wE vD; rw [e]; exact q
theorem w_varO {i : Nat} {xs : List D} (e : r[i]? = some (some (.ow xs))) (q : ∀ r1, r.set i (some (.sh (.lst xs))) = r1 → Q (.lst xs) r1) : wE (vD i) r Q E := by unfold wE vD; rw [e]; exact q _ rfl
theorem w_frz {f : En → Rs OV} (h : wE f r (fun o r1 => ∀ d, o.d = d → Q d r1) E) : wE (frzD f) r Q E := wE_map rfl (wE_mono h (fun _ _ h => h _ rfl) fun _ _ h => h)
theorem w_sh {f : En → Rs D} {Q : OV → En → Prop} (h : wE f r (fun d r1 => Q (.sh d) r1) E) : wE (shD f) r Q E := wE_map rfl h
theorem w_mv {i : Nat} {d : D} {Q : OV → En → Prop} (e : r[i]? = some (some (.sh d))) (q : Q (.sh d) r) : wE (mvD i) r Q E := by unfold wE mvD lookV; rw [e]; exact q
theorem w_mvO {i : Nat} {xs : List D} {Q : OV → En → Prop} (e : r[i]? = some (some (.ow xs))) (q : ∀ r1, r.set i none = r1 → Q (.ow xs) r1) : wE (mvD i) r Q E := by unfold wE mvD lookV; rw [e]; exact q _ rfl
end
/-! operands -/
section
variable {r : En} {E : Exn → En → Prop}
theorem w_oex {f : En → Rs D} {Q : Sum D Nat → En → Prop} (h : wE f r (fun d r1 => Q (.inl d) r1) E) : wE (Opd.ex f).run r Q E := wE_map (g := (Opd.ex f).run) rfl h
theorem w_ova {i : Nat} {o : OV} {Q : Sum D Nat → En → Prop} (e : r[i]? = some (some o)) (q : Q (.inr i) r) : wE (Opd.va i).run r Q E := by
  refine wE_ok (r1 := r) (a := .inr i) ?_ q
  show (fill r i).bind (fun _ r => Rs.ok (Sum.inr i) r) = _
  unfold fill
  rw [e]
  rfl
theorem lk_l {d : D} : look r (.inl d) = some d := rfl
theorem lk_sh {i : Nat} {d : D} (e : r[i]? = some (some (.sh d))) : look r (.inr i) = some d := by show (lookV r i).map OV.d = _; unfold lookV; rw [e]; rfl
theorem lk_ow {i : Nat} {xs : List D} (e : r[i]? = some (some (.ow xs))) : look r (.inr i) = some (.lst xs) := by show (lookV r i).map OV.d = _; unfold lookV; rw [e]; rfl
variable {Q : D → En → Prop}
/-- what an operation gives: to be shown, and what follows -/
def Gi {β : Type} (o : Option β) (k : β → Prop) : Prop := ∃ z, o = some z ∧ k z
theorem Gi.of {β : Type} {o : Option β} {k : β → Prop} {z : β} (e : o = some z) (q : k z) : Gi o k := ⟨z, e, q⟩
theorem gi_l {d : D} {k : D → Prop} (q : k d) : Gi (look r (.inl d)) k := ⟨d, rfl, q⟩
theorem w_op1 {p : Opd} {sem : D → Option D} (h : wE p.run r (fun a r1 => Gi (look r1 a) fun x => Gi (sem x) fun z => Q z r1) E) : wE (op1 p sem) r Q E :=
  wE_bind rfl (wE_mono h (fun a r1 ⟨x, e1, z, e2, q⟩ => wE_ok (r1 := r1) (a := z) (by simp only [e1, Option.bind_some, e2, ofO]) q) fun _ _ h => h)
theorem w_op2 {p u : Opd} {sem : D → D → Option D} (h : wE p.run r (fun a r1 => wE u.run r1 (fun b r2 => Gi (look r2 a) fun x => Gi (look r2 b) fun y => Gi (sem x y) fun z => Q z r2) E) E) : wE (op2 p u sem) r Q E :=
  wE_bind rfl (wE_mono h (fun a r1 h => wE_bind rfl (wE_mono h (fun b r2 ⟨x, e1, y, e2, z, e3, q⟩ => wE_ok (r1 := r2) (a := z) (by simp only [e1, e2, Option.bind_some, e3, ofO]) q) fun _ _ h => h)) fun _ _ h => h)
theorem w_op2O {p u : Opd} {sem : D → D → Option (List D)} {Q : OV → En → Prop} (h : wE p.run r (fun a r1 => wE u.run r1 (fun b r2 => Gi (look r2 a) fun x => Gi (look r2 b) fun y => Gi (sem x y) fun z => Q (.ow z) r2) E) E) : wE (op2O p u sem) r Q E :=
  wE_bind rfl (wE_mono h (fun a r1 h => wE_bind rfl (wE_mono h (fun b r2 ⟨x, e1, y, e2, z, e3, q⟩ => wE_ok (r1 := r2) (a := .ow z) (by simp only [e1, e2, Option.bind_some, e3, Option.map_some, ofO]) q) fun _ _ h => h)) fun _ _ h => h)
/-! lists of operands -/
theorem w_rnil {Q : List (Sum D Nat) → En → Prop} (q : Q [] r) : wE (runs []) r Q E := q
theorem w_rcons {p : Opd} {ps : List Opd} {Q : List (Sum D Nat) → En → Prop} (h : wE p.run r (fun a r1 => wE (runs ps) r1 (fun as r2 => Q (a :: as) r2) E) E) : wE (runs (p :: ps)) r Q E :=
  wE_bind (g := runs (p :: ps)) (k := fun x r1 => (runs ps r1).bind fun xs r2 => .ok (x :: xs) r2) rfl (wE_mono h (fun a r1 h => wE_bind (k := fun xs r2 => Rs.ok (a :: xs) r2) rfl (wE_mono h (fun as r2 q => q) fun _ _ h => h)) fun _ _ h => h)
theorem lks_nil : looks r [] = some [] := rfl
theorem lks_cons {a : Sum D Nat} {as : List (Sum D Nat)} {x : D} {xs : List D} (h : look r a = some x) (h2 : looks r as = some xs) : looks r (a :: as) = some (x :: xs) := by
  show ((look r a).bind fun d => (looks r as).map fun ds => d :: ds) = _
  rw [h, h2]
  rfl
theorem w_opN {ps : List Opd} {sem : List D → Option D} (h : wE (runs ps) r (fun as r1 => Gi (looks r1 as) fun xs => Gi (sem xs) fun z => Q z r1) E) : wE (opN ps sem) r Q E :=
  wE_bind rfl (wE_mono h (fun a r1 ⟨x, e1, z, e2, q⟩ => wE_ok (r1 := r1) (a := z) (by simp only [e1, Option.bind_some, e2, ofO]) q) fun _ _ h => h)
theorem w_opNO {ps : List Opd} {sem : List D → Option (List D)} {Q : OV → En → Prop} (h : wE (runs ps) r (fun as r1 => Gi (looks r1 as) fun xs => Gi (sem xs) fun z => Q (.ow z) r1) E) : wE (opNO ps sem) r Q E :=
  wE_bind rfl (wE_mono h (fun a r1 ⟨x, e1, z, e2, q⟩ => wE_ok (r1 := r1) (a := .ow z) (by simp only [e1, Option.bind_some, e2, Option.map_some, ofO]) q) fun _ _ h => h)
/-- neither an instance nor the script -/
def _root_.DL.D.isk : D → Bool
  | .scr _ => false
  | .obj _ _ => false
  | _ => true
theorem w_isi {p : Opd} {Ts : List String} (h : wE p.run r (fun a r1 => Gi (look r1 a) fun x => x.isk = true ∧ Q (.bl (x.isi Ts)) r1) E) : wE (isiD p Ts) r Q E :=
  wE_bind rfl (wE_mono h (fun a r1 ⟨x, e1, h2, q⟩ => wE_ok (r1 := r1) (a := .bl (x.isi Ts)) (by
    rw [e1]
    cases x with
    | scr _ => exact absurd h2 Bool.false_ne_true
    | obj _ _ => exact absurd h2 Bool.false_ne_true
    | _ => rfl) q) fun _ _ h => h)
theorem w_m1 {p u : Opd} {sem : D → D → Option D} (h : wE p.run r (fun a r1 => ∃ y, look r1 a = some (.str y) ∧ wE u.run r1 (fun b r2 => Gi (look r2 b) fun d => Gi (sem (.str y) d) fun z => Q z r2) E) E) : wE (m1D p u sem) r Q E :=
  wE_bind rfl (wE_mono h (fun a r1 ⟨y, e1, h⟩ => by
    have : wE (fun r => (u.run r).bind fun z r2 => ofO ((look r2 z).bind fun d => sem (.str y) d) r2) r1 Q E := wE_bind rfl (wE_mono h (fun b r2 ⟨x, e2, z, e3, q⟩ => wE_ok (r1 := r2) (a := z) (by simp only [e2, Option.bind_some, e3, ofO]) q) fun _ _ h => h)
    unfold wE at this ⊢
    simp only [e1]
    exact this) fun _ _ h => h)
/-! lists of expressions -/
theorem w_enil {Q : List D → En → Prop} (q : Q [] r) : wE (evs []) r Q E := q
theorem w_econs {f : En → Rs D} {fs : List (En → Rs D)} {Q : List D → En → Prop} (h : wE f r (fun a r1 => wE (evs fs) r1 (fun as r2 => Q (a :: as) r2) E) E) : wE (evs (f :: fs)) r Q E :=
  wE_bind (g := evs (f :: fs)) (k := fun x r1 => (evs fs r1).bind fun xs r2 => .ok (x :: xs) r2) rfl (wE_mono h (fun a r1 h => wE_bind (k := fun xs r2 => Rs.ok (a :: xs) r2) rfl (wE_mono h (fun as r2 q => q) fun _ _ h => h)) fun _ _ h => h)
theorem w_tup {fs : List (En → Rs D)} (h : wE (evs fs) r (fun ds r1 => ds.length ≤ 1000 ∧ Q (.tup ds) r1) E) : wE (tupD fs) r Q E :=
  wE_bind rfl (wE_mono h (fun ds r1 ⟨hl, q⟩ => wE_ok (r1 := r1) (a := .tup ds) (by rw [if_pos hl]) q) fun _ _ h => h)
theorem w_lst {fs : List (En → Rs D)} {Q : OV → En → Prop} (h : wE (evs fs) r (fun ds r1 => ds.length ≤ 1000 ∧ Q (.ow ds) r1) E) : wE (lstD fs) r Q E :=
  wE_bind rfl (wE_mono h (fun ds r1 ⟨hl, q⟩ => wE_ok (r1 := r1) (a := .ow ds) (by rw [if_pos hl]) q) fun _ _ h => h)
theorem w_znil {Q : List D → En → Prop} (q : Q [] r) : wE nlZ r Q E := q
theorem w_zcons {f : En → Rs D} {fs : En → Rs (List D)} {Q : List D → En → Prop} (h : wE f r (fun a r1 => wE fs r1 (fun as r2 => Q (a :: as) r2) E) E) : wE (cnZ f fs) r Q E :=
  wE_bind (k := fun x r1 => (fs r1).bind fun xs r2 => .ok (x :: xs) r2) rfl (wE_mono h (fun a r1 h => wE_bind (k := fun xs r2 => Rs.ok (a :: xs) r2) rfl (wE_mono h (fun as r2 q => q) fun _ _ h => h)) fun _ _ h => h)
theorem w_zst {f : En → Rs D} {fs : En → Rs (List D)} {Q : List D → En → Prop} (h : wE f r (fun a r1 => Gi a.sq fun xs => wE fs r1 (fun as r2 => Q (xs ++ as) r2) E) E) : wE (stZ f fs) r Q E :=
  wE_bind (k := fun d r1 => (ofO d.sq r1).bind fun xs r1 => (fs r1).bind fun ds r2 => .ok (xs ++ ds) r2) rfl (wE_mono h (fun a r1 ⟨xs, e, h⟩ => wE_bind (f := fun r => ofO a.sq r) (k := fun xs r1 => (fs r1).bind fun ds r2 => .ok (xs ++ ds) r2) rfl (wE_ofO e (wE_bind (k := fun ds r2 => Rs.ok (xs ++ ds) r2) rfl (wE_mono h (fun as r2 q => q) fun _ _ h => h)))) fun _ _ h => h)
theorem w_lstZ {fs : En → Rs (List D)} {Q : OV → En → Prop} (h : wE fs r (fun ds r1 => ds.length ≤ 1000 ∧ Q (.ow ds) r1) E) : wE (lstZ fs) r Q E :=
  wE_bind rfl (wE_mono h (fun ds r1 ⟨hl, q⟩ => wE_ok (r1 := r1) (a := .ow ds) (by rw [if_pos hl]) q) fun _ _ h => h)
theorem w_tupZ {fs : En → Rs (List D)} (h : wE fs r (fun ds r1 => ds.length ≤ 1000 ∧ Q (.tup ds) r1) E) : wE (tupZ fs) r Q E :=
  wE_bind rfl (wE_mono h (fun ds r1 ⟨hl, q⟩ => wE_ok (r1 := r1) (a := .tup ds) (by rw [if_pos hl]) q) fun _ _ h => h)
/-! slices -/
theorem w_poN {Q : Option Int → En → Prop} (q : Q none r) : wE poN r Q E := q
theorem w_poS {f : En → Rs D} {Q : Option Int → En → Prop} (h : wE f r (fun d r1 => Gi d.asI fun i => Q (some i) r1) E) : wE (poS f) r Q E :=
  wE_bind rfl (wE_mono h (fun d r1 ⟨i, e, q⟩ => wE_ok (r1 := r1) (a := some i) (by rw [e]; rfl) q) fun _ _ h => h)
theorem w_sl {p : Opd} {lo hi : En → Rs (Option Int)} {sem : D → Option Int → Option Int → Option D} (h : wE p.run r (fun a r1 => wE lo r1 (fun l r2 => wE hi r2 (fun h r3 => Gi (look r3 a) fun x => Gi (sem x l h) fun z => Q z r3) E) E) E) : wE (slD p lo hi sem) r Q E :=
  wE_bind rfl (wE_mono h (fun a r1 h => wE_bind rfl (wE_mono h (fun l r2 h => wE_bind rfl (wE_mono h (fun u r3 ⟨x, e1, z, e2, q⟩ => wE_ok (r1 := r3) (a := z) (by simp only [e1, Option.bind_some, e2, ofO]) q) fun _ _ h => h)) fun _ _ h => h)) fun _ _ h => h)
end
end DL

/-! plain tools, part 10: running by what is wanted of the end: tests, calls, statements. -/
namespace DL
open PySem L2
section
variable {r : En} {E : Exn → En → Prop}
/-! tests -/
theorem w_yes {Q : Bool → En → Prop} (q : Q true r) : wE yesT r Q E := q
theorem w_toB {f : En → Rs D} {Q : Bool → En → Prop} (h : wE f r (fun d r1 => Gi d.asB fun b => Q b r1) E) : wE (toB f) r Q E :=
  wE_bind rfl (wE_mono h (fun d r1 ⟨i, e, q⟩ => wE_ok (r1 := r1) (a := i) (by rw [e]; rfl) q) fun _ _ h => h)
theorem w_toT {p : Opd} {Q : Bool → En → Prop} (h : wE p.run r (fun a r1 => Gi (look r1 a) fun x => Gi x.tru fun b => Q b r1) E) : wE (toT p) r Q E :=
  wE_bind rfl (wE_mono h (fun a r1 ⟨x, e1, z, e2, q⟩ => wE_ok (r1 := r1) (a := z) (by simp only [e1, Option.bind_some, e2, ofO]) q) fun _ _ h => h)
theorem w_notT {f : En → Rs Bool} {Q : Bool → En → Prop} (h : wE f r (fun b r1 => Q (!b) r1) E) : wE (notT f) r Q E := wE_map rfl h
theorem w_notD {f : En → Rs D} {Q : D → En → Prop} (h : wE f r (fun d r1 => Gi d.asB fun b => Q (.bl (!b)) r1) E) : wE (notD f) r Q E :=
  wE_bind rfl (wE_mono h (fun d r1 ⟨i, e, q⟩ => wE_ok (r1 := r1) (a := .bl (!i)) (by rw [e]; rfl) q) fun _ _ h => h)
theorem w_notV {p : Opd} {Q : D → En → Prop} (h : wE (toT p) r (fun b r1 => Q (.bl (!b)) r1) E) : wE (notV p) r Q E := wE_map rfl h
/-- a choice by a truth -/
def Ch (b : Bool) (P P' : Prop) : Prop := if b = true then P else P'
theorem Ch.t {P P' : Prop} (h : P) : Ch true P P' := h
theorem Ch.f {P P' : Prop} (h : P') : Ch false P P' := h
theorem Ch.ty {b : Bool} {P P' : Prop} (e : b = true) (h : P) : Ch b P P' := by subst e; exact h
theorem Ch.fy {b : Bool} {P P' : Prop} (e : b = false) (h : P') : Ch b P P' := by subst e; exact h
theorem Ch.dt {p : Prop} [Decidable p] {P P' : Prop} (e : p) (h : P) : Ch (decide p) P P' := Ch.ty (decide_eq_true e) h
theorem Ch.df {p : Prop} [Decidable p] {P P' : Prop} (e : ¬ p) (h : P') : Ch (decide p) P P' := Ch.fy (decide_eq_false e) h
theorem Ch.nt {b : Bool} {P P' : Prop} (h : Ch b P' P) : Ch (!b) P P' := by cases b <;> exact h
theorem Ch.by {b : Bool} {P P' : Prop} (h1 : b = true → P) (h2 : b = false → P') : Ch b P P' := by
  cases b with
  | true => exact h1 rfl
  | false => exact h2 rfl
theorem w_andT {f h : En → Rs Bool} {Q : Bool → En → Prop} (q : wE f r (fun b r1 => Ch b (wE h r1 Q E) (Q false r1)) E) : wE (andT f h) r Q E :=
  wE_bind rfl (wE_mono q (fun b r1 q => by cases b <;> exact q) fun _ _ h => h)
theorem w_orT {f h : En → Rs Bool} {Q : Bool → En → Prop} (q : wE f r (fun b r1 => Ch b (Q true r1) (wE h r1 Q E)) E) : wE (orT f h) r Q E :=
  wE_bind rfl (wE_mono q (fun b r1 q => by cases b <;> exact q) fun _ _ h => h)
theorem w_andD {f h : En → Rs D} {Q : D → En → Prop} (q : wE f r (fun d r1 => Gi d.asB fun b => Ch b (wE h r1 Q E) (Q (.bl false) r1)) E) : wE (andD f h) r Q E :=
  wE_bind rfl (wE_mono q (fun d r1 ⟨b, e, q⟩ => by
    unfold wE at *
    rw [e]
    cases b <;> exact q) fun _ _ h => h)
theorem w_orD {f h : En → Rs D} {Q : D → En → Prop} (q : wE f r (fun d r1 => Gi d.asB fun b => Ch b (Q (.bl true) r1) (wE h r1 Q E)) E) : wE (orD f h) r Q E :=
  wE_bind rfl (wE_mono q (fun d r1 ⟨b, e, q⟩ => by
    unfold wE at *
    rw [e]
    cases b <;> exact q) fun _ _ h => h)
theorem w_andV {f h : En → Rs D} {Q : D → En → Prop} (q : wE f r (fun d r1 => Gi d.tru fun b => Ch b (wE h r1 Q E) (Q d r1)) E) : wE (andV f h) r Q E :=
  wE_bind rfl (wE_mono q (fun d r1 ⟨b, e, q⟩ => by
    unfold wE at *
    rw [e]
    cases b <;> exact q) fun _ _ h => h)
theorem w_orV {f h : En → Rs D} {Q : D → En → Prop} (q : wE f r (fun d r1 => Gi d.tru fun b => Ch b (Q d r1) (wE h r1 Q E)) E) : wE (orV f h) r Q E :=
  wE_bind rfl (wE_mono q (fun d r1 ⟨b, e, q⟩ => by
    unfold wE at *
    rw [e]
    cases b <;> exact q) fun _ _ h => h)
theorem w_if {α : Type} {c : En → Rs Bool} {f h : En → Rs α} {Q : α → En → Prop} (q : wE c r (fun b r1 => Ch b (wE f r1 Q E) (wE h r1 Q E)) E) : wE (ifD c f h) r Q E :=
  wE_bind rfl (wE_mono q (fun b r1 q => by cases b <;> exact q) fun _ _ h => h)
theorem w_chain {p u v : Opd} {sem sem' : D → D → Option D} {Q : D → En → Prop} (h : wE p.run r (fun a r1 => wE u.run r1 (fun b r2 => Gi (look r2 a) fun x => Gi (look r2 b) fun y => Gi (sem x y) fun z => Gi z.asB fun k => Ch k (wE v.run r2 (fun c r3 => Gi (look r3 b) fun y => Gi (look r3 c) fun z => Gi (sem' y z) fun w => Q w r3) E) (Q (.bl false) r2)) E) E) : wE (chD p u v sem sem') r Q E :=
  wE_bind rfl (wE_mono h (fun a r1 h => wE_bind rfl (wE_mono h (fun b r2 ⟨x, e1, y, e2, z, e3, k, e4, q⟩ => by
    have hb : ofO (((look r2 a).bind fun dx => (look r2 b).bind fun dy => sem dx dy).bind D.asB) r2 = .ok k r2 := by simp only [e1, e2, e3, e4, Option.bind_some, ofO]
    refine wE_bind (f := fun r2 => ofO (((look r2 a).bind fun dx => (look r2 b).bind fun dy => sem dx dy).bind D.asB) r2) rfl (wE_ok hb ?_)
    cases k with
    | false => exact q
    | true => exact wE_bind (f := v.run) rfl (wE_mono q (fun c r3 ⟨y', f1, z', f2, w, f3, q⟩ => wE_ok (r1 := r3) (a := w) (by simp only [f1, f2, Option.bind_some, f3, ofO]) q) fun _ _ h => h)) fun _ _ h => h)) fun _ _ h => h)
/-! calls -/
theorem w_call {n : Nat} {f : List D → Option OV} {fs : List (En → Rs D)} {Q : OV → En → Prop} (h : wE (evs fs) r (fun ds r1 => ds.length = n ∧ Gi (f ds) fun o => Q o r1) E) : wE (callP n f fs) r Q E :=
  wE_bind rfl (wE_mono h (fun ds r1 ⟨hl, o, e, q⟩ => wE_ok (r1 := r1) (a := o) (by rw [if_pos hl, e]; rfl) q) fun _ _ h => h)
theorem w_callL {n : Nat} {f : List D → Option OV} {ps : List Opd} {Q : OV → En → Prop} (h : wE (runs ps) r (fun as r1 => Gi (looks r1 as) fun ds => ds.length = n ∧ Gi (f ds) fun o => o.flt = true ∧ Q o r1) E) : wE (callL n f ps) r Q E :=
  wE_bind rfl (wE_mono h (fun a r1 ⟨x, e1, hn, o, e2, hf, q⟩ => wE_ok (r1 := r1) (a := o) (by simp only [e1, Option.bind_some, hn, if_true, e2, hf, ofO]) q) fun _ _ h => h)
/-- what a def gives that changes its first list -/
def Gb (o : Option (OV × List D)) (k : OV → List D → Prop) : Prop := ∃ a b, o = some (a, b) ∧ k a b
theorem Gb.of {o : Option (OV × List D)} {k : OV → List D → Prop} {a : OV} {b : List D} (e : o = some (a, b)) (q : k a b) : Gb o k := ⟨a, b, e, q⟩
theorem w_callB {n j : Nat} {f : List D → List D → Option (OV × List D)} {fs : List (En → Rs D)} {Q : OV → En → Prop} (hj : ∃ o, r[j]? = some (some o)) (h : wE (evs fs) r (fun ds r1 => ds.length = n ∧ ∃ bs, r1[j]? = some (some (.ow bs)) ∧ Gb (f bs ds) fun o b' => ∀ r2, r1.set j (some (.ow b')) = r2 → Q o r2) E) : wE (callB n f j fs) r Q E := by
  obtain ⟨o, hj⟩ := hj
  have hf : fill r j = .ok () r := by unfold fill; rw [hj]
  refine wE_bind (f := fun r => fill r j) rfl (wE_ok hf ?_)
  refine wE_bind rfl (wE_mono h (fun ds r1 ⟨hl, bs, e1, o, b', e2, q⟩ => wE_ok (r1 := r1.set j (some (.ow b'))) (a := o) ?_ (q _ rfl)) fun _ _ h => h)
  have : (lookV r1 j).bind OV.lst? = some bs := by unfold lookV; rw [e1]; rfl
  rw [if_pos hl, this]
  simp only [Option.bind_some, e2, ofO, Rs.bind]
/-- what a def gives that may raise -/
def Gx (z : FR) (k : OV → Prop) (e : Exn → Prop) : Prop := match z with
  | .ok o => k o
  | .ex x => e x
  | .bad => False
theorem Gx.o {z : FR} {k : OV → Prop} {e : Exn → Prop} {o : OV} (h : z = .ok o) (q : k o) : Gx z k e := by subst h; exact q
theorem Gx.x {z : FR} {k : OV → Prop} {e : Exn → Prop} {x : Exn} (h : z = .ex x) (q : e x) : Gx z k e := by subst h; exact q
theorem wE_fr {z : FR} {Q : OV → En → Prop} (h : Gx z (fun o => Q o r) (fun x => E x r)) : wE (frR z) r Q E := by cases z <;> exact h
theorem w_callX {n : Nat} {f : List D → FR} {fs : List (En → Rs D)} {Q : OV → En → Prop} (h : wE (evs fs) r (fun ds r1 => ds.length = n ∧ Gx (f ds) (fun o => Q o r1) (fun x => E x r1)) E) : wE (callX n f fs) r Q E :=
  wE_bind rfl (wE_mono h (fun ds r1 ⟨hl, q⟩ => by
    show wE (fun r1 => if ds.length = n then frR (f ds) r1 else .bad) r1 Q E
    simp only [if_pos hl]
    exact wE_fr q) fun _ _ h => h)
/-- what __init__ gives -/
def Gy (z : FI) (k : List (Str × D) → Prop) (e : Exn → Prop) : Prop := match z with
  | .ok o => k o
  | .ex x => e x
  | .bad => False
theorem Gy.o {z : FI} {k : List (Str × D) → Prop} {e : Exn → Prop} {o : List (Str × D)} (h : z = .ok o) (q : k o) : Gy z k e := by subst h; exact q
theorem Gy.x {z : FI} {k : List (Str × D) → Prop} {e : Exn → Prop} {x : Exn} (h : z = .ex x) (q : e x) : Gy z k e := by subst h; exact q
theorem wE_fi {c : Str} {z : FI} {Q : OV → En → Prop} (h : Gy z (fun fl => Q (.sh (.obj c fl)) r) (fun x => E x r)) : wE (fiR c z) r Q E := by cases z <;> exact h
theorem w_make {c : Str} {n : Nat} {f : List D → FI} {fs : List (En → Rs D)} {Q : OV → En → Prop} (h : wE (evs fs) r (fun ds r1 => ds.length = n ∧ Gy (f ds) (fun fl => Q (.sh (.obj c fl)) r1) (fun x => E x r1)) E) : wE (makeD c n f fs) r Q E :=
  wE_bind rfl (wE_mono h (fun ds r1 ⟨hl, q⟩ => by
    show wE (fun r1 => if ds.length = n then fiR c (f ds) r1 else .bad) r1 Q E
    simp only [if_pos hl]
    exact wE_fi q) fun _ _ h => h)
theorem w_meth {c m : Str} {n : Nat} {f : List D → FR} {fo : En → Rs D} {fs : List (En → Rs D)} {Q : OV → En → Prop} (h : wE fo r (fun x r1 => objOk c m x = true ∧ wE (evs fs) r1 (fun ds r2 => ds.length + 1 = n ∧ Gx (f (x :: ds)) (fun o => Q o r2) (fun x => E x r2)) E) E) : wE (methX c m n f fo fs) r Q E :=
  wE_bind rfl (wE_mono h (fun x r1 ⟨hk, h⟩ => by
    show wE (fun r1 => if objOk c m x = true then (evs fs r1).bind fun ds r2 => if ds.length + 1 = n then frR (f (x :: ds)) r2 else .bad else .bad) r1 Q E
    simp only [if_pos hk]
    exact wE_bind rfl (wE_mono h (fun ds r2 ⟨hl, q⟩ => by
      show wE (fun r1 => if ds.length + 1 = n then frR (f (x :: ds)) r1 else .bad) r2 Q E
      simp only [if_pos hl]
      exact wE_fr q) fun _ _ h => h)) fun _ _ h => h)
theorem Gx_P {f : List D → Option OV} {ds : List D} {k : OV → Prop} {e : Exn → Prop} (h : Gi (f ds) k) : Gx ((fun ds => toFR (f ds)) ds) k e := by
  obtain ⟨o, h1, h2⟩ := h
  show Gx (toFR (f ds)) k e
  rw [h1]
  exact h2
theorem w_lenM {c : Str} {f : List D → Option OV} {fo : En → Rs D} {Q : D → En → Prop} (h : wE fo r (fun x r1 => Gi (lenF c f x) fun z => Q z r1) E) : wE (lenM c f fo) r Q E :=
  wE_bind rfl (wE_mono h (fun d r1 ⟨i, e, q⟩ => wE_ok (r1 := r1) (a := i) (by rw [e]; rfl) q) fun _ _ h => h)
/-! the error at hand -/
theorem w_isx {i : Nat} {t : Str → Option Bool} {x : Exn} {b : Bool} {Q : D → En → Prop} (e : r[i]? = some (some (.exc x))) (h : t x.c = some b) (q : Q (.bl b) r) : wE (isxD i t) r Q E := by
  unfold wE isxD
  rw [e]
  simp only [h, Option.map_some, ofO]
  exact q
theorem w_xf {i : Nat} {f : Str} {cs : List Str} {x : Exn} {d : D} {Q : D → En → Prop} (e : r[i]? = some (some (.exc x))) (h : x.c ∈ cs) (h2 : x.fs.lookup f = some d) (q : Q d r) : wE (xfD' i f cs) r Q E := by
  unfold wE xfD'
  rw [e]
  simp only [h, if_true, h2, ofO]
  exact q
theorem w_fldO {i : Nat} {c f : Str} {fl : List (Str × D)} {d : D} {Q : D → En → Prop} (e : r[i]? = some (some (.oi c fl))) (h2 : fl.lookup f = some d) (q : Q d r) : wE (fldO i c f) r Q E := by
  unfold wE fldO
  rw [e]
  simp only [if_true, h2, ofO]
  exact q
end
/-! statements -/
section
variable {r : En} {Q : SRs → Prop}
/-- the statements that follow -/
def Th (g : En → SRs) (Q : SRs → Prop) (x : SRs) : Prop := match x with
  | .nx r1 => wS g r1 Q
  | y => Q y
theorem Th.n {g : En → SRs} {r1 : En} (h : wS g r1 Q) : Th g Q (.nx r1) := h
theorem Th.t {g : En → SRs} {r1 : En} {o : OV} (h : Q (.rt o r1)) : Th g Q (.rt o r1) := h
theorem Th.x {g : En → SRs} {r1 : En} {x : Exn} (h : Q (.ex x r1)) : Th g Q (.ex x r1) := h
theorem Th.b {g : En → SRs} {r1 : En} (h : Q (.bk r1)) : Th g Q (.bk r1) := h
theorem Th.c {g : En → SRs} {r1 : En} (h : Q (.ct r1)) : Th g Q (.ct r1) := h
theorem s_seq {f g : En → SRs} (h : wS f r (Th g Q)) : wS (seqS f g) r Q := by
  unfold wS seqS at *
  cases e : f r <;> (rw [e] at h; exact h)
theorem s_nx (h : Q (.nx r)) : wS nxS r Q := h
theorem s_bk (h : Q (.bk r)) : wS bkS r Q := h
theorem s_ct (h : Q (.ct r)) : wS ctS r Q := h
theorem wS_then {α : Type} {f : En → Rs α} {k : α → En → SRs} {g : En → SRs} (hg : g r = thenS (f r) k) (h : wE f r (fun a r1 => wS (k a) r1 Q) (fun x r1 => Q (.ex x r1))) : wS g r Q := by
  unfold wS wE at *
  rw [hg]
  cases e : f r with
  | ok a r1 => rw [e] at h; exact h
  | ex x r1 => rw [e] at h; exact h
  | bad => rw [e] at h; exact h.elim
theorem s_rt {f : En → Rs OV} (h : wE f r (fun o r1 => Q (.rt o r1)) (fun x r1 => Q (.ex x r1))) : wS (rtS f) r Q := wS_then rfl h
theorem s_rtN (h : Q (.rt (.sh .non) r)) : wS rtN r Q := h
theorem s_ex {f : En → Rs D} (h : wE f r (fun o r1 => Q (.nx r1)) (fun x r1 => Q (.ex x r1))) : wS (exS f) r Q := wS_then rfl h
theorem s_set {i : Nat} {f : En → Rs OV} (h : wE f r (fun o r1 => ∀ r2, r1.set i (some o) = r2 → Q (.nx r2)) (fun x r1 => Q (.ex x r1))) : wS (setS i f) r Q := wS_then rfl (wE_mono h (fun o r1 h => h _ rfl) fun _ _ h => h)
theorem s_if {c : En → Rs Bool} {f g : En → SRs} (h : wE c r (fun b r1 => Ch b (wS f r1 Q) (wS g r1 Q)) (fun x r1 => Q (.ex x r1))) : wS (ifS c f g) r Q := wS_then rfl (wE_mono h (fun b r1 h => by cases b <;> exact h) fun _ _ h => h)
theorem s_raise {c f : Str} {fe : En → Rs D} (h : wE fe r (fun d r1 => Q (.ex ⟨c, [(f, d)]⟩ r1)) (fun x r1 => Q (.ex x r1))) : wS (raiseS c f fe) r Q := wS_then rfl h
theorem s_fld {i : Nat} {c f : Str} {fe : En → Rs D} (h : wE fe r (fun d r1 => ∃ fl, r1[i]? = some (some (.oi c fl)) ∧ fl.length < 900 ∧ ∀ r2, r1.set i (some (.oi c (putFd f d fl))) = r2 → Q (.nx r2)) (fun x r1 => Q (.ex x r1))) : wS (fldS i c f fe) r Q :=
  wS_then rfl (wE_mono h (fun d r1 ⟨fl, e, hl, h⟩ => by
    unfold wS
    simp only [e, true_and, if_pos hl]
    exact h _ rfl) fun _ _ h => h)
theorem s_par2 {i j : Nat} {f : En → Rs D} {g : En → Rs OV} (h : wE f r (fun d r1 => wE g r1 (fun o r2 => ∀ r3, (r2.set i (some (.sh d))).set j (some o) = r3 → Q (.nx r3)) (fun x r1 => Q (.ex x r1))) (fun x r1 => Q (.ex x r1))) : wS (par2 i j f g) r Q :=
  wS_then rfl (wE_mono h (fun d r1 h => wS_then rfl (wE_mono h (fun o r2 h => h _ rfl) fun _ _ h => h)) fun _ _ h => h)
theorem s_par3 {i j l : Nat} {f f2 : En → Rs D} {g : En → Rs OV} (h : wE f r (fun d r1 => wE f2 r1 (fun d2 r2 => wE g r2 (fun o r3 => ∀ r4, ((r3.set i (some (.sh d))).set j (some (.sh d2))).set l (some o) = r4 → Q (.nx r4)) (fun x r1 => Q (.ex x r1))) (fun x r1 => Q (.ex x r1))) (fun x r1 => Q (.ex x r1))) : wS (par3 i j l f f2 g) r Q :=
  wS_then rfl (wE_mono h (fun d r1 h => wS_then rfl (wE_mono h (fun o r2 h => wS_then rfl (wE_mono h (fun o r2 h => h _ rfl) fun _ _ h => h)) fun _ _ h => h)) fun _ _ h => h)
theorem wE_noE {α : Type} {f : En → Rs α} {Q : α → En → Prop} {E : Exn → En → Prop} (h : wE f r Q nE) : wE (fun r => (f r).noE) r Q E := by
  obtain ⟨a, r1, e, q⟩ := wE_get h
  exact wE_ok (r1 := r1) (a := a) (by rw [e]; rfl) q
theorem s_par2o {i j : Nat} {f g : En → Rs OV} (h : wE f r (fun d r1 => wE g r1 (fun o r2 => ∀ r3, (r2.set i (some d)).set j (some o) = r3 → Q (.nx r3)) nE) (fun x r1 => Q (.ex x r1))) : wS (par2o i j f g) r Q :=
  wS_then rfl (wE_mono h (fun d r1 h => wS_then (f := fun r => (g r).noE) rfl (wE_noE (wE_mono h (fun o r2 h => h _ rfl) fun _ _ h => h))) fun _ _ h => h)
theorem s_asg {f : En → Rs D} {h : D → En → Option En} (q : wE f r (fun d r1 => Gi (h d r1) fun r2 => ∀ r3, r2 = r3 → Q (.nx r3)) (fun x r1 => Q (.ex x r1))) : wS (asgS f h) r Q :=
  wS_then rfl (wE_mono q (fun d r1 ⟨r2, e, q⟩ => by unfold wS; simp only [e]; exact q _ rfl) fun _ _ h => h)
theorem wS_chg {i : Nat} {f : List D → Option (List D)} {xs : List D} (e : r[i]? = some (some (.ow xs))) (h : Gi (f xs) fun ys => ∀ r2, r.set i (some (.ow ys)) = r2 → Q (.nx r2)) : wS (chgS i f) r Q := by
  obtain ⟨ys, e2, h⟩ := h
  have : (lookV r i).bind OV.lst? = some xs := by unfold lookV; rw [e]; rfl
  unfold wS chgS
  simp only [this, e2]
  exact h _ rfl
theorem fillW_ok {i : Nat} {xs : List D} (e : r[i]? = some (some (.ow xs))) : fillW r i = .ok () r := by unfold fillW lookV; rw [e]
theorem s_app {i : Nat} {f : En → Rs D} (h0 : ∃ xs, r[i]? = some (some (.ow xs))) (h : wE f r (fun d r1 => ∃ xs, r1[i]? = some (some (.ow xs)) ∧ xs.length ≤ 1000000 ∧ ∀ r2, r1.set i (some (.ow (xs ++ [d]))) = r2 → Q (.nx r2)) (fun x r1 => Q (.ex x r1))) : wS (appS i f) r Q := by
  obtain ⟨xs, h0⟩ := h0
  refine wS_then (f := fun r => fillW r i) rfl (wE_ok (fillW_ok h0) (wS_then rfl (wE_mono h (fun d r1 ⟨xs, e, hl, q⟩ => wS_chg e ⟨xs ++ [d], by unfold appF; rw [if_pos hl], q⟩) fun _ _ h => h)))
theorem s_ext {i : Nat} {f : En → Rs D} (h0 : ∃ xs, r[i]? = some (some (.ow xs))) (h : wE f r (fun d r1 => ∃ xs, r1[i]? = some (some (.ow xs)) ∧ Gi (extF d xs) fun ys => ∀ r2, r1.set i (some (.ow ys)) = r2 → Q (.nx r2)) (fun x r1 => Q (.ex x r1))) : wS (extS i f) r Q := by
  obtain ⟨xs, h0⟩ := h0
  refine wS_then (f := fun r => fillW r i) rfl (wE_ok (fillW_ok h0) (wS_then rfl (wE_mono h (fun d r1 ⟨xs, e, q⟩ => wS_chg e q) fun _ _ h => h)))
theorem s_pop {i : Nat} {f : En → Rs D} (h0 : ∃ xs, r[i]? = some (some (.ow xs))) (h : wE f r (fun d r1 => ∃ xs, r1[i]? = some (some (.ow xs)) ∧ Gi (popF d xs) fun ys => ∀ r2, r1.set i (some (.ow ys)) = r2 → Q (.nx r2)) (fun x r1 => Q (.ex x r1))) : wS (popS i f) r Q := by
  obtain ⟨xs, h0⟩ := h0
  refine wS_then (f := fun r => fillW r i) rfl (wE_ok (fillW_ok h0) (wS_then rfl (wE_mono h (fun d r1 ⟨xs, e, q⟩ => wS_chg e q) fun _ _ h => h)))
theorem s_ins {i : Nat} {f g : En → Rs D} (h0 : ∃ xs, r[i]? = some (some (.ow xs))) (h : wE f r (fun k r1 => wE g r1 (fun d r2 => ∃ xs, r2[i]? = some (some (.ow xs)) ∧ Gi (insF k d xs) fun ys => ∀ r3, r2.set i (some (.ow ys)) = r3 → Q (.nx r3)) (fun x r1 => Q (.ex x r1))) (fun x r1 => Q (.ex x r1))) : wS (insS i f g) r Q := by
  obtain ⟨xs, h0⟩ := h0
  refine wS_then (f := fun r => fillW r i) rfl (wE_ok (fillW_ok h0) (wS_then rfl (wE_mono h (fun k r1 h => wS_then rfl (wE_mono h (fun d r2 ⟨xs, e, q⟩ => wS_chg e q) fun _ _ h => h)) fun _ _ h => h)))
theorem s_put {i : Nat} {fi f : En → Rs D} (h : wE f r (fun d r1 => (∃ xs, r1[i]? = some (some (.ow xs))) ∧ wE fi r1 (fun k r2 => ∃ xs, r2[i]? = some (some (.ow xs)) ∧ Gi (DL.putF k d xs) fun ys => ∀ r3, r2.set i (some (.ow ys)) = r3 → Q (.nx r3)) (fun x r1 => Q (.ex x r1))) (fun x r1 => Q (.ex x r1))) : wS (putS i fi f) r Q := by
  refine wS_then rfl (wE_mono h (fun d r1 ⟨⟨xs, h0⟩, h⟩ => wS_then (f := fun r => fillW r i) rfl (wE_ok (fillW_ok h0) (wS_then rfl (wE_mono h (fun k r2 ⟨xs, e, q⟩ => wS_chg e q) fun _ _ h => h)))) fun _ _ h => h)
/-! loops -/
/-- behind a turn -/
def Tn (I : En → Prop) (Q : SRs → Prop) (x : SRs) : Prop := match x with
  | .nx r => I r
  | .ct r => I r
  | .bk r => Q (.nx r)
  | y => Q y
theorem Tn.n {I : En → Prop} {r1 : En} (h : I r1) : Tn I Q (.nx r1) := h
theorem Tn.t {I : En → Prop} {r1 : En} {o : OV} (h : Q (.rt o r1)) : Tn I Q (.rt o r1) := h
theorem wS_for {h : D → En → Option En} {body : En → SRs} (ds : List D) (I : Nat → En → Prop) (st : ∀ (i : Nat) (d : D), ds[i]? = some d → ∀ r, I i r → Gi (h d r) fun r1 => ∀ r2, r1 = r2 → wS body r2 (Tn (I (i + 1)) Q)) (hq : ∀ r, I ds.length r → Q (.nx r)) (h0 : I 0 r) : wS (forS h body ds) r Q := by
  induction ds generalizing I r with
  | nil => exact hq r h0
  | cons d ds ih =>
    obtain ⟨r1, e1, w1⟩ := st 0 d rfl r h0
    have w1 : Tn (I 1) Q (body r1) := w1 _ rfl
    have ih' : ∀ r0, I 1 r0 → Q (forS h body ds r0) := fun r0 h0 => ih (r := r0) (fun i => I (i + 1)) (fun i d hd r hr => st (i + 1) d hd r hr) (fun r hr => hq r hr) h0
    show Q (forS h body (d :: ds) r)
    unfold forS
    simp only [e1]
    revert w1
    cases body r1 with
    | nx r2 => exact fun w => ih' r2 w
    | ct r2 => exact fun w => ih' r2 w
    | bk r2 => exact fun w => w
    | rt o r2 => exact fun w => w
    | ex x r2 => exact fun w => w
    | bad => exact fun w => w
theorem s_for {it : En → Rs (List D)} {h : D → En → Option En} {body : En → SRs} (q : wE it r (fun ds r1 => wS (forS h body ds) r1 Q) (fun x r1 => Q (.ex x r1))) : wS (forD it h body) r Q := wS_then rfl q
/-! a turn that may not matter for a list of known things -/
theorem wS_forL {α : Type} {h : D → En → Option En} {body : En → SRs} {ds : List D} (xs : List α) (enc : α → D) (hd : ds = xs.map enc) (I : Nat → En → Prop) (st : ∀ (i : Nat) (x : α), xs[i]? = some x → ∀ r, I i r → Gi (h (enc x) r) fun r1 => ∀ r2, r1 = r2 → wS body r2 (Tn (I (i + 1)) Q)) (hq : ∀ r, I xs.length r → Q (.nx r)) (h0 : I 0 r) : wS (forS h body ds) r Q := by
  subst hd
  refine wS_for _ I (fun i d hd r hr => ?_) (fun r hr => hq r (by rw [List.length_map] at hr; exact hr)) h0
  rw [List.getElem?_map] at hd
  obtain ⟨x, hx, rfl⟩ := Option.map_eq_some_iff.mp hd
  exact st i x hx r hr
/-- behind an except clause's suite -/
def Hq (i : Nat) (Q : SRs → Prop) (y : SRs) : Prop := match y with
  | .nx r3 => noX (r3.set i none) = true ∧ ∀ r4, r3.set i none = r4 → Q (.nx r4)
  | .rt o r3 => noX (r3.set i none) = true ∧ ∀ r4, r3.set i none = r4 → Q (.rt o r4)
  | .bk r3 => noX (r3.set i none) = true ∧ ∀ r4, r3.set i none = r4 → Q (.bk r4)
  | .ct r3 => noX (r3.set i none) = true ∧ ∀ r4, r3.set i none = r4 → Q (.ct r4)
  | _ => False
theorem Hq.n {i : Nat} {r3 : En} (h1 : noX (r3.set i none) = true) (h2 : ∀ r4, r3.set i none = r4 → Q (.nx r4)) : Hq i Q (.nx r3) := ⟨h1, h2⟩
theorem Hq.t {i : Nat} {o : OV} {r3 : En} (h1 : noX (r3.set i none) = true) (h2 : ∀ r4, r3.set i none = r4 → Q (.rt o r4)) : Hq i Q (.rt o r3) := ⟨h1, h2⟩
/-- behind what is tried -/
def Tq (ct : Str → Option Bool) (i : Nat) (fs : En → SRs) (Q : SRs → Prop) (x : SRs) : Prop := match x with
  | .ex x r1 => Gi (ct x.c) fun b => Ch b (∀ r2, r1.set i (some (.exc x)) = r2 → wS fs r2 (Hq i Q)) (Q (.ex x r1))
  | y => Q y
theorem Tq.n {ct : Str → Option Bool} {i : Nat} {fs : En → SRs} {r1 : En} (h : Q (.nx r1)) : Tq ct i fs Q (.nx r1) := h
theorem Tq.t {ct : Str → Option Bool} {i : Nat} {fs : En → SRs} {r1 : En} {o : OV} (h : Q (.rt o r1)) : Tq ct i fs Q (.rt o r1) := h
theorem s_try {ct : Str → Option Bool} {i : Nat} {fb fs : En → SRs} (h : wS fb r (Tq ct i fs Q)) : wS (tryS ct i fb fs) r Q := by
  unfold wS tryS at *
  revert h
  cases fb r with
  | ex x r1 =>
    rintro ⟨b, e, h⟩
    simp only [e]
    cases b with
    | false => exact h
    | true =>
      have h : Hq i Q (fs (r1.set i (some (.exc x)))) := h _ rfl
      simp only
      revert h
      cases fs (r1.set i (some (.exc x))) with
      | nx r3 => exact fun ⟨h1, h2⟩ => by simp only [h1, if_true]; exact h2 _ rfl
      | rt o r3 => exact fun ⟨h1, h2⟩ => by simp only [h1, if_true]; exact h2 _ rfl
      | bk r3 => exact fun ⟨h1, h2⟩ => by simp only [h1, if_true]; exact h2 _ rfl
      | ct r3 => exact fun ⟨h1, h2⟩ => by simp only [h1, if_true]; exact h2 _ rfl
      | ex x r3 => exact fun h => h.elim
      | bad => exact fun h => h.elim
  | nx r1 => exact fun h => h
  | rt o r1 => exact fun h => h
  | bk r1 => exact fun h => h
  | ct r1 => exact fun h => h
  | bad => exact fun h => h
end
/-! defs -/
theorem fnP_w {n : Nat} {m : En → SRs} {ds : List D} {o : OV} (h : ∀ r, startE n (ds.map OV.sh) = r → wS m r (fun x => match x with | .nx _ => o = .sh .non | .rt o' _ => o' = o | _ => False)) : fnP n m ds = some o := by
  unfold fnP
  have h := h _ rfl
  unfold wS at h
  revert h
  cases m (startE n (ds.map OV.sh)) with
  | nx r => exact fun h => by rw [h]
  | rt o' r => exact fun h => by rw [h]
  | _ => exact fun h => h.elim
/-! comprehensions and what is walked -/
section
variable {r : En} {E : Exn → En → Prop}
theorem w_itA {f : En → Rs D} {Q : List D → En → Prop} (h : wE f r (fun d r1 => Gi d.items fun ds => Q ds r1) E) : wE (itA f) r Q E :=
  wE_bind rfl (wE_mono h (fun d r1 ⟨i, e, q⟩ => wE_ok (r1 := r1) (a := i) (by rw [e]; rfl) q) fun _ _ h => h)
theorem w_enD {f : En → Rs D} {Q : List D → En → Prop} (h : wE f r (fun d r1 => Gi d.asL fun ds => Q (enumD 0 ds) r1) E) : wE (enD f) r Q E :=
  wE_bind rfl (wE_mono h (fun d r1 ⟨i, e, q⟩ => wE_ok (r1 := r1) (a := enumD 0 i) (by rw [e]; rfl) q) fun _ _ h => h)
theorem w_zpD {f g : En → Rs D} {Q : List D → En → Prop} (h : wE f r (fun d r1 => wE g r1 (fun e r2 => Gi (zip2 d e) fun ds => Q ds r2) E) E) : wE (zpD f g) r Q E :=
  wE_bind rfl (wE_mono h (fun d r1 h => wE_bind rfl (wE_mono h (fun d' r1 ⟨i, e, q⟩ => wE_ok (r1 := r1) (a := i) (by rw [e]; rfl) q) fun _ _ h => h)) fun _ _ h => h)
theorem w_rg1 {f : En → Rs D} {Q : List D → En → Prop} (h : wE f r (fun d r1 => ∃ i : Int, d = .int i ∧ (-1000000 ≤ i ∧ i ≤ 1000000) ∧ Q (rangeD 0 i.toNat) r1) E) : wE (rg1 f) r Q E :=
  wE_bind rfl (wE_mono h (fun d r1 ⟨i, e, hb, q⟩ => wE_ok (r1 := r1) (a := rangeD 0 i.toNat) (by subst e; show (if -1000000 ≤ i ∧ i ≤ 1000000 then _ else _) = _; rw [if_pos hb]) q) fun _ _ h => h)
theorem w_vaD {f : En → Rs D} {Q : List D → En → Prop} (h : wE f r (fun d r1 => Gi d.vals fun ds => Q ds r1) E) : wE (vaD f) r Q E :=
  wE_bind rfl (wE_mono h (fun d r1 ⟨i, e, q⟩ => wE_ok (r1 := r1) (a := i) (by rw [e]; rfl) q) fun _ _ h => h)
theorem w_its {f : En → Rs D} {Q : OV → En → Prop} (h : wE f r (fun d r1 => Gi d.itms fun ds => Q (.ow ds) r1) E) : wE (itsO f) r Q E :=
  wE_bind rfl (wE_mono h (fun d r1 ⟨i, e, q⟩ => wE_ok (r1 := r1) (a := .ow i) (by rw [e]; rfl) q) fun _ _ h => h)
/-- the elements of a comprehension that draws nothing -/
theorem lcS_wp {α : Type} {vs : List Nat} {h : D → En → Option En} {t : En → Rs Bool} {elt : En → Rs D} {r2 : En} (enc : α → D) (p : α → Bool) (q : α → D) (hw2 : wipeE r2 vs = r2) : ∀ (xs : List α),
    (∀ x ∈ xs, Gi (h (enc x) r2) fun ra => ∀ ra', ra = ra' → wE t ra' (fun b rb => b = p x ∧ wipeE rb vs = r2 ∧ (p x = true → wE elt rb (fun y rc => y = q x ∧ wipeE rc vs = r2) nE)) nE) → ∀ r, wipeE r vs = r2 → ∃ r3, lcS vs h t elt (xs.map enc) r = .ok ((xs.filter p).map q) r3 ∧ wipeE r3 vs = r2
  | [], _, r, hr => ⟨r, rfl, hr⟩
  | x :: xs, he, r, hr => by
    have ih := lcS_wp enc p q hw2 xs (fun y hy => he y (List.mem_cons_of_mem _ hy))
    obtain ⟨ra, e1, w1⟩ := he x List.mem_cons_self
    obtain ⟨b, rb, e2, rfl, e3, w2⟩ := wE_get (w1 _ rfl)
    rw [List.map_cons]
    unfold lcS
    rw [hr]
    simp only [e1, e2, Rs.bind]
    cases hp : p x with
    | true =>
      obtain ⟨y, rc, e4, rfl, e5⟩ := wE_get (w2 hp)
      obtain ⟨r3, e6, e7⟩ := ih (wipeE rc vs) (by rw [e5]; exact hw2)
      refine ⟨r3, ?_, e7⟩
      rw [List.filter_cons_of_pos hp]
      simp only [if_true, e4, e6, List.map_cons]
    | false =>
      obtain ⟨r3, e6, e7⟩ := ih (wipeE rb vs) (by rw [e3]; exact hw2)
      refine ⟨r3, ?_, e7⟩
      rw [List.filter_cons_of_neg (by rw [hp]; exact Bool.false_ne_true)]
      simp only [Bool.false_eq_true, if_false, e6]
theorem w_lc {α : Type} {it : En → Rs (List D)} {vs : List Nat} {h : D → En → Option En} {t : En → Rs Bool} {elt : En → Rs D} {Q : OV → En → Prop} (xs : List α) (enc : α → D) (p : α → Bool) (q : α → D)
    (w : wE it r (fun ds r1 => ds = xs.map enc ∧ xs.length ≤ 1000000 ∧ ∀ r2, wipeE r1 vs = r2 → wipeE r2 vs = r2 ∧ (∀ x ∈ xs, Gi (h (enc x) r2) fun ra => ∀ ra', ra = ra' → wE t ra' (fun b rb => b = p x ∧ wipeE rb vs = r2 ∧ (p x = true → wE elt rb (fun y rc => y = q x ∧ wipeE rc vs = r2) nE)) nE) ∧ Q (.ow ((xs.filter p).map q)) r2) E) : wE (lcD it vs h t elt) r Q E :=
  wE_bind rfl (wE_mono w (fun ds r1 ⟨e, hl, hh⟩ => by
    obtain ⟨h1, h2, h3⟩ := hh _ rfl
    subst e
    obtain ⟨r3, e1, e2⟩ := lcS_wp enc p q h1 xs h2 r1 rfl
    refine wE_ok (r1 := wipeE r1 vs) (a := OV.ow ((xs.filter p).map q)) ?_ h3
    rw [if_pos (by rw [List.length_map]; exact hl), e1]
    show Rs.ok _ (wipeE r3 vs) = _
    rw [e2]) fun _ _ h => h)
end
end DL

/-! plain tools, part 11: running comprehensions with several clauses. -/
namespace DL
open PySem L2
/-- what a loop of clauses adds -/
def Ad (k : List D → En → Rs (List D)) (B : Nat) (r : En) (ys : List D) (R : En → Prop) : Prop := ∀ acc : List D, acc.length + ys.length ≤ B → ∃ rc, k acc r = .ok (acc ++ ys) rc ∧ R rc
section
variable {ok : List D → D → Bool} {fe : En → Rs D} {B : Nat} {r : En} {R : En → Prop}
theorem ad_one {y : D} (hok : ∀ acc : List D, acc.length < B → ok acc y = true) (h : wE fe r (fun y' r1 => y' = y ∧ R r1) nE) : Ad (lcA ok fe []) B r [y] R := fun acc hl => by
  obtain ⟨y', r1, e, rfl, q⟩ := wE_get h
  refine ⟨r1, ?_, q⟩
  unfold lcA
  rw [e]
  simp only [Rs.bind, if_pos (hok acc (by simp only [List.length_cons, List.length_nil] at hl; omega))]
theorem lcT_wp {α : Type} {k : List D → En → Rs (List D)} {h : D → En → Option En} {t : En → Rs Bool} {vs : List Nat} {r2 : En} (enc : α → D) (p : α → Bool) (q : α → List D) (hw2 : wipeE r2 vs = r2) : ∀ (xs : List α),
    (∀ x ∈ xs, Gi (h (enc x) r2) fun ra => ∀ ra', ra = ra' → wE t ra' (fun b rb => b = p x ∧ wipeE rb vs = r2 ∧ (p x = true → Ad k B rb (q x) fun rc => wipeE rc vs = r2)) nE) → ∀ (acc : List D) (r : En), wipeE r vs = r2 → acc.length + ((xs.filter p).flatMap q).length ≤ B →
    lcT k h t vs (xs.map enc) acc r = .ok (acc ++ (xs.filter p).flatMap q) r2
  | [], _, acc, r, hr, _ => by
    show Rs.ok acc (wipeE r vs) = _
    rw [hr]
    simp
  | x :: xs, he, acc, r, hr, hB => by
    obtain ⟨ra, e1, w⟩ := he x List.mem_cons_self
    obtain ⟨b, rb, e2, rfl, e3, e4⟩ := wE_get (w _ rfl)
    have ih := lcT_wp enc p q hw2 xs fun y hy => he y (List.mem_cons_of_mem _ hy)
    rw [List.map_cons]
    unfold lcT
    rw [hr, e1]
    simp only [e2, Rs.bind]
    cases hp : p x with
    | false =>
      simp only [Bool.false_eq_true, if_false]
      have hf : (x :: xs).filter p = xs.filter p := List.filter_cons_of_neg (by rw [hp]; exact Bool.false_ne_true)
      rw [hf] at hB ⊢
      exact ih acc _ (by rw [e3]; exact hw2) hB
    | true =>
      have hf : (x :: xs).filter p = x :: xs.filter p := List.filter_cons_of_pos hp
      rw [hf, List.flatMap_cons] at hB ⊢
      rw [List.length_append] at hB
      obtain ⟨rc, f1, f2⟩ := e4 hp acc (by omega)
      simp only [if_true, f1]
      rw [ih (acc ++ q x) _ (by rw [f2]; exact hw2) (by rw [List.length_append]; omega), List.append_assoc]
theorem ad_cons {α : Type} {c : GDt} {cs : List GDt} (xs : List α) (enc : α → D) (p : α → Bool) (q : α → List D) (h : wE c.f r (fun ds r1 => ds = xs.map enc ∧ ∀ r2, wipeE r1 c.vs = r2 → wipeE r2 c.vs = r2 ∧
    (∀ x ∈ xs, Gi (c.h (enc x) r2) fun ra => ∀ ra', ra = ra' → wE c.t ra' (fun b rb => b = p x ∧ wipeE rb c.vs = r2 ∧ (p x = true → Ad (lcA ok fe cs) B rb (q x) fun rc => wipeE rc c.vs = r2)) nE) ∧ R r2) nE) :
    Ad (lcA ok fe (c :: cs)) B r ((xs.filter p).flatMap q) R := fun acc hl => by
  obtain ⟨ds, r1, e, rfl, h⟩ := wE_get h
  obtain ⟨h1, h2, h3⟩ := h _ rfl
  refine ⟨wipeE r1 c.vs, ?_, h3⟩
  unfold lcA
  rw [e]
  exact lcT_wp enc p q h1 xs h2 acc r1 rfl hl
theorem ad_cons1 {α : Type} {f : En → Rs (List D)} {hh : D → En → Option En} {vs ks : List Nat} {cs : List GDt} (xs : List α) (enc : α → D) (q : α → List D) (h : wE f r (fun ds r1 => ds = xs.map enc ∧ ∀ r2, wipeE r1 vs = r2 → wipeE r2 vs = r2 ∧
    (∀ x ∈ xs, Gi (hh (enc x) r2) fun ra => ∀ ra', ra = ra' → wipeE ra' vs = r2 ∧ Ad (lcA ok fe cs) B ra' (q x) fun rc => wipeE rc vs = r2) ∧ R r2) nE) :
    Ad (lcA ok fe (⟨f, hh, yesT, vs, ks⟩ :: cs)) B r (xs.flatMap q) R := by
  have := ad_cons (ok := ok) (fe := fe) (B := B) (R := R) (c := ⟨f, hh, yesT, vs, ks⟩) (cs := cs) (r := r) xs enc (fun _ => true) q (wE_mono h (fun ds r1 ⟨e, h⟩ => ⟨e, fun r2 e2 => by
    obtain ⟨h1, h2, h3⟩ := h r2 e2
    refine ⟨h1, fun x hx => ?_, h3⟩
    obtain ⟨ra, e1, e3⟩ := h2 x hx
    exact ⟨ra, e1, fun ra' er => ⟨rfl, (e3 ra' er).1, fun _ => (e3 ra' er).2⟩⟩⟩) fun _ _ h => h)
  rw [List.filter_eq_self.mpr (fun _ _ => rfl)] at this
  exact this
end
section
variable {r : En} {Q : OV → En → Prop} {E : Exn → En → Prop} {cs : List GDt} {fe : En → Rs D}
theorem okS_ok {t : Str} : ∀ acc : List D, acc.length < 4000 → okS acc (.str t) = true := fun acc h => by
  unfold okS
  rw [decide_eq_true h]
  rfl
/-! two clauses -/
end
section
variable {r : En} {E : Exn → En → Prop}
/-! more operations -/
theorem w_sum {p : Opd} {Q : OV → En → Prop} (h : wE p.run r (fun a r1 => Gi (look r1 a) fun x => Gi (semSumL x) fun z => Q (.ow z) r1) E) : wE (sumO p) r Q E :=
  wE_bind rfl (wE_mono h (fun a r1 ⟨x, e1, z, e2, q⟩ => wE_ok (r1 := r1) (a := .ow z) (by simp only [e1, Option.bind_some, e2, Option.map_some, ofO]) q) fun _ _ h => h)
theorem w_pnil {Q : List (Key × D) → En → Prop} (q : Q [] r) : wE (evPs []) r Q E := q
theorem w_pcons {f g : En → Rs D} {fs : List ((En → Rs D) × (En → Rs D))} {Q : List (Key × D) → En → Prop} (h : wE f r (fun k r1 => wE g r1 (fun d r2 => Gi k.key fun k => wE (evPs fs) r2 (fun kds r3 => Q ((k, d) :: kds) r3) E) E) E) : wE (evPs ((f, g) :: fs)) r Q E :=
  wE_bind (g := evPs ((f, g) :: fs)) (k := fun k r1 => (g r1).bind fun d r2 => (ofO k.key r2).bind fun k r2 => (evPs fs r2).bind fun kds r3 => .ok ((k, d) :: kds) r3) rfl (wE_mono h (fun k r1 h =>
    wE_bind (f := g) (k := fun d r2 => (ofO k.key r2).bind fun k r2 => (evPs fs r2).bind fun kds r3 => .ok ((k, d) :: kds) r3) rfl (wE_mono h (fun d r2 ⟨k', e, h⟩ =>
      wE_bind (f := fun r2 => ofO k.key r2) (k := fun k r2 => (evPs fs r2).bind fun kds r3 => .ok ((k, d) :: kds) r3) rfl (wE_ofO e (wE_bind (f := evPs fs) (k := fun kds r3 => .ok ((k', d) :: kds) r3) rfl (wE_mono h (fun kds r3 h => h) fun _ _ h => h)))) fun _ _ h => h)) fun _ _ h => h)
theorem w_dic {fs : List ((En → Rs D) × (En → Rs D))} {Q : D → En → Prop} (h : wE (evPs fs) r (fun kds r1 => kds.length ≤ 15 ∧ ∀ d, D.dic (mergeD [] kds) = d → Q d r1) nE) : wE (dicD fs) r Q E := by
  obtain ⟨kds, r1, e, hl, q⟩ := wE_get h
  exact wE_ok (r1 := r1) (a := .dic (mergeD [] kds)) (by unfold dicD; rw [e]; show (if _ then _ else _) = _; rw [if_pos hl]) (q _ rfl)
theorem w_dst {f : En → Rs D} {fs : List ((En → Rs D) × (En → Rs D))} {Q : D → En → Prop} (h : wE f r (fun d r1 => ∃ kds, d = .dic kds ∧ kds.length ≤ 1000 ∧ wE (evPs fs) r1 (fun rs r2 => rs.length ≤ 15 ∧ ∀ d, D.dic (mergeD (mergeD [] kds) (mergeD [] rs)) = d → Q d r2) nE) nE) : wE (dstD f fs) r Q E := by
  obtain ⟨d, r1, e, kds, rfl, hl, h⟩ := wE_get h
  obtain ⟨rs, r2, e2, hl2, q⟩ := wE_get h
  refine wE_ok (r1 := r2) (a := .dic (mergeD (mergeD [] kds) (mergeD [] rs))) ?_ (q _ rfl)
  unfold dstD
  rw [e]
  show (if kds.length ≤ 1000 then _ else _) = _
  rw [if_pos hl, e2]
  show (if rs.length ≤ 15 then _ else _) = _
  rw [if_pos hl2]
theorem w_stL {f : En → Rs D} {fs : List (En → Rs D)} {Q : OV → En → Prop} (h : wE f r (fun d r1 => ∃ xs, d = .lst xs ∧ wE (evs fs) r1 (fun ds r2 => (xs ++ ds).length ≤ 1000 ∧ Q (.ow (xs ++ ds)) r2) E) E) : wE (stL f fs) r Q E :=
  wE_bind rfl (wE_mono h (fun d r1 ⟨xs, e, h⟩ => by
    subst e
    exact wE_bind (f := evs fs) (k := fun ds r2 => if (xs ++ ds).length ≤ 1000 then .ok (.ow (xs ++ ds)) r2 else .bad) rfl (wE_mono h (fun ds r2 ⟨hl, q⟩ => wE_ok (r1 := r2) (a := .ow (xs ++ ds)) (by rw [if_pos hl]) q) fun _ _ h => h)) fun _ _ h => h)
theorem w_rg2 {f g : En → Rs D} {Q : List D → En → Prop} (h : wE f r (fun d r1 => wE g r1 (fun d' r2 => ∃ i j : Int, d = .int i ∧ d' = .int j ∧ ((-1000000 ≤ i ∧ i ≤ 1000000) ∧ -1000000 ≤ j ∧ j ≤ 1000000) ∧ Q (rangeD i (j - i).toNat) r2) E) E) : wE (rg2 f g) r Q E :=
  wE_bind rfl (wE_mono h (fun d r1 h => wE_bind rfl (wE_mono h (fun d' r2 ⟨i, j, e, e', hb, q⟩ => wE_ok (r1 := r2) (a := rangeD i (j - i).toNat) (by subst e; subst e'; show (if (-1000000 ≤ i ∧ i ≤ 1000000) ∧ -1000000 ≤ j ∧ j ≤ 1000000 then _ else _) = _; rw [if_pos hb]) q) fun _ _ h => h)) fun _ _ h => h)
end
theorem semAdd_l {xs ys : List D} (h : xs.length + ys.length ≤ 1000000) : semAdd (.lst xs) (.lst ys) = some (.lst (xs ++ ys)) := by
  show (if _ then _ else _) = _
  rw [if_pos h]
theorem semAdd_t {xs ys : List D} (h : xs.length + ys.length ≤ 1000000) : semAdd (.tup xs) (.tup ys) = some (.tup (xs ++ ys)) := by
  show (if _ then _ else _) = _
  rw [if_pos h]
theorem semAdd_s {x y : Str} (h : x.length + y.length ≤ 1000000) : semAdd (.str x) (.str y) = some (.str (x ++ y)) := by
  show (if _ then _ else _) = _
  rw [if_pos h]
end DL

/-! plain tools, part 12: running with sets of tuples. -/
namespace DL
open PySem L2
theorem wS_mono {f : En → SRs} {r : En} {Q Q' : SRs → Prop} (h : wS f r Q) (i : ∀ y, Q y → Q' y) : wS f r Q' := i _ h
theorem s_clr {i : Nat} {r : En} {Q : SRs → Prop} {xs : List D} (e : r[i]? = some (some (.ow xs))) (q : ∀ r1, r.set i (some (.ow [])) = r1 → Q (.nx r1)) : wS (clrS i) r Q := by
  exact wS_then (f := fun r => fillW r i) rfl (wE_ok (fillW_ok e) (wS_chg e ⟨[], rfl, q⟩))
theorem hide_sh {d : D} : hideO (some (.sh d)) = some (.sh d) := rfl
theorem hide_ow {xs : List D} : hideO (some (.ow xs)) = none := rfl
theorem hide_no : hideO none = none := rfl
theorem w_bw {i : Nat} {f : En → Rs D} {r : En} {xs : List D} {Q : D → En → Prop} {E : Exn → En → Prop} (e : r[i]? = some (some (.ow xs))) (h : ∀ r1, (r.map hideO).set i (some (.sh (.lst xs))) = r1 → wE f r1 (fun d _ => d.flt = true ∧ Q d r) nE) : wE (bwD i f) r Q E := by
  obtain ⟨d, r1, e1, h1, q⟩ := wE_get (h _ rfl)
  refine wE_ok (r1 := r) (a := d) ?_ q
  unfold bwD
  rw [e]
  show bwR (f _) r = _
  rw [e1]
  exact if_pos h1
end DL

/-! plain tools, part 13: d.get(k, x), dict(zip(..)). -/
namespace DL
open PySem L2
theorem w_get {p k x : Opd} {r : En} {Q : D → En → Prop} {E : Exn → En → Prop} (h : wE p.run r (fun z r1 => Gi (look r1 z) fun d0 => d0.isDic = true ∧ wE k.run r1 (fun y r2 => wE x.run r2 (fun u r3 => Gi (look r3 z) fun d => Gi (look r3 y) fun e => Gi (look r3 u) fun c => Gi (semGet d e c) fun v => Q v r3) E) E) E) : wE (getD2 p k x) r Q E := by
  refine wE_bind rfl (wE_mono h (fun z r1 ⟨d0, e0, hd, h⟩ => ?_) fun _ _ h => h)
  have e1 : (ofO ((look r1 z).bind fun d => if d.isDic = true then some d else none) r1 : Rs D) = .ok d0 r1 := by simp only [e0, Option.bind_some, if_pos hd, ofO]
  refine wE_bind (f := fun r1 => ofO ((look r1 z).bind fun d => if d.isDic = true then some d else none) r1) rfl (wE_ok e1 ?_)
  exact wE_bind rfl (wE_mono h (fun y r2 h => wE_bind rfl (wE_mono h (fun u r3 ⟨d, e1, e, e2, c, e3, v, e4, q⟩ => wE_ok (r1 := r3) (a := v) (by simp only [e1, e2, e3, Option.bind_some, e4, ofO]) q) fun _ _ h => h)) fun _ _ h => h)
end DL

/-! plain tools, part 14: dict comprehensions, owned dicts, two fields at once, isinstance of an own class. -/
namespace DL
open PySem L2
section
variable {r : En} {E : Exn → En → Prop}
theorem dcS_wp {α : Type} {vs : List Nat} {h : D → En → Option En} {fk fe : En → Rs D} {r2 : En} (enc : α → D) (key : α → Key) (val : α → D) (hw2 : wipeE r2 vs = r2) : ∀ (xs : List α),
    (∀ x ∈ xs, Gi (h (enc x) r2) fun ra => ∀ ra', ra = ra' → wE fk ra' (fun kd rb => kd.key = some (key x) ∧ wE fe rb (fun y rc => y = val x ∧ wipeE rc vs = r2) nE) nE) → ∀ r, wipeE r vs = r2 → ∃ r3, dcS vs h yesT fk fe (xs.map enc) r = .ok (xs.map fun x => (key x, val x)) r3 ∧ wipeE r3 vs = r2
  | [], _, r, hr => ⟨r, rfl, hr⟩
  | x :: xs, he, r, hr => by
    have ih := dcS_wp enc key val hw2 xs (fun y hy => he y (List.mem_cons_of_mem _ hy))
    obtain ⟨ra, e1, w1⟩ := he x List.mem_cons_self
    obtain ⟨kd, rb, e2, ek, w2⟩ := wE_get (w1 _ rfl)
    obtain ⟨y, rc, e4, rfl, e5⟩ := wE_get w2
    obtain ⟨r3, e6, e7⟩ := ih (wipeE rc vs) (by rw [e5]; exact hw2)
    rw [List.map_cons]
    unfold dcS
    rw [hr]
    refine ⟨r3, ?_, e7⟩
    simp only [e1, yesT, Rs.bind, if_true, e2, e4, ek, ofO, e6, List.map_cons]
theorem putFd_len (f : Str) (d : D) : ∀ fl : List (Str × D), (putFd f d fl).length ≤ fl.length + 1
  | [] => Nat.le_refl _
  | (g, x) :: fl => by
    unfold putFd
    have := putFd_len f d fl
    split
    · simp
    · simp only [List.length_cons]; omega
theorem s_fld2 {i : Nat} {c f1 f2 : Str} {h1 h2 : En → Rs D} {Q : SRs → Prop} (h : wE h1 r (fun d1 r1 => wE h2 r1 (fun d2 r2 => ∃ fl, r2[i]? = some (some (.oi c fl)) ∧ fl.length < 800 ∧ ∀ r3, r2.set i (some (.oi c (putFd f2 d2 (putFd f1 d1 fl)))) = r3 → Q (.nx r3)) (fun x r1 => Q (.ex x r1))) (fun x r1 => Q (.ex x r1))) : wS (fld2S i c f1 f2 h1 h2) r Q :=
  wS_then rfl (wE_mono h (fun d1 r1 h => wS_then rfl (wE_mono h (fun d2 r2 ⟨fl, e, hl, q⟩ => by
    have hi : i < r2.length := (List.getElem?_eq_some_iff.mp e).1
    have pl : (putFd f1 d1 fl).length < 900 := by
      have := putFd_len f1 d1 fl
      omega
    have e1 : putFs i c f1 d1 r2 = some (r2.set i (some (.oi c (putFd f1 d1 fl)))) := by
      unfold putFs
      simp only [e, true_and, if_pos (show fl.length < 900 by omega)]
    have e2 : putFs i c f2 d2 (r2.set i (some (.oi c (putFd f1 d1 fl)))) = some (r2.set i (some (.oi c (putFd f2 d2 (putFd f1 d1 fl))))) := by
      unfold putFs
      simp only [List.getElem?_set_self hi, true_and, if_pos pl, List.set_set]
    have e3 : (ofO ((putFs i c f1 d1 r2).bind fun r3 => putFs i c f2 d2 r3) r2 : Rs En) = .ok (r2.set i (some (.oi c (putFd f2 d2 (putFd f1 d1 fl))))) r2 := by
      rw [e1, Option.bind_some, e2]
      rfl
    exact wS_then (f := fun r2 => ofO ((putFs i c f1 d1 r2).bind fun r3 => putFs i c f2 d2 r3) r2) rfl (wE_ok e3 (q _ rfl))) fun _ _ h => h)) fun _ _ h => h)
theorem w_iso {p : Opd} {c : Str} {Q : D → En → Prop} (h : wE p.run r (fun a r1 => Gi (look r1 a) fun x => Gi (isoB c x) fun b => Q (.bl b) r1) E) : wE (isoD p c) r Q E :=
  wE_bind rfl (wE_mono h (fun a r1 ⟨x, e1, b, e2, q⟩ => wE_ok (r1 := r1) (a := .bl b) (by simp only [e1, Option.bind_some, e2, Option.map_some, ofO]) q) fun _ _ h => h)
/-! owned dicts -/
theorem s_newDk {i : Nat} {Q : SRs → Prop} (q : ∀ r1, r.set i (some (.th (.dk []))) = r1 → Q (.nx r1)) : wS (newDk i) r Q := q _ rfl
theorem slDk_at {i : Nat} {kvs : List (Key × D)} (e : r[i]? = some (some (.th (.dk kvs)))) : slDk r i = some kvs := by unfold slDk; rw [e]; rfl
theorem s_putDk {i : Nat} {fi f : En → Rs D} {Q : SRs → Prop} (h : wE f r (fun d r1 => (∃ kvs, r1[i]? = some (some (.th (.dk kvs)))) ∧ wE fi r1 (fun kd r2 => ∃ kvs, r2[i]? = some (some (.th (.dk kvs))) ∧ kvs.length ≤ 1000000 ∧ Gi kd.key fun k => ∀ r3, r2.set i (some (.th (.dk (putD kvs k d)))) = r3 → Q (.nx r3)) (fun x r1 => Q (.ex x r1))) (fun x r1 => Q (.ex x r1))) : wS (putDk i fi f) r Q :=
  wS_then rfl (wE_mono h (fun d r1 ⟨⟨kvs, e0⟩, h⟩ => by
    have hf : fill r1 i = .ok () r1 := by unfold fill; rw [e0]
    refine wS_then (f := fun r => fill r i) rfl (wE_ok hf (wS_then rfl (wE_mono h (fun kd r2 ⟨kvs, e1, hl, k, ek, q⟩ => ?_) fun _ _ h => h)))
    have e2 : (ofO ((slDk r2 i).bind fun kvs => if kvs.length ≤ 1000000 then kd.key.map fun k => putD kvs k d else none) r2 : Rs (List (Key × D))) = .ok (putD kvs k d) r2 := by
      rw [slDk_at e1, Option.bind_some, if_pos hl, ek]
      rfl
    exact wS_then (f := fun r2 => ofO ((slDk r2 i).bind fun kvs => if kvs.length ≤ 1000000 then kd.key.map fun k => putD kvs k d else none) r2) rfl (wE_ok e2 (q _ rfl))) fun _ _ h => h)
end
end DL

/-! Tools, part 15: own == and &. -/
namespace DL
open PySem L2
variable {r : En} {E : Exn → En → Prop}
theorem w_opM {c : Str} {ok : D → Bool} {f : List D → FR} {fo fe : En → Rs D} {Q : OV → En → Prop} (h : wE fo r (fun x r1 => wE fe r1 (fun y r2 => (isC c x && ok y) = true ∧ Gx (f [x, y]) (fun o => Q o r2) (fun x => E x r2)) E) E) : wE (opM c ok f fo fe) r Q E :=
  wE_bind rfl (wE_mono h (fun x r1 h => wE_bind (f := fe) rfl (wE_mono h (fun y r2 ⟨hk, q⟩ => by
    show wE (fun r2 => if (isC c x && ok y) = true then frR (f [x, y]) r2 else .bad) r2 Q E
    simp only [if_pos hk]
    exact wE_fr q) fun _ _ h => h)) fun _ _ h => h)
end DL

/-! Tools, part 16: running with owned dicts: dict(d), d[k], defs that hand out their own dict; own !=. -/
namespace DL
open PySem L2
variable {r : En} {E : Exn → En → Prop}
theorem w_vDk {i : Nat} {kvs : List (Key × D)} {Q : D → En → Prop} (e : r[i]? = some (some (.th (.dk kvs)))) (q : ∀ r1, r.set i (some (.sh (.dic kvs))) = r1 → Q (.dic kvs) r1) : wE (vDk i) r Q E := by unfold wE vDk; rw [e]; exact q _ rfl
theorem w_vDkS {i : Nat} {d : D} {Q : D → En → Prop} (e : r[i]? = some (some (.sh d))) (q : Q d r) : wE (vDk i) r Q E := by unfold wE vDk; rw [e]; exact q
theorem w_getDk {i : Nat} {f : En → Rs D} {Q : D → En → Prop} (h0 : ∃ o, r[i]? = some (some o)) (h : wE f r (fun kd r1 => ∃ kvs, r1[i]? = some (some (.th (.dk kvs))) ∧ Gi (semAt (.dic kvs) kd) fun d => Q d r1) E) : wE (getDk i f) r Q E := by
  obtain ⟨o, h0⟩ := h0
  have hf : fill r i = .ok () r := by unfold fill; rw [h0]
  refine wE_bind (f := fun r => fill r i) rfl (wE_ok hf ?_)
  refine wE_bind rfl (wE_mono h (fun kd r1 ⟨kvs, e1, z, e2, q⟩ => ?_) fun _ _ h => h)
  refine wE_ok (r1 := r1) (a := z) ?_ q
  rw [slDk_at e1]
  show ofO (semAt (.dic kvs) kd) r1 = _
  rw [e2]
  rfl
theorem s_setK {i : Nat} {f : En → Rs (List (Key × D))} {Q : SRs → Prop} (h : wE f r (fun kvs r1 => ∀ r2, r1.set i (some (.th (.dk kvs))) = r2 → Q (.nx r2)) (fun x r1 => Q (.ex x r1))) : wS (setK i f) r Q := wS_then rfl (wE_mono h (fun o r1 h => h _ rfl) fun _ _ h => h)
theorem w_cpK {f : En → Rs D} {Q : List (Key × D) → En → Prop} (h : wE f r (fun d r1 => ∃ kvs, d = .dic kvs ∧ Q kvs r1) E) : wE (cpK f) r Q E :=
  wE_bind rfl (wE_mono h (fun d r1 ⟨kvs, e, q⟩ => by subst e; exact wE_ok (r1 := r1) (a := kvs) rfl q) fun _ _ h => h)
theorem w_ifK {t : En → Rs Bool} {f h : En → Rs (List (Key × D))} {Q : List (Key × D) → En → Prop} (q : wE t r (fun b r1 => Ch b (wE f r1 Q E) (wE h r1 Q E)) E) : wE (ifK t f h) r Q E :=
  wE_bind rfl (wE_mono q (fun b r1 q => by cases b <;> exact q) fun _ _ h => h)
theorem w_frzK {f : En → Rs (List (Key × D))} {Q : D → En → Prop} (h : wE f r (fun kvs r1 => Q (.dic kvs) r1) E) : wE (frzK f) r Q E :=
  wE_bind rfl (wE_mono h (fun kvs r1 q => wE_ok (r1 := r1) (a := D.dic kvs) rfl q) fun _ _ h => h)
def Gk (o : Option (List (Key × D) × List D)) (k : List (Key × D) → List D → Prop) : Prop := ∃ a b, o = some (a, b) ∧ k a b
theorem Gk.of {o : Option (List (Key × D) × List D)} {k : List (Key × D) → List D → Prop} {a : List (Key × D)} {b : List D} (e : o = some (a, b)) (q : k a b) : Gk o k := ⟨a, b, e, q⟩
theorem w_callBD {n j : Nat} {f : List D → List D → Option (List (Key × D) × List D)} {fs : List (En → Rs D)} {Q : List (Key × D) → En → Prop} (hj : ∃ o, r[j]? = some (some o)) (h : wE (evs fs) r (fun ds r1 => ds.length = n ∧ ∃ bs, r1[j]? = some (some (.ow bs)) ∧ Gk (f bs ds) fun o b' => ∀ r2, r1.set j (some (.ow b')) = r2 → Q o r2) E) : wE (callBD n f j fs) r Q E := by
  obtain ⟨o, hj⟩ := hj
  have hf : fill r j = .ok () r := by unfold fill; rw [hj]
  refine wE_bind (f := fun r => fill r j) rfl (wE_ok hf ?_)
  refine wE_bind rfl (wE_mono h (fun ds r1 ⟨hl, bs, e1, o, b', e2, q⟩ => wE_ok (r1 := r1.set j (some (.ow b'))) (a := o) ?_ (q _ rfl)) fun _ _ h => h)
  have : (lookV r1 j).bind OV.lst? = some bs := by unfold lookV; rw [e1]; rfl
  rw [if_pos hl, this]
  simp only [Option.bind_some, e2, ofO, Rs.bind]
theorem w_neM {c : Str} {f : List D → Option OV} {fo fe : En → Rs D} {Q : D → En → Prop} (h : wE fo r (fun x r1 => wE fe r1 (fun y r2 => (isC c x && eqArg c y) = true ∧ ∃ b, f [x, y] = some (.sh (.bl b)) ∧ Q (.bl (!b)) r2) E) E) : wE (neM c f fo fe) r Q E :=
  wE_bind rfl (wE_mono h (fun x r1 h => wE_bind (f := fe) rfl (wE_mono h (fun y r2 ⟨hk, b, e, q⟩ => by
    refine wE_ok (r1 := r2) (a := .bl (!b)) ?_ q
    rw [if_pos hk]
    simp only [e]) fun _ _ h => h)) fun _ _ h => h)
/-! a for over a literal list, turn by turn -/
theorem of_ow {xs : List D} {P : D → Prop} (h : P (.lst xs)) : ∀ d, (OV.ow xs).d = d → P d := fun d e => by
  have e : D.lst xs = d := e
  rw [← e]
  exact h
theorem hasDk {i : Nat} {kvs : List (Key × D)} {P : Prop} (e : r[i]? = some (some (.th (.dk kvs)))) (p : P) : (∃ kvs, r[i]? = some (some (OV.th (Tg.dk kvs)))) ∧ P := ⟨⟨kvs, e⟩, p⟩
theorem getsDk {i : Nat} {kvs : List (Key × D)} {P : List (Key × D) → Prop} (e : r[i]? = some (some (.th (.dk kvs)))) (h : kvs.length ≤ 1000000) (p : P kvs) : ∃ kvs, r[i]? = some (some (OV.th (Tg.dk kvs))) ∧ kvs.length ≤ 1000000 ∧ P kvs := ⟨kvs, e, h, p⟩
theorem getDk' {i : Nat} {kvs : List (Key × D)} {P : List (Key × D) → Prop} (e : r[i]? = some (some (.th (.dk kvs)))) (p : P kvs) : ∃ kvs, r[i]? = some (some (OV.th (Tg.dk kvs))) ∧ P kvs := ⟨kvs, e, p⟩
theorem put_to {i : Nat} {kvs kvs' : List (Key × D)} {k : Key} {d : D} {P : En → Prop} (e : putD kvs k d = kvs') (h : ∀ r3, r.set i (some (.th (.dk kvs'))) = r3 → P r3) : ∀ r3, r.set i (some (.th (.dk (putD kvs k d)))) = r3 → P r3 := by rw [e]; exact h
end DL

/-! plain tools, part 17: running pop as a value, owned dicts with tuples as keys, while, sorted(a | b). -/
namespace DL
open PySem L2
section
variable {r : En} {E : Exn → En → Prop}
theorem w_enX {f : En → Rs D} {Q : List D → En → Prop} (h : wE f r (fun d r1 => Gi d.asE fun ds => Q (enumD 0 ds) r1) E) : wE (enX f) r Q E :=
  wE_bind rfl (wE_mono h (fun d r1 ⟨i, e, q⟩ => wE_ok (r1 := r1) (a := enumD 0 i) (by rw [e]; rfl) q) fun _ _ h => h)
theorem w_popV {i : Nat} {f : En → Rs D} {Q : D → En → Prop} (h0 : ∃ xs, r[i]? = some (some (.ow xs))) (h : wE f r (fun d r1 => ∃ xs, r1[i]? = some (some (.ow xs)) ∧ Gi (popP d xs) fun z => ∀ r2, r1.set i (some (.ow z.2)) = r2 → Q z.1 r2) E) : wE (popV i f) r Q E := by
  obtain ⟨xs, h0⟩ := h0
  refine wE_bind (f := fun r => fillW r i) rfl (wE_ok (fillW_ok h0) ?_)
  refine wE_bind rfl (wE_mono h (fun d r1 ⟨ys, e1, z, e2, q⟩ => ?_) fun _ _ h => h)
  refine wE_ok (r1 := r1.set i (some (.ow z.2))) (a := z.1) ?_ (q _ rfl)
  rw [e1]
  simp only [e2]
theorem w_getOd {i : Nat} {f : En → Rs D} {Q : D → En → Prop} (h0 : ∃ o, r[i]? = some (some o)) (h : wE f r (fun kd r1 => ∃ kvs, r1[i]? = some (some (.od kvs)) ∧ Gi (kd.key8.bind fun k => odAt kvs k) fun d => Q d r1) E) : wE (getOd i f) r Q E := by
  obtain ⟨o, h0⟩ := h0
  have hf : fill r i = .ok () r := by unfold fill; rw [h0]
  refine wE_bind (f := fun r => fill r i) rfl (wE_ok hf ?_)
  refine wE_bind rfl (wE_mono h (fun kd r1 ⟨kvs, e1, z, e2, q⟩ => ?_) fun _ _ h => h)
  refine wE_ok (r1 := r1) (a := z) ?_ q
  rw [e1]
  show ofO (kd.key8.bind fun k => odAt kvs k) r1 = _
  rw [e2]
  rfl
theorem w_inOd {n : Bool → Bool} {i : Nat} {f : En → Rs D} {Q : Bool → En → Prop} (h : wE f r (fun kd r1 => ∃ kvs, r1[i]? = some (some (.od kvs)) ∧ Gi kd.key8 fun k => Q (n (odHas kvs k)) r1) E) : wE (inOd n i f) r Q E := by
  refine wE_bind rfl (wE_mono h (fun kd r1 ⟨kvs, e1, k, e2, q⟩ => ?_) fun _ _ h => h)
  refine wE_ok (r1 := r1) (a := n (odHas kvs k)) ?_ q
  rw [e1]
  show ofO (kd.key8.map fun k => n (odHas kvs k)) r1 = _
  rw [e2]
  rfl
theorem s_putOd {i : Nat} {fi f : En → Rs D} {Q : SRs → Prop} (h : wE f r (fun d r1 => (∃ o, r1[i]? = some (some o)) ∧ wE fi r1 (fun kd r2 => ∃ kvs, r2[i]? = some (some (.od kvs)) ∧ Gi kd.key8 fun k => (odHas kvs k = false ∧ kvs.length ≤ 1000000) ∧ ∀ r3, r2.set i (some (.od (kvs ++ [(kd, d)]))) = r3 → Q (.nx r3)) (fun x r1 => Q (.ex x r1))) (fun x r1 => Q (.ex x r1))) : wS (putOd i fi f) r Q := by
  refine wS_then rfl (wE_mono h (fun d r1 ⟨⟨o, h0⟩, h⟩ => ?_) fun _ _ h => h)
  have hf : fill r1 i = .ok () r1 := by unfold fill; rw [h0]
  refine wS_then (f := fun r => fill r i) rfl (wE_ok hf (wS_then rfl (wE_mono h (fun kd r2 ⟨kvs, e1, k, e2, hc, q⟩ => ?_) fun _ _ h => h)))
  unfold wS
  simp only [e1, e2, hc, and_self, if_true]
  exact q _ rfl
theorem s_parOd1 {i j : Nat} {fk fv : En → Rs D} {h : En → Rs OV} {Q : SRs → Prop} (w : wE fk r (fun kd r1 => wE fv r1 (fun d r2 => Gi kd.key8 fun _ => wE h r2 (fun o r3 => ∀ r4, (r3.set i (some (.od [(kd, d)]))).set j (some o) = r4 → Q (.nx r4)) nE) nE) nE) : wS (parOd1 i j fk fv h) r Q := by
  obtain ⟨kd, r1, e1, w⟩ := wE_get w
  obtain ⟨d, r2, e2, k, e3, w⟩ := wE_get w
  obtain ⟨o, r3, e4, w⟩ := wE_get w
  unfold wS parOd1
  rw [e1]
  show Q (thenS ((fv r1).noE) _)
  rw [e2]
  show Q (thenS (ofO kd.key8 r2) _)
  rw [e3]
  show Q (thenS ((h r2).noE) _)
  rw [e4]
  exact w _ rfl
theorem w_scZ {cs : List GDt} {fe : En → Rs D} {Q : List Str → En → Prop} {ts : List Str} (h : Ad (lcA okS fe cs) 4000 r (ts.map D.str) (fun r1 => Q ts r1)) (hl : ts.length ≤ 4000) : wE (scZ cs fe) r Q E := by
  obtain ⟨rc, e, q⟩ := h [] (by simpa using hl)
  refine wE_ok (r1 := rc) (a := ts) ?_ q
  unfold scZ
  rw [e]
  show ofO (strsOf ([] ++ ts.map D.str)) rc = _
  rw [List.nil_append, strsOf_strs]
  rfl
theorem w_orS {fa fb : En → Rs (List Str)} {Q : OV → En → Prop} (h : wE fa r (fun ts r1 => wE fb r1 (fun us r2 => ((addT [] ts).length ≤ 15 ∧ (addT [] us).length ≤ 15) ∧ Q (.ow ((srtT (ts ++ us)).map D.str)) r2) E) E) : wE (orS fa fb) r Q E := by
  refine wE_bind rfl (wE_mono h (fun ts r1 h => ?_) fun _ _ h => h)
  refine wE_bind rfl (wE_mono h (fun us r2 ⟨hc, q⟩ => ?_) fun _ _ h => h)
  refine wE_ok (r1 := r2) (a := OV.ow ((srtT (ts ++ us)).map D.str)) ?_ q
  rw [if_pos hc]
  rfl
theorem w_lenDk {i : Nat} {Q : D → En → Prop} {kvs : List (Key × D)} (e : r[i]? = some (some (.th (.dk kvs)))) (q : Q (.int (kvs.length : Nat)) r) : wE (lenDk i) r Q E := by
  refine wE_ok (r1 := r) ?_ q
  unfold lenDk
  rw [slDk_at e]
  rfl
/-- i = {k: v for ..} -/
theorem s_dkS {α : Type} {i : Nat} {it : En → Rs (List D)} {vs : List Nat} {h : D → En → Option En} {fk fe : En → Rs D} {Q : SRs → Prop} (xs : List α) (enc : α → D) (key : α → Key) (val : α → D)
    (w : wE it r (fun ds r1 => ds = xs.map enc ∧ xs.length ≤ 1000 ∧ ∀ r2, wipeE r1 vs = r2 → wipeE r2 vs = r2 ∧ (∀ x ∈ xs, Gi (h (enc x) r2) fun ra => ∀ ra', ra = ra' → wE fk ra' (fun kd rb => kd.key = some (key x) ∧ wE fe rb (fun y rc => y = val x ∧ wipeE rc vs = r2) nE) nE) ∧ ∀ r3, r2.set i (some (.th (.dk (mergeD [] (xs.map fun x => (key x, val x)))))) = r3 → Q (.nx r3)) (fun x r1 => Q (.ex x r1))) : wS (dkS i it vs h yesT fk fe) r Q := by
  refine wS_then rfl (wE_mono w (fun ds r1 ⟨e, hl, hh⟩ => ?_) fun _ _ h => h)
  obtain ⟨h1, h2, h3⟩ := hh _ rfl
  subst e
  obtain ⟨r3, e1, e2⟩ := dcS_wp enc key val h1 xs h2 r1 rfl
  unfold wS
  rw [if_pos (by rw [List.length_map]; exact hl)]
  show Q (thenS (Rs.noE (dcS vs h yesT fk fe (xs.map enc) r1)) _)
  rw [e1]
  show Q (.nx ((wipeE r3 vs).set i _))
  rw [e2]
  exact h3 _ rfl
/-- while: what holds ahead of the turn with m turns left -/
theorem wS_wh {c : En → Rs Bool} {body : En → SRs} {Q : SRs → Prop} (I : Nat → En → Prop) (n : Nat) (h0 : I n r)
    (st : ∀ (m : Nat) (r : En), I m r → wE c r (fun b r1 => (b = false → Q (.nx r1)) ∧ (b = true → ∃ m', m = m' + 1 ∧ wS body r1 (Tn (I m') Q))) (fun x r1 => Q (.ex x r1))) (hz : ∀ r, ¬ I 0 r) : wS (whS c body n) r Q := by
  induction n generalizing r with
  | zero => exact (hz _ h0).elim
  | succ n ih =>
    refine wS_then rfl (wE_mono (st _ _ h0) (fun b r1 ⟨h1, h2⟩ => ?_) fun _ _ h => h)
    cases b with
    | false => exact h1 rfl
    | true =>
      obtain ⟨m', e, w⟩ := h2 rfl
      cases e
      unfold wS at w ⊢
      simp only [if_true]
      revert w
      cases body r1 with
      | nx r2 => exact fun w => ih w
      | ct r2 => exact fun w => ih w
      | bk r2 => exact fun w => w
      | rt o r2 => exact fun w => w
      | ex x r2 => exact fun w => w
      | bad => exact fun w => w
end
end DL

local macro_rules | `(tactic| walk_at "lenb") => `(tactic| first | omega | (simp only [List.length_append, List.length_map, List.length_cons, List.length_nil, List.length_range, List.length_take, List.length_drop, List.length_zipIdx, List.length_reverse]; omega))
local macro_rules | `(tactic| walk_at "lks") => `(tactic| first | exact DL.lks_nil | (refine' DL.lks_cons ?a ?b; (case a => first | exact DL.lk_l | exact DL.lk_sh rfl | exact DL.lk_ow rfl); (case b => walk_at "lks")))
local macro_rules | `(tactic| walk_at "dk") => `(tactic| first
  | ((with_reducible refine' DL.hasDk ?e ?q); (case e => rfl))
  | ((with_reducible refine' DL.getsDk ?e ?l ?q); (case e => rfl); (case l => first | exact Nat.le_of_ble_eq_true rfl | assumption | omega))
  | ((with_reducible refine' DL.getDk' ?e ?q); (case e => rfl)))
local macro_rules | `(tactic| walk_at "go1") => `(tactic| first
  | (with_reducible refine DL.s_seq ?_)
  | (with_reducible refine DL.Th.n ?_)
  | (with_reducible refine DL.w_con ?_)
  | ((with_reducible refine' DL.w_var ?e ?q); (case e => rfl))
  | ((with_reducible refine' DL.w_varO ?e ?q); (case e => rfl))
  | (with_reducible refine DL.w_frz ?_)
  | (with_reducible refine DL.w_sh ?_)
  | ((with_reducible refine' DL.w_mv ?e ?q); (case e => rfl))
  | ((with_reducible refine' DL.w_mvO ?e ?q); (case e => rfl))
  | (with_reducible refine DL.w_oex ?_)
  | ((with_reducible refine' DL.w_ova ?e ?q); (case e => rfl))
  | (with_reducible refine DL.w_op2 ?_)
  | (with_reducible refine DL.w_op1 ?_)
  | (with_reducible refine DL.w_rnil ?_)
  | (with_reducible refine DL.w_rcons ?_)
  | (with_reducible refine DL.w_opN ?_)
  | (with_reducible refine DL.w_get ?_)
  | (with_reducible refine DL.w_opNO ?_)
  | (with_reducible refine DL.w_op2O ?_)
  | (with_reducible refine DL.w_enil ?_)
  | (with_reducible refine DL.w_econs ?_)
  | (with_reducible refine DL.w_tup ?_)
  | (with_reducible refine DL.w_lst ?_)
  | (with_reducible refine DL.w_call ?_)
  | ((with_reducible refine DL.w_callB ?e ?q); (case e => exact ⟨_, rfl⟩))
  | (with_reducible refine DL.w_callL ?_)
  | (with_reducible refine DL.w_callX ?_)
  | (with_reducible refine DL.w_make ?_)
  | (with_reducible refine DL.w_meth ?_)
  | (with_reducible refine DL.w_lenM ?_)
  | (with_reducible refine DL.w_toB ?_)
  | (with_reducible refine DL.w_toT ?_)
  | (with_reducible refine DL.w_notT ?_)
  | (with_reducible refine DL.w_notD ?_)
  | (with_reducible refine DL.w_notV ?_)
  | (with_reducible refine DL.w_andT ?_)
  | (with_reducible refine DL.w_orT ?_)
  | (with_reducible refine DL.w_andD ?_)
  | (with_reducible refine DL.w_orD ?_)
  | (with_reducible refine DL.w_andV ?_)
  | (with_reducible refine DL.w_orV ?_)
  | (with_reducible refine DL.w_if ?_)
  | (with_reducible refine DL.w_chain ?_)
  | (with_reducible refine DL.w_isi ?_)
  | (with_reducible refine DL.w_iso ?_)
  | (with_reducible refine DL.w_m1 ?_)
  | (with_reducible refine DL.w_znil ?_)
  | (with_reducible refine DL.w_zcons ?_)
  | (with_reducible refine DL.w_zst ?_)
  | (with_reducible refine DL.w_lstZ ?_)
  | (with_reducible refine DL.w_tupZ ?_)
  | (with_reducible refine DL.w_poN ?_)
  | (with_reducible refine DL.w_poS ?_)
  | (with_reducible refine DL.w_sl ?_)
  | (with_reducible refine DL.w_yes ?_)
  | (with_reducible refine DL.w_itA ?_)
  | (with_reducible refine DL.w_enD ?_)
  | (with_reducible refine DL.w_zpD ?_)
  | (with_reducible refine DL.w_enX ?_)
  | ((with_reducible refine DL.w_popV ?e ?q); (case e => exact ⟨_, rfl⟩))
  | ((with_reducible refine DL.w_getOd ?e ?q); (case e => exact ⟨_, rfl⟩))
  | (with_reducible refine DL.w_inOd ?_)
  | (with_reducible refine DL.s_putOd ?_)
  | (with_reducible refine DL.s_parOd1 ?_)
  | (with_reducible refine DL.w_orS ?_)
  | ((with_reducible refine' DL.w_lenDk ?e ?q); (case e => rfl))
  | ((with_reducible refine' DL.Gi.of (o := DL.D.asE _) ?e ?q); (case e => rfl))
  | (refine ⟨_, (rfl : _ = some (some (DL.OV.od _))), ?_⟩)
  | (refine ⟨⟨_, (rfl : _ = some (some (_ : DL.OV)))⟩, ?_⟩)
  | (with_reducible refine DL.w_rg1 ?_)
  | (with_reducible refine DL.w_vaD ?_)
  | (with_reducible refine DL.w_its ?_)
  | (with_reducible refine DL.w_sum ?_)
  | (with_reducible refine DL.w_pnil ?_)
  | (with_reducible refine DL.w_pcons ?_)
  | (with_reducible refine DL.w_dic ?_)
  | (with_reducible refine DL.w_dst ?_)
  | (with_reducible refine DL.w_stL ?_)
  | (with_reducible refine DL.w_rg2 ?_)
  | ((with_reducible refine' DL.w_xf ?e ?m ?l ?q); (case e => rfl); (case m => decide +kernel); (case l => rfl))
  | ((with_reducible refine' DL.w_isx (b := true) ?e ?m ?q); (case e => rfl); (case m => decide +kernel))
  | ((with_reducible refine' DL.w_isx (b := false) ?e ?m ?q); (case e => rfl); (case m => decide +kernel))
  | ((with_reducible refine' DL.w_fldO ?e ?l ?q); (case e => rfl); (case l => rfl))
  | ((with_reducible refine' DL.w_vDkS ?e ?q); (case e => rfl))
  | ((with_reducible refine' DL.w_vDk ?e ?q); (case e => rfl))
  | ((with_reducible refine DL.w_getDk ?e ?q); (case e => exact ⟨_, rfl⟩))
  | (with_reducible refine DL.s_setK ?_)
  | (with_reducible refine DL.w_cpK ?_)
  | (with_reducible refine DL.w_ifK ?_)
  | (with_reducible refine DL.w_frzK ?_)
  | ((with_reducible refine DL.w_callBD ?e ?q); (case e => exact ⟨_, rfl⟩))
  | (with_reducible refine DL.w_opM ?_)
  | (with_reducible refine DL.w_neM ?_)
  | (with_reducible refine DL.s_set ?_)
  | (with_reducible refine DL.s_fld2 ?_)
  | (with_reducible refine DL.s_newDk ?_)
  | (with_reducible refine DL.s_putDk ?_)
  | (with_reducible refine DL.s_if ?_)
  | (with_reducible refine DL.s_rt ?_)
  | (with_reducible refine DL.s_rtN ?_)
  | (with_reducible refine DL.s_nx ?_)
  | (with_reducible refine DL.s_ex ?_)
  | (with_reducible refine DL.s_raise ?_)
  | ((with_reducible refine' DL.w_bw ?e ?q); (case e => rfl); (intro r2 hr2); (simp only [List.map_cons, List.map_nil, DL.hide_sh, DL.hide_ow, DL.hide_no, List.set_cons_succ, List.set_cons_zero] at hr2); subst hr2)
  | (refine ⟨(rfl : DL.D.flt _ = true), ?_⟩)
  | (refine ⟨(rfl : DL.OV.flt _ = true), ?_⟩)
  | ((with_reducible refine' DL.s_clr ?e ?q); (case e => rfl))
  | ((with_reducible refine DL.s_app ?e ?q); (case e => exact ⟨_, rfl⟩))
  | ((with_reducible refine DL.s_ext ?e ?q); (case e => exact ⟨_, rfl⟩))
  | ((with_reducible refine DL.s_pop ?e ?q); (case e => exact ⟨_, rfl⟩))
  | ((with_reducible refine DL.s_ins ?e ?q); (case e => exact ⟨_, rfl⟩))
  | (with_reducible refine DL.s_put ?_)
  | (with_reducible refine DL.s_par2 ?_)
  | (with_reducible refine DL.s_par3 ?_)
  | (with_reducible refine DL.s_par2o ?_)
  | (with_reducible refine DL.s_asg ?_)
  | (with_reducible refine DL.s_fld ?_)
  | (with_reducible refine DL.s_for ?_)
  | (with_reducible refine DL.s_try ?_)
  | (with_reducible refine DL.s_bk ?_)
  | (with_reducible refine DL.s_ct ?_)
  | (with_reducible refine DL.Th.t ?_)
  | (with_reducible refine DL.Th.x ?_)
  | (with_reducible refine DL.Tn.n ?_)
  | (with_reducible refine DL.Tq.n ?_)
  | (with_reducible refine DL.Tq.t ?_)
  | ((with_reducible refine DL.Hq.n ?e ?q); (case e => rfl))
  | ((with_reducible refine DL.Hq.t ?e ?q); (case e => rfl))
  | (with_reducible refine DL.Tn.t ?_)
  | (with_reducible apply DL.gi_l)
  | ((with_reducible refine' DL.Gi.of (DL.lk_sh ?e) ?q); (case e => rfl))
  | ((with_reducible refine' DL.Gi.of (DL.lk_ow ?e) ?q); (case e => rfl))
  | ((with_reducible refine' DL.Gi.of (o := DL.looks _ _) ?e ?q); (case e => walk_at "lks"))
  | (with_reducible refine DL.Gx_P ?_)
  | (refine ⟨(rfl : List.length _ = _), ?_⟩)
  | (refine ⟨(rfl : List.length _ + 1 = _), ?_⟩)
  | (refine ⟨(Nat.le_of_ble_eq_true rfl : List.length _ ≤ _), ?_⟩)
  | (refine ⟨(rfl : DL.D.isk _ = true), ?_⟩)
  | (refine ⟨_, (rfl : DL.look _ _ = some (DL.D.str _)), ?_⟩)
  | (refine ⟨_, (rfl : _ = some (some (DL.OV.ow _))), ?_⟩)
  | (refine ⟨_, (rfl : _ = some (some (DL.OV.oi _ _))), ?_⟩)
  | (with_reducible refine DL.Ch.t ?_)
  | (with_reducible refine DL.Ch.f ?_)
  | (with_reducible refine DL.Ch.nt ?_)
  | (with_reducible refine DL.Ch.ty (by with_reducible assumption) ?_)
  | (with_reducible refine DL.Ch.fy (by with_reducible assumption) ?_)
  | (with_reducible refine DL.Ch.dt (by with_reducible assumption) ?_)
  | (with_reducible refine DL.Ch.df (by with_reducible assumption) ?_)
  | (with_reducible refine DL.Gi.of (DL.semEq_str _ _) ?_)
  | (with_reducible refine DL.Gi.of (DL.semNe_str _ _) ?_)
  | (with_reducible refine DL.Gi.of (DL.semEq_int _ _) ?_)
  | (with_reducible refine DL.Gi.of (DL.semNe_int _ _) ?_)
  | (with_reducible refine DL.Gi.of (DL.semEq_bl _ _) ?_)
  | (with_reducible refine DL.Gi.of (DL.semNe_bl _ _) ?_)
  | ((with_reducible refine' DL.Gi.of (o := DL.semAt _ _) ?e ?q); (case e => rfl))
  | ((with_reducible refine DL.Gi.of (DL.semAdd_l ?h) ?q); (case h => walk_at "lenb"))
  | ((with_reducible refine DL.Gi.of (DL.semAdd_t ?h) ?q); (case h => walk_at "lenb"))
  | ((with_reducible refine DL.Gi.of (DL.semAdd_s ?h) ?q); (case h => walk_at "lenb"))
  | ((with_reducible refine' DL.Gi.of (o := DL.semAdd _ _) ?e ?q); (case e => rfl))
  | ((with_reducible refine' DL.Gi.of (o := DL.semSub _ _) ?e ?q); (case e => rfl))
  | ((with_reducible refine' DL.Gi.of (o := DL.semMod _ _) ?e ?q); (case e => rfl))
  | ((with_reducible refine' DL.Gi.of (o := DL.semFdiv _ _) ?e ?q); (case e => rfl))
  | ((with_reducible refine' DL.Gi.of (o := DL.semLt _ _) ?e ?q); (case e => rfl))
  | ((with_reducible refine' DL.Gi.of (o := DL.semLe _ _) ?e ?q); (case e => rfl))
  | ((with_reducible refine' DL.Gi.of (o := DL.semGt _ _) ?e ?q); (case e => rfl))
  | ((with_reducible refine' DL.Gi.of (o := DL.semGe _ _) ?e ?q); (case e => rfl))
  | ((with_reducible refine' DL.Gi.of (o := DL.semIs _ _) ?e ?q); (case e => rfl))
  | ((with_reducible refine' DL.Gi.of (o := DL.semIsNot _ _) ?e ?q); (case e => rfl))
  | ((with_reducible refine' DL.Gi.of (o := DL.semLen _) ?e ?q); (case e => rfl))
  | ((with_reducible refine' DL.Gi.of (o := DL.semTuple _) ?e ?q); (case e => rfl))
  | ((with_reducible refine' DL.Gi.of (o := DL.semList _) ?e ?q); (case e => rfl))
  | ((with_reducible refine' DL.Gi.of (o := DL.semInt _) ?e ?q); (case e => rfl))
  | ((with_reducible refine' DL.Gi.of (o := DL.semAbs _) ?e ?q); (case e => rfl))
  | ((with_reducible refine' DL.Gi.of (o := DL.semFld _ _ _) ?e ?q); (case e => rfl))
  | ((with_reducible refine' DL.Gi.of (o := DL.semSl _ _ _) ?e ?q); (case e => rfl))
  | ((with_reducible refine' DL.Gi.of (o := DL.D.asB _) ?e ?q); (case e => rfl))
  | ((with_reducible refine' DL.Gi.of (o := DL.D.asI _) ?e ?q); (case e => rfl))
  | ((with_reducible refine' DL.Gi.of (o := DL.D.tru _) ?e ?q); (case e => rfl))
  | ((with_reducible refine' DL.Gi.of (o := DL.D.sq _) ?e ?q); (case e => rfl))
  | ((with_reducible refine' DL.Gi.of (o := DL.D.items _) ?e ?q); (case e => rfl))
  | ((with_reducible refine' DL.Gi.of (o := DL.D.asL _) ?e ?q); (case e => rfl))
  | ((with_reducible refine' DL.Gi.of (o := DL.D.vals _) ?e ?q); (case e => rfl))
  | ((with_reducible refine' DL.Gi.of (o := DL.D.itms _) ?e ?q); (case e => rfl))
  | ((with_reducible refine' DL.Gi.of (o := DL.zip2 _ _) ?e ?q); (case e => rfl))
  | ((with_reducible refine' DL.Gi.of (o := DL.semAddL _ _) ?e ?q); (case e => rfl))
  | ((with_reducible refine' DL.Gi.of (o := DL.semListL _) ?e ?q); (case e => rfl))
  | ((with_reducible refine' DL.Gi.of (o := DL.gN _ _ _) ?e ?q); (case e => rfl))
  | ((with_reducible refine' DL.Gi.of (o := DL.gT _ _ _ _) ?e ?q); (case e => rfl))
  | ((with_reducible refine' DL.Gi.of (o := DL.extF _ _) ?e ?q); (case e => rfl))
  | ((with_reducible refine' DL.Gi.of (o := DL.popF _ _) ?e ?q); (case e => rfl))
  | ((with_reducible refine' DL.Gi.of (o := DL.semNeg _) ?e ?q); (case e => rfl))
  | ((with_reducible refine' DL.Gi.of (o := DL.D.key _) ?e ?q); (case e => rfl))
  | (refine ⟨(rfl : DL.wipeE _ _ = _), ?_⟩)
  | (exact ⟨rfl, rfl⟩)
  | (intro r2 hr2; first | (simp only [List.set_cons_succ, List.set_cons_zero, DL.wipeE] at hr2; subst hr2) | (simp only [DL.startE, List.map_cons, List.map_nil, List.length_cons, List.length_nil, Nat.zero_add, Nat.reduceAdd, Nat.reduceSub, Nat.sub_self, List.replicate, List.cons_append, List.nil_append, List.append_nil] at hr2; subst hr2) | (simp only [DL.OV.d] at hr2; subst hr2) | subst hr2))

/-! printed by gen.py: the defs of the linked text, by the data layer -/
namespace T
open PySem L2 DL
def topS (i : Nat) : Stmt := PySem.Challenge.pw_scriptpicks_k43_whole_all_small_integers.main.body.getD i (.Pass ⟨0, 0, 0, 0⟩)
def c_BACK : List (Str × D) := [("eq", (D.str "eq")), ("lt", (D.str "gt")), ("gt", (D.str "lt")), ("", (D.str ""))]
def c_OTHERS : List (Str × D) := [("eq", (D.tup [(D.str "lt"), (D.str "gt")])), ("lt", (D.tup [(D.str "eq"), (D.str "gt")])), ("gt", (D.tup [(D.str "eq"), (D.str "lt")]))]
structure Fa (K : PySem.W.Frag) (w : World) (mg : Str → Option Value) (base : Heap) where
  sy : SysAt base
  a_BACK : Addr
  m_BACK : mg "BACK" = some (.ref a_BACK)
  t_BACK : Tab K w a_BACK c_BACK
  a_OTHERS : Addr
  m_OTHERS : mg "OTHERS" = some (.ref a_OTHERS)
  t_OTHERS : Tab K w a_OTHERS c_OTHERS
  b_abs : mg "abs" = none
  b_all : mg "all" = none
  b_dict : mg "dict" = none
  b_enumerate : mg "enumerate" = none
  b_int : mg "int" = none
  b_len : mg "len" = none
  b_max : mg "max" = none
  b_range : mg "range" = none
  b_repr : mg "repr" = none
  b_sorted : mg "sorted" = none
  b_tuple : mg "tuple" = none
section
variable {P : Program} {w : World} {K : PySem.W.Frag} {mg : Str → Option Value} {base : Heap}
abbrev s__law_bag : Stmt := topS 14
abbrev s__law_bag_sc : Scope := defScope s__law_bag
abbrev n__law_bag : List Str := ["_law_script", "_law_cell"]
theorem sc__law_bag : FnScope n__law_bag ["_law_script"] (defScope s__law_bag) := ⟨rfl, rfl, rfl, by decide +kernel, rfl, by decide +kernel, by decide +kernel⟩
abbrev it__law_bag_1 : En → Rs (List D) := (itA (slD (.va 0) poN (poS (cD (.int 63))) semSl))
abbrev el__law_bag_1 : En → Rs D := (opN [(.va 1)] semAbs)
abbrev lc__law_bag_1 : En → Rs OV := lcD it__law_bag_1 [1] (gN 1) yesT el__law_bag_1
def m__law_bag : En → SRs :=
    (rtS (lstD [(cD (.int 0)), (cD (.int 1234567891)), (cD (.int 0)), (frzD lc__law_bag_1)]))
def f__law_bag : List D → Option OV := fnP 2 m__law_bag
theorem ok__law_bag {f : Addr} {fd : FuncData} (fa : Fa K w mg base)  (F : Fun K "_law_bag" "_law_bag" s__law_bag f fd) : FnG P w K mg base CX0 1 f fd ["_law_script"] (spP K 1 f__law_bag) := by
  have nd := sc__law_bag.nd
  unfold f__law_bag
  refine fnP_ok (k := 0) (m := m__law_bag) F sc__law_bag rfl rfl fun cdv A outer s H E g hgd hr hB0 hW hWn hxc => ?_
  have hB := nb00 hB0
  unfold m__law_bag
  exact (ds_one (ds_ret (do_lst (da_cons de_int (da_cons de_int (da_cons de_int (da_cons (DO.fz (do_lc (own := [("_law_cell", 1)]) (ks := [1]) rfl nd (di_any (de_slice (db_var 0 (pv 0)) dpo_none (dpo_some de_int))) (blkOk_by (N := n__law_bag) (sc := s__law_bag_sc) (by decide +kernel)) rfl (nbs hB (by decide)) (by decide) (fun _ _ _ _ _ g1 e1 => (dg_name (i := 1) (nb (nbt e1 hB) 1 (by decide)) nd)) (fun _ _ _ _ _ g1 e1 => pts_nilD) (fun _ _ _ _ _ g1 e1 => (de_callB cd_abs fa.b_abs (dbs_cons (db_var 1 (pv 1)) dbs_nil))))) da_nil)))))))
theorem has__law_bag (fa : Fa K w mg base)  (F : FnAt K mg "_law_bag" s__law_bag) : HasP P w K mg base 1 "_law_bag" 1 f__law_bag := by
  obtain ⟨f, fd, F, hm⟩ := F
  exact ⟨f, fd, ["_law_script"], ok__law_bag fa  F, hm, F.kp, F.binds fun _ _ _ _ _ _ us hl => match us, hl with | [_], _ => rfl⟩
abbrev s__law_take : Stmt := topS 15
abbrev n__law_take : List Str := ["_law_bag_here", "_law_many", "_law_cell", "_law_mixed", "_law_value", "_law_begin", "_law_second"]
theorem sc__law_take : FnScope n__law_take ["_law_bag_here", "_law_many"] (defScope s__law_take) := ⟨rfl, rfl, rfl, by decide +kernel, rfl, by decide +kernel, by decide +kernel⟩
def m__law_take : En → SRs :=
    (seqS (ifS (toB (op2 (.ex (op2 (.va 0) (.ex (cD (.int 0))) semAt)) (.ex (cD (.int 0))) semEq)) (seqS (setS 2 (shD (op2 (.ex (op2 (.ex (slD (.ex (op2 (.va 0) (.ex (cD (.int 3))) semAt)) (poS (op2 (.va 0) (.ex (cD (.int 2))) semAt)) poN semSl)) (.ex (frzD (lstD [(cD (.int 0))]))) semAdd)) (.ex (cD (.int 0))) semAt)))
    (seqS (augS 0 2 1)
    (seqS (ifS (toB (op2 (.va 2) (.ex (cD (.int 1000000000000000000))) semGe)) (putS 0 (cD (.int 0)) (vD 2)) nxS)
    (seqS (setS 3 (shD (op2 (.ex (op2 (.ex (op2 (.ex (op2 (.va 0) (.ex (cD (.int 1))) semAt)) (.ex (cD (.int 48271))) semMul)) (.ex (op2 (.ex (opN [(.va 2)] semInt)) (.ex (cD (.int 2147483647))) semMod)) semAdd)) (.ex (op2 (.ex (cD (.int 7919))) (.ex (op2 (.va 0) (.ex (cD (.int 2))) semAt)) semMul)) semAdd)))
    (putS 0 (cD (.int 1)) (op2 (.ex (opN [(.va 3)] semInt)) (.ex (cD (.int 2147483647))) semMod)))))) nxS)
    (seqS (ifS (toB (op2 (.ex (op2 (.va 0) (.ex (cD (.int 0))) semAt)) (.ex (cD (.int 0))) semGt)) (seqS (setS 4 (shD (op2 (.ex (opN [(.ex (op2 (.va 0) (.ex (cD (.int 0))) semAt))] semInt)) (.va 1) semMod)))
    (seqS (putS 0 (cD (.int 0)) (op2 (.ex (op2 (.va 0) (.ex (cD (.int 0))) semAt)) (.va 1) semFdiv))
    (rtS (mvD 4)))) nxS)
    (seqS (setS 5 (shD (op2 (.ex (opN [(.ex (op2 (.ex (op2 (.ex (op2 (.va 0) (.ex (cD (.int 1))) semAt)) (.ex (cD (.int 1))) semAdd)) (.ex (cD (.int 39373))) semMul))] semInt)) (.ex (cD (.int 1000000007))) semMod)))
    (seqS (setS 6 (shD (op2 (.ex (opN [(.ex (op2 (.ex (op2 (.ex (opN [(.ex (op2 (.va 5) (.va 5) semMul))] semInt)) (.ex (cD (.int 998244353))) semMod)) (.ex (cD (.int 30011))) semMul))] semInt)) (.ex (cD (.int 998244353))) semMod)))
    (rtS (shD (op2 (.ex (opN [(.ex (op2 (.va 6) (.ex (cD (.int 7))) semFdiv))] semInt)) (.va 1) semMod)))))))
def f__law_take : List D → List D → Option (OV × List D) := fnB 7 m__law_take
theorem ok__law_take {f : Addr} {fd : FuncData} (fa : Fa K w mg base)  (F : Fun K "_law_take" "_law_take" s__law_take f fd) : FnG P w K mg base CX0 1 f fd ["_law_bag_here", "_law_many"] (spB K 1 f__law_take) := by
  have nd := sc__law_take.nd
  unfold f__law_take
  refine fnB_ok (k := 0) (m := m__law_take) F sc__law_take rfl rfl fun cdv A outer s H E g hgd hr hB hW hWn hxc => ?_
  unfold m__law_take
  exact (ds_cons (ds_if (dt_cmp (opd_eq hr.units) (DE.opd (de_ix (ixAt (u65 hr)) (db_var 0 (pv 0)) (DE.opd de_int) (fun _ _ => rfl))) (DE.opd de_int) (nomark _)) (ds_cons (ds_set (i := 2) (nb hB 2 (by decide)) nd (DE.shd (de_ix (ixAt (u65 hr)) (DE.opd (de_op opd_add (DE.opd (de_slice (DE.opd (de_ix (ixAt (u65 hr)) (db_var 0 (pv 0)) (DE.opd de_int) (fun _ _ => rfl))) (dpo_some (de_ix (ixAt (u65 hr)) (db_var 0 (pv 0)) (DE.opd de_int) (fun _ _ => rfl))) dpo_none)) (DE.opd (DO.fz (do_lst (da_cons de_int da_nil)))))) (DE.opd de_int) (fun _ _ => rfl))))
    (ds_cons (ds_augI (i := 0) (pv 0))
    (ds_cons (ds_if (dt_cmp opd_ge (db_var 2 (pv 2)) (DE.opd de_int) (nomark _)) (ds_one (ds_put (i := 0) (pv 0) de_int (de_var 2 (nb hB 2 (by decide)) (pv 2)))) ds_nil)
    (ds_cons (ds_set (i := 3) (nb hB 3 (by decide)) nd (DE.shd (de_op opd_add (DE.opd (de_op opd_add (DE.opd (de_op opd_mul (DE.opd (de_ix (ixAt (u65 hr)) (db_var 0 (pv 0)) (DE.opd de_int) (fun _ _ => rfl))) (DE.opd de_int))) (DE.opd (de_op opd_mod (DE.opd (de_callT cd_int fa.b_int (dbs_cons (db_var 2 (pv 2)) dbs_nil))) (DE.opd de_int))))) (DE.opd (de_op opd_mul (DE.opd de_int) (DE.opd (de_ix (ixAt (u65 hr)) (db_var 0 (pv 0)) (DE.opd de_int) (fun _ _ => rfl))))))))
    (ds_one (ds_put (i := 0) (pv 0) de_int (de_op opd_mod (DE.opd (de_callT cd_int fa.b_int (dbs_cons (db_var 3 (pv 3)) dbs_nil))) (DE.opd de_int)))))))) ds_nil)
    (ds_cons (ds_if (dt_cmp opd_gt (DE.opd (de_ix (ixAt (u65 hr)) (db_var 0 (pv 0)) (DE.opd de_int) (fun _ _ => rfl))) (DE.opd de_int) (nomark _)) (ds_cons (ds_set (i := 4) (nb hB 4 (by decide)) nd (DE.shd (de_op opd_mod (DE.opd (de_callT cd_int fa.b_int (dbs_cons (DE.opd (de_ix (ixAt (u65 hr)) (db_var 0 (pv 0)) (DE.opd de_int) (fun _ _ => rfl))) dbs_nil))) (db_var 1 (pv 1)))))
    (ds_cons (ds_put (i := 0) (pv 0) de_int (de_op opd_fdiv (DE.opd (de_ix (ixAt (u65 hr)) (db_var 0 (pv 0)) (DE.opd de_int) (fun _ _ => rfl))) (db_var 1 (pv 1))))
    (ds_one (ds_ret (do_var 4 (nb hB 4 (by decide)) (pv 4)))))) ds_nil)
    (ds_cons (ds_set (i := 5) (nb hB 5 (by decide)) nd (DE.shd (de_op opd_mod (DE.opd (de_callT cd_int fa.b_int (dbs_cons (DE.opd (de_op opd_mul (DE.opd (de_op opd_add (DE.opd (de_ix (ixAt (u65 hr)) (db_var 0 (pv 0)) (DE.opd de_int) (fun _ _ => rfl))) (DE.opd de_int))) (DE.opd de_int))) dbs_nil))) (DE.opd de_int))))
    (ds_cons (ds_set (i := 6) (nb hB 6 (by decide)) nd (DE.shd (de_op opd_mod (DE.opd (de_callT cd_int fa.b_int (dbs_cons (DE.opd (de_op opd_mul (DE.opd (de_op opd_mod (DE.opd (de_callT cd_int fa.b_int (dbs_cons (DE.opd (de_op opd_mul (db_var 5 (pv 5)) (db_var 5 (pv 5)))) dbs_nil))) (DE.opd de_int))) (DE.opd de_int))) dbs_nil))) (DE.opd de_int))))
    (ds_one (ds_ret (DE.shd (de_op opd_mod (DE.opd (de_callT cd_int fa.b_int (dbs_cons (DE.opd (de_op opd_fdiv (db_var 6 (pv 6)) (DE.opd de_int))) dbs_nil))) (db_var 1 (pv 1))))))))))
theorem has__law_take (fa : Fa K w mg base)  (F : FnAt K mg "_law_take" s__law_take) : HasB P w K mg base 1 "_law_take" 1 f__law_take := by
  obtain ⟨f, fd, F, hm⟩ := F
  exact ⟨f, fd, ["_law_bag_here", "_law_many"], ok__law_take fa  F, hm, F.kp, F.binds fun _ _ _ _ _ _ us hl => match us, hl with | [_, _], _ => rfl⟩
abbrev s__law_names : Stmt := topS 18
abbrev s__law_names_sc : Scope := defScope s__law_names
abbrev n__law_names : List Str := ["_law_bag_here", "_law_many", "_law_letters", "_law_found", "_law_words", "_law_k", "_law_signs", "_law_spin", "_law_at", "_law_rest", "_law_some_here", "_law_one"]
theorem sc__law_names : FnScope n__law_names ["_law_bag_here", "_law_many"] (defScope s__law_names) := ⟨rfl, rfl, rfl, by decide +kernel, rfl, by decide +kernel, by decide +kernel⟩
abbrev it__law_names_1 : En → Rs (List D) := (rg1 (op2 (.ex (frzD (lstD [(cD (.int 1)), (cD (.int 2)), (cD (.int 8)), (cD (.int 4))]))) (.ex (frzD (callB 1 f__law_take 0 [(cD (.int 4))]))) semAt))
abbrev el__law_names_1 : En → Rs D := (op2 (.va 2) (.ex (frzD (callB 1 f__law_take 0 [(cD (.int 26))]))) semAt)
abbrev lc__law_names_1 : En → Rs OV := lcD it__law_names_1 [7] (gN 7) yesT el__law_names_1
abbrev it__law_names_2 : En → Rs (List D) := (itA (op2 (.ex (slD (.va 2) (poS (vD 8)) poN semSl)) (.ex (slD (.va 2) poN (poS (vD 8)) semSl)) semAdd))
abbrev el__law_names_2 : En → Rs D := (op2 (.va 11) (.va 9) semAdd)
abbrev lc__law_names_2 : En → Rs OV := lcD it__law_names_2 [11] (gN 11) yesT el__law_names_2
abbrev it__law_names_3 : En → Rs (List D) := (itA (vD 10))
abbrev ts__law_names_1 : En → Rs Bool := (toB (op2 (.va 11) (.va 3) semNotIn2))
abbrev el__law_names_3 : En → Rs D := (vD 11)
abbrev lc__law_names_3 : En → Rs OV := lcD it__law_names_3 [11] (gN 11) ts__law_names_1 el__law_names_3
abbrev it__law_names_4 : En → Rs (List D) := (rg1 (vD 1))
abbrev bd__law_names_1 : En → SRs := (seqS (setS 6 (shD (frzD lc__law_names_1)))
    (seqS (par2 8 9 (m1D (.va 2) (.ex (op2 (.va 6) (.ex (cD (.int 0))) semAt)) semSIndex) (shD (m1D (.ex (cD (.str ""))) (.ex (slD (.va 6) (poS (cD (.int 1))) poN semSl)) semJoin)))
    (seqS (setS 10 (shD (op2 (.ex (op2 (.ex (slD (.va 4) (poS (vD 8)) poN semSl)) (.ex (opN [(.ex (op2 (.ex (frzD (callB 1 f__law_take 0 [(cD (.int 8))]))) (.ex (cD (.int 0))) semEq))] semInt)) semMul)) (.ex (frzD lc__law_names_2)) semAdd)))
    (appS 3 (op2 (.ex (frzD lc__law_names_3)) (.ex (cD (.int 0))) semAt)))))
abbrev fr__law_names_1 : En → SRs := forD it__law_names_4 (gN 5) bd__law_names_1
def m__law_names : En → SRs :=
    (seqS (par2 2 3 (cD (.str "abcdefghijklmnopqrstuvwxyz")) (lstD []))
    (seqS (setS 4 (shD (m1D (.ex (cD (.str "at as last like all name book goal with turn part drop call copy chain close eq lt gt put"))) (.ex (cD (.str " "))) semSplit)))
    (seqS fr__law_names_1
    (rtS (mvD 3)))))
def f__law_names : List D → List D → Option (OV × List D) := fnB 12 m__law_names
theorem ok__law_names {f : Addr} {fd : FuncData} (fa : Fa K w mg base) (h__law_take : HasB P w K mg base 1 "_law_take" 1 f__law_take) (F : Fun K "_law_names" "_law_names" s__law_names f fd) : FnG P w K mg base CX0 2 f fd ["_law_bag_here", "_law_many"] (spB K 1 f__law_names) := by
  have nd := sc__law_names.nd
  unfold f__law_names
  refine fnB_ok (k := 1) (m := m__law_names) F sc__law_names rfl rfl fun cdv A outer s H E g hgd hr hB hW hWn hxc => ?_
  unfold m__law_names
  exact (ds_cons (ds_tup2 (i := 2) (j := 3) (nb hB 2 (by decide)) (nb hB 3 (by decide)) nd rfl  de_str (do_lst da_nil))
    (ds_cons (ds_set (i := 4) (nb hB 4 (by decide)) nd (DE.shd (de_m1 PySem.F.slot_str_split PySem.F.type_str_split md_split (DE.opd de_str) (DE.opd de_str))))
    (ds_cons (ds_for PassesOwn.never rfl (di_range1 rfl fa.b_range (de_var 1 (nb hB 1 (by decide)) (pv 1))) (dg_name (i := 5) (nb hB 5 (by decide)) nd) (ds_cons (ds_fz (nb hB 6 (by decide)) lc_nod (ds_setLc (i := 6) (nb hB 6 (by decide)) (own := [("_law_spin", 7)]) (ks := [7]) rfl nd (di_range1 rfl fa.b_range (de_ix (ixAt (u65 hr)) (DE.opd (DO.fz (do_lst (da_cons de_int (da_cons de_int (da_cons de_int (da_cons de_int da_nil))))))) (DE.opd (DO.fz (do_callB h__law_take hgd (hr.mono (by decide)) (pv 0) (da_cons de_int da_nil)))) (fun _ _ => rfl))) (blkOk_by (N := n__law_names) (sc := s__law_names_sc) (by decide +kernel)) rfl (nbs hB (by decide)) (by decide) (fun _ _ _ _ _ g1 e1 => (dg_name (i := 7) (nb (nbt e1 hB) 7 (by decide)) nd)) (fun _ _ _ _ _ g1 e1 => pts_nilD) (fun _ _ _ _ _ g1 e1 => (de_ix (ixAt (u65 hr)) (db_var 2 (pv 2)) (DE.opd (DO.fz (do_callB h__law_take hgd (hr.mono (by decide)) (pv 0) (da_cons de_int da_nil)))) (fun _ _ => rfl))) (sw_true rfl rfl rfl (by decide +kernel))))
    (ds_cons (ds_tup2 (i := 8) (j := 9) (nb hB 8 (by decide)) (nb hB 9 (by decide)) nd rfl  (de_m1 PySem.F.slot_str_index PySem.F.type_str_index md_sindex (db_var 2 (pv 2)) (DE.opd (de_ix (ixAt (u65 hr)) (db_var 6 (pv 6)) (DE.opd de_int) (fun _ _ => rfl)))) (DE.shd (de_m1 PySem.F.slot_str_join PySem.F.type_str_join md_join (DE.opd de_str) (DE.opd (de_slice (db_var 6 (pv 6)) (dpo_some de_int) dpo_none)))))
    (ds_cons (ds_set (i := 10) (nb hB 10 (by decide)) nd (DE.shd (de_op opd_add (DE.opd (de_op opd_mul (DE.opd (de_slice (db_var 4 (pv 4)) (dpo_some (de_var 8 (nb hB 8 (by decide)) (pv 8))) dpo_none)) (DE.opd (de_callT cd_int fa.b_int (dbs_cons (DE.opd (de_cmp (opd_eq hr.units) (DE.opd (DO.fz (do_callB h__law_take hgd (hr.mono (by decide)) (pv 0) (da_cons de_int da_nil)))) (DE.opd de_int) (nomark _))) dbs_nil))))) (DE.opd (DO.fz (do_lc (own := [("_law_one", 11)]) (ks := [11]) rfl nd (di_any (de_op opd_add (DE.opd (de_slice (db_var 2 (pv 2)) (dpo_some (de_var 8 (nb hB 8 (by decide)) (pv 8))) dpo_none)) (DE.opd (de_slice (db_var 2 (pv 2)) dpo_none (dpo_some (de_var 8 (nb hB 8 (by decide)) (pv 8))))))) (blkOk_by (N := n__law_names) (sc := s__law_names_sc) (by decide +kernel)) rfl (nbs hB (by decide)) (by decide) (fun _ _ _ _ _ g1 e1 => (dg_name (i := 11) (nb (nbt e1 hB) 11 (by decide)) nd)) (fun _ _ _ _ _ g1 e1 => pts_nilD) (fun _ _ _ _ _ g1 e1 => (de_op opd_add (db_var 11 (pv 11)) (db_var 9 (pv 9))))))))))
    (ds_one (ds_append (i := 3) (pv 3) (de_ix (ixAt (u65 hr)) (DE.opd (DO.fz (do_lc (own := [("_law_one", 11)]) (ks := [11]) rfl nd (di_any (de_var 10 (nb hB 10 (by decide)) (pv 10))) (blkOk_by (N := n__law_names) (sc := s__law_names_sc) (by decide +kernel)) rfl (nbs hB (by decide)) (by decide) (fun _ _ _ _ _ g1 e1 => (dg_name (i := 11) (nb (nbt e1 hB) 11 (by decide)) nd)) (fun _ _ _ _ _ g1 e1 => (pts_oneD (dt_cmp (opd_notIn2 (u65 hr)) (db_var 11 (pv 11)) (db_var 3 (pv 3)) rfl))) (fun _ _ _ _ _ g1 e1 => (de_var 11 (nb (nbt e1 hB) 11 (by decide)) (pv 11)))))) (DE.opd de_int) (fun _ _ => rfl))))))))
    (ds_one (ds_ret (do_var 3 (nb hB 3 (by decide)) (pv 3)))))))
theorem has__law_names (fa : Fa K w mg base) (h__law_take : HasB P w K mg base 1 "_law_take" 1 f__law_take) (F : FnAt K mg "_law_names" s__law_names) : HasB P w K mg base 2 "_law_names" 1 f__law_names := by
  obtain ⟨f, fd, F, hm⟩ := F
  exact ⟨f, fd, ["_law_bag_here", "_law_many"], ok__law_names fa h__law_take F, hm, F.kp, F.binds fun _ _ _ _ _ _ us hl => match us, hl with | [_, _], _ => rfl⟩
abbrev s__law_world : Stmt := topS 19
abbrev n__law_world : List Str := ["_law_bag_here"]
theorem sc__law_world : FnScope n__law_world ["_law_bag_here"] (defScope s__law_world) := ⟨rfl, rfl, rfl, by decide +kernel, rfl, by decide +kernel, by decide +kernel⟩
def m__law_world : En → SRs :=
    (rtS (shD (dicD [((cD (.str "names")), (frzD (callB 1 f__law_names 0 [(cD (.int 3))]))), ((cD (.str "things")), (frzD (callB 1 f__law_names 0 [(op2 (.ex (cD (.int 2))) (.ex (frzD (callB 1 f__law_take 0 [(cD (.int 3))]))) semAdd)])))])))
def f__law_world : List D → List D → Option (OV × List D) := fnB 1 m__law_world
theorem ok__law_world {f : Addr} {fd : FuncData} (fa : Fa K w mg base) (h__law_names : HasB P w K mg base 2 "_law_names" 1 f__law_names) (h__law_take : HasB P w K mg base 1 "_law_take" 1 f__law_take) (F : Fun K "_law_world" "_law_world" s__law_world f fd) : FnG P w K mg base CX0 3 f fd ["_law_bag_here"] (spB K 0 f__law_world) := by
  have nd := sc__law_world.nd
  unfold f__law_world
  refine fnB_ok (k := 2) (m := m__law_world) F sc__law_world rfl rfl fun cdv A outer s H E g hgd hr hB hW hWn hxc => ?_
  unfold m__law_world
  exact (ds_one (ds_ret (DE.shd (de_disp (dps_cons (fun g1 e1 => de_str) (fun g1 e1 => (DO.fz (do_callB h__law_names hgd (hr.mono (by decide)) (pv 0) (da_cons de_int da_nil)))) (dps_cons (fun g1 e1 => de_str) (fun g1 e1 => (DO.fz (do_callB h__law_names hgd (hr.mono (by decide)) (pv 0) (da_cons (de_op opd_add (DE.opd de_int) (DE.opd (DO.fz (do_callB h__law_take hgd (hr.mono (by decide)) (pv 0) (da_cons de_int da_nil))))) da_nil)))) dps_nil))))))
theorem has__law_world (fa : Fa K w mg base) (h__law_names : HasB P w K mg base 2 "_law_names" 1 f__law_names) (h__law_take : HasB P w K mg base 1 "_law_take" 1 f__law_take) (F : FnAt K mg "_law_world" s__law_world) : HasB P w K mg base 3 "_law_world" 0 f__law_world := by
  obtain ⟨f, fd, F, hm⟩ := F
  exact ⟨f, fd, ["_law_bag_here"], ok__law_world fa h__law_names h__law_take F, hm, F.kp, F.binds fun _ _ _ _ _ _ us hl => match us, hl with | [_], _ => rfl⟩
abbrev s__law_choices : Stmt := topS 26
abbrev n__law_choices : List Str := ["_law_things", "_law_found", "_law_thing", "_law_later", "_law_some_here", "_law_value", "_law_more"]
theorem sc__law_choices : FnScope n__law_choices ["_law_things"] (defScope s__law_choices) := ⟨rfl, rfl, rfl, by decide +kernel, rfl, by decide +kernel, by decide +kernel⟩
abbrev it__law_choices_1 : En → Rs (List D) := (rg1 (opN [(.va 0)] semLen))
abbrev bd__law_choices_1 : En → SRs := (seqS (setK 6 (cpK (vD 4)))
    (seqS (putDk 6 (vD 2) (vD 5))
    (appS 3 (vDk 6))))
abbrev fr__law_choices_1 : En → SRs := forD it__law_choices_1 (gN 5) bd__law_choices_1
abbrev it__law_choices_2 : En → Rs (List D) := (itA (vD 1))
abbrev bd__law_choices_2 : En → SRs := fr__law_choices_1
abbrev fr__law_choices_2 : En → SRs := forD it__law_choices_2 (gN 4) bd__law_choices_2
abbrev it__law_choices_3 : En → Rs (List D) := (itA (vD 0))
abbrev bd__law_choices_3 : En → SRs := (seqS (setS 3 (lstD []))
    (seqS fr__law_choices_2
    (setS 1 (shD (vD 3)))))
abbrev fr__law_choices_3 : En → SRs := forD it__law_choices_3 (gN 2) bd__law_choices_3
def m__law_choices : En → SRs :=
    (seqS (setS 1 (lstD [(cD (.dic []))]))
    (seqS fr__law_choices_3
    (rtS (mvD 1))))
def f__law_choices : List D → Option OV := fnP 7 m__law_choices
theorem ok__law_choices {f : Addr} {fd : FuncData} (fa : Fa K w mg base)  (F : Fun K "_law_choices" "_law_choices" s__law_choices f fd) : FnG P w K mg base CX0 1 f fd ["_law_things"] (spP K 1 f__law_choices) := by
  have nd := sc__law_choices.nd
  unfold f__law_choices
  refine fnP_ok (k := 0) (m := m__law_choices) F sc__law_choices rfl rfl fun cdv A outer s H E g hgd hr hB0 hW hWn hxc => ?_
  have hB := nb00 hB0
  unfold m__law_choices
  exact (ds_cons (ds_set (i := 1) (nb hB 1 (by decide)) nd (do_lst (da_cons de_dict0 da_nil)))
    (ds_cons (ds_for PassesOwn.never rfl (di_any (de_var 0 (nb hB 0 (by decide)) (pv 0))) (dg_name (i := 2) (nb hB 2 (by decide)) nd) (ds_cons (ds_set (i := 3) (nb hB 3 (by decide)) nd (do_lst da_nil))
    (ds_cons (ds_for PassesOwn.never rfl (di_any (de_var 1 (nb hB 1 (by decide)) (pv 1))) (dg_name (i := 4) (nb hB 4 (by decide)) nd) (ds_one (ds_for PassesOwn.never rfl (di_range1 rfl fa.b_range (de_callB cd_len fa.b_len (dbs_cons (db_var 0 (pv 0)) dbs_nil))) (dg_name (i := 5) (nb hB 5 (by decide)) nd) (ds_cons (ds_setK (i := 6) (nb hB 6 (by decide)) nd (dok_dict fa.b_dict (de_var 4 (nb hB 4 (by decide)) (pv 4))))
    (ds_cons (ds_putDk (i := 6) (u65 hr) (pv 6) (de_var 2 (nb hB 2 (by decide)) (pv 2)) (de_var 5 (nb hB 5 (by decide)) (pv 5)))
    (ds_one (ds_append (i := 3) (pv 3) (de_vDk (i := 6) (nb hB 6 (by decide)) (pv 6)))))))))
    (ds_one (ds_set (i := 1) (nb hB 1 (by decide)) nd (DE.shd (de_var 3 (nb hB 3 (by decide)) (pv 3))))))))
    (ds_one (ds_ret (do_var 1 (nb hB 1 (by decide)) (pv 1))))))
theorem has__law_choices (fa : Fa K w mg base)  (F : FnAt K mg "_law_choices" s__law_choices) : HasP P w K mg base 1 "_law_choices" 1 f__law_choices := by
  obtain ⟨f, fd, F, hm⟩ := F
  exact ⟨f, fd, ["_law_things"], ok__law_choices fa  F, hm, F.kp, F.binds fun _ _ _ _ _ _ us hl => match us, hl with | [_], _ => rfl⟩
abbrev s__law_some : Stmt := topS 17
abbrev n__law_some : List Str := ["_law_bag_here", "_law_things"]
theorem sc__law_some : FnScope n__law_some ["_law_bag_here", "_law_things"] (defScope s__law_some) := ⟨rfl, rfl, rfl, by decide +kernel, rfl, by decide +kernel, by decide +kernel⟩
def m__law_some : En → SRs :=
    (rtS (shD (op2 (.va 1) (.ex (frzD (callB 1 f__law_take 0 [(opN [(.va 1)] semLen)]))) semAt)))
def f__law_some : List D → List D → Option (OV × List D) := fnB 2 m__law_some
theorem ok__law_some {f : Addr} {fd : FuncData} (fa : Fa K w mg base) (h__law_take : HasB P w K mg base 1 "_law_take" 1 f__law_take) (F : Fun K "_law_some" "_law_some" s__law_some f fd) : FnG P w K mg base CX0 2 f fd ["_law_bag_here", "_law_things"] (spB K 1 f__law_some) := by
  have nd := sc__law_some.nd
  unfold f__law_some
  refine fnB_ok (k := 1) (m := m__law_some) F sc__law_some rfl rfl fun cdv A outer s H E g hgd hr hB hW hWn hxc => ?_
  unfold m__law_some
  exact (ds_one (ds_ret (DE.shd (de_ix (ixAt (u65 hr)) (db_var 1 (pv 1)) (DE.opd (DO.fz (do_callB h__law_take hgd (hr.mono (by decide)) (pv 0) (da_cons (de_callB cd_len fa.b_len (dbs_cons (db_var 1 (pv 1)) dbs_nil)) da_nil)))) (fun _ _ => rfl)))))
theorem has__law_some (fa : Fa K w mg base) (h__law_take : HasB P w K mg base 1 "_law_take" 1 f__law_take) (F : FnAt K mg "_law_some" s__law_some) : HasB P w K mg base 2 "_law_some" 1 f__law_some := by
  obtain ⟨f, fd, F, hm⟩ := F
  exact ⟨f, fd, ["_law_bag_here", "_law_things"], ok__law_some fa h__law_take F, hm, F.kp, F.binds fun _ _ _ _ _ _ us hl => match us, hl with | [_, _], _ => rfl⟩
abbrev s__law_atom : Stmt := topS 20
abbrev n__law_atom : List Str := ["_law_bag_here", "_law_things"]
theorem sc__law_atom : FnScope n__law_atom ["_law_bag_here", "_law_things"] (defScope s__law_atom) := ⟨rfl, rfl, rfl, by decide +kernel, rfl, by decide +kernel, by decide +kernel⟩
def m__law_atom : En → SRs :=
    (rtS (shD (tupD [(op2 (.ex (frzD (lstD [(cD (.str "eq")), (cD (.str "lt")), (cD (.str "gt")), (cD (.str "lt"))]))) (.ex (frzD (callB 1 f__law_take 0 [(cD (.int 4))]))) semAt), (frzD (callB 1 f__law_some 0 [(vD 1)])), (frzD (callB 1 f__law_some 0 [(vD 1)]))])))
def f__law_atom : List D → List D → Option (OV × List D) := fnB 2 m__law_atom
theorem ok__law_atom {f : Addr} {fd : FuncData} (fa : Fa K w mg base) (h__law_take : HasB P w K mg base 1 "_law_take" 1 f__law_take) (h__law_some : HasB P w K mg base 2 "_law_some" 1 f__law_some) (F : Fun K "_law_atom" "_law_atom" s__law_atom f fd) : FnG P w K mg base CX0 3 f fd ["_law_bag_here", "_law_things"] (spB K 1 f__law_atom) := by
  have nd := sc__law_atom.nd
  unfold f__law_atom
  refine fnB_ok (k := 2) (m := m__law_atom) F sc__law_atom rfl rfl fun cdv A outer s H E g hgd hr hB hW hWn hxc => ?_
  unfold m__law_atom
  exact (ds_one (ds_ret (DE.shd (de_tup (da_cons (de_ix (ixAt (u65 hr)) (DE.opd (DO.fz (do_lst (da_cons de_str (da_cons de_str (da_cons de_str (da_cons de_str da_nil))))))) (DE.opd (DO.fz (do_callB h__law_take hgd (hr.mono (by decide)) (pv 0) (da_cons de_int da_nil)))) (fun _ _ => rfl)) (da_cons (DO.fz (do_callB h__law_some hgd (hr.mono (by decide)) (pv 0) (da_cons (de_var 1 (nb hB 1 (by decide)) (pv 1)) da_nil))) (da_cons (DO.fz (do_callB h__law_some hgd (hr.mono (by decide)) (pv 0) (da_cons (de_var 1 (nb hB 1 (by decide)) (pv 1)) da_nil))) da_nil)))))))
theorem has__law_atom (fa : Fa K w mg base) (h__law_take : HasB P w K mg base 1 "_law_take" 1 f__law_take) (h__law_some : HasB P w K mg base 2 "_law_some" 1 f__law_some) (F : FnAt K mg "_law_atom" s__law_atom) : HasB P w K mg base 3 "_law_atom" 1 f__law_atom := by
  obtain ⟨f, fd, F, hm⟩ := F
  exact ⟨f, fd, ["_law_bag_here", "_law_things"], ok__law_atom fa h__law_take h__law_some F, hm, F.kp, F.binds fun _ _ _ _ _ _ us hl => match us, hl with | [_, _], _ => rfl⟩
abbrev s__law_fact : Stmt := topS 21
abbrev s__law_fact_sc : Scope := defScope s__law_fact
abbrev n__law_fact : List Str := ["_law_bag_here", "_law_things", "_law_k"]
theorem sc__law_fact : FnScope n__law_fact ["_law_bag_here", "_law_things"] (defScope s__law_fact) := ⟨rfl, rfl, rfl, by decide +kernel, rfl, by decide +kernel, by decide +kernel⟩
abbrev it__law_fact_1 : En → Rs (List D) := (rg1 (op2 (.ex (cD (.int 1))) (.ex (op2 (.ex (frzD (callB 1 f__law_take 0 [(cD (.int 3))]))) (.ex (cD (.int 2))) semFdiv)) semAdd))
abbrev el__law_fact_1 : En → Rs D := (frzD (callB 1 f__law_atom 0 [(vD 1)]))
abbrev lc__law_fact_1 : En → Rs OV := lcD it__law_fact_1 [2] (gN 2) yesT el__law_fact_1
def m__law_fact : En → SRs :=
    (rtS (shD (opN [(.ex (frzD lc__law_fact_1))] semTuple)))
def f__law_fact : List D → List D → Option (OV × List D) := fnB 3 m__law_fact
theorem ok__law_fact {f : Addr} {fd : FuncData} (fa : Fa K w mg base) (h__law_take : HasB P w K mg base 1 "_law_take" 1 f__law_take) (h__law_atom : HasB P w K mg base 3 "_law_atom" 1 f__law_atom) (F : Fun K "_law_fact" "_law_fact" s__law_fact f fd) : FnG P w K mg base CX0 4 f fd ["_law_bag_here", "_law_things"] (spB K 1 f__law_fact) := by
  have nd := sc__law_fact.nd
  unfold f__law_fact
  refine fnB_ok (k := 3) (m := m__law_fact) F sc__law_fact rfl rfl fun cdv A outer s H E g hgd hr hB hW hWn hxc => ?_
  unfold m__law_fact
  exact (ds_one (ds_ret (DE.shd (de_callT cd_tuple fa.b_tuple (dbs_cons (DE.opd (DO.fz (do_lc (own := [("_law_k", 2)]) (ks := [2]) rfl nd (di_range1 rfl fa.b_range (de_op opd_add (DE.opd de_int) (DE.opd (de_op opd_fdiv (DE.opd (DO.fz (do_callB h__law_take hgd (hr.mono (by decide)) (pv 0) (da_cons de_int da_nil)))) (DE.opd de_int))))) (blkOk_by (N := n__law_fact) (sc := s__law_fact_sc) (by decide +kernel)) rfl (nbs hB (by decide)) (by decide) (fun _ _ _ _ _ g1 e1 => (dg_name (i := 2) (nb (nbt e1 hB) 2 (by decide)) nd)) (fun _ _ _ _ _ g1 e1 => pts_nilD) (fun _ _ _ _ _ g1 e1 => (DO.fz (do_callB h__law_atom hgd (hr.mono (by decide)) (pv 0) (da_cons (de_var 1 (nb (nbt e1 hB) 1 (by decide)) (pv 1)) da_nil))))))) dbs_nil)))))
theorem has__law_fact (fa : Fa K w mg base) (h__law_take : HasB P w K mg base 1 "_law_take" 1 f__law_take) (h__law_atom : HasB P w K mg base 3 "_law_atom" 1 f__law_atom) (F : FnAt K mg "_law_fact" s__law_fact) : HasB P w K mg base 4 "_law_fact" 1 f__law_fact := by
  obtain ⟨f, fd, F, hm⟩ := F
  exact ⟨f, fd, ["_law_bag_here", "_law_things"], ok__law_fact fa h__law_take h__law_atom F, hm, F.kp, F.binds fun _ _ _ _ _ _ us hl => match us, hl with | [_, _], _ => rfl⟩
abbrev s__law_row : Stmt := topS 22
abbrev n__law_row : List Str := ["_law_bag_here", "_law_world_here"]
theorem sc__law_row : FnScope n__law_row ["_law_bag_here", "_law_world_here"] (defScope s__law_row) := ⟨rfl, rfl, rfl, by decide +kernel, rfl, by decide +kernel, by decide +kernel⟩
def m__law_row : En → SRs :=
    (rtS (shD (tupD [(frzD (callB 1 f__law_some 0 [(op2 (.va 1) (.ex (cD (.str "names"))) semAt)])), (frzD (callB 1 f__law_fact 0 [(op2 (.va 1) (.ex (cD (.str "things"))) semAt)]))])))
def f__law_row : List D → List D → Option (OV × List D) := fnB 2 m__law_row
theorem ok__law_row {f : Addr} {fd : FuncData} (fa : Fa K w mg base) (h__law_some : HasB P w K mg base 2 "_law_some" 1 f__law_some) (h__law_fact : HasB P w K mg base 4 "_law_fact" 1 f__law_fact) (F : Fun K "_law_row" "_law_row" s__law_row f fd) : FnG P w K mg base CX0 5 f fd ["_law_bag_here", "_law_world_here"] (spB K 1 f__law_row) := by
  have nd := sc__law_row.nd
  unfold f__law_row
  refine fnB_ok (k := 4) (m := m__law_row) F sc__law_row rfl rfl fun cdv A outer s H E g hgd hr hB hW hWn hxc => ?_
  unfold m__law_row
  exact (ds_one (ds_ret (DE.shd (de_tup (da_cons (DO.fz (do_callB h__law_some hgd (hr.mono (by decide)) (pv 0) (da_cons (de_ix (ixAt (u65 hr)) (db_var 1 (pv 1)) (DE.opd de_str) (fun _ _ => rfl)) da_nil))) (da_cons (DO.fz (do_callB h__law_fact hgd (hr.mono (by decide)) (pv 0) (da_cons (de_ix (ixAt (u65 hr)) (db_var 1 (pv 1)) (DE.opd de_str) (fun _ _ => rfl)) da_nil))) da_nil))))))
theorem has__law_row (fa : Fa K w mg base) (h__law_some : HasB P w K mg base 2 "_law_some" 1 f__law_some) (h__law_fact : HasB P w K mg base 4 "_law_fact" 1 f__law_fact) (F : FnAt K mg "_law_row" s__law_row) : HasB P w K mg base 5 "_law_row" 1 f__law_row := by
  obtain ⟨f, fd, F, hm⟩ := F
  exact ⟨f, fd, ["_law_bag_here", "_law_world_here"], ok__law_row fa h__law_some h__law_fact F, hm, F.kp, F.binds fun _ _ _ _ _ _ us hl => match us, hl with | [_, _], _ => rfl⟩
abbrev s__law_rows : Stmt := topS 23
abbrev s__law_rows_sc : Scope := defScope s__law_rows
abbrev n__law_rows : List Str := ["_law_bag_here", "_law_world_here", "_law_top", "_law_k"]
theorem sc__law_rows : FnScope n__law_rows ["_law_bag_here", "_law_world_here", "_law_top"] (defScope s__law_rows) := ⟨rfl, rfl, rfl, by decide +kernel, rfl, by decide +kernel, by decide +kernel⟩
abbrev it__law_rows_1 : En → Rs (List D) := (rg1 (frzD (callB 1 f__law_take 0 [(op2 (.va 2) (.ex (cD (.int 1))) semAdd)])))
abbrev el__law_rows_1 : En → Rs D := (frzD (callB 1 f__law_row 0 [(vD 1)]))
abbrev lc__law_rows_1 : En → Rs OV := lcD it__law_rows_1 [3] (gN 3) yesT el__law_rows_1
def m__law_rows : En → SRs :=
    (rtS lc__law_rows_1)
def f__law_rows : List D → List D → Option (OV × List D) := fnB 4 m__law_rows
theorem ok__law_rows {f : Addr} {fd : FuncData} (fa : Fa K w mg base) (h__law_take : HasB P w K mg base 1 "_law_take" 1 f__law_take) (h__law_row : HasB P w K mg base 5 "_law_row" 1 f__law_row) (F : Fun K "_law_rows" "_law_rows" s__law_rows f fd) : FnG P w K mg base CX0 6 f fd ["_law_bag_here", "_law_world_here", "_law_top"] (spB K 2 f__law_rows) := by
  have nd := sc__law_rows.nd
  unfold f__law_rows
  refine fnB_ok (k := 5) (m := m__law_rows) F sc__law_rows rfl rfl fun cdv A outer s H E g hgd hr hB hW hWn hxc => ?_
  unfold m__law_rows
  exact (ds_one (ds_ret (do_lc (own := [("_law_k", 3)]) (ks := [3]) rfl nd (di_range1 rfl fa.b_range (DO.fz (do_callB h__law_take hgd (hr.mono (by decide)) (pv 0) (da_cons (de_op opd_add (db_var 2 (pv 2)) (DE.opd de_int)) da_nil)))) (blkOk_by (N := n__law_rows) (sc := s__law_rows_sc) (by decide +kernel)) rfl (nbs hB (by decide)) (by decide) (fun _ _ _ _ _ g1 e1 => (dg_name (i := 3) (nb (nbt e1 hB) 3 (by decide)) nd)) (fun _ _ _ _ _ g1 e1 => pts_nilD) (fun _ _ _ _ _ g1 e1 => (DO.fz (do_callB h__law_row hgd (hr.mono (by decide)) (pv 0) (da_cons (de_var 1 (nb (nbt e1 hB) 1 (by decide)) (pv 1)) da_nil)))))))
theorem has__law_rows (fa : Fa K w mg base) (h__law_take : HasB P w K mg base 1 "_law_take" 1 f__law_take) (h__law_row : HasB P w K mg base 5 "_law_row" 1 f__law_row) (F : FnAt K mg "_law_rows" s__law_rows) : HasB P w K mg base 6 "_law_rows" 2 f__law_rows := by
  obtain ⟨f, fd, F, hm⟩ := F
  exact ⟨f, fd, ["_law_bag_here", "_law_world_here", "_law_top"], ok__law_rows fa h__law_take h__law_row F, hm, F.kp, F.binds fun _ _ _ _ _ _ us hl => match us, hl with | [_, _, _], _ => rfl⟩
abbrev s__law_holds : Stmt := topS 24
abbrev n__law_holds : List Str := ["_law_atom_here", "_law_values", "_law_left", "_law_right"]
theorem sc__law_holds : FnScope n__law_holds ["_law_atom_here", "_law_values"] (defScope s__law_holds) := ⟨rfl, rfl, rfl, by decide +kernel, rfl, by decide +kernel, by decide +kernel⟩
def m__law_holds : En → SRs :=
    (seqS (par2 2 3 (op2 (.va 1) (.ex (op2 (.va 0) (.ex (cD (.int 1))) semAt)) semAt) (shD (op2 (.va 1) (.ex (op2 (.va 0) (.ex (cD (.int 2))) semAt)) semAt)))
    (rtS (shD (op2 (.ex (dicD [((cD (.str "eq")), (op2 (.va 2) (.va 3) semEq)), ((cD (.str "lt")), (op2 (.va 2) (.va 3) semLt)), ((cD (.str "gt")), (op2 (.va 2) (.va 3) semGt))])) (.ex (op2 (.va 0) (.ex (cD (.int 0))) semAt)) semAt))))
def f__law_holds : List D → Option OV := fnP 4 m__law_holds
theorem ok__law_holds {f : Addr} {fd : FuncData} (fa : Fa K w mg base)  (F : Fun K "_law_holds" "_law_holds" s__law_holds f fd) : FnG P w K mg base CX0 1 f fd ["_law_atom_here", "_law_values"] (spP K 2 f__law_holds) := by
  have nd := sc__law_holds.nd
  unfold f__law_holds
  refine fnP_ok (k := 0) (m := m__law_holds) F sc__law_holds rfl rfl fun cdv A outer s H E g hgd hr hB0 hW hWn hxc => ?_
  have hB := nb00 hB0
  unfold m__law_holds
  exact (ds_cons (ds_par2 (i := 2) (j := 3) (nb hB 2 (by decide)) (nb hB 3 (by decide)) nd rfl (by decide) (de_ix (ixAt (u65 hr)) (db_var 1 (pv 1)) (DE.opd (de_ix (ixAt (u65 hr)) (db_var 0 (pv 0)) (DE.opd de_int) (fun _ _ => rfl))) (fun _ _ => rfl)) (DE.shd (de_ix (ixAt (u65 hr)) (db_var 1 (pv 1)) (DE.opd (de_ix (ixAt (u65 hr)) (db_var 0 (pv 0)) (DE.opd de_int) (fun _ _ => rfl))) (fun _ _ => rfl))))
    (ds_one (ds_ret (DE.shd (de_ix (ixAt (u65 hr)) (DE.opd (de_disp (dps_cons (fun g1 e1 => de_str) (fun g1 e1 => (de_cmp (opd_eq hr.units) (db_var 2 (pv 2)) (db_var 3 (pv 3)) (nomark _))) (dps_cons (fun g1 e1 => de_str) (fun g1 e1 => (de_cmp opd_lt (db_var 2 (pv 2)) (db_var 3 (pv 3)) (nomark _))) (dps_cons (fun g1 e1 => de_str) (fun g1 e1 => (de_cmp opd_gt (db_var 2 (pv 2)) (db_var 3 (pv 3)) (nomark _))) dps_nil))))) (DE.opd (de_ix (ixAt (u65 hr)) (db_var 0 (pv 0)) (DE.opd de_int) (fun _ _ => rfl))) (fun _ _ => rfl))))))
theorem has__law_holds (fa : Fa K w mg base)  (F : FnAt K mg "_law_holds" s__law_holds) : HasP P w K mg base 1 "_law_holds" 2 f__law_holds := by
  obtain ⟨f, fd, F, hm⟩ := F
  exact ⟨f, fd, ["_law_atom_here", "_law_values"], ok__law_holds fa  F, hm, F.kp, F.binds fun _ _ _ _ _ _ us hl => match us, hl with | [_, _], _ => rfl⟩
abbrev s__law_hold_all : Stmt := topS 25
abbrev s__law_hold_all_sc : Scope := defScope s__law_hold_all
abbrev n__law_hold_all : List Str := ["_law_rows_here", "_law_values", "_law_row_here", "_law_atom_here"]
theorem sc__law_hold_all : FnScope n__law_hold_all ["_law_rows_here", "_law_values"] (defScope s__law_hold_all) := ⟨rfl, rfl, rfl, by decide +kernel, rfl, by decide +kernel, by decide +kernel⟩
abbrev it__law_hold_all_1 : En → Rs (List D) := (itA (op2 (.va 2) (.ex (cD (.int 1))) semAt))
abbrev ts__law_hold_all_1 : En → Rs Bool := (notT (toT (.ex (frzD (callP 2 f__law_holds [(vD 3), (vD 1)])))))
abbrev el__law_hold_all_1 : En → Rs D := (vD 3)
abbrev lc__law_hold_all_1 : En → Rs OV := lcD it__law_hold_all_1 [3] (gN 3) ts__law_hold_all_1 el__law_hold_all_1
abbrev it__law_hold_all_2 : En → Rs (List D) := (itA (vD 0))
abbrev ts__law_hold_all_2 : En → Rs Bool := (toB (op2 (.ex (frzD lc__law_hold_all_1)) (.ex (frzD (lstD []))) semNe))
abbrev el__law_hold_all_2 : En → Rs D := (vD 2)
abbrev lc__law_hold_all_2 : En → Rs OV := lcD it__law_hold_all_2 [2] (gN 2) ts__law_hold_all_2 el__law_hold_all_2
def m__law_hold_all : En → SRs :=
    (rtS (shD (op2 (.ex (frzD lc__law_hold_all_2)) (.ex (frzD (lstD []))) semEq)))
def f__law_hold_all : List D → Option OV := fnP 4 m__law_hold_all
theorem ok__law_hold_all {f : Addr} {fd : FuncData} (fa : Fa K w mg base) (h__law_holds : HasP P w K mg base 1 "_law_holds" 2 f__law_holds) (F : Fun K "_law_hold_all" "_law_hold_all" s__law_hold_all f fd) : FnG P w K mg base CX0 2 f fd ["_law_rows_here", "_law_values"] (spP K 2 f__law_hold_all) := by
  have nd := sc__law_hold_all.nd
  unfold f__law_hold_all
  refine fnP_ok (k := 1) (m := m__law_hold_all) F sc__law_hold_all rfl rfl fun cdv A outer s H E g hgd hr hB0 hW hWn hxc => ?_
  have hB := nb00 hB0
  unfold m__law_hold_all
  exact (ds_one (ds_ret (DE.shd (de_cmp (opd_eq hr.units) (DE.opd (DO.fz (do_lc (own := [("_law_row_here", 2)]) (ks := [2]) rfl nd (di_any (de_var 0 (nb hB 0 (by decide)) (pv 0))) (blkOk_by (N := n__law_hold_all) (sc := s__law_hold_all_sc) (by decide +kernel)) rfl (nbs hB (by decide)) (by decide) (fun _ _ _ _ _ g1 e1 => (dg_name (i := 2) (nb (nbt e1 hB) 2 (by decide)) nd)) (fun _ _ _ _ _ g1 e1 => (pts_oneD (dt_cmp (opd_ne hr.units) (DE.opd (DO.fz (do_lc (own := [("_law_atom_here", 3)]) (ks := [3]) rfl nd (di_any (de_ix (ixAt (u65 hr)) (db_var 2 (pv 2)) (DE.opd de_int) (fun _ _ => rfl))) (blkOk_by (N := n__law_hold_all) (sc := ({ kind := PySem.ScopeKind.function, names := [ (PySem.Str.ofString ".0", PySem.NameKind.local), (PySem.Str.ofString "_law_row_here", PySem.NameKind.local), (PySem.Str.ofString "_law_values", PySem.NameKind.cell)], isGenerator := false, isCoroutine := false, more := [] : PySem.Scope })) (by decide +kernel)) rfl (nbs (nbt e1 hB) (by decide)) (by decide) (fun _ _ _ _ _ g2 e2 => (dg_name (i := 3) (nb (nbt e2 (nbt e1 hB)) 3 (by decide)) nd)) (fun _ _ _ _ _ g2 e2 => (pts_oneD (dt_not (dt_tru (DE.opd (DO.fz (do_callP h__law_holds hgd (hr.mono (by decide)) (da_cons (de_var 3 (nb (nbt e2 (nbt e1 hB)) 3 (by decide)) (pv 3)) (da_cons (de_var 1 (nb (nbt e2 (nbt e1 hB)) 1 (by decide)) (pv 1)) da_nil))))))))) (fun _ _ _ _ _ g2 e2 => (de_var 3 (nb (nbt e2 (nbt e1 hB)) 3 (by decide)) (pv 3)))))) (DE.opd (DO.fz (do_lst da_nil))) (nomark _)))) (fun _ _ _ _ _ g1 e1 => (de_var 2 (nb (nbt e1 hB) 2 (by decide)) (pv 2)))))) (DE.opd (DO.fz (do_lst da_nil))) (nomark _)))))
theorem has__law_hold_all (fa : Fa K w mg base) (h__law_holds : HasP P w K mg base 1 "_law_holds" 2 f__law_holds) (F : FnAt K mg "_law_hold_all" s__law_hold_all) : HasP P w K mg base 2 "_law_hold_all" 2 f__law_hold_all := by
  obtain ⟨f, fd, F, hm⟩ := F
  exact ⟨f, fd, ["_law_rows_here", "_law_values"], ok__law_hold_all fa h__law_holds F, hm, F.kp, F.binds fun _ _ _ _ _ _ us hl => match us, hl with | [_, _], _ => rfl⟩
abbrev s_turned : Stmt := topS 2
abbrev n_turned : List Str := ["atom", "relation", "left", "right"]
theorem sc_turned : FnScope n_turned ["atom"] (defScope s_turned) := ⟨rfl, rfl, rfl, by decide +kernel, rfl, by decide +kernel, by decide +kernel⟩
def m_turned : En → SRs :=
    (seqS (asgS (vD 0) (gT 3 (gsCons (gN 1) (gsCons (gN 2) (gsCons (gN 3) gsNil)))))
    (rtS (shD (tupD [(tabD c_BACK (.va 1)), (vD 3), (vD 2)]))))
def f_turned : List D → Option OV := fnP 4 m_turned
theorem ok_turned {f : Addr} {fd : FuncData} (fa : Fa K w mg base)  (F : Fun K "turned" "turned" s_turned f fd) : FnG P w K mg base CX0 1 f fd ["atom"] (spP K 1 f_turned) := by
  have nd := sc_turned.nd
  unfold f_turned
  refine fnP_ok (k := 0) (m := m_turned) F sc_turned rfl rfl fun cdv A outer s H E g hgd hr hB0 hW hWn hxc => ?_
  have hB := nb00 hB0
  unfold m_turned
  exact (ds_cons (ds_asg (de_var 0 (nb hB 0 (by decide)) (pv 0)) (dg_tup rfl (dgs_cons (dg_name (i := 1) (nb hB 1 (by decide)) nd) (dgs_cons (dg_name (i := 2) (nb hB 2 (by decide)) nd) (dgs_cons (dg_name (i := 3) (nb hB 3 (by decide)) nd) dgs_nil)))))
    (ds_one (ds_ret (DE.shd (de_tup (da_cons (de_tab fa.t_BACK fa.m_BACK (db_var 1 (pv 1))) (da_cons (de_var 3 (nb hB 3 (by decide)) (pv 3)) (da_cons (de_var 2 (nb hB 2 (by decide)) (pv 2)) da_nil))))))))
theorem has_turned (fa : Fa K w mg base)  (F : FnAt K mg "turned" s_turned) : HasP P w K mg base 1 "turned" 1 f_turned := by
  obtain ⟨f, fd, F, hm⟩ := F
  exact ⟨f, fd, ["atom"], ok_turned fa  F, hm, F.kp, F.binds fun _ _ _ _ _ _ us hl => match us, hl with | [_], _ => rfl⟩
abbrev s_links_in : Stmt := topS 7
abbrev n_links_in : List Str := ["rows", "found", "index", "name", "fact", "number", "atom", "is_back", "relation", "left", "right"]
theorem sc_links_in : FnScope n_links_in ["rows"] (defScope s_links_in) := ⟨rfl, rfl, rfl, by decide +kernel, rfl, by decide +kernel, by decide +kernel⟩
abbrev it_links_in_1 : En → Rs (List D) := (enX (vD 4))
abbrev bd_links_in_1 : En → SRs := (seqS (setS 7 (shD (op2 (.ex (op2 (.va 6) (.ex (cD (.int 0))) semAt)) (.ex (cD (.str "gt"))) semEq)))
    (seqS (asgS (ifD (toT (.va 7)) (frzD (callP 1 f_turned [(vD 6)])) (vD 6)) (gT 3 (gsCons (gN 8) (gsCons (gN 9) (gsCons (gN 10) gsNil)))))
    (seqS (appS 1 (tupD [(vD 9), (vD 10), (op2 (.va 8) (.ex (cD (.str "lt"))) semEq), (tupD [(vD 2), (vD 5), (vD 7)])]))
    (ifS (toB (op2 (.va 8) (.ex (cD (.str "eq"))) semEq)) (appS 1 (tupD [(vD 10), (vD 9), (cD (.bl false)), (tupD [(vD 2), (vD 5), (cD (.bl true))])])) nxS))))
abbrev fr_links_in_1 : En → SRs := forD it_links_in_1 (gT 2 (gsCons (gN 5) (gsCons (gN 6) gsNil))) bd_links_in_1
abbrev it_links_in_2 : En → Rs (List D) := (enD (vD 0))
abbrev bd_links_in_2 : En → SRs := fr_links_in_1
abbrev fr_links_in_2 : En → SRs := forD it_links_in_2 (gT 2 (gsCons (gN 2) (gsCons (gT 2 (gsCons (gN 3) (gsCons (gN 4) gsNil))) gsNil))) bd_links_in_2
def m_links_in : En → SRs :=
    (seqS (setS 1 (lstD []))
    (seqS fr_links_in_2
    (rtS (mvD 1))))
def f_links_in : List D → Option OV := fnP 11 m_links_in
theorem ok_links_in {f : Addr} {fd : FuncData} (fa : Fa K w mg base) (h_turned : HasP P w K mg base 1 "turned" 1 f_turned) (F : Fun K "links_in" "links_in" s_links_in f fd) : FnG P w K mg base CX0 2 f fd ["rows"] (spP K 1 f_links_in) := by
  have nd := sc_links_in.nd
  unfold f_links_in
  refine fnP_ok (k := 1) (m := m_links_in) F sc_links_in rfl rfl fun cdv A outer s H E g hgd hr hB0 hW hWn hxc => ?_
  have hB := nb00 hB0
  unfold m_links_in
  exact (ds_cons (ds_set (i := 1) (nb hB 1 (by decide)) nd (do_lst da_nil))
    (ds_cons (ds_for PassesOwn.never rfl (di_enum fa.b_enumerate (de_var 0 (nb hB 0 (by decide)) (pv 0))) (dg_tup rfl (dgs_cons (dg_name (i := 2) (nb hB 2 (by decide)) nd) (dgs_cons (dg_tup rfl (dgs_cons (dg_name (i := 3) (nb hB 3 (by decide)) nd) (dgs_cons (dg_name (i := 4) (nb hB 4 (by decide)) nd) dgs_nil))) dgs_nil))) (ds_one (ds_for PassesOwn.never rfl (di_enumX fa.b_enumerate (de_var 4 (nb hB 4 (by decide)) (pv 4))) (dg_tup rfl (dgs_cons (dg_name (i := 5) (nb hB 5 (by decide)) nd) (dgs_cons (dg_name (i := 6) (nb hB 6 (by decide)) nd) dgs_nil))) (ds_cons (ds_set (i := 7) (nb hB 7 (by decide)) nd (DE.shd (de_cmp (opd_eq hr.units) (DE.opd (de_ix (ixAt (u65 hr)) (db_var 6 (pv 6)) (DE.opd de_int) (fun _ _ => rfl))) (DE.opd de_str) (nomark _))))
    (ds_cons (ds_asg (de_if (dt_tru (db_var 7 (pv 7))) (DO.fz (do_callP h_turned hgd (hr.mono (by decide)) (da_cons (de_var 6 (nb hB 6 (by decide)) (pv 6)) da_nil))) (de_var 6 (nb hB 6 (by decide)) (pv 6))) (dg_tup rfl (dgs_cons (dg_name (i := 8) (nb hB 8 (by decide)) nd) (dgs_cons (dg_name (i := 9) (nb hB 9 (by decide)) nd) (dgs_cons (dg_name (i := 10) (nb hB 10 (by decide)) nd) dgs_nil)))))
    (ds_cons (ds_append (i := 1) (pv 1) (de_tup (da_cons (de_var 9 (nb hB 9 (by decide)) (pv 9)) (da_cons (de_var 10 (nb hB 10 (by decide)) (pv 10)) (da_cons (de_cmp (opd_eq hr.units) (db_var 8 (pv 8)) (DE.opd de_str) (nomark _)) (da_cons (de_tup (da_cons (de_var 2 (nb hB 2 (by decide)) (pv 2)) (da_cons (de_var 5 (nb hB 5 (by decide)) (pv 5)) (da_cons (de_var 7 (nb hB 7 (by decide)) (pv 7)) da_nil)))) da_nil))))))
    (ds_one (ds_if (dt_cmp (opd_eq hr.units) (db_var 8 (pv 8)) (DE.opd de_str) (nomark _)) (ds_one (ds_append (i := 1) (pv 1) (de_tup (da_cons (de_var 10 (nb hB 10 (by decide)) (pv 10)) (da_cons (de_var 9 (nb hB 9 (by decide)) (pv 9)) (da_cons de_bl (da_cons (de_tup (da_cons (de_var 2 (nb hB 2 (by decide)) (pv 2)) (da_cons (de_var 5 (nb hB 5 (by decide)) (pv 5)) (da_cons de_bl da_nil)))) da_nil))))))) ds_nil))))))))
    (ds_one (ds_ret (do_var 1 (nb hB 1 (by decide)) (pv 1))))))
theorem has_links_in (fa : Fa K w mg base) (h_turned : HasP P w K mg base 1 "turned" 1 f_turned) (F : FnAt K mg "links_in" s_links_in) : HasP P w K mg base 2 "links_in" 1 f_links_in := by
  obtain ⟨f, fd, F, hm⟩ := F
  exact ⟨f, fd, ["rows"], ok_links_in fa h_turned F, hm, F.kp, F.binds fun _ _ _ _ _ _ us hl => match us, hl with | [_], _ => rfl⟩
abbrev s_shortest_links : Stmt := topS 8
abbrev n_shortest_links : List Str := ["some", "begin", "ends", "begun", "found", "waiting", "name", "is_strict", "left", "right", "more", "where", "later"]
theorem sc_shortest_links : FnScope n_shortest_links ["some", "begin", "ends"] (defScope s_shortest_links) := ⟨rfl, rfl, rfl, by decide +kernel, rfl, by decide +kernel, by decide +kernel⟩
abbrev it_shortest_links_1 : En → Rs (List D) := (itA (vD 0))
abbrev bd_shortest_links_1 : En → SRs := (seqS (setS 12 (shD (tupD [(vD 9), (orV (vD 7) (vD 10))])))
    (ifS (andT (toB (op2 (.va 8) (.va 6) semEq)) (inOd (fun b => !b) 4 (vD 12))) (seqS (putOd 4 (vD 12) (op2 (.ex (getOd 4 (tupD [(vD 6), (vD 7)]))) (.ex (frzD (lstD [(vD 11)]))) semAdd))
    (appS 5 (vD 12))) nxS))
abbrev fr_shortest_links_1 : En → SRs := forD it_shortest_links_1 (gT 4 (gsCons (gN 8) (gsCons (gN 9) (gsCons (gN 10) (gsCons (gN 11) gsNil))))) bd_shortest_links_1
abbrev ts_shortest_links_1 : En → Rs Bool := (toB (op2 (.va 5) (.ex (frzD (lstD []))) semNe))
abbrev bd_shortest_links_2 : En → SRs := (seqS (asgS (popV 5 (cD (.int 0))) (gT 2 (gsCons (gN 6) (gsCons (gN 7) gsNil))))
    (seqS (ifS (toB (op2 (.ex (tupD [(vD 6), (vD 7)])) (.va 2) semIn2)) (rtS (shD (getOd 4 (tupD [(vD 6), (vD 7)])))) nxS)
    fr_shortest_links_1))
def m_shortest_links : En → SRs :=
    (seqS (setS 3 (shD (tupD [(vD 1), (cD (.bl false))])))
    (seqS (parOd1 4 5 (vD 3) (frzD (lstD [])) (lstD [(vD 3)]))
    (seqS (whS ts_shortest_links_1 bd_shortest_links_2 100)
    (rtS (shD (cD .non))))))
def f_shortest_links : List D → Option OV := fnP 13 m_shortest_links
theorem ok_shortest_links {f : Addr} {fd : FuncData} (fa : Fa K w mg base)  (F : Fun K "shortest_links" "shortest_links" s_shortest_links f fd) : FnG P w K mg base CX0 1 f fd ["some", "begin", "ends"] (spP K 3 f_shortest_links) := by
  have nd := sc_shortest_links.nd
  unfold f_shortest_links
  refine fnP_ok (k := 0) (m := m_shortest_links) F sc_shortest_links rfl rfl fun cdv A outer s H E g hgd hr hB0 hW hWn hxc => ?_
  have hB := nb00 hB0
  unfold m_shortest_links
  exact (ds_cons (ds_set (i := 3) (nb hB 3 (by decide)) nd (DE.shd (de_tup (da_cons (de_var 1 (nb hB 1 (by decide)) (pv 1)) (da_cons de_bl da_nil)))))
    (ds_cons (ds_parOd1 (i := 4) (j := 5) hW hr (nb hB 4 (by decide)) (nb hB 5 (by decide)) nd rfl (by decide) (fun g1 e1 => (de_var 3 (nb (nbt e1 hB) 3 (by decide)) (pv 3))) (fun g1 e1 => (DO.fz (do_lst da_nil))) (fun g1 e1 => (do_lst (da_cons (de_var 3 (nb (nbt e1 hB) 3 (by decide)) (pv 3)) da_nil))))
    (ds_cons (ds_while 100 PassesOwn.never (dt_cmp (opd_ne hr.units) (db_var 5 (pv 5)) (DE.opd (DO.fz (do_lst da_nil))) (nomark _)) (ds_cons (ds_asg (de_popV (i := 5) (pv 5) de_int) (dg_tup rfl (dgs_cons (dg_name (i := 6) (nb hB 6 (by decide)) nd) (dgs_cons (dg_name (i := 7) (nb hB 7 (by decide)) nd) dgs_nil))))
    (ds_cons (ds_if (dt_cmp (opd_in2 (u65 hr)) (DE.opd (de_tup (da_cons (de_var 6 (nb hB 6 (by decide)) (pv 6)) (da_cons (de_var 7 (nb hB 7 (by decide)) (pv 7)) da_nil)))) (db_var 2 (pv 2)) rfl) (ds_one (ds_ret (DE.shd (de_getOd (i := 4) hW hr (pv 4) (de_tup (da_cons (de_var 6 (nb hB 6 (by decide)) (pv 6)) (da_cons (de_var 7 (nb hB 7 (by decide)) (pv 7)) da_nil))) (fun _ _ => rfl))))) ds_nil)
    (ds_one (ds_for PassesOwn.never rfl (di_any (de_var 0 (nb hB 0 (by decide)) (pv 0))) (dg_tup rfl (dgs_cons (dg_name (i := 8) (nb hB 8 (by decide)) nd) (dgs_cons (dg_name (i := 9) (nb hB 9 (by decide)) nd) (dgs_cons (dg_name (i := 10) (nb hB 10 (by decide)) nd) (dgs_cons (dg_name (i := 11) (nb hB 11 (by decide)) nd) dgs_nil))))) (ds_cons (ds_set (i := 12) (nb hB 12 (by decide)) nd (DE.shd (de_tup (da_cons (de_var 9 (nb hB 9 (by decide)) (pv 9)) (da_cons (de_orV (de_var 7 (nb hB 7 (by decide)) (pv 7)) (de_one (de_var 10 (nb hB 10 (by decide)) (pv 10)))) da_nil)))))
    (ds_one (ds_if (DW.dt (dw_and (dt_cmp (opd_eq hr.units) (db_var 8 (pv 8)) (db_var 6 (pv 6)) (nomark _)) (dw_and1 (dt_od hW (op_odNotIn hr) (de_var 12 (nb hB 12 (by decide)) (pv 12)) (pv 4))))) (ds_cons (ds_putOd (i := 4) hW hr (pv 4) (de_var 12 (nb hB 12 (by decide)) (pv 12)) (de_op opd_add (DE.opd (de_getOd (i := 4) hW hr (pv 4) (de_tup (da_cons (de_var 6 (nb hB 6 (by decide)) (pv 6)) (da_cons (de_var 7 (nb hB 7 (by decide)) (pv 7)) da_nil))) (fun _ _ => rfl))) (DE.opd (DO.fz (do_lst (da_cons (de_var 11 (nb hB 11 (by decide)) (pv 11)) da_nil))))))
    (ds_one (ds_append (i := 5) (pv 5) (de_var 12 (nb hB 12 (by decide)) (pv 12))))) ds_nil))))))))
    (ds_one (ds_ret (DE.shd de_non))))))
theorem has_shortest_links (fa : Fa K w mg base)  (F : FnAt K mg "shortest_links" s_shortest_links) : HasP P w K mg base 1 "shortest_links" 3 f_shortest_links := by
  obtain ⟨f, fd, F, hm⟩ := F
  exact ⟨f, fd, ["some", "begin", "ends"], ok_shortest_links fa  F, hm, F.kp, F.binds fun _ _ _ _ _ _ us hl => match us, hl with | [_, _, _], _ => rfl⟩
abbrev s_ring : Stmt := topS 9
abbrev n_ring : List Str := ["rows", "some", "left", "right", "is_strict", "where", "found"]
theorem sc_ring : FnScope n_ring ["rows"] (defScope s_ring) := ⟨rfl, rfl, rfl, by decide +kernel, rfl, by decide +kernel, by decide +kernel⟩
abbrev it_ring_1 : En → Rs (List D) := (itA (vD 1))
abbrev bd_ring_1 : En → SRs := (ifS (toT (.va 4)) (seqS (setS 6 (shD (frzD (callP 3 f_shortest_links [(vD 1), (vD 3), (frzD (lstD [(tupD [(vD 2), (cD (.bl false))]), (tupD [(vD 2), (cD (.bl true))])]))]))))
    (ifS (toB (op2 (.va 6) (.ex (cD .non)) semIsNot)) (rtS (shD (op2 (.ex (frzD (lstD [(vD 5)]))) (.va 6) semAdd))) nxS)) nxS)
abbrev fr_ring_1 : En → SRs := forD it_ring_1 (gT 4 (gsCons (gN 2) (gsCons (gN 3) (gsCons (gN 4) (gsCons (gN 5) gsNil))))) bd_ring_1
def m_ring : En → SRs :=
    (seqS (setS 1 (shD (frzD (callP 1 f_links_in [(vD 0)]))))
    (seqS fr_ring_1
    (rtS (shD (cD .non)))))
def f_ring : List D → Option OV := fnP 7 m_ring
theorem ok_ring {f : Addr} {fd : FuncData} (fa : Fa K w mg base) (h_links_in : HasP P w K mg base 2 "links_in" 1 f_links_in) (h_shortest_links : HasP P w K mg base 1 "shortest_links" 3 f_shortest_links) (F : Fun K "ring" "ring" s_ring f fd) : FnG P w K mg base CX0 3 f fd ["rows"] (spP K 1 f_ring) := by
  have nd := sc_ring.nd
  unfold f_ring
  refine fnP_ok (k := 2) (m := m_ring) F sc_ring rfl rfl fun cdv A outer s H E g hgd hr hB0 hW hWn hxc => ?_
  have hB := nb00 hB0
  unfold m_ring
  exact (ds_cons (ds_set (i := 1) (nb hB 1 (by decide)) nd (DE.shd (DO.fz (do_callP h_links_in hgd (hr.mono (by decide)) (da_cons (de_var 0 (nb hB 0 (by decide)) (pv 0)) da_nil)))))
    (ds_cons (ds_for PassesOwn.never rfl (di_any (de_var 1 (nb hB 1 (by decide)) (pv 1))) (dg_tup rfl (dgs_cons (dg_name (i := 2) (nb hB 2 (by decide)) nd) (dgs_cons (dg_name (i := 3) (nb hB 3 (by decide)) nd) (dgs_cons (dg_name (i := 4) (nb hB 4 (by decide)) nd) (dgs_cons (dg_name (i := 5) (nb hB 5 (by decide)) nd) dgs_nil))))) (ds_one (ds_if (dt_tru (db_var 4 (pv 4))) (ds_cons (ds_set (i := 6) (nb hB 6 (by decide)) nd (DE.shd (DO.fz (do_callP h_shortest_links hgd (hr.mono (by decide)) (da_cons (de_var 1 (nb hB 1 (by decide)) (pv 1)) (da_cons (de_var 3 (nb hB 3 (by decide)) (pv 3)) (da_cons (DO.fz (do_lst (da_cons (de_tup (da_cons (de_var 2 (nb hB 2 (by decide)) (pv 2)) (da_cons de_bl da_nil))) (da_cons (de_tup (da_cons (de_var 2 (nb hB 2 (by decide)) (pv 2)) (da_cons de_bl da_nil))) da_nil)))) da_nil)))))))
    (ds_one (ds_if (dt_cmp opd_isNot (db_var 6 (pv 6)) (DE.opd de_non) (nomark _)) (ds_one (ds_ret (DE.shd (de_op opd_add (DE.opd (DO.fz (do_lst (da_cons (de_var 5 (nb hB 5 (by decide)) (pv 5)) da_nil)))) (db_var 6 (pv 6)))))) ds_nil))) ds_nil)))
    (ds_one (ds_ret (DE.shd de_non)))))
theorem has_ring (fa : Fa K w mg base) (h_links_in : HasP P w K mg base 2 "links_in" 1 f_links_in) (h_shortest_links : HasP P w K mg base 1 "shortest_links" 3 f_shortest_links) (F : FnAt K mg "ring" s_ring) : HasP P w K mg base 3 "ring" 1 f_ring := by
  obtain ⟨f, fd, F, hm⟩ := F
  exact ⟨f, fd, ["rows"], ok_ring fa h_links_in h_shortest_links F, hm, F.kp, F.binds fun _ _ _ _ _ _ us hl => match us, hl with | [_], _ => rfl⟩
abbrev s_possible : Stmt := topS 10
abbrev s_possible_sc : Scope := defScope s_possible
abbrev n_possible : List Str := ["rows", "some", "values", "name", "link", "turn", "left", "right", "is_strict", "where"]
theorem sc_possible : FnScope n_possible ["rows"] (defScope s_possible) := ⟨rfl, rfl, rfl, by decide +kernel, rfl, by decide +kernel, by decide +kernel⟩
abbrev it_possible_1 : En → Rs (List D) := (itA (vD 1))
abbrev cl_possible_1 : GDt := ⟨it_possible_1, (gN 4), yesT, [4], [4]⟩
abbrev el_possible_1 : En → Rs D := (op2 (.va 4) (.ex (cD (.int 0))) semAt)
abbrev sz_possible_1 : En → Rs (List Str) := scZ [cl_possible_1] el_possible_1
abbrev it_possible_2 : En → Rs (List D) := (itA (vD 1))
abbrev cl_possible_2 : GDt := ⟨it_possible_2, (gN 4), yesT, [4], [4]⟩
abbrev el_possible_2 : En → Rs D := (op2 (.va 4) (.ex (cD (.int 1))) semAt)
abbrev sz_possible_2 : En → Rs (List Str) := scZ [cl_possible_2] el_possible_2
abbrev it_possible_3 : En → Rs (List D) := (itA (frzD (orS sz_possible_1 sz_possible_2)))
abbrev ke_possible_1 : En → Rs D := (vD 3)
abbrev el_possible_3 : En → Rs D := (cD (.int 0))
abbrev dk_possible_1 : En → SRs := dkS 2 it_possible_3 [3] (gN 3) yesT ke_possible_1 el_possible_3
abbrev it_possible_4 : En → Rs (List D) := (itA (vD 1))
abbrev bd_possible_1 : En → SRs := (putDk 2 (vD 7) (opN [(.ex (getDk 2 (vD 7))), (.ex (op2 (.ex (getDk 2 (vD 6))) (.ex (opN [(.va 8)] semInt)) semAdd))] semMax))
abbrev fr_possible_1 : En → SRs := forD it_possible_4 (gT 4 (gsCons (gN 6) (gsCons (gN 7) (gsCons (gN 8) (gsCons (gN 9) gsNil))))) bd_possible_1
abbrev it_possible_5 : En → Rs (List D) := (rg1 (lenDk 2))
abbrev bd_possible_2 : En → SRs := fr_possible_1
abbrev fr_possible_2 : En → SRs := forD it_possible_5 (gN 5) bd_possible_2
def m_possible : En → SRs :=
    (seqS (ifS (toB (op2 (.ex (frzD (callP 1 f_ring [(vD 0)]))) (.ex (cD .non)) semIsNot)) (rtS (shD (cD .non))) nxS)
    (seqS (setS 1 (shD (frzD (callP 1 f_links_in [(vD 0)]))))
    (seqS dk_possible_1
    (seqS fr_possible_2
    (rtS (shD (frzDk 2)))))))
def f_possible : List D → Option OV := fnP 10 m_possible
theorem ok_possible {f : Addr} {fd : FuncData} (fa : Fa K w mg base) (h_ring : HasP P w K mg base 3 "ring" 1 f_ring) (h_links_in : HasP P w K mg base 2 "links_in" 1 f_links_in) (F : Fun K "possible" "possible" s_possible f fd) : FnG P w K mg base CX0 4 f fd ["rows"] (spP K 1 f_possible) := by
  have nd := sc_possible.nd
  unfold f_possible
  refine fnP_ok (k := 3) (m := m_possible) F sc_possible rfl rfl fun cdv A outer s H E g hgd hr hB0 hW hWn hxc => ?_
  have hB := nb00 hB0
  unfold m_possible
  exact (ds_cons (ds_if (dt_cmp opd_isNot (DE.opd (DO.fz (do_callP h_ring hgd (hr.mono (by decide)) (da_cons (de_var 0 (nb hB 0 (by decide)) (pv 0)) da_nil)))) (DE.opd de_non) (nomark _)) (ds_one (ds_ret (DE.shd de_non))) ds_nil)
    (ds_cons (ds_set (i := 1) (nb hB 1 (by decide)) nd (DE.shd (DO.fz (do_callP h_links_in hgd (hr.mono (by decide)) (da_cons (de_var 0 (nb hB 0 (by decide)) (pv 0)) da_nil)))))
    (ds_cons (ds_setDk (i := 2) (nb hB 2 (by decide)) (own := [("name", 3)]) (ks := [3]) rfl nd (di_any (DO.fz (do_srtOr hr fa.b_sorted (pe_scZ (own := [("link", 4)]) (c := cl_possible_1) (cs := [])  rfl nd (di_any (de_var 1 (nb hB 1 (by decide)) (pv 1))) (blkOk_by (N := n_possible) (sc := s_possible_sc) (by decide +kernel)) rfl (nbs hB (by decide)) (by decide) (fun _ _ _ _ _ g1 e1 => (dg_name (i := 4) (nb (nbt e1 hB) 4 (by decide)) nd)) (fun _ _ _ _ _ g1 e1 => pts_nilD) trivial (fun _ _ _ _ _ g1 e1 => (de_ix (ixAt (u65 hr)) (db_var 4 (pv 4)) (DE.opd de_int) (fun _ _ => rfl)))) (pe_scZ (own := [("link", 4)]) (c := cl_possible_2) (cs := [])  rfl nd (di_any (de_var 1 (nb hB 1 (by decide)) (pv 1))) (blkOk_by (N := n_possible) (sc := s_possible_sc) (by decide +kernel)) rfl (nbs hB (by decide)) (by decide) (fun _ _ _ _ _ g1 e1 => (dg_name (i := 4) (nb (nbt e1 hB) 4 (by decide)) nd)) (fun _ _ _ _ _ g1 e1 => pts_nilD) trivial (fun _ _ _ _ _ g1 e1 => (de_ix (ixAt (u65 hr)) (db_var 4 (pv 4)) (DE.opd de_int) (fun _ _ => rfl))))))) (blkOk_by (N := n_possible) (sc := s_possible_sc) (by decide +kernel)) rfl (nbs hB (by decide)) (by decide) (fun _ _ _ _ _ g1 e1 => (dg_name (i := 3) (nb (nbt e1 hB) 3 (by decide)) nd)) (fun _ _ _ _ _ g1 e1 => pts_nilD) (fun _ _ _ _ _ g1 e1 => (de_var 3 (nb (nbt e1 hB) 3 (by decide)) (pv 3))) (fun _ _ _ _ _ g1 e1 => de_int) (sw_trueD rfl rfl rfl (by decide +kernel)))
    (ds_cons (ds_for PassesOwn.never rfl (di_range1 rfl fa.b_range (de_lenDk (i := 2) fa.b_len (pv 2))) (dg_name (i := 5) (nb hB 5 (by decide)) nd) (ds_one (ds_for PassesOwn.never rfl (di_any (de_var 1 (nb hB 1 (by decide)) (pv 1))) (dg_tup rfl (dgs_cons (dg_name (i := 6) (nb hB 6 (by decide)) nd) (dgs_cons (dg_name (i := 7) (nb hB 7 (by decide)) nd) (dgs_cons (dg_name (i := 8) (nb hB 8 (by decide)) nd) (dgs_cons (dg_name (i := 9) (nb hB 9 (by decide)) nd) dgs_nil))))) (ds_one (ds_putDk (i := 2) (u65 hr) (pv 2) (de_var 7 (nb hB 7 (by decide)) (pv 7)) (de_callB (cd_max rfl) fa.b_max (dbs_cons (DE.opd (de_getDk (i := 2) (u65 hr) (pv 2) (de_var 7 (nb hB 7 (by decide)) (pv 7)) (fun _ _ => rfl))) (dbs_cons (DE.opd (de_op opd_add (DE.opd (de_getDk (i := 2) (u65 hr) (pv 2) (de_var 6 (nb hB 6 (by decide)) (pv 6)) (fun _ _ => rfl))) (DE.opd (de_callT cd_int fa.b_int (dbs_cons (db_var 8 (pv 8)) dbs_nil))))) dbs_nil))))))))
    (ds_one (ds_ret (DE.shd (de_frzDk (i := 2) (nb hB 2 (by decide)) (pv 2)))))))))
theorem has_possible (fa : Fa K w mg base) (h_ring : HasP P w K mg base 3 "ring" 1 f_ring) (h_links_in : HasP P w K mg base 2 "links_in" 1 f_links_in) (F : FnAt K mg "possible" s_possible) : HasP P w K mg base 4 "possible" 1 f_possible := by
  obtain ⟨f, fd, F, hm⟩ := F
  exact ⟨f, fd, ["rows"], ok_possible fa h_ring h_links_in F, hm, F.kp, F.binds fun _ _ _ _ _ _ us hl => match us, hl with | [_], _ => rfl⟩
abbrev s__law_alike : Stmt := topS 16
abbrev n__law_alike : List Str := ["_law_found", "_law_due"]
theorem sc__law_alike : FnScope n__law_alike ["_law_found", "_law_due"] (defScope s__law_alike) := ⟨rfl, rfl, rfl, by decide +kernel, rfl, by decide +kernel, by decide +kernel⟩
def m__law_alike : En → SRs :=
    (rtS (shD (andD (op2 (.va 0) (.va 1) semEqX) (op2 (.ex (opN [(.va 0)] semRepr)) (.ex (opN [(.va 1)] semRepr)) semEqX))))
def f__law_alike : List D → Option OV := fnP 2 m__law_alike
theorem ok__law_alike {f : Addr} {fd : FuncData} (fa : Fa K w mg base)  (F : Fun K "_law_alike" "_law_alike" s__law_alike f fd) : FnG P w K mg base CX0 1 f fd ["_law_found", "_law_due"] (spP K 2 f__law_alike) := by
  have nd := sc__law_alike.nd
  unfold f__law_alike
  refine fnP_ok (k := 0) (m := m__law_alike) F sc__law_alike rfl rfl fun cdv A outer s H E g hgd hr hB0 hW hWn hxc => ?_
  have hB := nb00 hB0
  unfold m__law_alike
  exact (ds_one (ds_ret (DE.shd (de_and (de_cmp (opd_eqX hr.units) (db_var 0 (pv 0)) (db_var 1 (pv 1)) (nomark _)) (de_one (de_cmp (opd_eqX hr.units) (DE.opd (de_callB (cd_repr hgd hr fa.sy) fa.b_repr (dbs_cons (db_var 0 (pv 0)) dbs_nil))) (DE.opd (de_callB (cd_repr hgd hr fa.sy) fa.b_repr (dbs_cons (db_var 1 (pv 1)) dbs_nil))) (nomark _)))))))
theorem has__law_alike (fa : Fa K w mg base)  (F : FnAt K mg "_law_alike" s__law_alike) : HasP P w K mg base 1 "_law_alike" 2 f__law_alike := by
  obtain ⟨f, fd, F, hm⟩ := F
  exact ⟨f, fd, ["_law_found", "_law_due"], ok__law_alike fa  F, hm, F.kp, F.binds fun _ _ _ _ _ _ us hl => match us, hl with | [_, _], _ => rfl⟩
abbrev s_apart : Stmt := topS 11
abbrev n_apart : List Str := ["rows", "atom", "relation", "values"]
theorem sc_apart : FnScope n_apart ["rows", "atom"] (defScope s_apart) := ⟨rfl, rfl, rfl, by decide +kernel, rfl, by decide +kernel, by decide +kernel⟩
abbrev it_apart_1 : En → Rs (List D) := (itA (tabD c_OTHERS (.ex (op2 (.va 1) (.ex (cD (.int 0))) semAt))))
abbrev bd_apart_1 : En → SRs := (seqS (setS 3 (callP 1 f_possible [(op2 (.va 0) (.ex (frzD (lstD [(tupD [(cD (.str "not")), (tupD [(tupZ (cnZ (vD 2) (stZ (slD (.va 1) (poS (cD (.int 1))) poN semSl) nlZ)))])])]))) semAdd)]))
    (ifS (toB (op2 (.va 3) (.ex (cD .non)) semIsNot)) (rtS (mvD 3)) nxS))
abbrev fr_apart_1 : En → SRs := forD it_apart_1 (gN 2) bd_apart_1
def m_apart : En → SRs :=
    (seqS fr_apart_1
    (rtS (shD (cD .non))))
def f_apart : List D → Option OV := fnP 4 m_apart
theorem ok_apart {f : Addr} {fd : FuncData} (fa : Fa K w mg base) (h_possible : HasP P w K mg base 4 "possible" 1 f_possible) (F : Fun K "apart" "apart" s_apart f fd) : FnG P w K mg base CX0 5 f fd ["rows", "atom"] (spP K 2 f_apart) := by
  have nd := sc_apart.nd
  unfold f_apart
  refine fnP_ok (k := 4) (m := m_apart) F sc_apart rfl rfl fun cdv A outer s H E g hgd hr hB0 hW hWn hxc => ?_
  have hB := nb00 hB0
  unfold m_apart
  exact (ds_cons (ds_for PassesOwn.never rfl (di_any (de_tab fa.t_OTHERS fa.m_OTHERS (DE.opd (de_ix (ixAt (u65 hr)) (db_var 1 (pv 1)) (DE.opd de_int) (fun _ _ => rfl))))) (dg_name (i := 2) (nb hB 2 (by decide)) nd) (ds_cons (ds_set (i := 3) (nb hB 3 (by decide)) nd (do_callP h_possible hgd (hr.mono (by decide)) (da_cons (de_op opd_add (db_var 0 (pv 0)) (DE.opd (DO.fz (do_lst (da_cons (de_tup (da_cons de_str (da_cons (de_tup (da_cons (de_tupZ (dz_cons (de_var 2 (nb hB 2 (by decide)) (pv 2)) (dz_star (de_slice (db_var 1 (pv 1)) (dpo_some de_int) dpo_none) dz_nil))) da_nil)) da_nil))) da_nil))))) da_nil)))
    (ds_one (ds_if (dt_cmp opd_isNot (db_var 3 (pv 3)) (DE.opd de_non) (nomark _)) (ds_one (ds_ret (do_var 3 (nb hB 3 (by decide)) (pv 3)))) ds_nil))))
    (ds_one (ds_ret (DE.shd de_non))))
theorem has_apart (fa : Fa K w mg base) (h_possible : HasP P w K mg base 4 "possible" 1 f_possible) (F : FnAt K mg "apart" s_apart) : HasP P w K mg base 5 "apart" 2 f_apart := by
  obtain ⟨f, fd, F, hm⟩ := F
  exact ⟨f, fd, ["rows", "atom"], ok_apart fa h_possible F, hm, F.kp, F.binds fun _ _ _ _ _ _ us hl => match us, hl with | [_, _], _ => rfl⟩
abbrev s_follows : Stmt := topS 12
abbrev n_follows : List Str := ["rows", "atom"]
theorem sc_follows : FnScope n_follows ["rows", "atom"] (defScope s_follows) := ⟨rfl, rfl, rfl, by decide +kernel, rfl, by decide +kernel, by decide +kernel⟩
def m_follows : En → SRs :=
    (rtS (shD (op2 (.ex (frzD (callP 2 f_apart [(vD 0), (vD 1)]))) (.ex (cD .non)) semIs)))
def f_follows : List D → Option OV := fnP 2 m_follows
theorem ok_follows {f : Addr} {fd : FuncData} (fa : Fa K w mg base) (h_apart : HasP P w K mg base 5 "apart" 2 f_apart) (F : Fun K "follows" "follows" s_follows f fd) : FnG P w K mg base CX0 6 f fd ["rows", "atom"] (spP K 2 f_follows) := by
  have nd := sc_follows.nd
  unfold f_follows
  refine fnP_ok (k := 5) (m := m_follows) F sc_follows rfl rfl fun cdv A outer s H E g hgd hr hB0 hW hWn hxc => ?_
  have hB := nb00 hB0
  unfold m_follows
  exact (ds_one (ds_ret (DE.shd (de_cmp opd_is (DE.opd (DO.fz (do_callP h_apart hgd (hr.mono (by decide)) (da_cons (de_var 0 (nb hB 0 (by decide)) (pv 0)) (da_cons (de_var 1 (nb hB 1 (by decide)) (pv 1)) da_nil))))) (DE.opd de_non) (nomark _)))))
theorem has_follows (fa : Fa K w mg base) (h_apart : HasP P w K mg base 5 "apart" 2 f_apart) (F : FnAt K mg "follows" s_follows) : HasP P w K mg base 6 "follows" 2 f_follows := by
  obtain ⟨f, fd, F, hm⟩ := F
  exact ⟨f, fd, ["rows", "atom"], ok_follows fa h_apart F, hm, F.kp, F.binds fun _ _ _ _ _ _ us hl => match us, hl with | [_, _], _ => rfl⟩
abbrev s_holds : Stmt := topS 5
abbrev n_holds : List Str := ["atom", "values", "relation", "left", "right"]
theorem sc_holds : FnScope n_holds ["atom", "values"] (defScope s_holds) := ⟨rfl, rfl, rfl, by decide +kernel, rfl, by decide +kernel, by decide +kernel⟩
def m_holds : En → SRs :=
    (seqS (asgS (vD 0) (gT 3 (gsCons (gN 2) (gsCons (gN 3) (gsCons (gN 4) gsNil)))))
    (seqS (ifS (toB (op2 (.va 2) (.ex (cD (.str "eq"))) semEq)) (rtS (shD (op2 (.ex (op2 (.va 1) (.va 3) semAt)) (.ex (op2 (.va 1) (.va 4) semAt)) semEq))) nxS)
    (rtS (shD (ifD (toB (op2 (.va 2) (.ex (cD (.str "lt"))) semEq)) (op2 (.ex (op2 (.va 1) (.va 3) semAt)) (.ex (op2 (.va 1) (.va 4) semAt)) semLt) (op2 (.ex (op2 (.va 1) (.va 3) semAt)) (.ex (op2 (.va 1) (.va 4) semAt)) semGt))))))
def f_holds : List D → Option OV := fnP 5 m_holds
theorem ok_holds {f : Addr} {fd : FuncData} (fa : Fa K w mg base)  (F : Fun K "holds" "holds" s_holds f fd) : FnG P w K mg base CX0 1 f fd ["atom", "values"] (spP K 2 f_holds) := by
  have nd := sc_holds.nd
  unfold f_holds
  refine fnP_ok (k := 0) (m := m_holds) F sc_holds rfl rfl fun cdv A outer s H E g hgd hr hB0 hW hWn hxc => ?_
  have hB := nb00 hB0
  unfold m_holds
  exact (ds_cons (ds_asg (de_var 0 (nb hB 0 (by decide)) (pv 0)) (dg_tup rfl (dgs_cons (dg_name (i := 2) (nb hB 2 (by decide)) nd) (dgs_cons (dg_name (i := 3) (nb hB 3 (by decide)) nd) (dgs_cons (dg_name (i := 4) (nb hB 4 (by decide)) nd) dgs_nil)))))
    (ds_cons (ds_if (dt_cmp (opd_eq hr.units) (db_var 2 (pv 2)) (DE.opd de_str) (nomark _)) (ds_one (ds_ret (DE.shd (de_cmp (opd_eq hr.units) (DE.opd (de_ix (ixAt (u65 hr)) (db_var 1 (pv 1)) (db_var 3 (pv 3)) (fun _ _ => rfl))) (DE.opd (de_ix (ixAt (u65 hr)) (db_var 1 (pv 1)) (db_var 4 (pv 4)) (fun _ _ => rfl))) (nomark _))))) ds_nil)
    (ds_one (ds_ret (DE.shd (de_if (dt_cmp (opd_eq hr.units) (db_var 2 (pv 2)) (DE.opd de_str) (nomark _)) (de_cmp opd_lt (DE.opd (de_ix (ixAt (u65 hr)) (db_var 1 (pv 1)) (db_var 3 (pv 3)) (fun _ _ => rfl))) (DE.opd (de_ix (ixAt (u65 hr)) (db_var 1 (pv 1)) (db_var 4 (pv 4)) (fun _ _ => rfl))) (nomark _)) (de_cmp opd_gt (DE.opd (de_ix (ixAt (u65 hr)) (db_var 1 (pv 1)) (db_var 3 (pv 3)) (fun _ _ => rfl))) (DE.opd (de_ix (ixAt (u65 hr)) (db_var 1 (pv 1)) (db_var 4 (pv 4)) (fun _ _ => rfl))) (nomark _))))))))
theorem has_holds (fa : Fa K w mg base)  (F : FnAt K mg "holds" s_holds) : HasP P w K mg base 1 "holds" 2 f_holds := by
  obtain ⟨f, fd, F, hm⟩ := F
  exact ⟨f, fd, ["atom", "values"], ok_holds fa  F, hm, F.kp, F.binds fun _ _ _ _ _ _ us hl => match us, hl with | [_, _], _ => rfl⟩
abbrev s_all_hold : Stmt := topS 6
abbrev s_all_hold_sc : Scope := defScope s_all_hold
abbrev n_all_hold : List Str := ["rows", "values", "name", "fact", "atom"]
theorem sc_all_hold : FnScope n_all_hold ["rows", "values"] (defScope s_all_hold) := ⟨rfl, rfl, rfl, by decide +kernel, rfl, by decide +kernel, by decide +kernel⟩
abbrev it_all_hold_1 : En → Rs (List D) := (itA (vD 0))
abbrev it_all_hold_2 : En → Rs (List D) := (itA (vD 3))
abbrev el_all_hold_1 : En → Rs D := (frzD (callP 2 f_holds [(vD 4), (vD 1)]))
abbrev lc_all_hold_1 : En → Rs OV := lc2D it_all_hold_1 [2, 3, 4] (gT 2 (gsCons (gN 2) (gsCons (gN 3) gsNil))) yesT it_all_hold_2 [4] (gN 4) yesT el_all_hold_1
def m_all_hold : En → SRs :=
    (rtS (shD (opN [(.ex (frzD lc_all_hold_1))] semAll)))
def f_all_hold : List D → Option OV := fnP 5 m_all_hold
theorem ok_all_hold {f : Addr} {fd : FuncData} (fa : Fa K w mg base) (h_holds : HasP P w K mg base 1 "holds" 2 f_holds) (F : Fun K "all_hold" "all_hold" s_all_hold f fd) : FnG P w K mg base CX0 2 f fd ["rows", "values"] (spP K 2 f_all_hold) := by
  have nd := sc_all_hold.nd
  unfold f_all_hold
  refine fnP_ok (k := 1) (m := m_all_hold) F sc_all_hold rfl rfl fun cdv A outer s H E g hgd hr hB0 hW hWn hxc => ?_
  have hB := nb00 hB0
  unfold m_all_hold
  exact (ds_one (ds_ret (DE.shd (de_callB (cd_all rfl) fa.b_all (dbs_cons (DE.opd (DO.fz (do_lc2 (own := [("name", 2), ("fact", 3), ("atom", 4)]) (ks := [2, 3]) (ks1 := [4]) (vs1 := [4]) rfl nd (di_any (de_var 0 (nb hB 0 (by decide)) (pv 0))) (blkOk_by (N := n_all_hold) (sc := s_all_hold_sc) (by decide +kernel)) rfl (nbs hB (by decide)) (by decide) (by decide) (by decide) (fun _ _ _ _ _ g1 e1 => (dg_tup rfl (dgs_cons (dg_name (i := 2) (nb (nbt e1 hB) 2 (by decide)) nd) (dgs_cons (dg_name (i := 3) (nb (nbt e1 hB) 3 (by decide)) nd) dgs_nil)))) (fun _ _ _ _ _ g1 e1 => pts_nilD) (fun _ _ _ _ _ g1 e1 => (di_any (de_var 3 (nb (nbt e1 hB) 3 (by decide)) (pv 3)))) (fun _ _ _ _ _ g1 e1 => (dg_name (i := 4) (nb (nbt e1 hB) 4 (by decide)) nd)) (fun _ _ _ _ _ g1 e1 => pts_nilD) (fun _ _ _ _ _ g1 e1 => (DO.fz (do_callP h_holds hgd (hr.mono (by decide)) (da_cons (de_var 4 (nb (nbt e1 hB) 4 (by decide)) (pv 4)) (da_cons (de_var 1 (nb (nbt e1 hB) 1 (by decide)) (pv 1)) da_nil)))))))) dbs_nil)))))
theorem has_all_hold (fa : Fa K w mg base) (h_holds : HasP P w K mg base 1 "holds" 2 f_holds) (F : FnAt K mg "all_hold" s_all_hold) : HasP P w K mg base 2 "all_hold" 2 f_all_hold := by
  obtain ⟨f, fd, F, hm⟩ := F
  exact ⟨f, fd, ["rows", "values"], ok_all_hold fa h_holds F, hm, F.kp, F.binds fun _ _ _ _ _ _ us hl => match us, hl with | [_, _], _ => rfl⟩
abbrev s_law : Stmt := topS 27
abbrev s_law_sc : Scope := defScope s_law
abbrev n_law : List Str := ["_law_script", "_law_bag_here", "_law_turn", "_law_world_here", "_law_things", "_law_every", "_law_k", "_law_rows_here", "_law_good", "_law_values", "_law_j", "_law_atom_here", "_law_due"]
theorem sc_law : FnScope n_law ["_law_script"] (defScope s_law) := ⟨rfl, rfl, rfl, by decide +kernel, rfl, by decide +kernel, by decide +kernel⟩
abbrev it_law_1 : En → Rs (List D) := (itA (vD 5))
abbrev ts_law_1 : En → Rs Bool := (toB (frzD (callP 2 f__law_hold_all [(vD 7), (vD 9)])))
abbrev el_law_1 : En → Rs D := (vD 9)
abbrev lc_law_1 : En → Rs OV := lcD it_law_1 [9] (gN 9) ts_law_1 el_law_1
abbrev it_law_2 : En → Rs (List D) := (itA (slD (.va 8) poN (poS (cD (.int 9))) semSl))
abbrev ts_law_2 : En → Rs Bool := (notT (toB (frzD (callP 2 f_all_hold [(vD 7), (vD 9)]))))
abbrev el_law_2 : En → Rs D := (vD 9)
abbrev lc_law_2 : En → Rs OV := lcD it_law_2 [9] (gN 9) ts_law_2 el_law_2
abbrev it_law_3 : En → Rs (List D) := (itA (vD 8))
abbrev ts_law_3 : En → Rs Bool := (notT (toT (.ex (frzD (callP 2 f__law_holds [(vD 11), (vD 9)])))))
abbrev el_law_3 : En → Rs D := (vD 9)
abbrev lc_law_3 : En → Rs OV := lcD it_law_3 [9] (gN 9) ts_law_3 el_law_3
abbrev it_law_4 : En → Rs (List D) := (itA (slD (.va 8) poN (poS (cD (.int 9))) semSl))
abbrev ts_law_4 : En → Rs Bool := (toB (op2 (.ex (frzD (callP 2 f_holds [(vD 11), (vD 9)]))) (.ex (frzD (callP 2 f__law_holds [(vD 11), (vD 9)]))) semNe))
abbrev el_law_4 : En → Rs D := (vD 9)
abbrev lc_law_4 : En → Rs OV := lcD it_law_4 [9] (gN 9) ts_law_4 el_law_4
abbrev it_law_5 : En → Rs (List D) := (rg1 (cD (.int 4)))
abbrev bd_law_1 : En → SRs := (seqS (setS 11 (shD (frzD (callB 1 f__law_atom 1 [(vD 4)]))))
    (seqS (setS 12 (shD (op2 (.ex (frzD lc_law_3)) (.ex (frzD (lstD []))) semEq)))
    (seqS (ifS (notT (toB (frzD (callP 2 f__law_alike [(frzD (callP 2 f_follows [(vD 7), (vD 11)])), (vD 12)])))) (rtS (shD (cD (.bl false)))) nxS)
    (ifS (toB (op2 (.ex (frzD lc_law_4)) (.ex (frzD (lstD []))) semNe)) (rtS (shD (cD (.bl false)))) nxS))))
abbrev fr_law_1 : En → SRs := forD it_law_5 (gN 10) bd_law_1
abbrev it_law_6 : En → Rs (List D) := (rg1 (cD (.int 4)))
abbrev bd_law_2 : En → SRs := (seqS (setS 7 (shD (frzD (callB 2 f__law_rows 1 [(vD 3), (cD (.int 5))]))))
    (seqS (setS 8 (shD (frzD lc_law_1)))
    (seqS (ifS (toB (op2 (.ex (frzD lc_law_2)) (.ex (frzD (lstD []))) semNe)) (rtS (shD (cD (.bl false)))) nxS)
    (seqS (ifS (toB (op2 (.ex (op2 (.ex (frzD (callP 1 f_possible [(vD 7)]))) (.ex (cD .non)) semIs)) (.ex (op2 (.va 8) (.ex (frzD (lstD []))) semEq)) semNe)) (rtS (shD (cD (.bl false)))) nxS)
    fr_law_1))))
abbrev fr_law_2 : En → SRs := forD it_law_6 (gN 6) bd_law_2
abbrev it_law_7 : En → Rs (List D) := (rg1 (cD (.int 2)))
abbrev bd_law_3 : En → SRs := (seqS (setS 3 (shD (frzD (callB 0 f__law_world 1 []))))
    (seqS (setS 4 (shD (op2 (.va 3) (.ex (cD (.str "things"))) semAt)))
    (seqS (setS 5 (shD (frzD (callP 1 f__law_choices [(vD 4)]))))
    fr_law_2)))
abbrev fr_law_3 : En → SRs := forD it_law_7 (gN 2) bd_law_3
def m_law : En → SRs :=
    (seqS (setS 1 (callP 1 f__law_bag [(vD 0)]))
    (seqS fr_law_3
    (rtS (shD (cD (.bl true))))))
def f_law : List D → Option OV := fnP 13 m_law
theorem ok_law {f : Addr} {fd : FuncData} (fa : Fa K w mg base) (h__law_bag : HasP P w K mg base 1 "_law_bag" 1 f__law_bag) (h__law_world : HasB P w K mg base 3 "_law_world" 0 f__law_world) (h__law_choices : HasP P w K mg base 1 "_law_choices" 1 f__law_choices) (h__law_rows : HasB P w K mg base 6 "_law_rows" 2 f__law_rows) (h__law_hold_all : HasP P w K mg base 2 "_law_hold_all" 2 f__law_hold_all) (h_all_hold : HasP P w K mg base 2 "all_hold" 2 f_all_hold) (h_possible : HasP P w K mg base 4 "possible" 1 f_possible) (h__law_atom : HasB P w K mg base 3 "_law_atom" 1 f__law_atom) (h__law_holds : HasP P w K mg base 1 "_law_holds" 2 f__law_holds) (h__law_alike : HasP P w K mg base 1 "_law_alike" 2 f__law_alike) (h_follows : HasP P w K mg base 6 "follows" 2 f_follows) (h_holds : HasP P w K mg base 1 "holds" 2 f_holds) (F : Fun K "law" "law" s_law f fd) : FnG P w K mg base CX0 7 f fd ["_law_script"] (spP K 1 f_law) := by
  have nd := sc_law.nd
  unfold f_law
  refine fnP_ok (k := 6) (m := m_law) F sc_law rfl rfl fun cdv A outer s H E g hgd hr hB0 hW hWn hxc => ?_
  have hB := nb00 hB0
  unfold m_law
  exact (ds_cons (ds_set (i := 1) (nb hB 1 (by decide)) nd (do_callP h__law_bag hgd (hr.mono (by decide)) (da_cons (de_var 0 (nb hB 0 (by decide)) (pv 0)) da_nil)))
    (ds_cons (ds_for PassesOwn.never rfl (di_range1 rfl fa.b_range de_int) (dg_name (i := 2) (nb hB 2 (by decide)) nd) (ds_cons (ds_set (i := 3) (nb hB 3 (by decide)) nd (DE.shd (DO.fz (do_callB h__law_world hgd (hr.mono (by decide)) (pv 1) da_nil))))
    (ds_cons (ds_set (i := 4) (nb hB 4 (by decide)) nd (DE.shd (de_ix (ixAt (u65 hr)) (db_var 3 (pv 3)) (DE.opd de_str) (fun _ _ => rfl))))
    (ds_cons (ds_set (i := 5) (nb hB 5 (by decide)) nd (DE.shd (DO.fz (do_callP h__law_choices hgd (hr.mono (by decide)) (da_cons (de_var 4 (nb hB 4 (by decide)) (pv 4)) da_nil)))))
    (ds_one (ds_for PassesOwn.never rfl (di_range1 rfl fa.b_range de_int) (dg_name (i := 6) (nb hB 6 (by decide)) nd) (ds_cons (ds_set (i := 7) (nb hB 7 (by decide)) nd (DE.shd (DO.fz (do_callB h__law_rows hgd (hr.mono (by decide)) (pv 1) (da_cons (de_var 3 (nb hB 3 (by decide)) (pv 3)) (da_cons de_int da_nil))))))
    (ds_cons (ds_fz (nb hB 8 (by decide)) lc_nod (ds_setLc (i := 8) (nb hB 8 (by decide)) (own := [("_law_values", 9)]) (ks := [9]) rfl nd (di_any (de_var 5 (nb hB 5 (by decide)) (pv 5))) (blkOk_by (N := n_law) (sc := s_law_sc) (by decide +kernel)) rfl (nbs hB (by decide)) (by decide) (fun _ _ _ _ _ g1 e1 => (dg_name (i := 9) (nb (nbt e1 hB) 9 (by decide)) nd)) (fun _ _ _ _ _ g1 e1 => (pts_oneD (dt_val (DO.fz (do_callP h__law_hold_all hgd (hr.mono (by decide)) (da_cons (de_var 7 (nb (nbt e1 hB) 7 (by decide)) (pv 7)) (da_cons (de_var 9 (nb (nbt e1 hB) 9 (by decide)) (pv 9)) da_nil))))))) (fun _ _ _ _ _ g1 e1 => (de_var 9 (nb (nbt e1 hB) 9 (by decide)) (pv 9))) (sw_true rfl rfl rfl (by decide +kernel))))
    (ds_cons (ds_if (dt_cmp (opd_ne hr.units) (DE.opd (DO.fz (do_lc (own := [("_law_values", 9)]) (ks := [9]) rfl nd (di_any (de_slice (db_var 8 (pv 8)) dpo_none (dpo_some de_int))) (blkOk_by (N := n_law) (sc := s_law_sc) (by decide +kernel)) rfl (nbs hB (by decide)) (by decide) (fun _ _ _ _ _ g1 e1 => (dg_name (i := 9) (nb (nbt e1 hB) 9 (by decide)) nd)) (fun _ _ _ _ _ g1 e1 => (pts_oneD (dt_not (dt_val (DO.fz (do_callP h_all_hold hgd (hr.mono (by decide)) (da_cons (de_var 7 (nb (nbt e1 hB) 7 (by decide)) (pv 7)) (da_cons (de_var 9 (nb (nbt e1 hB) 9 (by decide)) (pv 9)) da_nil)))))))) (fun _ _ _ _ _ g1 e1 => (de_var 9 (nb (nbt e1 hB) 9 (by decide)) (pv 9)))))) (DE.opd (DO.fz (do_lst da_nil))) (nomark _)) (ds_one (ds_ret (DE.shd de_bl))) ds_nil)
    (ds_cons (ds_if (dt_cmp (opd_ne hr.units) (DE.opd (de_cmp opd_is (DE.opd (DO.fz (do_callP h_possible hgd (hr.mono (by decide)) (da_cons (de_var 7 (nb hB 7 (by decide)) (pv 7)) da_nil)))) (DE.opd de_non) (nomark _))) (DE.opd (de_cmp (opd_eq hr.units) (db_var 8 (pv 8)) (DE.opd (DO.fz (do_lst da_nil))) (nomark _))) (nomark _)) (ds_one (ds_ret (DE.shd de_bl))) ds_nil)
    (ds_one (ds_for PassesOwn.never rfl (di_range1 rfl fa.b_range de_int) (dg_name (i := 10) (nb hB 10 (by decide)) nd) (ds_cons (ds_set (i := 11) (nb hB 11 (by decide)) nd (DE.shd (DO.fz (do_callB h__law_atom hgd (hr.mono (by decide)) (pv 1) (da_cons (de_var 4 (nb hB 4 (by decide)) (pv 4)) da_nil)))))
    (ds_cons (ds_set (i := 12) (nb hB 12 (by decide)) nd (DE.shd (de_cmp (opd_eq hr.units) (DE.opd (DO.fz (do_lc (own := [("_law_values", 9)]) (ks := [9]) rfl nd (di_any (de_var 8 (nb hB 8 (by decide)) (pv 8))) (blkOk_by (N := n_law) (sc := s_law_sc) (by decide +kernel)) rfl (nbs hB (by decide)) (by decide) (fun _ _ _ _ _ g1 e1 => (dg_name (i := 9) (nb (nbt e1 hB) 9 (by decide)) nd)) (fun _ _ _ _ _ g1 e1 => (pts_oneD (dt_not (dt_tru (DE.opd (DO.fz (do_callP h__law_holds hgd (hr.mono (by decide)) (da_cons (de_var 11 (nb (nbt e1 hB) 11 (by decide)) (pv 11)) (da_cons (de_var 9 (nb (nbt e1 hB) 9 (by decide)) (pv 9)) da_nil))))))))) (fun _ _ _ _ _ g1 e1 => (de_var 9 (nb (nbt e1 hB) 9 (by decide)) (pv 9)))))) (DE.opd (DO.fz (do_lst da_nil))) (nomark _))))
    (ds_cons (ds_if (dt_not (dt_val (DO.fz (do_callP h__law_alike hgd (hr.mono (by decide)) (da_cons (DO.fz (do_callP h_follows hgd (hr.mono (by decide)) (da_cons (de_var 7 (nb hB 7 (by decide)) (pv 7)) (da_cons (de_var 11 (nb hB 11 (by decide)) (pv 11)) da_nil)))) (da_cons (de_var 12 (nb hB 12 (by decide)) (pv 12)) da_nil)))))) (ds_one (ds_ret (DE.shd de_bl))) ds_nil)
    (ds_one (ds_if (dt_cmp (opd_ne hr.units) (DE.opd (DO.fz (do_lc (own := [("_law_values", 9)]) (ks := [9]) rfl nd (di_any (de_slice (db_var 8 (pv 8)) dpo_none (dpo_some de_int))) (blkOk_by (N := n_law) (sc := s_law_sc) (by decide +kernel)) rfl (nbs hB (by decide)) (by decide) (fun _ _ _ _ _ g1 e1 => (dg_name (i := 9) (nb (nbt e1 hB) 9 (by decide)) nd)) (fun _ _ _ _ _ g1 e1 => (pts_oneD (dt_cmp (opd_ne hr.units) (DE.opd (DO.fz (do_callP h_holds hgd (hr.mono (by decide)) (da_cons (de_var 11 (nb (nbt e1 hB) 11 (by decide)) (pv 11)) (da_cons (de_var 9 (nb (nbt e1 hB) 9 (by decide)) (pv 9)) da_nil))))) (DE.opd (DO.fz (do_callP h__law_holds hgd (hr.mono (by decide)) (da_cons (de_var 11 (nb (nbt e1 hB) 11 (by decide)) (pv 11)) (da_cons (de_var 9 (nb (nbt e1 hB) 9 (by decide)) (pv 9)) da_nil))))) (nomark _)))) (fun _ _ _ _ _ g1 e1 => (de_var 9 (nb (nbt e1 hB) 9 (by decide)) (pv 9)))))) (DE.opd (DO.fz (do_lst da_nil))) (nomark _)) (ds_one (ds_ret (DE.shd de_bl))) ds_nil)))))))))))))))))
    (ds_one (ds_ret (DE.shd de_bl)))))
end
theorem all_mk {l : PySem.W.OpenLaw} {w : World} {K : PySem.W.Frag} {h : Heap} {mg : Str → Option Value} {fz : Addr} (inK : K.In h) (ns : h.Ns mainGlobals mg) (hfz : mg "law" = some (.ref fz))
    {od1 an1 : Option Addr} {sl1 : Array (Option Value)} {oc1 kV1 dc1 pm1 cd1 ct1 : Value} {x1 : Addr}
    {od2 an2 : Option Addr} {sl2 : Array (Option Value)} {oc2 kV2 dc2 pm2 cd2 ct2 : Value} {x2 : Addr}
    {od3 an3 : Option Addr} {sl3 : Array (Option Value)} {oc3 kV3 dc3 pm3 cd3 ct3 : Value} {x3 : Addr}
    {od4 an4 : Option Addr} {sl4 : Array (Option Value)} {oc4 kV4 dc4 pm4 cd4 ct4 : Value} {x4 : Addr}
    {od5 an5 : Option Addr} {sl5 : Array (Option Value)} {oc5 kV5 dc5 pm5 cd5 ct5 : Value} {x5 : Addr}
    {od6 an6 : Option Addr} {sl6 : Array (Option Value)} {oc6 kV6 dc6 pm6 cd6 ct6 : Value} {x6 : Addr}
    {od7 an7 : Option Addr} {sl7 : Array (Option Value)} {oc7 kV7 dc7 pm7 cd7 ct7 : Value} {x7 : Addr}
    {od8 an8 : Option Addr} {sl8 : Array (Option Value)} {oc8 kV8 dc8 pm8 cd8 ct8 : Value} {x8 : Addr}
    {od9 an9 : Option Addr} {sl9 : Array (Option Value)} {oc9 kV9 dc9 pm9 cd9 ct9 : Value} {x9 : Addr}
    {od10 an10 : Option Addr} {sl10 : Array (Option Value)} {oc10 kV10 dc10 pm10 cd10 ct10 : Value} {x10 : Addr}
    {od11 an11 : Option Addr} {sl11 : Array (Option Value)} {oc11 kV11 dc11 pm11 cd11 ct11 : Value} {x11 : Addr}
    {od12 an12 : Option Addr} {sl12 : Array (Option Value)} {oc12 kV12 dc12 pm12 cd12 ct12 : Value} {x12 : Addr}
    {od13 an13 : Option Addr} {sl13 : Array (Option Value)} {oc13 kV13 dc13 pm13 cd13 ct13 : Value} {x13 : Addr}
    {od14 an14 : Option Addr} {sl14 : Array (Option Value)} {oc14 kV14 dc14 pm14 cd14 ct14 : Value} {x14 : Addr}
    {od15 an15 : Option Addr} {sl15 : Array (Option Value)} {oc15 kV15 dc15 pm15 cd15 ct15 : Value} {x15 : Addr}
    {od16 an16 : Option Addr} {sl16 : Array (Option Value)} {oc16 kV16 dc16 pm16 cd16 ct16 : Value} {x16 : Addr}
    {od17 an17 : Option Addr} {sl17 : Array (Option Value)} {oc17 kV17 dc17 pm17 cd17 ct17 : Value} {x17 : Addr}
    {od18 an18 : Option Addr} {sl18 : Array (Option Value)} {oc18 kV18 dc18 pm18 cd18 ct18 : Value} {x18 : Addr}
    {od19 an19 : Option Addr} {sl19 : Array (Option Value)} {oc19 kV19 dc19 pm19 cd19 ct19 : Value} {x19 : Addr}
    {od20 an20 : Option Addr} {sl20 : Array (Option Value)} {oc20 kV20 dc20 pm20 cd20 ct20 : Value} {x20 : Addr}
    {od21 an21 : Option Addr} {sl21 : Array (Option Value)} {oc21 kV21 dc21 pm21 cd21 ct21 : Value} {x21 : Addr}
    {od22 an22 : Option Addr} {sl22 : Array (Option Value)} {oc22 kV22 dc22 pm22 cd22 ct22 : Value} {x22 : Addr}
    {od23 an23 : Option Addr} {sl23 : Array (Option Value)} {oc23 kV23 dc23 pm23 cd23 ct23 : Value} {x23 : Addr}
    (a1 : PySem.W.nsIn K mainGlobals "_law_bag" = some (some (.ref x1))) (l1 : K.lookup x1 = some ⟨oc1, od1, .func (PySem.W.fnOf "_law_bag" "_law_bag" (defArgs s__law_bag) (defBody s__law_bag) (defScope s__law_bag) .none kV1 dc1 pm1 an1 cd1 ct1), sl1⟩) (c1 : PySem.W.codeIn K cd1 "_law_bag" = true) (k1 : PySem.W.keepIn K (.ref x1) = true)
    (a2 : PySem.W.nsIn K mainGlobals "_law_take" = some (some (.ref x2))) (l2 : K.lookup x2 = some ⟨oc2, od2, .func (PySem.W.fnOf "_law_take" "_law_take" (defArgs s__law_take) (defBody s__law_take) (defScope s__law_take) .none kV2 dc2 pm2 an2 cd2 ct2), sl2⟩) (c2 : PySem.W.codeIn K cd2 "_law_take" = true) (k2 : PySem.W.keepIn K (.ref x2) = true)
    (a3 : PySem.W.nsIn K mainGlobals "_law_names" = some (some (.ref x3))) (l3 : K.lookup x3 = some ⟨oc3, od3, .func (PySem.W.fnOf "_law_names" "_law_names" (defArgs s__law_names) (defBody s__law_names) (defScope s__law_names) .none kV3 dc3 pm3 an3 cd3 ct3), sl3⟩) (c3 : PySem.W.codeIn K cd3 "_law_names" = true) (k3 : PySem.W.keepIn K (.ref x3) = true)
    (a4 : PySem.W.nsIn K mainGlobals "_law_world" = some (some (.ref x4))) (l4 : K.lookup x4 = some ⟨oc4, od4, .func (PySem.W.fnOf "_law_world" "_law_world" (defArgs s__law_world) (defBody s__law_world) (defScope s__law_world) .none kV4 dc4 pm4 an4 cd4 ct4), sl4⟩) (c4 : PySem.W.codeIn K cd4 "_law_world" = true) (k4 : PySem.W.keepIn K (.ref x4) = true)
    (a5 : PySem.W.nsIn K mainGlobals "_law_choices" = some (some (.ref x5))) (l5 : K.lookup x5 = some ⟨oc5, od5, .func (PySem.W.fnOf "_law_choices" "_law_choices" (defArgs s__law_choices) (defBody s__law_choices) (defScope s__law_choices) .none kV5 dc5 pm5 an5 cd5 ct5), sl5⟩) (c5 : PySem.W.codeIn K cd5 "_law_choices" = true) (k5 : PySem.W.keepIn K (.ref x5) = true)
    (a6 : PySem.W.nsIn K mainGlobals "_law_some" = some (some (.ref x6))) (l6 : K.lookup x6 = some ⟨oc6, od6, .func (PySem.W.fnOf "_law_some" "_law_some" (defArgs s__law_some) (defBody s__law_some) (defScope s__law_some) .none kV6 dc6 pm6 an6 cd6 ct6), sl6⟩) (c6 : PySem.W.codeIn K cd6 "_law_some" = true) (k6 : PySem.W.keepIn K (.ref x6) = true)
    (a7 : PySem.W.nsIn K mainGlobals "_law_atom" = some (some (.ref x7))) (l7 : K.lookup x7 = some ⟨oc7, od7, .func (PySem.W.fnOf "_law_atom" "_law_atom" (defArgs s__law_atom) (defBody s__law_atom) (defScope s__law_atom) .none kV7 dc7 pm7 an7 cd7 ct7), sl7⟩) (c7 : PySem.W.codeIn K cd7 "_law_atom" = true) (k7 : PySem.W.keepIn K (.ref x7) = true)
    (a8 : PySem.W.nsIn K mainGlobals "_law_fact" = some (some (.ref x8))) (l8 : K.lookup x8 = some ⟨oc8, od8, .func (PySem.W.fnOf "_law_fact" "_law_fact" (defArgs s__law_fact) (defBody s__law_fact) (defScope s__law_fact) .none kV8 dc8 pm8 an8 cd8 ct8), sl8⟩) (c8 : PySem.W.codeIn K cd8 "_law_fact" = true) (k8 : PySem.W.keepIn K (.ref x8) = true)
    (a9 : PySem.W.nsIn K mainGlobals "_law_row" = some (some (.ref x9))) (l9 : K.lookup x9 = some ⟨oc9, od9, .func (PySem.W.fnOf "_law_row" "_law_row" (defArgs s__law_row) (defBody s__law_row) (defScope s__law_row) .none kV9 dc9 pm9 an9 cd9 ct9), sl9⟩) (c9 : PySem.W.codeIn K cd9 "_law_row" = true) (k9 : PySem.W.keepIn K (.ref x9) = true)
    (a10 : PySem.W.nsIn K mainGlobals "_law_rows" = some (some (.ref x10))) (l10 : K.lookup x10 = some ⟨oc10, od10, .func (PySem.W.fnOf "_law_rows" "_law_rows" (defArgs s__law_rows) (defBody s__law_rows) (defScope s__law_rows) .none kV10 dc10 pm10 an10 cd10 ct10), sl10⟩) (c10 : PySem.W.codeIn K cd10 "_law_rows" = true) (k10 : PySem.W.keepIn K (.ref x10) = true)
    (a11 : PySem.W.nsIn K mainGlobals "_law_holds" = some (some (.ref x11))) (l11 : K.lookup x11 = some ⟨oc11, od11, .func (PySem.W.fnOf "_law_holds" "_law_holds" (defArgs s__law_holds) (defBody s__law_holds) (defScope s__law_holds) .none kV11 dc11 pm11 an11 cd11 ct11), sl11⟩) (c11 : PySem.W.codeIn K cd11 "_law_holds" = true) (k11 : PySem.W.keepIn K (.ref x11) = true)
    (a12 : PySem.W.nsIn K mainGlobals "_law_hold_all" = some (some (.ref x12))) (l12 : K.lookup x12 = some ⟨oc12, od12, .func (PySem.W.fnOf "_law_hold_all" "_law_hold_all" (defArgs s__law_hold_all) (defBody s__law_hold_all) (defScope s__law_hold_all) .none kV12 dc12 pm12 an12 cd12 ct12), sl12⟩) (c12 : PySem.W.codeIn K cd12 "_law_hold_all" = true) (k12 : PySem.W.keepIn K (.ref x12) = true)
    (a13 : PySem.W.nsIn K mainGlobals "turned" = some (some (.ref x13))) (l13 : K.lookup x13 = some ⟨oc13, od13, .func (PySem.W.fnOf "turned" "turned" (defArgs s_turned) (defBody s_turned) (defScope s_turned) .none kV13 dc13 pm13 an13 cd13 ct13), sl13⟩) (c13 : PySem.W.codeIn K cd13 "turned" = true) (k13 : PySem.W.keepIn K (.ref x13) = true)
    (a14 : PySem.W.nsIn K mainGlobals "links_in" = some (some (.ref x14))) (l14 : K.lookup x14 = some ⟨oc14, od14, .func (PySem.W.fnOf "links_in" "links_in" (defArgs s_links_in) (defBody s_links_in) (defScope s_links_in) .none kV14 dc14 pm14 an14 cd14 ct14), sl14⟩) (c14 : PySem.W.codeIn K cd14 "links_in" = true) (k14 : PySem.W.keepIn K (.ref x14) = true)
    (a15 : PySem.W.nsIn K mainGlobals "shortest_links" = some (some (.ref x15))) (l15 : K.lookup x15 = some ⟨oc15, od15, .func (PySem.W.fnOf "shortest_links" "shortest_links" (defArgs s_shortest_links) (defBody s_shortest_links) (defScope s_shortest_links) .none kV15 dc15 pm15 an15 cd15 ct15), sl15⟩) (c15 : PySem.W.codeIn K cd15 "shortest_links" = true) (k15 : PySem.W.keepIn K (.ref x15) = true)
    (a16 : PySem.W.nsIn K mainGlobals "ring" = some (some (.ref x16))) (l16 : K.lookup x16 = some ⟨oc16, od16, .func (PySem.W.fnOf "ring" "ring" (defArgs s_ring) (defBody s_ring) (defScope s_ring) .none kV16 dc16 pm16 an16 cd16 ct16), sl16⟩) (c16 : PySem.W.codeIn K cd16 "ring" = true) (k16 : PySem.W.keepIn K (.ref x16) = true)
    (a17 : PySem.W.nsIn K mainGlobals "possible" = some (some (.ref x17))) (l17 : K.lookup x17 = some ⟨oc17, od17, .func (PySem.W.fnOf "possible" "possible" (defArgs s_possible) (defBody s_possible) (defScope s_possible) .none kV17 dc17 pm17 an17 cd17 ct17), sl17⟩) (c17 : PySem.W.codeIn K cd17 "possible" = true) (k17 : PySem.W.keepIn K (.ref x17) = true)
    (a18 : PySem.W.nsIn K mainGlobals "_law_alike" = some (some (.ref x18))) (l18 : K.lookup x18 = some ⟨oc18, od18, .func (PySem.W.fnOf "_law_alike" "_law_alike" (defArgs s__law_alike) (defBody s__law_alike) (defScope s__law_alike) .none kV18 dc18 pm18 an18 cd18 ct18), sl18⟩) (c18 : PySem.W.codeIn K cd18 "_law_alike" = true) (k18 : PySem.W.keepIn K (.ref x18) = true)
    (a19 : PySem.W.nsIn K mainGlobals "apart" = some (some (.ref x19))) (l19 : K.lookup x19 = some ⟨oc19, od19, .func (PySem.W.fnOf "apart" "apart" (defArgs s_apart) (defBody s_apart) (defScope s_apart) .none kV19 dc19 pm19 an19 cd19 ct19), sl19⟩) (c19 : PySem.W.codeIn K cd19 "apart" = true) (k19 : PySem.W.keepIn K (.ref x19) = true)
    (a20 : PySem.W.nsIn K mainGlobals "follows" = some (some (.ref x20))) (l20 : K.lookup x20 = some ⟨oc20, od20, .func (PySem.W.fnOf "follows" "follows" (defArgs s_follows) (defBody s_follows) (defScope s_follows) .none kV20 dc20 pm20 an20 cd20 ct20), sl20⟩) (c20 : PySem.W.codeIn K cd20 "follows" = true) (k20 : PySem.W.keepIn K (.ref x20) = true)
    (a21 : PySem.W.nsIn K mainGlobals "holds" = some (some (.ref x21))) (l21 : K.lookup x21 = some ⟨oc21, od21, .func (PySem.W.fnOf "holds" "holds" (defArgs s_holds) (defBody s_holds) (defScope s_holds) .none kV21 dc21 pm21 an21 cd21 ct21), sl21⟩) (c21 : PySem.W.codeIn K cd21 "holds" = true) (k21 : PySem.W.keepIn K (.ref x21) = true)
    (a22 : PySem.W.nsIn K mainGlobals "all_hold" = some (some (.ref x22))) (l22 : K.lookup x22 = some ⟨oc22, od22, .func (PySem.W.fnOf "all_hold" "all_hold" (defArgs s_all_hold) (defBody s_all_hold) (defScope s_all_hold) .none kV22 dc22 pm22 an22 cd22 ct22), sl22⟩) (c22 : PySem.W.codeIn K cd22 "all_hold" = true) (k22 : PySem.W.keepIn K (.ref x22) = true)
    (a23 : PySem.W.nsIn K mainGlobals "law" = some (some (.ref x23))) (l23 : K.lookup x23 = some ⟨oc23, od23, .func (PySem.W.fnOf "law" "law" (defArgs s_law) (defBody s_law) (defScope s_law) .none kV23 dc23 pm23 an23 cd23 ct23), sl23⟩) (c23 : PySem.W.codeIn K cd23 "law" = true) (k23 : PySem.W.keepIn K (.ref x23) = true)
    {d_BACK : Addr} {es_BACK : Array DictEntry} {n_BACK : Nat}
    (da_BACK : PySem.W.nsIn K mainGlobals "BACK" = some (some (.ref d_BACK))) (dl_BACK : K.lookup d_BACK = some ⟨.type "dict", none, .dict es_BACK n_BACK, #[]⟩) (dk_BACK : PySem.W.KeysLit w.params es_BACK.toList)
    {dt_BACK_0 : Tok} (dv_BACK_0 : PySem.W.nsIn K d_BACK "eq" = some (some (.str "eq" dt_BACK_0)))
    {dt_BACK_1 : Tok} (dv_BACK_1 : PySem.W.nsIn K d_BACK "lt" = some (some (.str "gt" dt_BACK_1)))
    {dt_BACK_2 : Tok} (dv_BACK_2 : PySem.W.nsIn K d_BACK "gt" = some (some (.str "lt" dt_BACK_2)))
    {dt_BACK_3 : Tok} (dv_BACK_3 : PySem.W.nsIn K d_BACK "" = some (some (.str "" dt_BACK_3)))
    {d_OTHERS : Addr} {es_OTHERS : Array DictEntry} {n_OTHERS : Nat}
    (da_OTHERS : PySem.W.nsIn K mainGlobals "OTHERS" = some (some (.ref d_OTHERS))) (dl_OTHERS : K.lookup d_OTHERS = some ⟨.type "dict", none, .dict es_OTHERS n_OTHERS, #[]⟩) (dk_OTHERS : PySem.W.KeysLit w.params es_OTHERS.toList)
    {dx_OTHERS_0 : Addr} {do_OTHERS_0 : Option Addr} {dn_OTHERS_0 : Nat} {ds_OTHERS_0 : Array (Option Value)} {dt_OTHERS_0_0 : Tok} {dt_OTHERS_0_1 : Tok} (dv_OTHERS_0 : PySem.W.nsIn K d_OTHERS "eq" = some (some (.ref dx_OTHERS_0))) (dw_OTHERS_0 : K.lookup dx_OTHERS_0 = some ⟨.type "tuple", do_OTHERS_0, .seq (List.toArray [.str "lt" dt_OTHERS_0_0, .str "gt" dt_OTHERS_0_1]) dn_OTHERS_0, ds_OTHERS_0⟩)
    {dx_OTHERS_1 : Addr} {do_OTHERS_1 : Option Addr} {dn_OTHERS_1 : Nat} {ds_OTHERS_1 : Array (Option Value)} {dt_OTHERS_1_0 : Tok} {dt_OTHERS_1_1 : Tok} (dv_OTHERS_1 : PySem.W.nsIn K d_OTHERS "lt" = some (some (.ref dx_OTHERS_1))) (dw_OTHERS_1 : K.lookup dx_OTHERS_1 = some ⟨.type "tuple", do_OTHERS_1, .seq (List.toArray [.str "eq" dt_OTHERS_1_0, .str "gt" dt_OTHERS_1_1]) dn_OTHERS_1, ds_OTHERS_1⟩)
    {dx_OTHERS_2 : Addr} {do_OTHERS_2 : Option Addr} {dn_OTHERS_2 : Nat} {ds_OTHERS_2 : Array (Option Value)} {dt_OTHERS_2_0 : Tok} {dt_OTHERS_2_1 : Tok} (dv_OTHERS_2 : PySem.W.nsIn K d_OTHERS "gt" = some (some (.ref dx_OTHERS_2))) (dw_OTHERS_2 : K.lookup dx_OTHERS_2 = some ⟨.type "tuple", do_OTHERS_2, .seq (List.toArray [.str "eq" dt_OTHERS_2_0, .str "lt" dt_OTHERS_2_1]) dn_OTHERS_2, ds_OTHERS_2⟩)
    (z_abs : PySem.W.nsIn K mainGlobals "abs" = some none)
    (z_all : PySem.W.nsIn K mainGlobals "all" = some none)
    (z_dict : PySem.W.nsIn K mainGlobals "dict" = some none)
    (z_enumerate : PySem.W.nsIn K mainGlobals "enumerate" = some none)
    (z_int : PySem.W.nsIn K mainGlobals "int" = some none)
    (z_len : PySem.W.nsIn K mainGlobals "len" = some none)
    (z_max : PySem.W.nsIn K mainGlobals "max" = some none)
    (z_range : PySem.W.nsIn K mainGlobals "range" = some none)
    (z_repr : PySem.W.nsIn K mainGlobals "repr" = some none)
    (z_sorted : PySem.W.nsIn K mainGlobals "sorted" = some none)
    (z_tuple : PySem.W.nsIn K mainGlobals "tuple" = some none) :
    ∃ fd : FuncData, (∀ (s : Shared) (v : Value), BindsTo s fd ⟨[v], []⟩ [("_law_script", v)]) ∧ ∀ base : Heap, K.In base → base.Ns mainGlobals mg → SysAt base → FnG l.prog w K mg base CX0 7 fz fd ["_law_script"] (spP K 1 f_law) := by
  have ez := hfz.symm.trans (PySem.W.mg_of inK ns a23)
  cases ez
  have F1 := fun_mk (st := s__law_bag) l1 c1 k1
  have F2 := fun_mk (st := s__law_take) l2 c2 k2
  have F3 := fun_mk (st := s__law_names) l3 c3 k3
  have F4 := fun_mk (st := s__law_world) l4 c4 k4
  have F5 := fun_mk (st := s__law_choices) l5 c5 k5
  have F6 := fun_mk (st := s__law_some) l6 c6 k6
  have F7 := fun_mk (st := s__law_atom) l7 c7 k7
  have F8 := fun_mk (st := s__law_fact) l8 c8 k8
  have F9 := fun_mk (st := s__law_row) l9 c9 k9
  have F10 := fun_mk (st := s__law_rows) l10 c10 k10
  have F11 := fun_mk (st := s__law_holds) l11 c11 k11
  have F12 := fun_mk (st := s__law_hold_all) l12 c12 k12
  have F13 := fun_mk (st := s_turned) l13 c13 k13
  have F14 := fun_mk (st := s_links_in) l14 c14 k14
  have F15 := fun_mk (st := s_shortest_links) l15 c15 k15
  have F16 := fun_mk (st := s_ring) l16 c16 k16
  have F17 := fun_mk (st := s_possible) l17 c17 k17
  have F18 := fun_mk (st := s__law_alike) l18 c18 k18
  have F19 := fun_mk (st := s_apart) l19 c19 k19
  have F20 := fun_mk (st := s_follows) l20 c20 k20
  have F21 := fun_mk (st := s_holds) l21 c21 k21
  have F22 := fun_mk (st := s_all_hold) l22 c22 k22
  have F23 := fun_mk (st := s_law) l23 c23 k23
  refine ⟨PySem.W.fnOf "law" "law" (defArgs s_law) (defBody s_law) (defScope s_law) .none kV23 dc23 pm23 an23 cd23 ct23, fun s v => .of_eq rfl, fun base _ _ sy => ?_⟩
  have fa : Fa K w mg base := {
    sy := sy,
    a_BACK := d_BACK,
    m_BACK := PySem.W.mg_of inK ns da_BACK,
    t_BACK := tab_of dl_BACK dk_BACK [("eq", "eq"), ("lt", "gt"), ("gt", "lt"), ("", "")] ⟨⟨_, dv_BACK_0⟩, ⟨_, dv_BACK_1⟩, ⟨_, dv_BACK_2⟩, ⟨_, dv_BACK_3⟩, trivial⟩,
    a_OTHERS := d_OTHERS,
    m_OTHERS := PySem.W.mg_of inK ns da_OTHERS,
    t_OTHERS := tab_ofV dl_OTHERS dk_OTHERS c_OTHERS ⟨⟨_, .ref dx_OTHERS_0, dv_OTHERS_0, rfl, fun F => .tup (xs := [.str "lt", .str "gt"]) (.inr ⟨_, _, dn_OTHERS_0, dw_OTHERS_0, rfl, rfl, by show 2 ≤ sizeLine; decide, (.cons ⟨_, rfl⟩ (.cons ⟨_, rfl⟩ .nil))⟩) (.cons (.str _) (.cons (.str _) .nil))⟩, ⟨_, .ref dx_OTHERS_1, dv_OTHERS_1, rfl, fun F => .tup (xs := [.str "eq", .str "gt"]) (.inr ⟨_, _, dn_OTHERS_1, dw_OTHERS_1, rfl, rfl, by show 2 ≤ sizeLine; decide, (.cons ⟨_, rfl⟩ (.cons ⟨_, rfl⟩ .nil))⟩) (.cons (.str _) (.cons (.str _) .nil))⟩, ⟨_, .ref dx_OTHERS_2, dv_OTHERS_2, rfl, fun F => .tup (xs := [.str "eq", .str "lt"]) (.inr ⟨_, _, dn_OTHERS_2, dw_OTHERS_2, rfl, rfl, by show 2 ≤ sizeLine; decide, (.cons ⟨_, rfl⟩ (.cons ⟨_, rfl⟩ .nil))⟩) (.cons (.str _) (.cons (.str _) .nil))⟩, trivial⟩,
    b_abs := PySem.W.mg_none_of inK ns z_abs,
    b_all := PySem.W.mg_none_of inK ns z_all,
    b_dict := PySem.W.mg_none_of inK ns z_dict,
    b_enumerate := PySem.W.mg_none_of inK ns z_enumerate,
    b_int := PySem.W.mg_none_of inK ns z_int,
    b_len := PySem.W.mg_none_of inK ns z_len,
    b_max := PySem.W.mg_none_of inK ns z_max,
    b_range := PySem.W.mg_none_of inK ns z_range,
    b_repr := PySem.W.mg_none_of inK ns z_repr,
    b_sorted := PySem.W.mg_none_of inK ns z_sorted,
    b_tuple := PySem.W.mg_none_of inK ns z_tuple }
  have h__law_bag := has__law_bag (P := l.prog) (base := base) fa  ⟨_, _, F1, PySem.W.mg_of inK ns a1⟩
  have h__law_take := has__law_take (P := l.prog) (base := base) fa  ⟨_, _, F2, PySem.W.mg_of inK ns a2⟩
  have h__law_names := has__law_names (P := l.prog) (base := base) fa h__law_take ⟨_, _, F3, PySem.W.mg_of inK ns a3⟩
  have h__law_world := has__law_world (P := l.prog) (base := base) fa h__law_names h__law_take ⟨_, _, F4, PySem.W.mg_of inK ns a4⟩
  have h__law_choices := has__law_choices (P := l.prog) (base := base) fa  ⟨_, _, F5, PySem.W.mg_of inK ns a5⟩
  have h__law_some := has__law_some (P := l.prog) (base := base) fa h__law_take ⟨_, _, F6, PySem.W.mg_of inK ns a6⟩
  have h__law_atom := has__law_atom (P := l.prog) (base := base) fa h__law_take h__law_some ⟨_, _, F7, PySem.W.mg_of inK ns a7⟩
  have h__law_fact := has__law_fact (P := l.prog) (base := base) fa h__law_take h__law_atom ⟨_, _, F8, PySem.W.mg_of inK ns a8⟩
  have h__law_row := has__law_row (P := l.prog) (base := base) fa h__law_some h__law_fact ⟨_, _, F9, PySem.W.mg_of inK ns a9⟩
  have h__law_rows := has__law_rows (P := l.prog) (base := base) fa h__law_take h__law_row ⟨_, _, F10, PySem.W.mg_of inK ns a10⟩
  have h__law_holds := has__law_holds (P := l.prog) (base := base) fa  ⟨_, _, F11, PySem.W.mg_of inK ns a11⟩
  have h__law_hold_all := has__law_hold_all (P := l.prog) (base := base) fa h__law_holds ⟨_, _, F12, PySem.W.mg_of inK ns a12⟩
  have h_turned := has_turned (P := l.prog) (base := base) fa  ⟨_, _, F13, PySem.W.mg_of inK ns a13⟩
  have h_links_in := has_links_in (P := l.prog) (base := base) fa h_turned ⟨_, _, F14, PySem.W.mg_of inK ns a14⟩
  have h_shortest_links := has_shortest_links (P := l.prog) (base := base) fa  ⟨_, _, F15, PySem.W.mg_of inK ns a15⟩
  have h_ring := has_ring (P := l.prog) (base := base) fa h_links_in h_shortest_links ⟨_, _, F16, PySem.W.mg_of inK ns a16⟩
  have h_possible := has_possible (P := l.prog) (base := base) fa h_ring h_links_in ⟨_, _, F17, PySem.W.mg_of inK ns a17⟩
  have h__law_alike := has__law_alike (P := l.prog) (base := base) fa  ⟨_, _, F18, PySem.W.mg_of inK ns a18⟩
  have h_apart := has_apart (P := l.prog) (base := base) fa h_possible ⟨_, _, F19, PySem.W.mg_of inK ns a19⟩
  have h_follows := has_follows (P := l.prog) (base := base) fa h_apart ⟨_, _, F20, PySem.W.mg_of inK ns a20⟩
  have h_holds := has_holds (P := l.prog) (base := base) fa  ⟨_, _, F21, PySem.W.mg_of inK ns a21⟩
  have h_all_hold := has_all_hold (P := l.prog) (base := base) fa h_holds ⟨_, _, F22, PySem.W.mg_of inK ns a22⟩
  exact ok_law fa h__law_bag h__law_world h__law_choices h__law_rows h__law_hold_all h_all_hold h_possible h__law_atom h__law_holds h__law_alike h_follows h_holds F23
end T

-- needs: _law_bag _law_take
namespace T
open PySem L2 DL
/-! ### the bag -/
structure BagOk (bs : List D) : Prop where
  ex : ∃ (b0 b1 b2 : Int) (cs : List Int), bs = [.int b0, .int b1, .int b2, .lst (cs.map D.int)] ∧ 0 ≤ b0 ∧ 0 ≤ b1 ∧ b1 < 2147483647 ∧ 0 ≤ b2 ∧ (∀ c ∈ cs, 0 ≤ c) ∧ cs.length ≤ 63
set_option maxHeartbeats 2000000 in
theorem take1 (b0 b1 b2 n : Int) (cs : List Int) (h0 : 0 < b0) (hn : 0 < n) (hn2 : n < 1073741824) : f__law_take [.int b0, .int b1, .int b2, .lst (cs.map D.int)] [.int n] = some (.sh (.int (b0 % n)), [.int (b0 / n), .int b1, .int b2, .lst (cs.map D.int)]) := by
  have e0 : b0 ≠ 0 := by omega
  simp [f__law_take, m__law_take, fnB, fnP, Rs.noE, startE, seqS, ifS, thenS, toB, op2, opN, op1, Opd.run, fill, lookV, look, Rs.bind, Rs.map, ofO, cD, vD, semIx, semEq, semNe, eqB, D.sc, D.asB, atI, ixN, semGt, semGe, semLt, semLe, setS, putS, DL.putF, shD, frzD, mvD, rtS, chgS, fillW, OV.lst?, OV.d, nxS, runs, looks, semInt, semMod, semFdiv, semAdd, semSub, semMul, semAbs, semLen, semTuple, semList, lstD, tupD, evs, callP, callB, slD, poN, poS, semSl, D.asI, appS, appF, extS, extF, augS, augF, exS, ifD, andT, orT, notT, notD, andD, orD, par2, par3, asgS, gN, gT, gsCons, gsNil, forD, rg1, rg2, itA, D.items, zpD, zip2, zipD, lcD, yesT, wipeE, m1D, tabD, semIs, semIsNot, D.isN, semAt, semIn2, semNotIn2, inB2, toT, orV, andV, notV, D.tru, chD, isiD, D.isi, D.ty, isTy, D.key, evPs, dicD, semDict, pairD, mergeD, putD, valD, semRepr, callL, op2O, slO, opNO, lrgO, OV.flt, D.flt, semAddL, semMulL, semListL, mLD, popF, popS, insF, insS, clrS, revO, e0, h0, hn, hn2]
set_option maxHeartbeats 4000000 in
theorem take0 (b1 b2 n : Int) (cs : List Int) (h1 : 0 ≤ b1) (h2 : b1 < 2147483647) (hb2 : 0 ≤ b2) (hc : ∀ c ∈ cs, 0 ≤ c) (hl : cs.length ≤ 63) (hn : 0 < n) (hn2 : n < 1073741824) :
    ∃ v bs', f__law_take [.int 0, .int b1, .int b2, .lst (cs.map D.int)] [.int n] = some (.sh (.int v), bs') ∧ 0 ≤ v ∧ v < n ∧ BagOk bs' := by
  obtain ⟨c, hcell, hc0⟩ : ∃ c : Int, (∃ rest, ((cutL cs (some b2) none).map D.int) ++ [D.int 0] = D.int c :: rest) ∧ 0 ≤ c := by
    cases e : cutL cs (some b2) none with
    | nil => exact ⟨0, ⟨[], rfl⟩, Int.le_refl 0⟩
    | cons c r => exact ⟨c, ⟨_, rfl⟩, hc c (cutL_mem (lo := some b2) (hi := none) (by rw [e]; exact List.mem_cons_self ..))⟩
  have hlen : (cutL cs (some b2) none).length + 1 ≤ 1000000 := by have := cutL_len cs (some b2) none; omega
  obtain ⟨rest, hcell⟩ := hcell
  have hm1 : -18446744073709551616 < b1 ∧ b1 < 18446744073709551616 := by omega
  have hm2 : -18446744073709551616 < b1 + 1 ∧ b1 + 1 < 18446744073709551616 := by omega
  have mix : ∀ x : Int, 0 ≤ x % 2147483647 ∧ x % 2147483647 < 2147483647 := fun x => ⟨Int.emod_nonneg _ (by decide), Int.emod_lt_of_pos _ (by decide)⟩
  by_cases hbig : 1000000000000000000 ≤ c
  · have hc1 : c ≠ 0 := by omega
    have hc2 : 0 < c := by omega
    refine ⟨c % n, [.int (c / n), .int ((b1 * 48271 + c % 2147483647 + 7919 * (b2 + 1)) % 2147483647), .int (b2 + 1), .lst (cs.map D.int)], ?_, Int.emod_nonneg _ (by omega), Int.emod_lt_of_pos _ hn, ⟨_, _, _, _, rfl, Int.ediv_nonneg (by omega) (by omega), (mix _).1, (mix _).2, by omega, hc, hl⟩⟩
    simp [f__law_take, m__law_take, fnB, fnP, Rs.noE, startE, seqS, ifS, thenS, toB, op2, opN, op1, Opd.run, fill, lookV, look, Rs.bind, Rs.map, ofO, cD, vD, semIx, semEq, semNe, eqB, D.sc, D.asB, atI, ixN, semGt, semGe, semLt, semLe, setS, putS, DL.putF, shD, frzD, mvD, rtS, chgS, fillW, OV.lst?, OV.d, nxS, runs, looks, semInt, semMod, semFdiv, semAdd, semSub, semMul, semAbs, semLen, semTuple, semList, lstD, tupD, evs, callP, callB, slD, poN, poS, semSl, D.asI, appS, appF, extS, extF, augS, augF, exS, ifD, andT, orT, notT, notD, andD, orD, par2, par3, asgS, gN, gT, gsCons, gsNil, forD, rg1, rg2, itA, D.items, zpD, zip2, zipD, lcD, yesT, wipeE, m1D, tabD, semIs, semIsNot, D.isN, semAt, semIn2, semNotIn2, inB2, toT, orV, andV, notV, D.tru, chD, isiD, D.isi, D.ty, isTy, D.key, evPs, dicD, semDict, pairD, mergeD, putD, valD, semRepr, callL, op2O, slO, opNO, lrgO, OV.flt, D.flt, semAddL, semMulL, semListL, mLD, popF, popS, insF, insS, clrS, revO, cutL_map, hcell, hlen, hbig, hc1, hc2, hn, hn2, hm1]
  · have hbig' : ¬ 1000000000000000000 ≤ c := hbig
    have key : ∀ x : Int, 0 ≤ x → x < 2147483647 → (-18446744073709551616 < x + 1 ∧ x + 1 < 18446744073709551616) := fun x a b => by omega
    have hq := mix (b1 * 48271 + c % 2147483647 + 7919 * (b2 + 1))
    generalize hm : (b1 * 48271 + c % 2147483647 + 7919 * (b2 + 1)) % 2147483647 = m at hq
    have g1 : ∀ x : Int, (-18446744073709551616 < x % 1000000007 ∧ x % 1000000007 < 18446744073709551616) := fun x => by omega
    have g2 : ∀ x : Int, (-18446744073709551616 < x % 998244353 ∧ x % 998244353 < 18446744073709551616) := fun x => by omega
    refine ⟨(((((m + 1) * 39373) % 1000000007 * (((m + 1) * 39373) % 1000000007)) % 998244353 * 30011) % 998244353 / 7) % n, [.int 0, .int m, .int (b2 + 1), .lst (cs.map D.int)], ?_, Int.emod_nonneg _ (by omega), Int.emod_lt_of_pos _ hn, ⟨_, _, _, _, rfl, Int.le_refl 0, hq.1, hq.2, by omega, hc, hl⟩⟩
    simp [f__law_take, m__law_take, fnB, fnP, Rs.noE, startE, seqS, ifS, thenS, toB, op2, opN, op1, Opd.run, fill, lookV, look, Rs.bind, Rs.map, ofO, cD, vD, semIx, semEq, semNe, eqB, D.sc, D.asB, atI, ixN, semGt, semGe, semLt, semLe, setS, putS, DL.putF, shD, frzD, mvD, rtS, chgS, fillW, OV.lst?, OV.d, nxS, runs, looks, semInt, semMod, semFdiv, semAdd, semSub, semMul, semAbs, semLen, semTuple, semList, lstD, tupD, evs, callP, callB, slD, poN, poS, semSl, D.asI, appS, appF, extS, extF, augS, augF, exS, ifD, andT, orT, notT, notD, andD, orD, par2, par3, asgS, gN, gT, gsCons, gsNil, forD, rg1, rg2, itA, D.items, zpD, zip2, zipD, lcD, yesT, wipeE, m1D, tabD, semIs, semIsNot, D.isN, semAt, semIn2, semNotIn2, inB2, toT, orV, andV, notV, D.tru, chD, isiD, D.isi, D.ty, isTy, D.key, evPs, dicD, semDict, pairD, mergeD, putD, valD, semRepr, callL, op2O, slO, opNO, lrgO, OV.flt, D.flt, semAddL, semMulL, semListL, mLD, popF, popS, insF, insS, clrS, revO, cutL_map, hcell, hlen, hbig, hn, hn2, hm1, hm, key m hq.1 hq.2, g1, g2]
theorem take_ok {bs : List D} (h : BagOk bs) {n : Int} (hn : 0 < n) (hn2 : n < 1073741824) : ∃ v bs', f__law_take bs [.int n] = some (.sh (.int v), bs') ∧ 0 ≤ v ∧ v < n ∧ BagOk bs' := by
  obtain ⟨b0, b1, b2, cs, rfl, h0, h1, h2, h3, h4, h5⟩ := h.ex
  by_cases e : b0 = 0
  · subst e
    exact take0 b1 b2 n cs h1 h2 h3 h4 h5 hn hn2
  · exact ⟨_, _, take1 b0 b1 b2 n cs (by omega) hn hn2, Int.emod_nonneg _ (by omega), Int.emod_lt_of_pos _ hn, ⟨_, _, _, _, rfl, Int.ediv_nonneg h0 (by omega), h1, h2, h3, h4, h5⟩⟩
/-! ### the bag made -/
set_option maxHeartbeats 2000000 in
theorem bag_ok (ns : List Int) : ∃ bs, f__law_bag [.scr ns] = some (.ow bs) ∧ BagOk bs := by
  have e := lcS_map (vs := [1]) (h := gN 1) (t := yesT) (elt := opN [.va 1] semAbs) (fun _ => true) (fun d => match d with | .int i => .int (if i < 0 then -i else i) | d => d) [some (.sh (.scr ns)), none] ((cutL ns none (some 63)).map D.int) (fun d hd => by
    obtain ⟨c, _, rfl⟩ := List.mem_map.mp hd
    refine ⟨[some (.sh (.scr ns)), some (.sh (.int c))], [some (.sh (.scr ns)), some (.sh (.int c))], rfl, rfl, rfl, fun _ => ⟨[some (.sh (.scr ns)), some (.sh (.int c))], ?_, rfl⟩⟩
    simp [fnB, fnP, Rs.noE, startE, seqS, ifS, thenS, toB, op2, opN, op1, Opd.run, fill, lookV, look, Rs.bind, Rs.map, ofO, cD, vD, semIx, semEq, semNe, eqB, D.sc, D.asB, atI, ixN, semGt, semGe, semLt, semLe, setS, putS, DL.putF, shD, frzD, mvD, rtS, chgS, fillW, OV.lst?, OV.d, nxS, runs, looks, semInt, semMod, semFdiv, semAdd, semSub, semMul, semAbs, semLen, semTuple, semList, lstD, tupD, evs, callP, callB, slD, poN, poS, semSl, D.asI, appS, appF, extS, extF, augS, augF, exS, ifD, andT, orT, notT, notD, andD, orD, par2, par3, asgS, gN, gT, gsCons, gsNil, forD, rg1, rg2, itA, D.items, zpD, zip2, zipD, lcD, yesT, wipeE, m1D, tabD, semIs, semIsNot, D.isN, semAt, semIn2, semNotIn2, inB2, toT, orV, andV, notV, D.tru, chD, isiD, D.isi, D.ty, isTy, D.key, evPs, dicD, semDict, pairD, mergeD, putD, valD, semRepr, callL, op2O, slO, opNO, lrgO, OV.flt, D.flt, semAddL, semMulL, semListL, mLD, popF, popS, insF, insS, clrS, revO])
  have hl : (cutL ns none (some 63)).length ≤ 63 := by
    unfold cutL
    rw [List.length_take, HT.sIx_none, show HT.sIx ns.length ns.length (some 63) = min 63 ns.length from HT.sIx_nat ns.length ns.length 63]
    omega
  have hl2 : (cutL ns none (some 63)).length ≤ 1000000 := by omega
  refine ⟨[.int 0, .int 1234567891, .int 0, .lst (((cutL ns none (some 63)).map fun i => if i < 0 then -i else i).map D.int)], ?_, ⟨0, 1234567891, 0, _, rfl, Int.le_refl 0, by decide, by decide, Int.le_refl 0, fun c hc => ?_, by rw [List.length_map]; exact hl⟩⟩
  · have e2 : List.map (fun d => match d with | .int i => D.int (if i < 0 then -i else i) | d => d) ((List.map D.int (cutL ns none (some 63))).filter fun _ => true) = ((cutL ns none (some 63)).map fun i => if i < 0 then -i else i).map D.int := by
      rw [List.filter_eq_self.mpr (fun _ _ => rfl), List.map_map, List.map_map]
      rfl
    rw [e2] at e
    have e1 : lcS [1] (gN 1) yesT (opN [.va 1] semAbs) ((cutL ns none (some 63)).map D.int) (some (.sh (.scr ns)) :: [none]) = .ok (((cutL ns none (some 63)).map fun i => if i < 0 then -i else i).map D.int) (some (.sh (.scr ns)) :: [none]) := e
    simp only [f__law_bag, m__law_bag, lc__law_bag_1, it__law_bag_1, el__law_bag_1, fnP, startE, rtS, thenS, lstD, evs, cD, Rs.bind, frzD, lcD, itA, slD, poN, poS, Opd.run, fill, look, lookV, ofO, semSl, D.asI, D.items, Rs.map, OV.d, List.map_cons, List.map_nil, List.length_cons, List.length_nil, List.replicate, List.cons_append, List.nil_append, List.getElem?_cons_zero, Option.bind_some, Option.map_some, List.length_map, Nat.sub_self, Nat.add_sub_cancel, Nat.zero_add, Nat.reduceSub, hl2, if_true, e1, wipeE, List.set_cons_succ, List.set_cons_zero]
    rfl
  · obtain ⟨i, _, rfl⟩ := List.mem_map.mp hc
    show 0 ≤ if i < 0 then -i else i
    split <;> omega

/-! ### names -/
abbrev LET : Str := "abcdefghijklmnopqrstuvwxyz"
abbrev WST : Str := "at as last like all name book goal with turn part drop call copy chain close eq lt gt put"
def WRD : List Str := ["at", "as", "last", "like", "all", "name", "book", "goal", "with", "turn", "part", "drop", "call", "copy", "chain", "close", "eq", "lt", "gt", "put"]
theorem let_codes : LET.cps.toList = (List.range 26).map (97 + ·) := by decide +kernel
theorem let_len : LET.length = 26 := by decide +kernel
theorem wst_split : Txt.split WST " " = WRD := by decide +kernel
theorem wst_len : WST.length ≤ 1000000 := by decide +kernel
theorem let_index : ∀ k : Fin 26, Builtin.Str.occurrences LET ⟨#[97 + k.val]⟩ 0 LET.length 1 = [k.val] := by decide +kernel
structure NameOk (x : Str) : Prop where
  pos : 0 < x.length
  most : x.length ≤ 8
  low : ∀ c ∈ x.cps.toList, 97 ≤ c ∧ c ≤ 122
def nameB (x : Str) : Bool := decide (0 < x.length) && decide (x.length ≤ 8) && x.cps.toList.all fun c => decide (97 ≤ c) && decide (c ≤ 122)
theorem nameB_ok {x : Str} (h : nameB x = true) : NameOk x := by
  unfold nameB at h
  simp only [Bool.and_eq_true, decide_eq_true_eq, List.all_eq_true] at h
  exact ⟨h.1.1, h.1.2, h.2⟩
theorem wrd_ok : ∀ x ∈ WRD, NameOk x := by
  have : WRD.all nameB = true := by decide +kernel
  exact fun x hx => nameB_ok (List.all_eq_true.mp this x hx)
theorem NameOk.fit {x : Str} (h : NameOk x) : (D.str x).fit = true := fit_str fun c hc => by have := h.low c hc; omega
theorem NameOk.pl {x : Str} (h : NameOk x) : (D.str x).pl = true := pl_of_fit h.fit
end T

-- needs: _law_names
namespace T
open PySem L2 DL
/-! ### one turn of names -/
def one (c : Nat) : Str := ⟨#[c]⟩
/-- the environment of names: the bag, how many, the names so far, the other slots -/
def envN (bs : List D) (m : Int) (xs : List Str) (o5 o6 o7 o8 o9 o10 o11 : Option OV) : En :=
  [some (.ow bs), some (.sh (.int m)), some (.sh (.str LET)), some (.ow (xs.map D.str)), some (.sh (.lst (WRD.map D.str))), o5, o6, o7, o8, o9, o10, o11]
theorem let_at {v : Int} (h0 : 0 ≤ v) (h : v < 26) : atI LET.cps.toList v = some (97 + v.toNat) := by
  have hl : LET.cps.toList.length = 26 := by rw [let_codes]; rfl
  unfold atI ixN
  rw [hl, if_pos h0, if_pos (show v < ((26 : Nat) : Int) from h)]
  show LET.cps.toList[v.toNat]? = _
  rw [let_codes, List.getElem?_map, List.getElem?_range (by omega)]
  rfl
set_option maxHeartbeats 2000000 in
/-- a sign drawn -/
theorem sign_ok {bs : List D} (hb : BagOk bs) (m : Int) (xs : List Str) (o5 o6 o7 o8 o9 o10 o11 : Option OV) :
    ∃ c bs', el__law_names_1 (envN bs m xs o5 o6 o7 o8 o9 o10 o11) = .ok (.str (one c)) (envN bs' m xs o5 o6 o7 o8 o9 o10 o11) ∧ 97 ≤ c ∧ c ≤ 122 ∧ BagOk bs' := by
  obtain ⟨v, bs', e, h0, h1, hb'⟩ := take_ok hb (n := 26) (by decide) (by decide)
  have hi := let_at h0 h1
  refine ⟨97 + v.toNat, bs', ?_, by omega, by omega, hb'⟩
  simp only [el__law_names_1, envN, fnB, fnP, Rs.noE, startE, seqS, ifS, thenS, toB, op2, opN, op1, Opd.run, fill, lookV, look, Rs.bind, Rs.map, ofO, cD, vD, D.asB, semGt, semGe, semLt, semLe, setS, putS, DL.putF, shD, frzD, mvD, rtS, chgS, fillW, OV.lst?, OV.d, nxS, runs, looks, semInt, semMod, semFdiv, semAdd, semSub, semMul, semAbs, semLen, semTuple, semList, lstD, tupD, evs, callP, callB, slD, poN, poS, semSl, D.asI, appS, appF, extS, extF, augS, augF, exS, ifD, andT, orT, notT, notD, andD, orD, par2, par3, asgS, gN, gT, gsCons, gsNil, forD, rg1, rg2, itA, zpD, zip2, zipD, lcD, yesT, wipeE, m1D, tabD, semIs, semIsNot, D.isN, toT, orV, andV, notV, D.tru, chD, isiD, D.key, evPs, dicD, semDict, pairD, semRepr, callL, op2O, slO, opNO, lrgO, OV.flt, D.flt, semAddL, semMulL, semListL, mLD, popF, popS, insF, insS, clrS, revO, Rs.noE, List.map_cons, List.map_nil, List.length_cons, List.length_nil, List.length_map, List.replicate, List.cons_append, List.nil_append, List.append_nil, List.getElem?_cons_zero, List.getElem?_cons_succ, List.set_cons_zero, List.set_cons_succ, Option.bind_some, Option.bind_none, Option.map_some, Option.map_none, Nat.zero_add, Nat.add_zero, Nat.reduceAdd, Nat.reduceSub, Nat.sub_self, Nat.reduceLeDiff, Nat.reduceEqDiff, Nat.le_refl, Nat.add_sub_cancel, if_true, if_false, Bool.false_eq_true, Bool.not_true, Bool.not_false, Bool.not_not, reduceIte, reduceCtorEq, and_self, and_true, true_and, decide_true, decide_false, semEq_str, semNe_str, semEq_int, semNe_int, semEq_bl, semNe_bl, atI0, atI1, atI2, atI3, atI4, OkS_nx, post_ok, items_lst, items_tup, semAt_lst, semAt_tup, semAt_str, semAt_dic, e, let_len, hi]
  rfl
set_option maxHeartbeats 2000000 in
theorem signs_ok {bs : List D} (hb : BagOk bs) (m : Int) (xs : List Str) (o5 o6 o7 o8 o9 o10 o11 : Option OV) :
    ∃ (cs : List Nat) (bs' : List D), lc__law_names_1 (envN bs m xs o5 o6 o7 o8 o9 o10 o11) = .ok (.ow (cs.map fun c => D.str (one c))) (envN bs' m xs o5 o6 none o8 o9 o10 o11) ∧ 0 < cs.length ∧ cs.length ≤ 8 ∧ cs.length ≠ 5 ∧ (∀ c ∈ cs, 97 ≤ c ∧ c ≤ 122) ∧ BagOk bs' := by
  obtain ⟨v, b1, e, h0, h1, hb1⟩ := take_ok hb (n := 4) (by decide) (by decide)
  obtain ⟨n, hn, hn1, hn2, hn5⟩ : ∃ n : Int, atI [D.int 1, D.int 2, D.int 8, D.int 4] v = some (.int n) ∧ 1 ≤ n ∧ n ≤ 8 ∧ n ≠ 5 := by
    have : v = 0 ∨ v = 1 ∨ v = 2 ∨ v = 3 := by omega
    rcases this with rfl | rfl | rfl | rfl
    · exact ⟨1, rfl, by decide, by decide, by decide⟩
    · exact ⟨2, rfl, by decide, by decide, by decide⟩
    · exact ⟨8, rfl, by decide, by decide, by decide⟩
    · exact ⟨4, rfl, by decide, by decide, by decide⟩
  have ei : it__law_names_1 (envN bs m xs o5 o6 o7 o8 o9 o10 o11) = .ok (rangeD 0 n.toNat) (envN b1 m xs o5 o6 o7 o8 o9 o10 o11) := by
    have hc : -1000000 ≤ n ∧ n ≤ 1000000 := by omega
    simp only [it__law_names_1, envN, fnB, fnP, Rs.noE, startE, seqS, ifS, thenS, toB, op2, opN, op1, Opd.run, fill, lookV, look, Rs.bind, Rs.map, ofO, cD, vD, D.asB, semGt, semGe, semLt, semLe, setS, putS, DL.putF, shD, frzD, mvD, rtS, chgS, fillW, OV.lst?, OV.d, nxS, runs, looks, semInt, semMod, semFdiv, semAdd, semSub, semMul, semAbs, semLen, semTuple, semList, lstD, tupD, evs, callP, callB, slD, poN, poS, semSl, D.asI, appS, appF, extS, extF, augS, augF, exS, ifD, andT, orT, notT, notD, andD, orD, par2, par3, asgS, gN, gT, gsCons, gsNil, forD, rg1, rg2, itA, zpD, zip2, zipD, lcD, yesT, wipeE, m1D, tabD, semIs, semIsNot, D.isN, toT, orV, andV, notV, D.tru, chD, isiD, D.key, evPs, dicD, semDict, pairD, semRepr, callL, op2O, slO, opNO, lrgO, OV.flt, D.flt, semAddL, semMulL, semListL, mLD, popF, popS, insF, insS, clrS, revO, Rs.noE, List.map_cons, List.map_nil, List.length_cons, List.length_nil, List.length_map, List.replicate, List.cons_append, List.nil_append, List.append_nil, List.getElem?_cons_zero, List.getElem?_cons_succ, List.set_cons_zero, List.set_cons_succ, Option.bind_some, Option.bind_none, Option.map_some, Option.map_none, Nat.zero_add, Nat.add_zero, Nat.reduceAdd, Nat.reduceSub, Nat.sub_self, Nat.reduceLeDiff, Nat.reduceEqDiff, Nat.le_refl, Nat.add_sub_cancel, if_true, if_false, Bool.false_eq_true, Bool.not_true, Bool.not_false, Bool.not_not, reduceIte, reduceCtorEq, and_self, and_true, true_and, decide_true, decide_false, semEq_str, semNe_str, semEq_int, semNe_int, semEq_bl, semNe_bl, atI0, atI1, atI2, atI3, atI4, OkS_nx, post_ok, items_lst, items_tup, semAt_lst, semAt_tup, semAt_str, semAt_dic, e, hn, hc]
  obtain ⟨ys, r', e1, e2, e3, e4⟩ := lcD_inv (vs := [7]) (h := gN 7) (elt := el__law_names_1)
    (fun r => ∃ b, r = envN b m xs o5 o6 none o8 o9 o10 o11 ∧ BagOk b) (fun y => ∃ c, y = .str (one c) ∧ 97 ≤ c ∧ c ≤ 122) ei (by rw [rangeD_len]; omega) ⟨b1, rfl, hb1⟩ (by rintro r ⟨b, rfl, _⟩; rfl) (by
      rintro d _ r ⟨b, rfl, hb⟩
      obtain ⟨c, b', e5, c1, c2, hb'⟩ := sign_ok hb m xs o5 o6 (some (.sh d)) o8 o9 o10 o11
      exact ⟨envN b m xs o5 o6 (some (.sh d)) o8 o9 o10 o11, _, _, rfl, e5, ⟨c, rfl, c1, c2⟩, b', rfl, hb'⟩)
  obtain ⟨b', rfl, hb'⟩ := e4
  have hl : ys.length = n.toNat := by rw [e2, rangeD_len]
  obtain ⟨cs, rfl, hcs⟩ : ∃ cs : List Nat, ys = cs.map (fun c => D.str (one c)) ∧ ∀ c ∈ cs, 97 ≤ c ∧ c ≤ 122 := by
    clear e1 e2 hl
    induction ys with
    | nil => exact ⟨[], rfl, fun _ z => absurd z List.not_mem_nil⟩
    | cons y ys ih =>
      obtain ⟨c, rfl, c1, c2⟩ := e3 y (List.mem_cons_self ..)
      obtain ⟨cs, rfl, h⟩ := ih fun z hz => e3 z (List.mem_cons_of_mem _ hz)
      refine ⟨c :: cs, rfl, fun z hz => ?_⟩
      rcases List.mem_cons.mp hz with rfl | hz
      · exact ⟨c1, c2⟩
      · exact h z hz
  rw [List.length_map] at hl
  exact ⟨cs, b', e1, by omega, by omega, by omega, hcs, hb'⟩
theorem join_codes : ∀ cs : List Nat, (Txt.join "" (cs.map one)).cps.toList = cs := by
  have key : ∀ cs : List Nat, (Str.join "" (cs.map one)).cps.toList = cs := by
    intro cs
    induction cs with
    | nil => rfl
    | cons c cs ih =>
      cases cs with
      | nil => rfl
      | cons d ds =>
        have ih : (Str.join "" (one d :: ds.map one)).cps.toList = d :: ds := ih
        show ((one c ++ ("" : Str)) ++ Str.join "" (one d :: ds.map one)).cps.toList = _
        have e : ∀ a b : Str, (a ++ b).cps.toList = a.cps.toList ++ b.cps.toList := fun a b => by
          show (a.cps ++ b.cps).toList = _
          simp
        rw [e, e, ih]
        rfl
  intro cs
  have e : Txt.join ("" : Str) (cs.map one) = Str.join ("" : Str) (cs.map one) := PySem.StrLaws.glued_eq_join _ _
  rw [e]
  exact key cs
theorem app_codes (a b : Str) : (a ++ b).cps.toList = a.cps.toList ++ b.cps.toList := by
  show (a.cps ++ b.cps).toList = _
  simp
theorem len_codes (a : Str) : a.length = a.cps.toList.length := by
  show a.cps.size = _
  simp
/-- the letters from one on, round -/
def rot (k : Nat) : Str := cutS LET (some (k : Int)) none ++ cutS LET none (some (k : Int))
theorem rot_ok : ∀ k : Fin 26, (rot k.val).cps.toList.Nodup ∧ (rot k.val).length = 26 ∧ ((rot k.val).cps.toList.all fun c => decide (97 ≤ c) && decide (c ≤ 122)) = true ∧ (cutS LET (some (k.val : Int)) none).length + (cutS LET none (some (k.val : Int))).length ≤ 1000000 := by decide +kernel
set_option maxHeartbeats 2000000 in
theorem par_ok {bs : List D} (m : Int) (xs : List Str) (o5 o7 o8 o9 o10 o11 : Option OV) (c : Nat) (cs : List Nat) (h1 : 97 ≤ c) (h2 : c ≤ 122) (hl : cs.length ≤ 7) :
    par2 8 9 (m1D (.va 2) (.ex (op2 (.va 6) (.ex (cD (.int 0))) semAt)) semSIndex) (shD (m1D (.ex (cD (.str ""))) (.ex (slD (.va 6) (poS (cD (.int 1))) poN semSl)) semJoin)) (envN bs m xs o5 (some (.sh (.lst ((c :: cs).map fun c => D.str (one c))))) o7 o8 o9 o10 o11)
      = .nx (envN bs m xs o5 (some (.sh (.lst ((c :: cs).map fun c => D.str (one c))))) o7 (some (.sh (.int ((c - 97 : Nat) : Int)))) (some (.sh (.str (Txt.join "" (cs.map one))))) o10 o11) := by
  have ho : Builtin.Str.occurrences LET (one c) 0 LET.length 1 = [c - 97] := by
    have := let_index ⟨c - 97, by omega⟩
    have e : 97 + (c - 97) = c := by omega
    simp only [e] at this
    exact this
  have hcut : cutL ((c :: cs).map fun c => D.str (one c)) (some 1) none = (cs.map one).map D.str := by
    unfold cutL
    rw [show HT.sIx ((c :: cs).map fun c => D.str (one c)).length 0 (some 1) = min 1 ((c :: cs).map fun c => D.str (one c)).length from HT.sIx_nat _ 0 1, HT.sIx_none, List.map_map]
    have hm : min 1 ((c :: cs).map fun c => D.str (one c)).length = 1 := by rw [List.length_map, List.length_cons]; omega
    rw [hm, List.length_map, List.length_cons, Nat.add_sub_cancel]
    show List.take cs.length (cs.map fun c => D.str (one c)) = _
    rw [List.take_of_length_le (by rw [List.length_map]; exact Nat.le_refl _)]
    rfl
  have hj : ((cs.map one).map (·.length)).sum + (cs.map one).length * (Str.ofString "").length ≤ 1000000 := by
    have e1 : ∀ l : List Nat, ((l.map one).map (·.length)).sum = l.length := fun l => by
      induction l with
      | nil => rfl
      | cons a l ih =>
        rw [List.map_cons, List.map_cons, List.sum_cons, ih, List.length_cons]
        show 1 + _ = _
        omega
    rw [e1, show (Str.ofString "").length = 0 by decide +kernel]
    omega
  have hst := strsOf_map (cs.map one)
  have hat : atI ((c :: cs).map fun c => D.str (one c)) 0 = some (.str (one c)) := atI_nat (j := 0) rfl
  simp only [par2, thenS, m1D, Opd.run, fill, envN, Rs.bind, look, lookV, op2, cD, ofO, Rs.map, OV.d, semAt, semIx, hat, semSIndex, ho, shD, slD, poS, poN, D.asI, semSl, hcut, semJoin, hst, hj, List.getElem?_cons_zero, List.getElem?_cons_succ, Option.bind_some, Option.map_some, List.set_cons_succ, List.set_cons_zero, if_true]
/-- the names from which the next one is taken -/
def cands (w : Bool) (k : Nat) (rest : Str) : List Str := (if w then cutL WRD (some (k : Int)) none else []) ++ (rot k).cps.toList.map fun c => one c ++ rest
theorem signs_eq (x : Str) : signs x = x.cps.toList.map fun c => D.str (one c) := rfl
/-- what is stored as the names to choose from -/
def step10 : En → SRs := setS 10 (shD (op2 (.ex (op2 (.ex (slD (.va 4) (poS (vD 8)) poN semSl)) (.ex (opN [(.ex (op2 (.ex (frzD (callB 1 f__law_take 0 [(cD (.int 8))]))) (.ex (cD (.int 0))) semEq))] semInt)) semMul)) (.ex (frzD lc__law_names_2)) semAdd))
set_option maxHeartbeats 4000000 in
theorem cands_ok {bs : List D} (hb : BagOk bs) (m : Int) (xs : List Str) (o5 o6 o7 o10 o11 : Option OV) (k : Nat) (hk : k < 26) (rest : Str) (hr : rest.length ≤ 7) :
    ∃ w bs', step10 (envN bs m xs o5 o6 o7 (some (.sh (.int k))) (some (.sh (.str rest))) o10 o11) = .nx (envN bs' m xs o5 o6 o7 (some (.sh (.int k))) (some (.sh (.str rest))) (some (.sh (.lst ((cands w k rest).map D.str)))) none) ∧ BagOk bs' := by
  obtain ⟨v, b1, e, h0, h1, hb1⟩ := take_ok hb (n := 8) (by decide) (by decide)
  obtain ⟨rn, rl, rc, rz⟩ := rot_ok ⟨k, hk⟩
  have hlet : LET.length ≤ 1000000 := by rw [let_len]; decide
  have hrot : (rot k).length ≤ 1000000 := by
    have : (rot k).length = 26 := rl
    omega
  have hW : (cutL (WRD.map D.str) (some (k : Int)) none) = (cutL WRD (some (k : Int)) none).map D.str := cutL_map _ _ _ _
  have hWl : (cutL WRD (some (k : Int)) none).length ≤ 20 := cutL_len _ _ _
  have eA : op2 (.ex (slD (.va 4) (poS (vD 8)) poN semSl)) (.ex (opN [(.ex (op2 (.ex (frzD (callB 1 f__law_take 0 [(cD (.int 8))]))) (.ex (cD (.int 0))) semEq))] semInt)) semMul (envN bs m xs o5 o6 o7 (some (.sh (.int k))) (some (.sh (.str rest))) o10 o11)
      = .ok (.lst ((if decide (v = 0) then cutL WRD (some (k : Int)) none else []).map D.str)) (envN b1 m xs o5 o6 o7 (some (.sh (.int k))) (some (.sh (.str rest))) o10 o11) := by
    have hl2 : (cutL WRD (some (k : Int)) none).length ≤ 1000 := by omega
    by_cases hv : v = 0
    · subst hv
      simp [envN, fnB, fnP, Rs.noE, startE, seqS, ifS, thenS, toB, op2, opN, op1, Opd.run, fill, lookV, look, Rs.bind, Rs.map, ofO, cD, vD, semIx, semEq, semNe, eqB, D.sc, D.asB, atI, ixN, semGt, semGe, semLt, semLe, setS, putS, DL.putF, shD, frzD, mvD, rtS, chgS, fillW, OV.lst?, OV.d, nxS, runs, looks, semInt, semMod, semFdiv, semAdd, semSub, semMul, semAbs, semLen, semTuple, semList, lstD, tupD, evs, callP, callB, slD, poN, poS, semSl, D.asI, appS, appF, extS, extF, augS, augF, exS, ifD, andT, orT, notT, notD, andD, orD, par2, par3, asgS, gN, gT, gsCons, gsNil, forD, rg1, rg2, itA, D.items, zpD, zip2, zipD, lcD, yesT, wipeE, m1D, tabD, semIs, semIsNot, D.isN, semAt, semIn2, semNotIn2, inB2, toT, orV, andV, notV, D.tru, chD, isiD, D.isi, D.ty, isTy, D.key, evPs, dicD, semDict, pairD, mergeD, putD, valD, semRepr, callL, op2O, slO, opNO, lrgO, OV.flt, D.flt, semAddL, semMulL, semListL, mLD, popF, popS, insF, insS, clrS, revO, e, hW, hl2, List.length_map]
    · simp [envN, fnB, fnP, Rs.noE, startE, seqS, ifS, thenS, toB, op2, opN, op1, Opd.run, fill, lookV, look, Rs.bind, Rs.map, ofO, cD, vD, semIx, semEq, semNe, eqB, D.sc, D.asB, atI, ixN, semGt, semGe, semLt, semLe, setS, putS, DL.putF, shD, frzD, mvD, rtS, chgS, fillW, OV.lst?, OV.d, nxS, runs, looks, semInt, semMod, semFdiv, semAdd, semSub, semMul, semAbs, semLen, semTuple, semList, lstD, tupD, evs, callP, callB, slD, poN, poS, semSl, D.asI, appS, appF, extS, extF, augS, augF, exS, ifD, andT, orT, notT, notD, andD, orD, par2, par3, asgS, gN, gT, gsCons, gsNil, forD, rg1, rg2, itA, D.items, zpD, zip2, zipD, lcD, yesT, wipeE, m1D, tabD, semIs, semIsNot, D.isN, semAt, semIn2, semNotIn2, inB2, toT, orV, andV, notV, D.tru, chD, isiD, D.isi, D.ty, isTy, D.key, evPs, dicD, semDict, pairD, mergeD, putD, valD, semRepr, callL, op2O, slO, opNO, lrgO, OV.flt, D.flt, semAddL, semMulL, semListL, mLD, popF, popS, insF, insS, clrS, revO, e, hW, hl2, hv, List.length_map]
  have eB : lc__law_names_2 (envN b1 m xs o5 o6 o7 (some (.sh (.int k))) (some (.sh (.str rest))) o10 o11)
      = .ok (.ow (((rot k).cps.toList.map fun c => one c ++ rest).map D.str)) (envN b1 m xs o5 o6 o7 (some (.sh (.int k))) (some (.sh (.str rest))) o10 none) := by
    have ei : it__law_names_2 (envN b1 m xs o5 o6 o7 (some (.sh (.int k))) (some (.sh (.str rest))) o10 o11) = .ok ((rot k).cps.toList.map fun c => D.str (one c)) (envN b1 m xs o5 o6 o7 (some (.sh (.int k))) (some (.sh (.str rest))) o10 o11) := by
      have e1 : cutS LET (some (k : Int)) none ++ cutS LET none (some (k : Int)) = rot k := rfl
      simp only [it__law_names_2, fnB, fnP, Rs.noE, startE, seqS, ifS, thenS, toB, op2, opN, op1, Opd.run, fill, lookV, look, Rs.bind, Rs.map, ofO, cD, vD, semIx, semEq, semNe, eqB, D.sc, D.asB, atI, ixN, semGt, semGe, semLt, semLe, setS, putS, DL.putF, shD, frzD, mvD, rtS, chgS, fillW, OV.lst?, OV.d, nxS, runs, looks, semInt, semMod, semFdiv, semAdd, semSub, semMul, semAbs, semLen, semTuple, semList, lstD, tupD, evs, callP, callB, slD, poN, poS, semSl, D.asI, appS, appF, extS, extF, augS, augF, exS, ifD, andT, orT, notT, notD, andD, orD, par2, par3, asgS, gN, gT, gsCons, gsNil, forD, rg1, rg2, itA, D.items, zpD, zip2, zipD, lcD, yesT, wipeE, m1D, tabD, semIs, semIsNot, D.isN, semAt, semIn2, semNotIn2, inB2, toT, orV, andV, notV, D.tru, chD, isiD, D.isi, D.ty, isTy, D.key, evPs, dicD, semDict, pairD, mergeD, putD, valD, semRepr, callL, op2O, slO, opNO, lrgO, OV.flt, D.flt, semAddL, semMulL, semListL, mLD, popF, popS, insF, insS, clrS, revO, Rs.noE, List.map_cons, List.map_nil, List.length_cons, List.length_nil, List.length_map, List.replicate, List.cons_append, List.nil_append, List.append_nil, List.getElem?_cons_zero, List.getElem?_cons_succ, List.set_cons_zero, List.set_cons_succ, Option.bind_some, Option.bind_none, Option.map_some, Option.map_none, Nat.zero_add, Nat.add_zero, Nat.reduceAdd, Nat.reduceSub, Nat.sub_self, Nat.reduceLeDiff, Nat.reduceEqDiff, Nat.le_refl, Nat.add_sub_cancel, if_true, if_false, Bool.false_eq_true, Bool.not_true, Bool.not_false, Bool.not_not, reduceIte, reduceCtorEq, and_self, and_true, true_and, decide_true, decide_false, semEq_str, semNe_str, semEq_int, semNe_int, semEq_bl, semNe_bl, atI0, atI1, atI2, atI3, atI4, OkS_nx, post_ok, items_lst, items_tup, semAt_lst, semAt_tup, semAt_str, semAt_dic, envN, hlet, rz, e1, hrot, signs_eq]
    have := lcD_map1 (vs := [11]) (h := gN 11) (elt := el__law_names_2) (envN b1 m xs o5 o6 o7 (some (.sh (.int k))) (some (.sh (.str rest))) o10 none) (rot k).cps.toList (fun c => D.str (one c)) (fun c => D.str (one c ++ rest)) ei (by rw [← len_codes]; exact hrot) rfl rfl (fun c _ => by
      refine ⟨envN b1 m xs o5 o6 o7 (some (.sh (.int k))) (some (.sh (.str rest))) o10 (some (.sh (.str (one c)))), rfl, rfl, envN b1 m xs o5 o6 o7 (some (.sh (.int k))) (some (.sh (.str rest))) o10 (some (.sh (.str (one c)))), ?_, rfl⟩
      have hl : (one c).length + rest.length ≤ 1000000 := by show 1 + rest.length ≤ _; omega
      simp only [el__law_names_2, envN, fnB, fnP, Rs.noE, startE, seqS, ifS, thenS, toB, op2, opN, op1, Opd.run, fill, lookV, look, Rs.bind, Rs.map, ofO, cD, vD, semIx, semEq, semNe, eqB, D.sc, D.asB, atI, ixN, semGt, semGe, semLt, semLe, setS, putS, DL.putF, shD, frzD, mvD, rtS, chgS, fillW, OV.lst?, OV.d, nxS, runs, looks, semInt, semMod, semFdiv, semAdd, semSub, semMul, semAbs, semLen, semTuple, semList, lstD, tupD, evs, callP, callB, slD, poN, poS, semSl, D.asI, appS, appF, extS, extF, augS, augF, exS, ifD, andT, orT, notT, notD, andD, orD, par2, par3, asgS, gN, gT, gsCons, gsNil, forD, rg1, rg2, itA, D.items, zpD, zip2, zipD, lcD, yesT, wipeE, m1D, tabD, semIs, semIsNot, D.isN, semAt, semIn2, semNotIn2, inB2, toT, orV, andV, notV, D.tru, chD, isiD, D.isi, D.ty, isTy, D.key, evPs, dicD, semDict, pairD, mergeD, putD, valD, semRepr, callL, op2O, slO, opNO, lrgO, OV.flt, D.flt, semAddL, semMulL, semListL, mLD, popF, popS, insF, insS, clrS, revO, Rs.noE, List.map_cons, List.map_nil, List.length_cons, List.length_nil, List.length_map, List.replicate, List.cons_append, List.nil_append, List.append_nil, List.getElem?_cons_zero, List.getElem?_cons_succ, List.set_cons_zero, List.set_cons_succ, Option.bind_some, Option.bind_none, Option.map_some, Option.map_none, Nat.zero_add, Nat.add_zero, Nat.reduceAdd, Nat.reduceSub, Nat.sub_self, Nat.reduceLeDiff, Nat.reduceEqDiff, Nat.le_refl, Nat.add_sub_cancel, if_true, if_false, Bool.false_eq_true, Bool.not_true, Bool.not_false, Bool.not_not, reduceIte, reduceCtorEq, and_self, and_true, true_and, decide_true, decide_false, semEq_str, semNe_str, semEq_int, semNe_int, semEq_bl, semNe_bl, atI0, atI1, atI2, atI3, atI4, OkS_nx, post_ok, items_lst, items_tup, semAt_lst, semAt_tup, semAt_str, semAt_dic, hl])
    rw [List.map_map]
    exact this
  refine ⟨decide (v = 0), b1, ?_, hb1⟩
  have hlen : ((if decide (v = 0) then cutL WRD (some (k : Int)) none else []).map D.str).length + (((rot k).cps.toList.map fun c => one c ++ rest).map D.str).length ≤ 1000000 := by
    rw [List.length_map, List.length_map, List.length_map, ← len_codes]
    have : (rot k).length = 26 := rl
    split
    · omega
    · simp; omega
  unfold step10 setS shD
  rw [op2_ee, eA]
  simp only [Rs.bind, frzD]
  rw [eB]
  simp only [Rs.map, Rs.bind, OV.d, semAdd, hlen, if_true, ofO, thenS, ← List.map_append]
  rfl
theorem rest_name {w : Bool} {k : Nat} (hk : k < 26) {rest : Str} (hr : rest.length ≤ 7) (hl : ∀ c ∈ rest.cps.toList, 97 ≤ c ∧ c ≤ 122) : ∀ x ∈ cands w k rest, NameOk x := by
  intro x hx
  obtain ⟨rn, rl, rc, rz⟩ := rot_ok ⟨k, hk⟩
  rcases List.mem_append.mp hx with hx | hx
  · cases w with
    | true => exact wrd_ok x (cutL_mem hx)
    | false => cases hx
  · obtain ⟨c, hc, rfl⟩ := List.mem_map.mp hx
    have hc2 := List.all_eq_true.mp rc c hc
    simp only [Bool.and_eq_true, decide_eq_true_eq] at hc2
    have e : (one c ++ rest).cps.toList = c :: rest.cps.toList := by rw [app_codes]; rfl
    refine ⟨?_, ?_, fun d hd => ?_⟩
    · rw [len_codes, e, List.length_cons]; omega
    · rw [len_codes, e, List.length_cons, ← len_codes]; omega
    · rw [e] at hd
      rcases List.mem_cons.mp hd with rfl | hd
      · exact hc2
      · exact hl d hd
theorem wrd_z : ∀ x ∈ WRD, x ≠ ("zzzzz" : Str) := by decide +kernel
theorem rest_z {w : Bool} {k : Nat} (hk : k < 26) {rest : Str} (hr : rest.length ≠ 4) : ∀ x ∈ cands w k rest, x ≠ ("zzzzz" : Str) := by
  intro x hx e
  rcases List.mem_append.mp hx with hx | hx
  · cases w with
    | true => exact wrd_z x (cutL_mem hx) e
    | false => cases hx
  · obtain ⟨c, hc, rfl⟩ := List.mem_map.mp hx
    have h1 : (one c ++ rest).length = rest.length + 1 := by
      rw [len_codes, app_codes, List.length_append, ← len_codes, ← len_codes]
      show 1 + rest.length = _
      omega
    have h2 : (Str.ofString "zzzzz").length = 5 := by decide +kernel
    rw [e, h2] at h1
    omega
theorem fresh_cand {w : Bool} {k : Nat} (hk : k < 26) {rest : Str} {xs : List Str} (hx : xs.length < 26) : ∃ x ∈ cands w k rest, x ∉ xs := by
  obtain ⟨rn, rl, rc, rz⟩ := rot_ok ⟨k, hk⟩
  have nd : ((rot k).cps.toList.map fun c => one c ++ rest).Nodup := by
    refine List.Pairwise.map _ (fun a b hab e => hab ?_) rn
    have e2 : (one a ++ rest).cps.toList = (one b ++ rest).cps.toList := by rw [e]
    rw [app_codes, app_codes] at e2
    have : a :: rest.cps.toList = b :: rest.cps.toList := e2
    exact (List.cons.inj this).1
  have hl : ((rot k).cps.toList.map fun c => one c ++ rest).length = 26 := by
    rw [List.length_map, ← len_codes]; exact rl
  obtain ⟨x, h1, h2⟩ := exists_not_mem _ xs nd (by rw [hl]; exact hx)
  exact ⟨x, List.mem_append_right _ h1, h2⟩
theorem sm_str {x : Str} (h : NameOk x) : Sm 0 82 (.str x) := ⟨h.pl, rfl, Nat.zero_le _, by show 10 * x.length + 2 ≤ 82; have := h.most; omega⟩
theorem fit_strs {xs : List Str} (h : ∀ x ∈ xs, NameOk x) : (D.lst (xs.map D.str)).fit = true := (Sm.all (n := 0) (w := 82) fun d hd => by
  obtain ⟨x, hx, rfl⟩ := List.mem_map.mp hd
  exact sm_str (h x hx)).1
theorem mem_strs {x : Str} {xs : List Str} : D.str x ∈ xs.map D.str ↔ x ∈ xs := by
  rw [List.mem_map]
  exact ⟨fun ⟨y, h, e⟩ => by cases e; exact h, fun h => ⟨x, h, rfl⟩⟩
theorem cl_strs {k : Bool} {xs : List Str} : ∀ e ∈ xs.map D.str, e.cl k = true := fun e he => by
  obtain ⟨x, _, rfl⟩ := List.mem_map.mp he
  rfl
theorem notIn_strs {xs : List Str} {x : Str} (hx : NameOk x) (h : ∀ x ∈ xs, NameOk x) : semNotIn2 (.str x) (.lst (xs.map D.str)) = some (.bl (decide (x ∉ xs))) := by
  rw [semNotIn_lst true hx.fit (fit_strs h) rfl cl_strs]
  simp only [mem_strs, decide_not]
set_option maxHeartbeats 4000000 in
theorem app_ok {bs : List D} (m : Int) (xs ys : List Str) (o5 o6 o7 o8 o9 o11 : Option OV) (hx : ∀ x ∈ xs, NameOk x) (hy : ∀ y ∈ ys, NameOk y) (hl : xs.length ≤ 1000) (hl2 : ys.length ≤ 1000) (hf : ∃ y ∈ ys, y ∉ xs) :
    ∃ x, appS 3 (op2 (.ex (frzD lc__law_names_3)) (.ex (cD (.int 0))) semAt) (envN bs m xs o5 o6 o7 o8 o9 (some (.sh (.lst (ys.map D.str)))) o11)
      = .nx (envN bs m (xs ++ [x]) o5 o6 o7 o8 o9 (some (.sh (.lst (ys.map D.str)))) none) ∧ x ∈ ys ∧ x ∉ xs := by
  have em := lcD_map (it := it__law_names_3) (vs := [11]) (h := gN 11) (t := ts__law_names_1) (elt := el__law_names_3) (r := envN bs m xs o5 o6 o7 o8 o9 (some (.sh (.lst (ys.map D.str)))) o11) (envN bs m xs o5 o6 o7 o8 o9 (some (.sh (.lst (ys.map D.str)))) none) ys D.str (fun y => decide (y ∉ xs)) D.str rfl (by omega) rfl rfl (fun y hyy => by
    refine ⟨envN bs m xs o5 o6 o7 o8 o9 (some (.sh (.lst (ys.map D.str)))) (some (.sh (.str y))), envN bs m xs o5 o6 o7 o8 o9 (some (.sh (.lst (ys.map D.str)))) (some (.sh (.str y))), rfl, ?_, rfl, fun _ => ⟨_, rfl, rfl⟩⟩
    have hin := notIn_strs (hy y hyy) hx
    simp only [ts__law_names_1, toB, op2, Opd.run, fill, envN, Rs.bind, look, lookV, ofO, OV.d, hin, D.asB, Rs.noE, List.map_cons, List.map_nil, List.length_cons, List.length_nil, List.length_map, List.replicate, List.cons_append, List.nil_append, List.append_nil, List.getElem?_cons_zero, List.getElem?_cons_succ, List.set_cons_zero, List.set_cons_succ, Option.bind_some, Option.bind_none, Option.map_some, Option.map_none, Nat.zero_add, Nat.add_zero, Nat.reduceAdd, Nat.reduceSub, Nat.sub_self, Nat.reduceLeDiff, Nat.reduceEqDiff, Nat.le_refl, Nat.add_sub_cancel, if_true, if_false, Bool.false_eq_true, Bool.not_true, Bool.not_false, Bool.not_not, reduceIte, reduceCtorEq, and_self, and_true, true_and, decide_true, decide_false, semEq_str, semNe_str, semEq_int, semNe_int, semEq_bl, semNe_bl, atI0, atI1, atI2, atI3, atI4, OkS_nx, post_ok, items_lst, items_tup, semAt_lst, semAt_tup, semAt_str, semAt_dic])
  obtain ⟨y0, hy0, hn0⟩ := hf
  cases hfl : ys.filter fun y => decide (y ∉ xs) with
  | nil =>
    have : y0 ∈ ys.filter fun y => decide (y ∉ xs) := List.mem_filter.mpr ⟨hy0, decide_eq_true hn0⟩
    rw [hfl] at this
    cases this
  | cons x r =>
    have hx2 : x ∈ ys.filter fun y => decide (y ∉ xs) := by rw [hfl]; exact List.mem_cons_self ..
    obtain ⟨h1, h2⟩ := List.mem_filter.mp hx2
    have h2 := of_decide_eq_true h2
    refine ⟨x, ?_, h1, h2⟩
    rw [hfl] at em
    have em : lc__law_names_3 (envN bs m xs o5 o6 o7 o8 o9 (some (.sh (.lst (ys.map D.str)))) o11) = _ := em
    have hat : atI ((x :: r).map D.str) 0 = some (.str x) := atI_nat (j := 0) rfl
    have hla : (xs.map D.str).length ≤ 1000000 := by rw [List.length_map]; omega
    unfold appS
    have hfw : fillW (envN bs m xs o5 o6 o7 o8 o9 (some (.sh (.lst (ys.map D.str)))) o11) 3 = .ok () (envN bs m xs o5 o6 o7 o8 o9 (some (.sh (.lst (ys.map D.str)))) o11) := rfl
    rw [hfw]
    simp only [thenS]
    rw [op2_ee]
    simp only [frzD, em, Rs.map, OV.d, Rs.bind, cD, semAt, semIx, hat, ofO]
    simp only [chgS, envN, lookV, List.getElem?_cons_zero, List.getElem?_cons_succ, Option.bind_some, OV.lst?, appF, hla, if_true, List.set_cons_succ, List.set_cons_zero, List.map_append, List.map_cons, List.map_nil]
/-- the state between two turns of names -/
def NInv (m : Int) (k : Nat) (r : En) : Prop := ∃ bs xs o5 o6 o7 o8 o9 o10 o11, r = envN bs m xs o5 o6 o7 o8 o9 o10 o11 ∧ BagOk bs ∧ xs.length = k ∧ xs.Nodup ∧ ∀ x ∈ xs, NameOk x ∧ x ≠ ("zzzzz" : Str)
theorem cands_len (w : Bool) {k : Nat} (hk : k < 26) (rest : Str) : (cands w k rest).length ≤ 1000 := by
  obtain ⟨rn, rl, rc, rz⟩ := rot_ok ⟨k, hk⟩
  unfold cands
  rw [List.length_append, List.length_map, ← len_codes, show (rot k).length = 26 from rl]
  have := cutL_len WRD (some (k : Int)) none
  have h20 : WRD.length = 20 := rfl
  split
  · omega
  · simp
set_option maxHeartbeats 4000000 in
theorem names_okZ {bs : List D} (hb : BagOk bs) (m : Nat) (hm : m ≤ 12) : ∃ (xs : List Str) (bs' : List D), f__law_names bs [.int m] = some (.ow (xs.map D.str), bs') ∧ xs.length = m ∧ xs.Nodup ∧ (∀ x ∈ xs, NameOk x ∧ x ≠ ("zzzzz" : Str)) ∧ BagOk bs' := by
  have st : ∀ (i : Nat) (d : D), (rangeD 0 m)[i]? = some d → ∀ r, NInv m i r → ∃ r1 r2, gN 5 d r = some r1 ∧ bd__law_names_1 r1 = .nx r2 ∧ NInv m (i + 1) r2 := by
    rintro i d hd r ⟨bs, xs, o5, o6, o7, o8, o9, o10, o11, rfl, hb, hl, hnd, hok⟩
    obtain ⟨hi, rfl⟩ := rangeD_get hd
    obtain ⟨cs, b1, e1, c1, c2, c5, c3, hb1⟩ := signs_ok hb m xs (some (.sh (.int (0 + i)))) o6 o7 o8 o9 o10 o11
    cases cs with
    | nil => cases c1
    | cons c cs =>
      have hc := c3 c (List.mem_cons_self ..)
      have hcs : ∀ x ∈ cs, 97 ≤ x ∧ x ≤ 122 := fun x hx => c3 x (List.mem_cons_of_mem _ hx)
      rw [List.length_cons] at c2 c5
      have e2 := par_ok (bs := b1) m xs (some (.sh (.int (0 + i)))) none o8 o9 o10 o11 c cs hc.1 hc.2 (by omega)
      have hjl : (Txt.join "" (cs.map one)).length ≤ 7 := by rw [len_codes, join_codes]; omega
      have hj4 : (Txt.join "" (cs.map one)).length ≠ 4 := by rw [len_codes, join_codes]; omega
      have hjc : ∀ x ∈ (Txt.join "" (cs.map one)).cps.toList, 97 ≤ x ∧ x ≤ 122 := by rw [join_codes]; exact hcs
      have hk : c - 97 < 26 := by omega
      obtain ⟨w, b2, e3, hb2⟩ := cands_ok hb1 m xs (some (.sh (.int (0 + i)))) (some (.sh (.lst ((c :: cs).map fun c => D.str (one c))))) none o10 o11 (c - 97) hk _ hjl
      obtain ⟨x, e4, x1, x2⟩ := app_ok (bs := b2) m xs (cands w (c - 97) (Txt.join "" (cs.map one))) (some (.sh (.int (0 + i)))) (some (.sh (.lst ((c :: cs).map fun c => D.str (one c))))) none (some (.sh (.int ((c - 97 : Nat) : Int)))) (some (.sh (.str (Txt.join "" (cs.map one))))) none (fun x hx => (hok x hx).1) (rest_name hk hjl hjc) (by omega) (cands_len w hk _) (fresh_cand hk (by omega))
      refine ⟨envN bs m xs (some (.sh (.int (0 + i)))) o6 o7 o8 o9 o10 o11, envN b2 m (xs ++ [x]) (some (.sh (.int (0 + i)))) (some (.sh (.lst ((c :: cs).map fun c => D.str (one c))))) none (some (.sh (.int ((c - 97 : Nat) : Int)))) (some (.sh (.str (Txt.join "" (cs.map one))))) (some (.sh (.lst ((cands w (c - 97) (Txt.join "" (cs.map one))).map D.str)))) none, rfl, ?_, b2, xs ++ [x], _, _, _, _, _, _, _, rfl, hb2, by rw [List.length_append, hl]; rfl, ?_, fun y hy => ?_⟩
      · have es : setS 6 (shD (frzD lc__law_names_1)) (envN bs m xs (some (.sh (.int (0 + i)))) o6 o7 o8 o9 o10 o11) = .nx (envN b1 m xs (some (.sh (.int (0 + i)))) (some (.sh (.lst ((c :: cs).map fun c => D.str (one c))))) none o8 o9 o10 o11) := by
          unfold setS shD frzD
          rw [e1]
          rfl
        unfold bd__law_names_1
        unfold step10 at e3
        rw [seqS_nx es, seqS_nx e2, seqS_nx e3]
        exact e4
      · rw [List.nodup_append]
        refine ⟨hnd, List.nodup_cons.mpr ⟨List.not_mem_nil, List.nodup_nil⟩, fun a ha b hb => ?_⟩
        rw [List.mem_singleton.mp hb]
        exact fun e => x2 (e ▸ ha)
      · rcases List.mem_append.mp hy with hy | hy
        · exact hok y hy
        · rw [List.mem_singleton.mp hy]
          exact ⟨rest_name hk hjl hjc x x1, rest_z hk hj4 x x1⟩
  have h0 : NInv m 0 (envN bs m [] none none none none none none none) := ⟨bs, [], none, none, none, none, none, none, none, rfl, hb, rfl, List.nodup_nil, fun _ z => absurd z List.not_mem_nil⟩
  obtain ⟨r', e, bs', xs, o5, o6, o7, o8, o9, o10, o11, rfl, hb', hl, hnd, hok⟩ := forS_inv (rangeD 0 m) (NInv m) st _ h0
  rw [rangeD_len] at hl
  refine ⟨xs, bs', ?_, hl, hnd, hok, hb'⟩
  have hm1 : -1000000 ≤ (m : Int) ∧ (m : Int) ≤ 1000000 := by omega
  have ep : par2 2 3 (cD (.str LET)) (lstD []) [some (.ow bs), some (.sh (.int m)), none, none, none, none, none, none, none, none, none, none] = .nx [some (.ow bs), some (.sh (.int m)), some (.sh (.str LET)), some (.ow []), none, none, none, none, none, none, none, none] := rfl
  have ew : setS 4 (shD (m1D (.ex (cD (.str WST))) (.ex (cD (.str " "))) semSplit)) [some (.ow bs), some (.sh (.int m)), some (.sh (.str LET)), some (.ow []), none, none, none, none, none, none, none, none] = .nx (envN bs m [] none none none none none none none) := by
    have h1 : (Str.ofString " ").length ≠ 0 ∧ WST.length ≤ 1000000 := ⟨by decide +kernel, wst_len⟩
    simp only [setS, shD, m1D, Opd.run, cD, Rs.map, Rs.bind, look, semSplit, h1, if_true, wst_split, ofO, thenS, Option.bind_some, ne_eq, not_false_eq_true, and_self]
    rfl
  have ef : it__law_names_4 (envN bs m [] none none none none none none none) = .ok (rangeD 0 m) (envN bs m [] none none none none none none none) := by
    simp only [it__law_names_4, rg1, vD, envN, List.getElem?_cons_zero, List.getElem?_cons_succ, Rs.bind, D.asI, ofO, hm1, and_self, if_true, Int.toNat_natCast]
  have es : startE 12 (.ow bs :: [D.int m].map OV.sh) = [some (.ow bs), some (.sh (.int m)), none, none, none, none, none, none, none, none, none, none] := rfl
  unfold f__law_names fnB
  rw [es]
  unfold m__law_names
  rw [seqS_nx ep, seqS_nx ew]
  unfold fr__law_names_1
  rw [seqS_nx (forD_of ef e)]
  rfl
theorem names_ok {bs : List D} (hb : BagOk bs) (m : Nat) (hm : m ≤ 12) : ∃ (xs : List Str) (bs' : List D), f__law_names bs [.int m] = some (.ow (xs.map D.str), bs') ∧ xs.length = m ∧ xs.Nodup ∧ (∀ x ∈ xs, NameOk x) ∧ BagOk bs' := by
  obtain ⟨xs, b, e, h1, h2, h3, h4⟩ := names_okZ hb m hm
  exact ⟨xs, b, e, h1, h2, fun x hx => (h3 x hx).1, h4⟩
end T

-- needs: _law_names
namespace T
open PySem L2 DL
/-- an atom, a pattern: relation, left, right -/
abbrev At := Str × Str × Str
def atD (x : At) : D := .tup [.str x.1, .str x.2.1, .str x.2.2]
def isRel (r : Str) : Prop := r = "eq" ∨ r = "lt" ∨ r = "gt"
structure AtOk (x : At) : Prop where
  rel : isRel x.1
  l : NameOk x.2.1
  r : NameOk x.2.2
structure PtOk (x : At) : Prop where
  rel : isRel x.1 ∨ x.1 = ""
  l : NameOk x.2.1 ∨ x.2.1 = ""
  r : NameOk x.2.2 ∨ x.2.2 = ""
theorem AtOk.pt {x : At} (h : AtOk x) : PtOk x := ⟨.inl h.rel, .inl h.l, .inl h.r⟩
/-- an atom over some names -/
structure AtIn (xs : List Str) (x : At) : Prop where
  rel : isRel x.1
  l : x.2.1 ∈ xs
  r : x.2.2 ∈ xs
theorem AtIn.ok {xs : List Str} {x : At} (h : AtIn xs x) (hx : ∀ x ∈ xs, NameOk x) : AtOk x := ⟨h.rel, hx _ h.l, hx _ h.r⟩
/-! ### patterns -/
/-- a pattern over some names -/
structure PtIn (xs : List Str) (x : At) : Prop where
  rel : isRel x.1 ∨ x.1 = ""
  l : x.2.1 ∈ xs ∨ x.2.1 = ""
  r : x.2.2 ∈ xs ∨ x.2.2 = ""
theorem PtIn.ok {xs : List Str} {x : At} (h : PtIn xs x) (hx : ∀ x ∈ xs, NameOk x) : PtOk x := ⟨h.rel, h.l.imp_left (hx _), h.r.imp_left (hx _)⟩
/-! ### facts -/
def ftD (fs : List At) : D := .tup (fs.map atD)
structure FtIn (xs : List Str) (fs : List At) : Prop where
  all : ∀ x ∈ fs, AtIn xs x
  len : fs.length = 1 ∨ fs.length = 2
structure FtOk (fs : List At) : Prop where
  all : ∀ x ∈ fs, AtOk x
  len : fs.length = 1 ∨ fs.length = 2
theorem FtIn.ok {xs : List Str} {fs : List At} (h : FtIn xs fs) (hx : ∀ x ∈ xs, NameOk x) : FtOk fs := ⟨fun x hm => (h.all x hm).ok hx, h.len⟩
theorem map_of {α : Type} {enc : α → D} {P : α → Prop} : ∀ {ys : List D}, (∀ y ∈ ys, ∃ x, y = enc x ∧ P x) → ∃ xs : List α, ys = xs.map enc ∧ ∀ x ∈ xs, P x
  | [], _ => ⟨[], rfl, fun _ z => absurd z List.not_mem_nil⟩
  | y :: ys, h => by
    obtain ⟨x, rfl, hx⟩ := h y (List.mem_cons_self ..)
    obtain ⟨xs, rfl, hxs⟩ := map_of fun y hy => h y (List.mem_cons_of_mem _ hy)
    refine ⟨x :: xs, rfl, fun z hz => ?_⟩
    rcases List.mem_cons.mp hz with rfl | hz
    · exact hx
    · exact hxs z hz
/-! ### turned, fits -/
theorem r_eq_lt : (("eq" : Str) = "lt") = False := eq_false (by decide +kernel)
theorem r_eq_gt : (("eq" : Str) = "gt") = False := eq_false (by decide +kernel)
theorem r_lt_gt : (("lt" : Str) = "gt") = False := eq_false (by decide +kernel)
theorem r_lt_eq : (("lt" : Str) = "eq") = False := eq_false (by decide +kernel)
theorem r_gt_eq : (("gt" : Str) = "eq") = False := eq_false (by decide +kernel)
theorem r_gt_lt : (("gt" : Str) = "lt") = False := eq_false (by decide +kernel)
theorem r_eq_0 : (("eq" : Str) = "") = False := eq_false (by decide +kernel)
theorem r_lt_0 : (("lt" : Str) = "") = False := eq_false (by decide +kernel)
theorem r_gt_0 : (("gt" : Str) = "") = False := eq_false (by decide +kernel)
theorem r_0_eq : (("" : Str) = "eq") = False := eq_false (by decide +kernel)
theorem r_0_lt : (("" : Str) = "lt") = False := eq_false (by decide +kernel)
theorem r_0_gt : (("" : Str) = "gt") = False := eq_false (by decide +kernel)
/-- the turned relation -/
def bk (r : Str) : Str := if r = "lt" then "gt" else if r = "gt" then "lt" else r
def turn (x : At) : At := (bk x.1, x.2.2, x.2.1)
theorem bk_rel {r : Str} (h : isRel r) : isRel (bk r) := by
  rcases h with rfl | rfl | rfl
  · exact .inl (by decide +kernel)
  · exact .inr (.inr (by decide +kernel))
  · exact .inr (.inl (by decide +kernel))
theorem bk_0 : bk "" = "" := by decide +kernel
theorem bk_eq : bk "eq" = "eq" := by decide +kernel
theorem bk_lt : bk "lt" = "gt" := by decide +kernel
theorem bk_gt : bk "gt" = "lt" := by decide +kernel
theorem AtOk.turn {x : At} (h : AtOk x) : AtOk (turn x) := ⟨bk_rel h.rel, h.r, h.l⟩
theorem PtOk.turn {x : At} (h : PtOk x) : PtOk (turn x) := ⟨h.rel.elim (fun z => .inl (bk_rel z)) fun z => .inr (by show bk x.1 = ""; rw [z, bk_0]), h.r, h.l⟩
theorem AtIn.turn {xs : List Str} {x : At} (h : AtIn xs x) : AtIn xs (turn x) := ⟨bk_rel h.rel, h.r, h.l⟩
theorem FtOk.turn {fs : List At} (h : FtOk fs) : FtOk (fs.map turn) := ⟨fun x hx => by
  obtain ⟨y, hy, rfl⟩ := List.mem_map.mp hx
  exact (h.all y hy).turn, by rw [List.length_map]; exact h.len⟩
def ft (p q : Str) : Bool := decide (p = "") || decide (p = q)
end T

-- needs: _law_some
namespace T
open PySem L2 DL
/-! ### drawing: some, atoms -/
set_option maxHeartbeats 2000000 in
theorem some_ok {bs : List D} (hb : BagOk bs) (ds : List D) (h0 : ds ≠ []) (hl : ds.length ≤ 1000) : ∃ d bs', f__law_some bs [.lst ds] = some (.sh d, bs') ∧ d ∈ ds ∧ BagOk bs' := by
  have hp : 0 < ds.length := List.length_pos_iff.mpr h0
  obtain ⟨v, b1, e, v0, v1, hb1⟩ := take_ok hb (n := (ds.length : Int)) (by omega) (by omega)
  obtain ⟨d, e1, hd⟩ := atI_mem v0 v1
  refine ⟨d, b1, ?_, hd, hb1⟩
  simp only [f__law_some, m__law_some, fnB, fnP, Rs.noE, startE, seqS, ifS, thenS, toB, op2, opN, op1, Opd.run, fill, lookV, look, Rs.bind, Rs.map, ofO, cD, vD, D.asB, semGt, semGe, semLt, semLe, setS, putS, DL.putF, shD, frzD, mvD, rtS, chgS, fillW, OV.lst?, OV.d, nxS, runs, looks, semInt, semMod, semFdiv, semAdd, semSub, semMul, semAbs, semLen, semTuple, semList, lstD, tupD, evs, callP, callB, slD, poN, poS, semSl, D.asI, appS, appF, extS, extF, augS, augF, exS, ifD, andT, orT, notT, notD, andD, orD, par2, par3, asgS, gN, gT, gsCons, gsNil, forD, rg1, rg2, itA, zpD, zip2, zipD, lcD, yesT, wipeE, m1D, tabD, semIs, semIsNot, D.isN, toT, orV, andV, notV, D.tru, chD, isiD, D.key, evPs, dicD, semDict, pairD, semRepr, callL, op2O, slO, opNO, lrgO, OV.flt, D.flt, semAddL, semMulL, semListL, mLD, popF, popS, insF, insS, clrS, revO, Rs.noE, List.map_cons, List.map_nil, List.length_cons, List.length_nil, List.length_map, List.replicate, List.cons_append, List.nil_append, List.append_nil, List.getElem?_cons_zero, List.getElem?_cons_succ, List.set_cons_zero, List.set_cons_succ, Option.bind_some, Option.bind_none, Option.map_some, Option.map_none, Nat.zero_add, Nat.add_zero, Nat.reduceAdd, Nat.reduceSub, Nat.sub_self, Nat.reduceLeDiff, Nat.reduceEqDiff, Nat.le_refl, Nat.add_sub_cancel, if_true, if_false, Bool.false_eq_true, Bool.not_true, Bool.not_false, Bool.not_not, reduceIte, reduceCtorEq, and_self, and_true, true_and, decide_true, decide_false, semEq_str, semNe_str, semEq_int, semNe_int, semEq_bl, semNe_bl, atI0, atI1, atI2, atI3, atI4, OkS_nx, post_ok, items_lst, items_tup, semAt_lst, semAt_tup, semAt_str, semAt_dic, e, e1]
theorem someS_ok {bs : List D} (hb : BagOk bs) (xs : List Str) (h0 : xs ≠ []) (hl : xs.length ≤ 1000) : ∃ x bs', f__law_some bs [.lst (xs.map D.str)] = some (.sh (.str x), bs') ∧ x ∈ xs ∧ BagOk bs' := by
  obtain ⟨d, b, e, hd, hb'⟩ := some_ok hb (xs.map D.str) (fun z => h0 (List.map_eq_nil_iff.mp z)) (by rw [List.length_map]; exact hl)
  obtain ⟨x, hx, rfl⟩ := List.mem_map.mp hd
  exact ⟨x, b, e, hx, hb'⟩
end T

-- needs: _law_some _law_atom
namespace T
open PySem L2 DL
set_option maxHeartbeats 2000000 in
theorem atom_ok {bs : List D} (hb : BagOk bs) (xs : List Str) (h0 : xs ≠ []) (hl : xs.length ≤ 1000) : ∃ x bs', f__law_atom bs [.lst (xs.map D.str)] = some (.sh (atD x), bs') ∧ AtIn xs x ∧ BagOk bs' := by
  obtain ⟨v, b1, e1, v0, v1, hb1⟩ := take_ok hb (n := 4) (by decide) (by decide)
  obtain ⟨a, b2, e2, ha, hb2⟩ := someS_ok hb1 xs h0 hl
  obtain ⟨b, b3, e3, hbm, hb3⟩ := someS_ok hb2 xs h0 hl
  obtain ⟨r, er, hr⟩ : ∃ r : Str, atI [D.str "eq", D.str "lt", D.str "gt", D.str "lt"] v = some (.str r) ∧ isRel r := by
    have : v = 0 ∨ v = 1 ∨ v = 2 ∨ v = 3 := by omega
    rcases this with rfl | rfl | rfl | rfl
    · exact ⟨_, rfl, .inl rfl⟩
    · exact ⟨_, rfl, .inr (.inl rfl)⟩
    · exact ⟨_, rfl, .inr (.inr rfl)⟩
    · exact ⟨_, rfl, .inr (.inl rfl)⟩
  refine ⟨(r, a, b), b3, ?_, ⟨hr, ha, hbm⟩, hb3⟩
  simp only [f__law_atom, m__law_atom, fnB, fnP, Rs.noE, startE, seqS, ifS, thenS, toB, op2, opN, op1, Opd.run, fill, lookV, look, Rs.bind, Rs.map, ofO, cD, vD, D.asB, semGt, semGe, semLt, semLe, setS, putS, DL.putF, shD, frzD, mvD, rtS, chgS, fillW, OV.lst?, OV.d, nxS, runs, looks, semInt, semMod, semFdiv, semAdd, semSub, semMul, semAbs, semLen, semTuple, semList, lstD, tupD, evs, callP, callB, slD, poN, poS, semSl, D.asI, appS, appF, extS, extF, augS, augF, exS, ifD, andT, orT, notT, notD, andD, orD, par2, par3, asgS, gN, gT, gsCons, gsNil, forD, rg1, rg2, itA, zpD, zip2, zipD, lcD, yesT, wipeE, m1D, tabD, semIs, semIsNot, D.isN, toT, orV, andV, notV, D.tru, chD, isiD, D.key, evPs, dicD, semDict, pairD, semRepr, callL, op2O, slO, opNO, lrgO, OV.flt, D.flt, semAddL, semMulL, semListL, mLD, popF, popS, insF, insS, clrS, revO, Rs.noE, List.map_cons, List.map_nil, List.length_cons, List.length_nil, List.length_map, List.replicate, List.cons_append, List.nil_append, List.append_nil, List.getElem?_cons_zero, List.getElem?_cons_succ, List.set_cons_zero, List.set_cons_succ, Option.bind_some, Option.bind_none, Option.map_some, Option.map_none, Nat.zero_add, Nat.add_zero, Nat.reduceAdd, Nat.reduceSub, Nat.sub_self, Nat.reduceLeDiff, Nat.reduceEqDiff, Nat.le_refl, Nat.add_sub_cancel, if_true, if_false, Bool.false_eq_true, Bool.not_true, Bool.not_false, Bool.not_not, reduceIte, reduceCtorEq, and_self, and_true, true_and, decide_true, decide_false, semEq_str, semNe_str, semEq_int, semNe_int, semEq_bl, semNe_bl, atI0, atI1, atI2, atI3, atI4, OkS_nx, post_ok, items_lst, items_tup, semAt_lst, semAt_tup, semAt_str, semAt_dic, e1, e2, e3, er, atD]
end T

-- needs: _law_some _law_atom _law_fact
namespace T
open PySem L2 DL
set_option maxHeartbeats 4000000 in
theorem fact_ok {bs : List D} (hb : BagOk bs) (xs : List Str) (h0 : xs ≠ []) (hl : xs.length ≤ 1000) : ∃ fs bs', f__law_fact bs [.lst (xs.map D.str)] = some (.sh (ftD fs), bs') ∧ FtIn xs fs ∧ BagOk bs' := by
  obtain ⟨v, b1, e1, v0, v1, hb1⟩ := take_ok hb (n := 3) (by decide) (by decide)
  have ei : it__law_fact_1 [some (.ow bs), some (.sh (.lst (xs.map D.str))), none] = .ok (rangeD 0 (1 + v / 2).toNat) [some (.ow b1), some (.sh (.lst (xs.map D.str))), none] := by
    have h : -1000000 ≤ 1 + v / 2 ∧ 1 + v / 2 ≤ 1000000 := by omega
    simp [it__law_fact_1, fnB, fnP, Rs.noE, startE, seqS, ifS, thenS, toB, op2, opN, op1, Opd.run, fill, lookV, look, Rs.bind, Rs.map, ofO, cD, vD, semIx, semEq, semNe, eqB, D.sc, D.asB, atI, ixN, semGt, semGe, semLt, semLe, setS, putS, DL.putF, shD, frzD, mvD, rtS, chgS, fillW, OV.lst?, OV.d, nxS, runs, looks, semInt, semMod, semFdiv, semAdd, semSub, semMul, semAbs, semLen, semTuple, semList, lstD, tupD, evs, callP, callB, slD, poN, poS, semSl, D.asI, appS, appF, extS, extF, augS, augF, exS, ifD, andT, orT, notT, notD, andD, orD, par2, par3, asgS, gN, gT, gsCons, gsNil, forD, rg1, rg2, itA, D.items, zpD, zip2, zipD, lcD, yesT, wipeE, m1D, tabD, semIs, semIsNot, D.isN, semAt, semIn2, semNotIn2, inB2, toT, orV, andV, notV, D.tru, chD, isiD, D.isi, D.ty, isTy, D.key, evPs, dicD, semDict, pairD, mergeD, putD, valD, semRepr, callL, op2O, slO, opNO, lrgO, OV.flt, D.flt, semAddL, semMulL, semListL, mLD, popF, popS, insF, insS, clrS, revO, e1, h]
  obtain ⟨ys, r', q1, q2, q3, q4⟩ := lcD_inv (vs := [2]) (h := gN 2) (elt := el__law_fact_1) (fun r => ∃ b, r = [some (.ow b), some (.sh (.lst (xs.map D.str))), none] ∧ BagOk b) (fun y => ∃ x, y = atD x ∧ AtIn xs x) ei (by rw [rangeD_len]; omega) ⟨b1, rfl, hb1⟩ (by rintro r ⟨b, rfl, _⟩; rfl) (by
    rintro d _ r ⟨b, rfl, hb⟩
    obtain ⟨x, b', e, hx, hb'⟩ := atom_ok hb xs h0 hl
    refine ⟨[some (.ow b), some (.sh (.lst (xs.map D.str))), some (.sh d)], atD x, [some (.ow b'), some (.sh (.lst (xs.map D.str))), some (.sh d)], rfl, ?_, ⟨x, rfl, hx⟩, b', rfl, hb'⟩
    simp only [el__law_fact_1, fnB, fnP, Rs.noE, startE, seqS, ifS, thenS, toB, op2, opN, op1, Opd.run, fill, lookV, look, Rs.bind, Rs.map, ofO, cD, vD, D.asB, semGt, semGe, semLt, semLe, setS, putS, DL.putF, shD, frzD, mvD, rtS, chgS, fillW, OV.lst?, OV.d, nxS, runs, looks, semInt, semMod, semFdiv, semAdd, semSub, semMul, semAbs, semLen, semTuple, semList, lstD, tupD, evs, callP, callB, slD, poN, poS, semSl, D.asI, appS, appF, extS, extF, augS, augF, exS, ifD, andT, orT, notT, notD, andD, orD, par2, par3, asgS, gN, gT, gsCons, gsNil, forD, rg1, rg2, itA, zpD, zip2, zipD, lcD, yesT, wipeE, m1D, tabD, semIs, semIsNot, D.isN, toT, orV, andV, notV, D.tru, chD, isiD, D.key, evPs, dicD, semDict, pairD, semRepr, callL, op2O, slO, opNO, lrgO, OV.flt, D.flt, semAddL, semMulL, semListL, mLD, popF, popS, insF, insS, clrS, revO, Rs.noE, List.map_cons, List.map_nil, List.length_cons, List.length_nil, List.length_map, List.replicate, List.cons_append, List.nil_append, List.append_nil, List.getElem?_cons_zero, List.getElem?_cons_succ, List.set_cons_zero, List.set_cons_succ, Option.bind_some, Option.bind_none, Option.map_some, Option.map_none, Nat.zero_add, Nat.add_zero, Nat.reduceAdd, Nat.reduceSub, Nat.sub_self, Nat.reduceLeDiff, Nat.reduceEqDiff, Nat.le_refl, Nat.add_sub_cancel, if_true, if_false, Bool.false_eq_true, Bool.not_true, Bool.not_false, Bool.not_not, reduceIte, reduceCtorEq, and_self, and_true, true_and, decide_true, decide_false, semEq_str, semNe_str, semEq_int, semNe_int, semEq_bl, semNe_bl, atI0, atI1, atI2, atI3, atI4, OkS_nx, post_ok, items_lst, items_tup, semAt_lst, semAt_tup, semAt_str, semAt_dic, e])
  obtain ⟨b', rfl, hb'⟩ := q4
  obtain ⟨fs, rfl, hfs⟩ := map_of q3
  rw [List.length_map, rangeD_len] at q2
  have q1 : lc__law_fact_1 [some (.ow bs), some (.sh (.lst (xs.map D.str))), none] = _ := q1
  refine ⟨fs, b', ?_, ⟨hfs, by omega⟩, hb'⟩
  simp only [f__law_fact, m__law_fact, fnB, fnP, Rs.noE, startE, seqS, ifS, thenS, toB, op2, opN, op1, Opd.run, fill, lookV, look, Rs.bind, Rs.map, ofO, cD, vD, D.asB, semGt, semGe, semLt, semLe, setS, putS, DL.putF, shD, frzD, mvD, rtS, chgS, fillW, OV.lst?, OV.d, nxS, runs, looks, semInt, semMod, semFdiv, semAdd, semSub, semMul, semAbs, semLen, semTuple, semList, lstD, tupD, evs, callP, callB, slD, poN, poS, semSl, D.asI, appS, appF, extS, extF, augS, augF, exS, ifD, andT, orT, notT, notD, andD, orD, par2, par3, asgS, gN, gT, gsCons, gsNil, forD, rg1, rg2, itA, zpD, zip2, zipD, lcD, yesT, wipeE, m1D, tabD, semIs, semIsNot, D.isN, toT, orV, andV, notV, D.tru, chD, isiD, D.key, evPs, dicD, semDict, pairD, semRepr, callL, op2O, slO, opNO, lrgO, OV.flt, D.flt, semAddL, semMulL, semListL, mLD, popF, popS, insF, insS, clrS, revO, Rs.noE, List.map_cons, List.map_nil, List.length_cons, List.length_nil, List.length_map, List.replicate, List.cons_append, List.nil_append, List.append_nil, List.getElem?_cons_zero, List.getElem?_cons_succ, List.set_cons_zero, List.set_cons_succ, Option.bind_some, Option.bind_none, Option.map_some, Option.map_none, Nat.zero_add, Nat.add_zero, Nat.reduceAdd, Nat.reduceSub, Nat.sub_self, Nat.reduceLeDiff, Nat.reduceEqDiff, Nat.le_refl, Nat.add_sub_cancel, if_true, if_false, Bool.false_eq_true, Bool.not_true, Bool.not_false, Bool.not_not, reduceIte, reduceCtorEq, and_self, and_true, true_and, decide_true, decide_false, semEq_str, semNe_str, semEq_int, semNe_int, semEq_bl, semNe_bl, atI0, atI1, atI2, atI3, atI4, OkS_nx, post_ok, items_lst, items_tup, semAt_lst, semAt_tup, semAt_str, semAt_dic, q1, ftD]
end T

-- needs: turned
namespace T
open PySem L2 DL
set_option maxHeartbeats 2000000 in
theorem turned_eq {x : At} (h : PtOk x) : f_turned [atD x] = some (.sh (atD (turn x))) := by
  obtain ⟨r, a, b⟩ := x
  have hb : c_BACK.lookup r = some (.str (bk r)) := by
    have := h.rel
    rcases this with (rfl | rfl | rfl) | rfl
    · rw [bk_eq]; rfl
    · rw [bk_lt]; rfl
    · rw [bk_gt]; rfl
    · rw [bk_0]; rfl
  simp [f_turned, m_turned, fnB, fnP, Rs.noE, startE, seqS, ifS, thenS, toB, op2, opN, op1, Opd.run, fill, lookV, look, Rs.bind, Rs.map, ofO, cD, vD, D.asB, semGt, semGe, semLt, semLe, setS, putS, DL.putF, shD, frzD, mvD, rtS, chgS, fillW, OV.lst?, OV.d, nxS, runs, looks, semInt, semMod, semFdiv, semAdd, semSub, semMul, semAbs, semLen, semTuple, semList, lstD, tupD, evs, callP, callB, slD, poN, poS, semSl, D.asI, appS, appF, extS, extF, augS, augF, exS, ifD, andT, orT, notT, notD, andD, orD, par2, par3, asgS, gN, gT, gsCons, gsNil, forD, rg1, rg2, itA, zpD, zip2, zipD, lcD, yesT, wipeE, m1D, tabD, semIs, semIsNot, D.isN, toT, orV, andV, notV, D.tru, chD, isiD, D.key, evPs, dicD, semDict, pairD, semRepr, callL, op2O, slO, opNO, lrgO, OV.flt, D.flt, semAddL, semMulL, semListL, mLD, popF, popS, insF, insS, clrS, revO, Rs.noE, List.map_cons, List.map_nil, List.length_cons, List.length_nil, List.length_map, List.replicate, List.cons_append, List.nil_append, List.append_nil, List.getElem?_cons_zero, List.getElem?_cons_succ, List.set_cons_zero, List.set_cons_succ, Option.bind_some, Option.bind_none, Option.map_some, Option.map_none, Nat.zero_add, Nat.add_zero, Nat.reduceAdd, Nat.reduceSub, Nat.sub_self, Nat.reduceLeDiff, Nat.reduceEqDiff, Nat.le_refl, Nat.add_sub_cancel, if_true, if_false, Bool.false_eq_true, Bool.not_true, Bool.not_false, Bool.not_not, reduceIte, reduceCtorEq, and_self, and_true, true_and, decide_true, decide_false, semEq_str, semNe_str, semEq_int, semNe_int, semEq_bl, semNe_bl, atI0, atI1, atI2, atI3, atI4, OkS_nx, post_ok, items_lst, items_tup, semAt_lst, semAt_tup, semAt_str, semAt_dic, hb, atD, turn]
end T

-- needs: _law_alike
namespace T
open PySem L2 DL
theorem semEqX_str (x y : Str) : semEqX (.str x) (.str y) = some (.bl (decide (x = y))) := semEqX_of (semEq_str x y)
theorem alike_gen {d : D} {t : Str} (h1 : semEqX d d = some (.bl true)) (h2 : semRepr [d] = some (.str t)) : f__law_alike [d, d] = some (.sh (.bl true)) := by
  unfold f__law_alike
  refine fnP_w ?_
  unfold m__law_alike
  (repeat (first | (with_reducible refine Gi.of h1 ?_) | (with_reducible refine Gi.of h2 ?_) | (with_reducible refine Gi.of (semEqX_str _ _) ?_) | walk_at "go1"))
  show OV.sh (.bl (decide (t = t))) = _
  rw [decide_eq_true rfl]
theorem alike_ok {d : D} (h : d.shw = true) (hf : d.fit = true) : f__law_alike [d, d] = some (.sh (.bl true)) :=
  alike_gen (semEqX_of (semEq_self hf)) (t := d.py.shown) (by show (if d.shw = true then _ else _) = _; rw [if_pos h])
theorem alike_sm {d : D} {n w : Nat} (h : Sm n w d) (hn : n ≤ 64 := by decide) (hw : w ≤ 1000000 := by decide) : f__law_alike [d, d] = some (.sh (.bl true)) := alike_ok (h.shw hn hw) (h.fit hn)
end T

-- needs: _law_world _law_names
namespace T
open PySem L2 DL
/-! ### worlds -/
/-- a world: three names for rows, two to four for things -/
def wdD (xs ys : List Str) : D := .dic [(.inr "names", .lst (xs.map D.str)), (.inr "things", .lst (ys.map D.str))]
structure WorldOk (xs ys : List Str) : Prop where
  x3 : xs.length = 3
  y2 : 2 ≤ ys.length ∧ ys.length ≤ 4
  xn : xs.Nodup
  yn : ys.Nodup
  x : ∀ x ∈ xs, NameOk x
  y : ∀ y ∈ ys, NameOk y
  yz : ∀ y ∈ ys, y ≠ ("zzzzz" : Str)
theorem WorldOk.x0 {xs ys : List Str} (w : WorldOk xs ys) : xs ≠ [] := fun z => by have := w.x3; rw [z] at this; cases this
theorem WorldOk.y0 {xs ys : List Str} (w : WorldOk xs ys) : ys ≠ [] := fun z => by have := w.y2; rw [z] at this; simp at this
theorem wd_names (xs ys : List Str) : semAt (wdD xs ys) (.str "names") = some (.lst (xs.map D.str)) := rfl
theorem n_ne_t : ((Sum.inr ("names" : Str) : Key) = (Sum.inr ("things" : Str) : Key)) = False := eq_false fun h => by
  have : ("names" : Str) = "things" := Sum.inr.inj h
  exact absurd this (by decide +kernel)
theorem wd_things (xs ys : List Str) : semAt (wdD xs ys) (.str "things") = some (.lst (ys.map D.str)) := by
  have hk : ¬ ((Sum.inr ("names" : Str) : Key) = (Sum.inr ("things" : Str) : Key)) := fun h => by rw [n_ne_t] at h; exact h
  show valD [((Sum.inr ("names" : Str) : Key), .lst (xs.map D.str)), ((Sum.inr ("things" : Str) : Key), .lst (ys.map D.str))] (Sum.inr ("things" : Str) : Key) = _
  unfold valD
  simp only [List.find?_cons, hk, decide_false, decide_true, Option.map_some]
set_option maxHeartbeats 4000000 in
theorem world_ok {bs : List D} (hb : BagOk bs) : ∃ xs ys bs', f__law_world bs [] = some (.sh (wdD xs ys), bs') ∧ WorldOk xs ys ∧ BagOk bs' := by
  obtain ⟨xs, b1, e1, h1, n1, o1, hb1⟩ := names_ok hb 3 (by decide)
  obtain ⟨v, b2, e2, v0, v1, hb2⟩ := take_ok hb1 (n := 3) (by decide) (by decide)
  obtain ⟨m, hm, hm2⟩ : ∃ m : Nat, 2 + v = (m : Int) ∧ 2 ≤ m ∧ m ≤ 4 := ⟨(2 + v).toNat, by omega, by omega, by omega⟩
  obtain ⟨ys, b3, e3, h3, n3, o3, hb3⟩ := names_okZ hb2 m (by omega)
  have e1 : f__law_names bs [.int 3] = some (.ow (xs.map D.str), b1) := e1
  refine ⟨xs, ys, b3, ?_, ⟨h1, by omega, n1, n3, o1, fun y hy => (o3 y hy).1, fun y hy => (o3 y hy).2⟩, hb3⟩
  have hmg : mergeD [] [((Sum.inr "names" : Key), D.lst (xs.map D.str)), (Sum.inr "things", .lst (ys.map D.str))] = [((Sum.inr "names" : Key), D.lst (xs.map D.str)), (Sum.inr "things", .lst (ys.map D.str))] := by
    have hk : ¬ ((Sum.inr ("names" : Str) : Key) = (Sum.inr ("things" : Str) : Key)) := fun h => by rw [n_ne_t] at h; exact h
    simp only [mergeD, List.foldl_cons, List.foldl_nil, putD, List.any_nil, Bool.false_eq_true, if_false, List.nil_append, List.any_cons, hk, decide_false, Bool.or_false, List.cons_append]
  simp only [f__law_world, m__law_world, fnB, fnP, Rs.noE, startE, seqS, ifS, thenS, toB, op2, opN, op1, Opd.run, fill, lookV, look, Rs.bind, Rs.map, ofO, cD, vD, D.asB, semGt, semGe, semLt, semLe, setS, putS, DL.putF, shD, frzD, mvD, rtS, chgS, fillW, OV.lst?, OV.d, nxS, runs, looks, semInt, semMod, semFdiv, semAdd, semSub, semMul, semAbs, semLen, semTuple, semList, lstD, tupD, evs, callP, callB, slD, poN, poS, semSl, D.asI, appS, appF, extS, extF, augS, augF, exS, ifD, andT, orT, notT, notD, andD, orD, par2, par3, asgS, gN, gT, gsCons, gsNil, forD, rg1, rg2, itA, zpD, zip2, zipD, lcD, yesT, wipeE, m1D, tabD, semIs, semIsNot, D.isN, toT, orV, andV, notV, D.tru, chD, isiD, D.key, evPs, dicD, semDict, pairD, semRepr, callL, op2O, slO, opNO, lrgO, OV.flt, D.flt, semAddL, semMulL, semListL, mLD, popF, popS, insF, insS, clrS, revO, Rs.noE, List.map_cons, List.map_nil, List.length_cons, List.length_nil, List.length_map, List.replicate, List.cons_append, List.nil_append, List.append_nil, List.getElem?_cons_zero, List.getElem?_cons_succ, List.set_cons_zero, List.set_cons_succ, Option.bind_some, Option.bind_none, Option.map_some, Option.map_none, Nat.zero_add, Nat.add_zero, Nat.reduceAdd, Nat.reduceSub, Nat.sub_self, Nat.reduceLeDiff, Nat.reduceEqDiff, Nat.le_refl, Nat.add_sub_cancel, if_true, if_false, Bool.false_eq_true, Bool.not_true, Bool.not_false, Bool.not_not, reduceIte, reduceCtorEq, and_self, and_true, true_and, decide_true, decide_false, semEq_str, semNe_str, semEq_int, semNe_int, semEq_bl, semNe_bl, atI0, atI1, atI2, atI3, atI4, OkS_nx, post_ok, items_lst, items_tup, semAt_lst, semAt_tup, semAt_str, semAt_dic, e1, e2, hm, e3, hmg, wdD]
end T

-- needs: _law_world _law_row _law_fact
namespace T
open PySem L2 DL
/-! ### rows, worlds -/
abbrev Row := Str × List At
def rwD (r : Row) : D := .tup [.str r.1, ftD r.2]
def rwsD (rs : List Row) : D := .lst (rs.map rwD)
structure RowOk (r : Row) : Prop where
  nm : NameOk r.1
  ft : FtOk r.2
structure RowIn (xs ys : List Str) (r : Row) : Prop where
  nm : r.1 ∈ xs
  ft : FtIn ys r.2
theorem RowIn.ok {xs ys : List Str} {r : Row} (h : RowIn xs ys r) (hx : ∀ x ∈ xs, NameOk x) (hy : ∀ y ∈ ys, NameOk y) : RowOk r := ⟨hx _ h.nm, h.ft.ok hy⟩
set_option maxHeartbeats 4000000 in
theorem row_ok {bs : List D} (hb : BagOk bs) {xs ys : List Str} (w : WorldOk xs ys) : ∃ r bs', f__law_row bs [wdD xs ys] = some (.sh (rwD r), bs') ∧ RowIn xs ys r ∧ BagOk bs' := by
  obtain ⟨n, b1, e1, h1, hb1⟩ := someS_ok hb xs w.x0 (by have := w.x3; omega)
  obtain ⟨fs, b2, e2, h2, hb2⟩ := fact_ok hb1 ys w.y0 (by have := w.y2; omega)
  refine ⟨(n, fs), b2, ?_, ⟨h1, h2⟩, hb2⟩
  simp only [f__law_row, m__law_row, fnB, startE, rtS, shD, tupD, evs, frzD, callB, op2, Opd.run, fill, cD, lookV, look, Rs.bind, Rs.map, ofO, OV.d, OV.lst?, thenS, wd_names, wd_things, Rs.noE, List.map_cons, List.map_nil, List.length_cons, List.length_nil, List.length_map, List.replicate, List.cons_append, List.nil_append, List.append_nil, List.getElem?_cons_zero, List.getElem?_cons_succ, List.set_cons_zero, List.set_cons_succ, Option.bind_some, Option.bind_none, Option.map_some, Option.map_none, Nat.zero_add, Nat.add_zero, Nat.reduceAdd, Nat.reduceSub, Nat.sub_self, Nat.reduceLeDiff, Nat.reduceEqDiff, Nat.le_refl, Nat.add_sub_cancel, if_true, if_false, Bool.false_eq_true, Bool.not_true, Bool.not_false, Bool.not_not, reduceIte, reduceCtorEq, and_self, and_true, true_and, decide_true, decide_false, semEq_str, semNe_str, semEq_int, semNe_int, semEq_bl, semNe_bl, atI0, atI1, atI2, atI3, atI4, OkS_nx, post_ok, items_lst, items_tup, semAt_lst, semAt_tup, semAt_str, semAt_dic, e1, e2, rwD]
end T

-- needs: _law_world _law_row _law_rows _law_fact
namespace T
open PySem L2 DL
set_option maxHeartbeats 4000000 in
theorem rows_ok {bs : List D} (hb : BagOk bs) {xs ys : List Str} (w : WorldOk xs ys) (m : Nat) (hm : m ≤ 100) : ∃ (rs : List Row) (bs' : List D), f__law_rows bs [wdD xs ys, .int m] = some (.ow (rs.map rwD), bs') ∧ rs.length ≤ m ∧ (∀ r ∈ rs, RowIn xs ys r) ∧ BagOk bs' := by
  obtain ⟨v, b1, e1, v0, v1, hb1⟩ := take_ok hb (n := (m : Int) + 1) (by omega) (by omega)
  have ei : it__law_rows_1 [some (.ow bs), some (.sh (wdD xs ys)), some (.sh (.int m)), none] = .ok (rangeD 0 v.toNat) [some (.ow b1), some (.sh (wdD xs ys)), some (.sh (.int m)), none] := by
    have h : -1000000 ≤ v ∧ v ≤ 1000000 := by omega
    simp only [it__law_rows_1, fnB, fnP, Rs.noE, startE, seqS, ifS, thenS, toB, op2, opN, op1, Opd.run, fill, lookV, look, Rs.bind, Rs.map, ofO, cD, vD, D.asB, semGt, semGe, semLt, semLe, setS, putS, DL.putF, shD, frzD, mvD, rtS, chgS, fillW, OV.lst?, OV.d, nxS, runs, looks, semInt, semMod, semFdiv, semAdd, semSub, semMul, semAbs, semLen, semTuple, semList, lstD, tupD, evs, callP, callB, slD, poN, poS, semSl, D.asI, appS, appF, extS, extF, augS, augF, exS, ifD, andT, orT, notT, notD, andD, orD, par2, par3, asgS, gN, gT, gsCons, gsNil, forD, rg1, rg2, itA, zpD, zip2, zipD, lcD, yesT, wipeE, m1D, tabD, semIs, semIsNot, D.isN, toT, orV, andV, notV, D.tru, chD, isiD, D.key, evPs, dicD, semDict, pairD, semRepr, callL, op2O, slO, opNO, lrgO, OV.flt, D.flt, semAddL, semMulL, semListL, mLD, popF, popS, insF, insS, clrS, revO, Rs.noE, List.map_cons, List.map_nil, List.length_cons, List.length_nil, List.length_map, List.replicate, List.cons_append, List.nil_append, List.append_nil, List.getElem?_cons_zero, List.getElem?_cons_succ, List.set_cons_zero, List.set_cons_succ, Option.bind_some, Option.bind_none, Option.map_some, Option.map_none, Nat.zero_add, Nat.add_zero, Nat.reduceAdd, Nat.reduceSub, Nat.sub_self, Nat.reduceLeDiff, Nat.reduceEqDiff, Nat.le_refl, Nat.add_sub_cancel, if_true, if_false, Bool.false_eq_true, Bool.not_true, Bool.not_false, Bool.not_not, reduceIte, reduceCtorEq, and_self, and_true, true_and, decide_true, decide_false, semEq_str, semNe_str, semEq_int, semNe_int, semEq_bl, semNe_bl, atI0, atI1, atI2, atI3, atI4, OkS_nx, post_ok, items_lst, items_tup, semAt_lst, semAt_tup, semAt_str, semAt_dic, e1, h]
  obtain ⟨zs, r', q1, q2, q3, q4⟩ := lcD_ok (vs := [3]) (h := gN 3) (elt := el__law_rows_1) (fun r => ∃ b, r = [some (.ow b), some (.sh (wdD xs ys)), some (.sh (.int m)), none] ∧ BagOk b) (fun y => ∃ x, y = rwD x ∧ RowIn xs ys x) ei (by rw [rangeD_len]; omega) ⟨b1, rfl, hb1⟩ (by rintro r ⟨b, rfl, _⟩; rfl) (by
    rintro d _ r ⟨b, rfl, hb⟩
    obtain ⟨x, b', e, hx, hb'⟩ := row_ok hb w
    refine ⟨_, rfl, ?_⟩
    simp only [el__law_rows_1, gN, fnB, fnP, Rs.noE, startE, seqS, ifS, thenS, toB, op2, opN, op1, Opd.run, fill, lookV, look, Rs.bind, Rs.map, ofO, cD, vD, D.asB, semGt, semGe, semLt, semLe, setS, putS, DL.putF, shD, frzD, mvD, rtS, chgS, fillW, OV.lst?, OV.d, nxS, runs, looks, semInt, semMod, semFdiv, semAdd, semSub, semMul, semAbs, semLen, semTuple, semList, lstD, tupD, evs, callP, callB, slD, poN, poS, semSl, D.asI, appS, appF, extS, extF, augS, augF, exS, ifD, andT, orT, notT, notD, andD, orD, par2, par3, asgS, gN, gT, gsCons, gsNil, forD, rg1, rg2, itA, zpD, zip2, zipD, lcD, yesT, wipeE, m1D, tabD, semIs, semIsNot, D.isN, toT, orV, andV, notV, D.tru, chD, isiD, D.key, evPs, dicD, semDict, pairD, semRepr, callL, op2O, slO, opNO, lrgO, OV.flt, D.flt, semAddL, semMulL, semListL, mLD, popF, popS, insF, insS, clrS, revO, Rs.noE, List.map_cons, List.map_nil, List.length_cons, List.length_nil, List.length_map, List.replicate, List.cons_append, List.nil_append, List.append_nil, List.getElem?_cons_zero, List.getElem?_cons_succ, List.set_cons_zero, List.set_cons_succ, Option.bind_some, Option.bind_none, Option.map_some, Option.map_none, Nat.zero_add, Nat.add_zero, Nat.reduceAdd, Nat.reduceSub, Nat.sub_self, Nat.reduceLeDiff, Nat.reduceEqDiff, Nat.le_refl, Nat.add_sub_cancel, if_true, if_false, Bool.false_eq_true, Bool.not_true, Bool.not_false, Bool.not_not, reduceIte, reduceCtorEq, and_self, and_true, true_and, decide_true, decide_false, semEq_str, semNe_str, semEq_int, semNe_int, semEq_bl, semNe_bl, atI0, atI1, atI2, atI3, atI4, OkS_nx, post_ok, items_lst, items_tup, semAt_lst, semAt_tup, semAt_str, semAt_dic, e]
    exact ⟨⟨x, rfl, hx⟩, b', rfl, hb'⟩)
  obtain ⟨b', rfl, hb'⟩ := q4
  obtain ⟨rs, rfl, hrs⟩ := map_of q3
  rw [List.length_map, rangeD_len] at q2
  have q1 : lc__law_rows_1 _ = _ := q1
  refine ⟨rs, b', ?_, by omega, hrs, hb'⟩
  simp only [f__law_rows, m__law_rows, fnB, fnP, Rs.noE, startE, seqS, ifS, thenS, toB, op2, opN, op1, Opd.run, fill, lookV, look, Rs.bind, Rs.map, ofO, cD, vD, D.asB, semGt, semGe, semLt, semLe, setS, putS, DL.putF, shD, frzD, mvD, rtS, chgS, fillW, OV.lst?, OV.d, nxS, runs, looks, semInt, semMod, semFdiv, semAdd, semSub, semMul, semAbs, semLen, semTuple, semList, lstD, tupD, evs, callP, callB, slD, poN, poS, semSl, D.asI, appS, appF, extS, extF, augS, augF, exS, ifD, andT, orT, notT, notD, andD, orD, par2, par3, asgS, gN, gT, gsCons, gsNil, forD, rg1, rg2, itA, zpD, zip2, zipD, lcD, yesT, wipeE, m1D, tabD, semIs, semIsNot, D.isN, toT, orV, andV, notV, D.tru, chD, isiD, D.key, evPs, dicD, semDict, pairD, semRepr, callL, op2O, slO, opNO, lrgO, OV.flt, D.flt, semAddL, semMulL, semListL, mLD, popF, popS, insF, insS, clrS, revO, Rs.noE, List.map_cons, List.map_nil, List.length_cons, List.length_nil, List.length_map, List.replicate, List.cons_append, List.nil_append, List.append_nil, List.getElem?_cons_zero, List.getElem?_cons_succ, List.set_cons_zero, List.set_cons_succ, Option.bind_some, Option.bind_none, Option.map_some, Option.map_none, Nat.zero_add, Nat.add_zero, Nat.reduceAdd, Nat.reduceSub, Nat.sub_self, Nat.reduceLeDiff, Nat.reduceEqDiff, Nat.le_refl, Nat.add_sub_cancel, if_true, if_false, Bool.false_eq_true, Bool.not_true, Bool.not_false, Bool.not_not, reduceIte, reduceCtorEq, and_self, and_true, true_and, decide_true, decide_false, semEq_str, semNe_str, semEq_int, semNe_int, semEq_bl, semNe_bl, atI0, atI1, atI2, atI3, atI4, OkS_nx, post_ok, items_lst, items_tup, semAt_lst, semAt_tup, semAt_str, semAt_dic, q1]
end T

-- needs: _law_world
namespace T
open PySem L2 DL
/-! ### picks that look at the goal -/
inductive Pk where
  | name (x : Str)
  | idx (i : Int)
  | last
  | like (p : At)
  | all (p : At)
end T

-- needs: _law_world _law_rows
namespace T
open PySem L2 DL
/-! ### the rows that a pick picks -/
end T

-- needs: _law_names
namespace T
open PySem L2 DL
/-! ### atoms and patterns in their order -/
end T

-- needs: holds all_hold _law_holds _law_hold_all
namespace T
open PySem L2 DL
def hold (r : Str) (a b : Int) : Bool := if r = "eq" then decide (a = b) else if r = "lt" then decide (a < b) else decide (b < a)
/-- a dict of ints for names -/
structure ValOk (xs : List Str) (kv : List (Key × D)) (val : Str → Int) : Prop where
  at_ : ∀ x ∈ xs, valD kv (.inr x) = some (.int (val x))
section
variable {xs : List Str} {kv : List (Key × D)} {val : Str → Int}
def hA (val : Str → Int) (x : At) : Bool := hold x.1 (val x.2.1) (val x.2.2)
theorem val_at (V : ValOk xs kv val) {x : Str} (hx : x ∈ xs) : semAt (.dic kv) (.str x) = some (.int (val x)) := by
  show (some (Sum.inr x : Key)).bind (fun k => valD kv k) = _
  exact V.at_ x hx
set_option maxHeartbeats 4000000 in
theorem holds_eq (V : ValOk xs kv val) {x : At} (hx : AtIn xs x) : f_holds [atD x, .dic kv] = some (.sh (.bl (hA val x))) := by
  obtain ⟨r, a, b⟩ := x
  have v1 := val_at V hx.l
  have v2 := val_at V hx.r
  simp only at v1 v2
  have hr := hx.rel
  generalize D.dic kv = dv at v1 v2
  rcases hr with h | h | h <;> (simp only at h; subst h) <;>
  simp [f_holds, m_holds, fnP, startE, seqS, asgS, gT, gsCons, gsNil, gN, ifS, ifD, rtS, shD, toB, op2, cD, vD, Opd.run, fill, lookV, look, Rs.bind, Rs.map, ofO, OV.d, thenS, nxS, D.asB, semLt, semGt, semEq_int, semEq_str, atD, v1, v2, hA, hold, r_eq_lt, r_eq_gt, r_lt_gt, r_lt_eq, r_gt_eq, r_gt_lt, r_eq_0, r_lt_0, r_gt_0, r_0_eq, r_0_lt, r_0_gt]
theorem l_ne_g : ¬ ((Sum.inr ("lt" : Str) : Key) = (Sum.inr ("gt" : Str) : Key)) := fun h => by
  have : ("lt" : Str) = "gt" := Sum.inr.inj h
  exact absurd this (by decide +kernel)
theorem e_ne_g : ¬ ((Sum.inr ("eq" : Str) : Key) = (Sum.inr ("gt" : Str) : Key)) := fun h => by
  have : ("eq" : Str) = "gt" := Sum.inr.inj h
  exact absurd this (by decide +kernel)
theorem e_ne_l : ¬ ((Sum.inr ("eq" : Str) : Key) = (Sum.inr ("lt" : Str) : Key)) := fun h => by
  have : ("eq" : Str) = "lt" := Sum.inr.inj h
  exact absurd this (by decide +kernel)
theorem tri_m (a b c : D) : mergeD [] [((Sum.inr "eq" : Key), a), (Sum.inr "lt", b), (Sum.inr "gt", c)] = [((Sum.inr "eq" : Key), a), (Sum.inr "lt", b), (Sum.inr "gt", c)] := by
  simp only [mergeD, List.foldl_cons, List.foldl_nil, putD, List.any_nil, Bool.false_eq_true, if_false, List.nil_append, List.any_cons, e_ne_l, e_ne_g, l_ne_g, decide_false, Bool.or_false, List.cons_append]
theorem tri_e (a b c : D) : semAt (.dic [((Sum.inr "eq" : Key), a), (Sum.inr "lt", b), (Sum.inr "gt", c)]) (.str "eq") = some a := rfl
theorem tri_l (a b c : D) : semAt (.dic [((Sum.inr "eq" : Key), a), (Sum.inr "lt", b), (Sum.inr "gt", c)]) (.str "lt") = some b := by
  rw [semAt_dic]
  simp only [D.key, Option.bind_some, valD, List.find?_cons, e_ne_l, decide_false, decide_true, Option.map_some]
theorem tri_g (a b c : D) : semAt (.dic [((Sum.inr "eq" : Key), a), (Sum.inr "lt", b), (Sum.inr "gt", c)]) (.str "gt") = some c := by
  rw [semAt_dic]
  simp only [D.key, Option.bind_some, valD, List.find?_cons, e_ne_g, l_ne_g, decide_false, decide_true, Option.map_some]
set_option maxHeartbeats 4000000 in
theorem lawHolds_eq (V : ValOk xs kv val) {x : At} (hx : AtIn xs x) : f__law_holds [atD x, .dic kv] = some (.sh (.bl (hA val x))) := by
  obtain ⟨r, a, b⟩ := x
  have v1 := val_at V hx.l
  have v2 := val_at V hx.r
  simp only at v1 v2
  have a0 : semAt (atD (r, a, b)) (.int 0) = some (.str r) := rfl
  have a1 : semAt (atD (r, a, b)) (.int 1) = some (.str a) := rfl
  have a2 : semAt (atD (r, a, b)) (.int 2) = some (.str b) := rfl
  have hr := hx.rel
  have t1 := tri_e (.bl (decide (val a = val b))) (.bl (decide (val a < val b))) (.bl (decide (val b < val a)))
  have t2 := tri_l (.bl (decide (val a = val b))) (.bl (decide (val a < val b))) (.bl (decide (val b < val a)))
  have t3 := tri_g (.bl (decide (val a = val b))) (.bl (decide (val a < val b))) (.bl (decide (val b < val a)))
  generalize D.dic kv = dv at v1 v2
  have key : f__law_holds [atD (r, a, b), dv] = (semAt (.dic [((Sum.inr "eq" : Key), .bl (decide (val a = val b))), (Sum.inr "lt", .bl (decide (val a < val b))), (Sum.inr "gt", .bl (decide (val b < val a)))]) (.str r)).map OV.sh := by
    have q1 : semLt (.int (val a)) (.int (val b)) = some (.bl (decide (val a < val b))) := rfl
    have q2 : semGt (.int (val a)) (.int (val b)) = some (.bl (decide (val b < val a))) := rfl
    simp only [f__law_holds, m__law_holds, fnP, startE, seqS, par2, rtS, shD, dicD, evPs, D.key, op2, cD, Opd.run, fill, lookV, look, Rs.bind, Rs.map, ofO, OV.d, thenS, List.map_cons, List.map_nil, List.length_cons, List.length_nil, List.replicate, List.cons_append, List.nil_append, List.getElem?_cons_zero, List.getElem?_cons_succ, List.set_cons_zero, List.set_cons_succ, Option.bind_some, Option.map_some, Nat.zero_add, Nat.reduceAdd, Nat.reduceSub, Nat.reduceLeDiff, if_true, semEq_int, a0, a1, a2, v1, v2, q1, q2, tri_m]
    rcases hr with h | h | h <;> (simp only at h; subst h)
    · rw [t1]; rfl
    · rw [t2]; rfl
    · rw [t3]; rfl
  rw [key]
  rcases hr with h | h | h <;> (simp only at h; subst h)
  · rw [t1]; simp [hA, hold]
  · rw [t2]; simp [hA, hold, r_eq_lt, r_eq_gt, r_lt_gt, r_lt_eq, r_gt_eq, r_gt_lt, r_eq_0, r_lt_0, r_gt_0, r_0_eq, r_0_lt, r_0_gt]
  · rw [t3]; simp [hA, hold, r_eq_lt, r_eq_gt, r_lt_gt, r_lt_eq, r_gt_eq, r_gt_lt, r_eq_0, r_lt_0, r_gt_0, r_0_eq, r_0_lt, r_0_gt]
def allH (val : Str → Int) (rs : List Row) : Bool := rs.all fun r => r.2.all (hA val)
set_option maxHeartbeats 4000000 in
theorem allHold_eq (V : ValOk xs kv val) {zs : List Str} {rs : List Row} (hr : ∀ r ∈ rs, RowIn zs xs r) (hl : rs.length ≤ 1000) : f_all_hold [rwsD rs, .dic kv] = some (.sh (.bl (allH val rs))) := by
  have hlen : (rs.flatMap fun r => r.2.map fun x => D.bl (hA val x)).length ≤ 1000000 := by
    have : ∀ l : List Row, (∀ r ∈ l, RowIn zs xs r) → (l.flatMap fun r => r.2.map fun x => D.bl (hA val x)).length ≤ 2 * l.length := by
      intro l
      induction l with
      | nil => intro _; exact Nat.le_refl _
      | cons a l ih =>
        intro h
        have h1 := (h a (by simp)).ft.len
        have h2 := ih fun r hr => h r (by simp [hr])
        rw [List.flatMap_cons, List.length_append, List.length_cons, List.length_map]
        omega
    have := this rs hr
    omega
  have e := lc2D_mp1 (it := it_all_hold_1) (it1 := it_all_hold_2) (vs := [2, 3, 4]) (vs1 := [4]) (h := gT 2 (gsCons (gN 2) (gsCons (gN 3) gsNil))) (h1 := gN 4) (elt := el_all_hold_1) (r := [some (.sh (rwsD rs)), some (.sh (.dic kv)), none, none, none]) (r1 := [some (.sh (rwsD rs)), some (.sh (.dic kv)), none, none, none]) [some (.sh (rwsD rs)), some (.sh (.dic kv)), none, none, none] rs rwD (fun r => r.2) (fun _ => atD) (fun _ x => D.bl (hA val x)) (fun r => [some (.sh (rwsD rs)), some (.sh (.dic kv)), some (.sh (.str r.1)), some (.sh (ftD r.2)), none])
    (by decide) rfl rfl rfl hlen (fun r _ => ⟨_, rfl, rfl, rfl, rfl, rfl, rfl⟩) (fun r hr' x hx => ⟨_, rfl, rfl, by
      have q := holds_eq V ((hr r hr').ft.all x hx)
      simp only [el_all_hold_1, gN, frzD, callP, evs, vD, fill, lookV, Rs.bind, Rs.map, ofO, OV.d, Rs.noE, List.map_cons, List.map_nil, List.length_cons, List.length_nil, List.length_map, List.replicate, List.cons_append, List.nil_append, List.append_nil, List.getElem?_cons_zero, List.getElem?_cons_succ, List.set_cons_zero, List.set_cons_succ, Option.bind_some, Option.bind_none, Option.map_some, Option.map_none, Nat.zero_add, Nat.add_zero, Nat.reduceAdd, Nat.reduceSub, Nat.sub_self, Nat.reduceLeDiff, Nat.reduceEqDiff, Nat.le_refl, Nat.add_sub_cancel, if_true, if_false, Bool.false_eq_true, Bool.not_true, Bool.not_false, Bool.not_not, reduceIte, reduceCtorEq, and_self, and_true, true_and, decide_true, decide_false, semEq_str, semNe_str, semEq_int, semNe_int, semEq_bl, semNe_bl, atI0, atI1, atI2, atI3, atI4, OkS_nx, post_ok, items_lst, items_tup, semAt_lst, semAt_tup, semAt_str, semAt_dic, q]
      rfl⟩)
  have e : lc_all_hold_1 _ = _ := e
  have hs : semAll [D.lst (rs.flatMap fun r => r.2.map fun x => D.bl (hA val x))] = some (.bl (allH val rs)) := by
    have h : (rs.flatMap fun r => r.2.map fun x => D.bl (hA val x)) = (rs.flatMap fun r => r.2.map (hA val)).map D.bl := by
      rw [List.map_flatMap]
      congr 1
      funext r
      rw [List.map_map]
      rfl
    have hb : bools ((rs.flatMap fun r => r.2.map (hA val)).map D.bl) = some (rs.flatMap fun r => r.2.map (hA val)) := bools_bl _
    rw [h]
    show (bools _).map (fun bs => D.bl (bs.all id)) = _
    rw [hb]
    have : (rs.flatMap fun r => r.2.map (hA val)).all id = allH val rs := by
      unfold allH
      rw [List.all_flatMap]
      congr 1
      funext r
      rw [List.all_map]
      rfl
    rw [Option.map_some, this]
  have hst : startE 5 ([rwsD rs, D.dic kv].map OV.sh) = [some (.sh (rwsD rs)), some (.sh (.dic kv)), none, none, none] := rfl
  unfold f_all_hold fnP m_all_hold
  rw [hst]
  generalize (rs.flatMap fun r => r.2.map fun x => D.bl (hA val x)) = L at e hs
  simp only [rtS, shD, opN, runs, looks, frzD, Opd.run, look, Rs.bind, Rs.map, ofO, OV.d, thenS, Option.bind_some, Option.map_some, e, hs]
set_option maxHeartbeats 4000000 in
theorem lawHoldAll_eq (V : ValOk xs kv val) {zs : List Str} {rs : List Row} (hr : ∀ r ∈ rs, RowIn zs xs r) (hl : rs.length ≤ 1000) : f__law_hold_all [rwsD rs, .dic kv] = some (.sh (.bl (allH val rs))) := by
  have e := lcD_mp (it := it__law_hold_all_2) (vs := [2]) (h := gN 2) (t := ts__law_hold_all_2) (elt := el__law_hold_all_2) (r := [some (.sh (rwsD rs)), some (.sh (.dic kv)), none, none]) (r1 := [some (.sh (rwsD rs)), some (.sh (.dic kv)), none, none]) [some (.sh (rwsD rs)), some (.sh (.dic kv)), none, none] rs rwD (fun r => !(r.2.all (hA val))) rwD rfl (by omega) rfl rfl (fun r hr' => ⟨[some (.sh (rwsD rs)), some (.sh (.dic kv)), some (.sh (rwD r)), none], rfl, by
    have hf := (hr r hr').ft
    have i := lcD_mp (it := it__law_hold_all_1) (vs := [3]) (h := gN 3) (t := ts__law_hold_all_1) (elt := el__law_hold_all_1) (r := [some (.sh (rwsD rs)), some (.sh (.dic kv)), some (.sh (rwD r)), none]) (r1 := [some (.sh (rwsD rs)), some (.sh (.dic kv)), some (.sh (rwD r)), none]) [some (.sh (rwsD rs)), some (.sh (.dic kv)), some (.sh (rwD r)), none] r.2 atD (fun x => !hA val x) atD rfl (by have := hf.len; omega) rfl rfl (fun x hx => ⟨_, rfl, by
      have q := lawHolds_eq V (hf.all x hx)
      simp only [ts__law_hold_all_1, el__law_hold_all_1, gN, notT, toT, frzD, callP, evs, vD, Opd.run, fill, lookV, look, Rs.bind, Rs.map, ofO, OV.d, D.tru, Rs.noE, List.map_cons, List.map_nil, List.length_cons, List.length_nil, List.length_map, List.replicate, List.cons_append, List.nil_append, List.append_nil, List.getElem?_cons_zero, List.getElem?_cons_succ, List.set_cons_zero, List.set_cons_succ, Option.bind_some, Option.bind_none, Option.map_some, Option.map_none, Nat.zero_add, Nat.add_zero, Nat.reduceAdd, Nat.reduceSub, Nat.sub_self, Nat.reduceLeDiff, Nat.reduceEqDiff, Nat.le_refl, Nat.add_sub_cancel, if_true, if_false, Bool.false_eq_true, Bool.not_true, Bool.not_false, Bool.not_not, reduceIte, reduceCtorEq, and_self, and_true, true_and, decide_true, decide_false, semEq_str, semNe_str, semEq_int, semNe_int, semEq_bl, semNe_bl, atI0, atI1, atI2, atI3, atI4, OkS_nx, post_ok, items_lst, items_tup, semAt_lst, semAt_tup, semAt_str, semAt_dic, q]
      exact ⟨rfl, fun _ => rfl⟩⟩)
    have i : lc__law_hold_all_1 _ = _ := i
    have hn := semNe_nil ((r.2.filter fun x => !hA val x).map atD)
    have hp : (!((r.2.filter fun x => !hA val x).map atD).isEmpty) = !(r.2.all (hA val)) := by
      rw [List.isEmpty_map, none_not (hA val) r.2]
    rw [hp] at hn
    simp only [ts__law_hold_all_2, el__law_hold_all_2, toB, op2, lstD, evs, frzD, vD, Opd.run, fill, lookV, look, Rs.bind, Rs.map, ofO, OV.d, D.asB, Rs.noE, List.map_cons, List.map_nil, List.length_cons, List.length_nil, List.length_map, List.replicate, List.cons_append, List.nil_append, List.append_nil, List.getElem?_cons_zero, List.getElem?_cons_succ, List.set_cons_zero, List.set_cons_succ, Option.bind_some, Option.bind_none, Option.map_some, Option.map_none, Nat.zero_add, Nat.add_zero, Nat.reduceAdd, Nat.reduceSub, Nat.sub_self, Nat.reduceLeDiff, Nat.reduceEqDiff, Nat.le_refl, Nat.add_sub_cancel, if_true, if_false, Bool.false_eq_true, Bool.not_true, Bool.not_false, Bool.not_not, reduceIte, reduceCtorEq, and_self, and_true, true_and, decide_true, decide_false, semEq_str, semNe_str, semEq_int, semNe_int, semEq_bl, semNe_bl, atI0, atI1, atI2, atI3, atI4, OkS_nx, post_ok, items_lst, items_tup, semAt_lst, semAt_tup, semAt_str, semAt_dic, i, hn]
    exact ⟨rfl, fun _ => rfl⟩⟩)
  have e : lc__law_hold_all_2 _ = _ := e
  have hn := semEq_nil ((rs.filter fun r => !(r.2.all (hA val))).map rwD)
  have hp : ((rs.filter fun r => !(r.2.all (hA val))).map rwD).isEmpty = allH val rs := by
    rw [List.isEmpty_map]
    exact none_not (fun r : Row => r.2.all (hA val)) rs
  rw [hp] at hn
  have hst : startE 4 ([rwsD rs, D.dic kv].map OV.sh) = [some (.sh (rwsD rs)), some (.sh (.dic kv)), none, none] := rfl
  unfold f__law_hold_all fnP m__law_hold_all
  rw [hst]
  simp only [rtS, shD, op2, lstD, evs, frzD, Opd.run, look, Rs.bind, Rs.map, ofO, OV.d, thenS, Rs.noE, List.map_cons, List.map_nil, List.length_cons, List.length_nil, List.length_map, List.replicate, List.cons_append, List.nil_append, List.append_nil, List.getElem?_cons_zero, List.getElem?_cons_succ, List.set_cons_zero, List.set_cons_succ, Option.bind_some, Option.bind_none, Option.map_some, Option.map_none, Nat.zero_add, Nat.add_zero, Nat.reduceAdd, Nat.reduceSub, Nat.sub_self, Nat.reduceLeDiff, Nat.reduceEqDiff, Nat.le_refl, Nat.add_sub_cancel, if_true, if_false, Bool.false_eq_true, Bool.not_true, Bool.not_false, Bool.not_not, reduceIte, reduceCtorEq, and_self, and_true, true_and, decide_true, decide_false, semEq_str, semNe_str, semEq_int, semNe_int, semEq_bl, semNe_bl, atI0, atI1, atI2, atI3, atI4, OkS_nx, post_ok, items_lst, items_tup, semAt_lst, semAt_tup, semAt_str, semAt_dic, e, hn]
end
end T

-- needs: links_in shortest_links
namespace T
open PySem L2 DL
/-! ### links, walks, rings -/
structure Lk where
  l : Str
  r : Str
  s : Bool
  w : Nat × Nat × Bool
abbrev Nd := Str × Bool
inductive Wk (L : List Lk) (b : Str) : Nd → List Lk → Prop
  | nil : Wk L b (b, false) []
  | snoc {n : Nd} {p : List Lk} {k : Lk} : Wk L b n p → k ∈ L → k.l = n.1 → Wk L b (k.r, n.2 || k.s) (p ++ [k])
def Rch (L : List Lk) (b : Str) (n : Nd) : Prop := ∃ p, Wk L b n p
theorem Rch.nil {L : List Lk} {b : Str} : Rch L b (b, false) := ⟨[], .nil⟩
theorem Rch.snoc {L : List Lk} {b : Str} {n : Nd} {k : Lk} (h : Rch L b n) (hk : k ∈ L) (e : k.l = n.1) : Rch L b (k.r, n.2 || k.s) := by
  obtain ⟨p, h⟩ := h
  exact ⟨_, .snoc h hk e⟩
theorem Rch.one {L : List Lk} {k : Lk} (hk : k ∈ L) : Rch L k.l (k.r, k.s) := by
  have := Rch.snoc (n := (k.l, false)) Rch.nil hk rfl
  simpa using this
theorem Rch.trans {L : List Lk} {a : Str} {n m : Nd} (h1 : Rch L a n) (h2 : Rch L n.1 m) : Rch L a (m.1, n.2 || m.2) := by
  obtain ⟨p, h2⟩ := h2
  induction h2 with
  | nil => simpa using h1
  | snoc h hk e ih =>
    have := Rch.snoc ih hk e
    simpa [Bool.or_assoc] using this
/-- on a strict walk there is a strict link -/
theorem Rch.strict {L : List Lk} {a : Str} {n : Nd} (h : Rch L a n) (hs : n.2 = true) : ∃ k ∈ L, k.s = true ∧ (∃ s, Rch L a (k.l, s)) ∧ ∃ s, Rch L k.r (n.1, s) := by
  obtain ⟨p, h⟩ := h
  induction h with
  | nil => cases hs
  | snoc h hk e ih =>
    rename_i n p k
    by_cases hn : n.2 = true
    · obtain ⟨k', h1, h2, h3, s, h4⟩ := ih hn
      exact ⟨k', h1, h2, h3, _, h4.snoc hk e⟩
    · refine ⟨k, hk, ?_, ⟨n.2, ?_⟩, false, Rch.nil⟩
      · simp only [Bool.or_eq_true] at hs
        exact hs.resolve_left hn
      · rw [e]; exact ⟨p, h⟩
def Ring (L : List Lk) : Prop := ∃ k ∈ L, k.s = true ∧ ∃ s, Rch L k.r (k.l, s)
theorem ring_of {L : List Lk} {x : Str} (h : Rch L x (x, true)) : Ring L := by
  obtain ⟨k, h1, h2, ⟨s, h3⟩, t, h4⟩ := h.strict rfl
  exact ⟨k, h1, h2, _, Rch.trans (n := (x, t)) h4 h3⟩
/-! ### integers for names -/
def okL (val : Str → Int) (k : Lk) : Prop := if k.s = true then val k.l < val k.r else val k.l ≤ val k.r
theorem walk_val {L : List Lk} {val : Str → Int} (hv : ∀ k ∈ L, okL val k) {b : Str} {n : Nd} (h : Rch L b n) : val b ≤ val n.1 ∧ (n.2 = true → val b < val n.1) := by
  obtain ⟨p, h⟩ := h
  induction h with
  | nil => exact ⟨Int.le_refl _, fun h => by cases h⟩
  | snoc h hk e ih =>
    rename_i n p k
    have := hv k hk
    unfold okL at this
    obtain ⟨i1, i2⟩ := ih
    rw [← e] at i1 i2
    cases hs : k.s with
    | true =>
      rw [hs] at this
      simp only [if_true] at this
      exact ⟨by show val b ≤ val k.r; omega, fun _ => by show val b < val k.r; omega⟩
    | false =>
      rw [hs] at this
      simp only [Bool.false_eq_true, if_false] at this
      refine ⟨by show val b ≤ val k.r; omega, fun h => ?_⟩
      have h : (n.2 || false) = true := h
      rw [Bool.or_false] at h
      have := i2 h
      show val b < val k.r
      omega
theorem ring_val {L : List Lk} (h : Ring L) {val : Str → Int} (hv : ∀ k ∈ L, okL val k) : False := by
  obtain ⟨k, h1, h2, s, h3⟩ := h
  have := (walk_val hv h3).1
  have h4 := hv k h1
  unfold okL at h4
  rw [if_pos h2] at h4
  simp only at this
  omega
open Classical in
/-- how many names are strictly below -/
noncomputable def rank (L : List Lk) (xs : List Str) (x : Str) : Nat := (xs.filter fun y => decide (Rch L y (x, true))).length
theorem flt_len {α : Type} {p q : α → Bool} : ∀ (xs : List α), (∀ x ∈ xs, p x = true → q x = true) → (xs.filter p).length ≤ (xs.filter q).length
  | [], _ => Nat.le_refl _
  | x :: xs, h => by
    have ih := flt_len xs fun y hy => h y (List.mem_cons_of_mem _ hy)
    have hx := h x List.mem_cons_self
    simp only [List.filter_cons]
    cases hp : p x with
    | true => rw [hx hp]; simpa using ih
    | false =>
      cases q x
      · simpa using ih
      · simp only [Bool.false_eq_true, if_false, if_true, List.length_cons]; omega
theorem flt_lt {α : Type} {p q : α → Bool} : ∀ (xs : List α), (∀ x ∈ xs, p x = true → q x = true) → (∃ x ∈ xs, p x = false ∧ q x = true) → (xs.filter p).length < (xs.filter q).length
  | [], _, h => by obtain ⟨x, hx, _⟩ := h; cases hx
  | x :: xs, h, hz => by
    have h' : ∀ y ∈ xs, p y = true → q y = true := fun y hy => h y (List.mem_cons_of_mem _ hy)
    have ih := flt_len xs h'
    have hx := h x List.mem_cons_self
    simp only [List.filter_cons]
    cases hp : p x with
    | true =>
      obtain ⟨z, hz, h1, h2⟩ := hz
      rcases List.mem_cons.mp hz with rfl | hz
      · rw [hp] at h1; cases h1
      · rw [hx hp]
        have := flt_lt xs h' ⟨z, hz, h1, h2⟩
        simpa using this
    | false =>
      cases hq : q x with
      | true => simp only [Bool.false_eq_true, if_false, if_true, List.length_cons]; omega
      | false =>
        obtain ⟨z, hz, h1, h2⟩ := hz
        rcases List.mem_cons.mp hz with rfl | hz
        · rw [hq] at h2; cases h2
        · have := flt_lt xs h' ⟨z, hz, h1, h2⟩
          simpa using this
open Classical in
theorem rank_ok {L : List Lk} (hn : ¬ Ring L) {xs : List Str} (hl : ∀ k ∈ L, k.l ∈ xs) : ∀ k ∈ L, okL (fun x => (rank L xs x : Int)) k := fun k hk => by
  have up : ∀ y, Rch L y (k.l, true) → Rch L y (k.r, true) := fun y h => by
    have := h.snoc hk rfl
    simpa using this
  have le : rank L xs k.l ≤ rank L xs k.r := flt_len xs fun y _ h => decide_eq_true (up y (of_decide_eq_true h))
  unfold okL
  by_cases hs : k.s = true
  · rw [if_pos hs]
    have : rank L xs k.l < rank L xs k.r := flt_lt xs (fun y _ h => decide_eq_true (up y (of_decide_eq_true h))) ⟨k.l, hl k hk, decide_eq_false fun h => hn (ring_of h), decide_eq_true (by
      have := Rch.one hk
      rw [hs] at this
      exact this)⟩
    show (rank L xs k.l : Int) < (rank L xs k.r : Int)
    omega
  · rw [if_neg hs]
    show (rank L xs k.l : Int) ≤ (rank L xs k.r : Int)
    omega
open Classical in
theorem rank_lt {L : List Lk} (hn : ¬ Ring L) {xs : List Str} {x : Str} (hx : x ∈ xs) : rank L xs x < xs.length := by
  have := flt_lt (p := fun y => decide (Rch L y (x, true))) (q := fun _ => true) xs (fun _ _ _ => rfl) ⟨x, hx, decide_eq_false fun h => hn (ring_of h), rfl⟩
  rw [show (xs.filter fun _ => true) = xs from List.filter_eq_self.mpr fun _ _ => rfl] at this
  exact this
/-! ### the search -/
abbrev FnL := List (Nd × List Lk)
def keysF (F : FnL) : List Nd := F.map (·.1)
structure Bf (L : List Lk) (b : Str) (ends U : List Nd) (F : FnL) (W : List Nd) : Prop where
  nd : (keysF F).Nodup
  wk : ∀ x ∈ F, Wk L b x.1 x.2
  ws : ∀ n ∈ W, n ∈ keysF F
  cl : ∀ n ∈ keysF F, n ∉ W → n ∉ ends ∧ ∀ k ∈ L, k.l = n.1 → (k.r, n.2 || k.s) ∈ keysF F
  st : (b, false) ∈ keysF F
  un : ∀ n ∈ keysF F, n ∈ U
structure Bi (L : List Lk) (b : Str) (ends U : List Nd) (c : Nd) (p : List Lk) (dn : List Lk) (m : Nat) (F : FnL) (W : List Nd) : Prop where
  nd : (keysF F).Nodup
  wk : ∀ x ∈ F, Wk L b x.1 x.2
  ws : ∀ n ∈ W, n ∈ keysF F
  cl : ∀ n ∈ keysF F, n ∉ W → n ≠ c → n ∉ ends ∧ ∀ k ∈ L, k.l = n.1 → (k.r, n.2 || k.s) ∈ keysF F
  st : (b, false) ∈ keysF F
  un : ∀ n ∈ keysF F, n ∈ U
  ce : c ∉ ends
  cp : (c, p) ∈ F
  cd : ∀ k ∈ dn, k.l = c.1 → (k.r, c.2 || k.s) ∈ keysF F
  mm : W.length + U.length ≤ m + F.length
theorem bf_start {L : List Lk} {b : Str} {ends U : List Nd} (hU : (b, false) ∈ U) : Bf L b ends U [((b, false), [])] [(b, false)] :=
  ⟨by simp [keysF], fun x hx => by rw [List.mem_singleton.mp hx]; exact .nil, fun n hn => by simpa [keysF] using hn, fun n hn h => absurd (by simpa [keysF] using hn) h, by simp [keysF], fun n hn => by
    have : n = (b, false) := by simpa [keysF] using hn
    rw [this]; exact hU⟩
theorem bi_start {L : List Lk} {b : Str} {ends U : List Nd} {F : FnL} {c : Nd} {W : List Nd} {p : List Lk} {m : Nat} (h : Bf L b ends U F (c :: W)) (hc : c ∉ ends) (hp : (c, p) ∈ F) (hm : (c :: W).length + U.length ≤ (m + 1) + F.length) : Bi L b ends U c p [] m F W :=
  ⟨h.nd, h.wk, fun n hn => h.ws n (List.mem_cons_of_mem _ hn), fun n hn h1 h2 => h.cl n hn (fun z => (List.mem_cons.mp z).elim h2 h1), h.st, h.un, hc, hp, fun k hk => (by cases hk), by rw [List.length_cons] at hm; omega⟩
theorem bi_skip {L : List Lk} {b : Str} {ends U : List Nd} {F : FnL} {c : Nd} {W : List Nd} {p dn : List Lk} {m : Nat} {k : Lk} (h : Bi L b ends U c p dn m F W) (hk : k.l = c.1 → (k.r, c.2 || k.s) ∈ keysF F) : Bi L b ends U c p (dn ++ [k]) m F W :=
  ⟨h.nd, h.wk, h.ws, h.cl, h.st, h.un, h.ce, h.cp, fun k' hk' e => (List.mem_append.mp hk').elim (fun z => h.cd k' z e) (fun z => by
    rw [List.mem_singleton.mp z] at e ⊢; exact hk e), h.mm⟩
theorem nodup_leN {α : Type} : ∀ {xs ys : List α}, xs.Nodup → (∀ x ∈ xs, x ∈ ys) → xs.length ≤ ys.length
  | [], _, _, _ => Nat.zero_le _
  | x :: xs, ys, nd, h => by
    obtain ⟨a, b, rfl⟩ := List.append_of_mem (h x List.mem_cons_self)
    obtain ⟨n1, n2⟩ := List.nodup_cons.mp nd
    have := nodup_leN n2 (ys := a ++ b) fun y hy => by
      have hy2 := h y (List.mem_cons_of_mem _ hy)
      rcases List.mem_append.mp hy2 with z | z
      · exact List.mem_append_left _ z
      · rcases List.mem_cons.mp z with rfl | z
        · exact absurd hy n1
        · exact List.mem_append_right _ z
    rw [List.length_append] at this
    rw [List.length_append, List.length_cons, List.length_cons]
    omega
theorem bi_add {L : List Lk} {b : Str} {ends U : List Nd} {F : FnL} {c : Nd} {W : List Nd} {p dn : List Lk} {m : Nat} {k : Lk} (h : Bi L b ends U c p dn m F W) (hkL : k ∈ L) (e : k.l = c.1) (hn : (k.r, c.2 || k.s) ∉ keysF F) (hu : (k.r, c.2 || k.s) ∈ U) :
    Bi L b ends U c p (dn ++ [k]) m (F ++ [((k.r, c.2 || k.s), p ++ [k])]) (W ++ [(k.r, c.2 || k.s)]) := by
  have ke : keysF (F ++ [((k.r, c.2 || k.s), p ++ [k])]) = keysF F ++ [(k.r, c.2 || k.s)] := by simp [keysF]
  have sub : ∀ n, n ∈ keysF F → n ∈ keysF (F ++ [((k.r, c.2 || k.s), p ++ [k])]) := fun n hn => by rw [ke]; exact List.mem_append_left _ hn
  refine ⟨?_, fun x hx => ?_, fun n hn => ?_, fun n hn' h1 h2 => ?_, sub _ h.st, fun n hn => ?_, h.ce, List.mem_append_left _ h.cp, fun k' hk' e' => ?_, ?_⟩
  · rw [ke, List.nodup_append]
    exact ⟨h.nd, by simp, fun a ha b hb => by rw [List.mem_singleton.mp hb]; rintro rfl; exact hn ha⟩
  · rcases List.mem_append.mp hx with hx | hx
    · exact h.wk x hx
    · rw [List.mem_singleton.mp hx]
      exact .snoc (n := c) (h.wk _ h.cp) hkL e
  · rw [ke]
    rcases List.mem_append.mp hn with z | z
    · exact List.mem_append_left _ (h.ws n z)
    · exact List.mem_append_right _ z
  · rw [ke] at hn'
    rcases List.mem_append.mp hn' with z | z
    · obtain ⟨q1, q2⟩ := h.cl n z (fun y => h1 (List.mem_append_left _ y)) h2
      exact ⟨q1, fun k' hk' e' => sub _ (q2 k' hk' e')⟩
    · exact absurd (List.mem_append_right _ z) h1
  · rw [ke] at hn
    rcases List.mem_append.mp hn with z | z
    · exact h.un n z
    · rw [List.mem_singleton.mp z]; exact hu
  · rcases List.mem_append.mp hk' with z | z
    · exact sub _ (h.cd k' z e')
    · rw [List.mem_singleton.mp z, ke]; exact List.mem_append_right _ (List.mem_singleton.mpr rfl)
  · have := h.mm
    simp only [List.length_append, List.length_cons, List.length_nil]
    omega
theorem bi_end {L : List Lk} {b : Str} {ends U : List Nd} {F : FnL} {c : Nd} {W : List Nd} {p : List Lk} {m : Nat} (h : Bi L b ends U c p L m F W) : Bf L b ends U F W ∧ W.length + U.length ≤ m + F.length :=
  ⟨⟨h.nd, h.wk, h.ws, fun n hn h1 => Classical.byCases (fun (hc : n = c) => by subst hc; exact ⟨h.ce, fun k hk e => h.cd k hk e⟩) (fun hc => h.cl n hn h1 hc), h.st, h.un⟩, h.mm⟩
theorem bf_pos {L : List Lk} {b : Str} {ends U : List Nd} {F : FnL} {W : List Nd} (h : Bf L b ends U F W) : F.length ≤ U.length := by
  have := nodup_leN h.nd h.un
  rw [keysF, List.length_map] at this
  exact this
theorem bf_end {L : List Lk} {b : Str} {ends U : List Nd} {F : FnL} (h : Bf L b ends U F []) : ∀ n ∈ ends, ¬ Rch L b n := fun n hn ⟨p, hp⟩ => by
  have key : ∀ {n : Nd} {p : List Lk}, Wk L b n p → n ∈ keysF F := by
    intro n p h'
    induction h' with
    | nil => exact h.st
    | snoc _ hk e ih => exact (h.cl _ ih (by simp)).2 _ hk e
  exact (h.cl n (key hp) (by simp)).1 hn
end T

-- needs: links_in shortest_links turned
namespace T
open PySem L2 DL
/-! ### the links that rows tell -/
def whD (w : Nat × Nat × Bool) : D := .tup [.int (w.1 : Nat), .int (w.2.1 : Nat), .bl w.2.2]
def lkD (k : Lk) : D := .tup [.str k.l, .str k.r, .bl k.s, whD k.w]
def ndD (n : Nd) : D := .tup [.str n.1, .bl n.2]
def pthD (p : List Lk) : D := .lst (p.map fun k => whD k.w)
def odF (F : FnL) : List (D × D) := F.map fun x => (ndD x.1, pthD x.2)
def nkN (n : Nd) : NestedKey := .tup [.text n.1, .num (if n.2 = true then 1 else 0)]
theorem ndD_nk (n : Nd) : (ndD n).nk = some (nkN n) := rfl
theorem nkN_inj {n m : Nd} : nkN n = nkN m ↔ n = m := by
  obtain ⟨x, a⟩ := n
  obtain ⟨y, b⟩ := m
  unfold nkN
  cases a <;> cases b <;> simp
theorem has_F (F : FnL) (n : Nd) : odHas (odF F) (nkN n) = decide (n ∈ keysF F) := by
  have h : odHas (odF F) (nkN n) = true ↔ n ∈ keysF F := by
    unfold odHas odF keysF
    rw [List.any_map, List.any_eq_true, List.mem_map]
    constructor
    · rintro ⟨x, hx, e⟩
      have e := of_decide_eq_true e
      rw [ndD_nk] at e
      exact ⟨x, hx, nkN_inj.mp (Option.some.inj e)⟩
    · rintro ⟨x, hx, rfl⟩
      exact ⟨x, hx, decide_eq_true rfl⟩
  by_cases hn : n ∈ keysF F
  · rw [decide_eq_true hn]; exact h.mpr hn
  · rw [decide_eq_false hn]
    cases e : odHas (odF F) (nkN n) with
    | true => exact absurd (h.mp e) hn
    | false => rfl
theorem at_F {n : Nd} {p : List Lk} : ∀ {F : FnL}, (keysF F).Nodup → (n, p) ∈ F → odAt (odF F) (nkN n) = some (pthD p)
  | [], _, h => by cases h
  | x :: F, nd, h => by
    have nd : (x.1 :: keysF F).Nodup := nd
    obtain ⟨n1, n2⟩ := List.nodup_cons.mp nd
    unfold odAt odF
    rw [List.map_cons]
    rcases List.mem_cons.mp h with h | h
    · subst h
      rw [List.find?_cons_of_pos (by simp [ndD_nk])]
      rfl
    · have hx : x.1 ≠ n := fun e => n1 (by rw [e]; exact List.mem_map.mpr ⟨_, h, rfl⟩)
      rw [List.find?_cons_of_neg (by rw [ndD_nk]; exact fun z => hx (nkN_inj.mp (Option.some.inj (of_decide_eq_true z))))]
      exact at_F n2 h
def lkA (i j : Nat) (a : At) : List Lk :=
  if a.1 = "gt" then [⟨a.2.2, a.2.1, true, (i, j, true)⟩]
  else if a.1 = "lt" then [⟨a.2.1, a.2.2, true, (i, j, false)⟩]
  else [⟨a.2.1, a.2.2, false, (i, j, false)⟩, ⟨a.2.2, a.2.1, false, (i, j, true)⟩]
def lkF (i : Nat) : Nat → List At → List Lk
  | _, [] => []
  | j, a :: as => lkA i j a ++ lkF i (j + 1) as
def lkR : Nat → List Row → List Lk
  | _, [] => []
  | i, r :: rs => lkF i 0 r.2 ++ lkR (i + 1) rs
def links (rs : List Row) : List Lk := lkR 0 rs
theorem lkF_snoc (i : Nat) (a : At) : ∀ (j : Nat) (as : List At), lkF i j (as ++ [a]) = lkF i j as ++ lkA i (j + as.length) a
  | j, [] => by simp [lkF]
  | j, b :: as => by
    show lkA i j b ++ lkF i (j + 1) (as ++ [a]) = (lkA i j b ++ lkF i (j + 1) as) ++ _
    rw [lkF_snoc i a (j + 1) as, List.append_assoc, List.length_cons, show j + 1 + as.length = j + (as.length + 1) by omega]
theorem lkR_snoc (r : Row) : ∀ (i : Nat) (rs : List Row), lkR i (rs ++ [r]) = lkR i rs ++ lkF (i + rs.length) 0 r.2
  | i, [] => by simp [lkR]
  | i, b :: rs => by
    show lkF i 0 b.2 ++ lkR (i + 1) (rs ++ [r]) = (lkF i 0 b.2 ++ lkR (i + 1) rs) ++ _
    rw [lkR_snoc r (i + 1) rs, List.append_assoc, List.length_cons, show i + 1 + rs.length = i + (rs.length + 1) by omega]
theorem take_snoc {α : Type} {xs : List α} {n : Nat} {x : α} (h : xs[n]? = some x) : xs.take (n + 1) = xs.take n ++ [x] := by
  rw [List.take_add_one, h]; rfl
theorem take_lenN {α : Type} {xs : List α} {n : Nat} {x : α} (h : xs[n]? = some x) : (xs.take n).length = n := by
  have := (List.getElem?_eq_some_iff.mp h).1
  rw [List.length_take]; omega
theorem lkA_len (i j : Nat) (a : At) : (lkA i j a).length ≤ 2 := by
  unfold lkA
  split
  · exact Nat.le_of_ble_eq_true rfl
  · split
    · exact Nat.le_of_ble_eq_true rfl
    · exact Nat.le_refl _
theorem lkF_len (i : Nat) : ∀ (j : Nat) (as : List At), (lkF i j as).length ≤ 2 * as.length
  | j, [] => Nat.le_refl _
  | j, a :: as => by
    have h1 := lkA_len i j a
    have h2 := lkF_len i (j + 1) as
    show (lkA i j a ++ lkF i (j + 1) as).length ≤ _
    rw [List.length_append, List.length_cons]
    omega
theorem lkR_len {rs : List Row} (h : ∀ r ∈ rs, r.2.length ≤ 2) : ∀ i, (lkR i rs).length ≤ 4 * rs.length := by
  induction rs with
  | nil => intro i; exact Nat.le_refl _
  | cons r rs ih =>
    intro i
    have h1 := lkF_len i 0 r.2
    have h2 := ih (fun r hr => h r (List.mem_cons_of_mem _ hr)) (i + 1)
    have h3 := h r List.mem_cons_self
    show (lkF i 0 r.2 ++ lkR (i + 1) rs).length ≤ _
    rw [List.length_append, List.length_cons]
    omega
/-- one atom: what is put behind the links -/
theorem links_atom {a : At} (ha : AtOk a) (rs : List Row) (L : List Lk) (hL : L.length ≤ 900) (i j : Nat) (o3 o4 o7 o8 o9 o10 : Option OV) :
    wS bd_links_in_1 [some (.sh (rwsD rs)), some (.ow (L.map lkD)), some (.sh (.int (i : Nat))), o3, o4, some (.sh (.int (j : Nat))), some (.sh (atD a)), o7, o8, o9, o10]
      (fun y => ∃ o7 o8 o9 o10, y = .nx [some (.sh (rwsD rs)), some (.ow ((L ++ lkA i j a).map lkD)), some (.sh (.int (i : Nat))), o3, o4, some (.sh (.int (j : Nat))), some (.sh (atD a)), o7, o8, o9, o10]) := by
  obtain ⟨r, x, y⟩ := a
  have hl : (L.map lkD).length ≤ 1000000 := by rw [List.length_map]; omega
  generalize hR : rwsD rs = R
  have e0 : semAt (atD (r, x, y)) (.int 0) = some (.str r) := rfl
  have et := turned_eq ha.pt
  unfold bd_links_in_1
  rcases ha.rel with h | h | h <;> simp only at h <;> subst h
  · have c1 : decide (("eq" : Str) = "gt") = false := by decide +kernel
    have c2 : decide (("eq" : Str) = "lt") = false := by decide +kernel
    have c3 : decide (("eq" : Str) = "eq") = true := by decide +kernel
    have hl2 : (L.map lkD ++ [D.tup [.str x, .str y, .bl false, .tup [.int (i : Nat), .int (j : Nat), .bl false]]]).length ≤ 1000000 := by
      rw [List.length_append, List.length_map]; simp; omega
    have eq : lkA i j ("eq", x, y) = [⟨x, y, false, (i, j, false)⟩, ⟨y, x, false, (i, j, true)⟩] := by
      unfold lkA
      rw [if_neg (of_decide_eq_false c1), if_neg (of_decide_eq_false c2)]
    have em : (L ++ lkA i j ("eq", x, y)).map lkD = L.map lkD ++ [D.tup [.str x, .str y, .bl false, .tup [.int (i : Nat), .int (j : Nat), .bl false]]] ++ [D.tup [.str y, .str x, .bl false, .tup [.int (i : Nat), .int (j : Nat), .bl true]]] := by
      rw [eq, List.map_append, List.append_assoc]
      rfl
    rw [em]
    (repeat (first | (with_reducible refine Gi.of e0 ?_) | (rw [c1]) | (rw [c2]) | (rw [c3]) | (with_reducible refine And.intro hl ?_) | (with_reducible refine And.intro hl2 ?_) | walk_at "go1"))
    exact ⟨_, _, _, _, rfl⟩
  · have c1 : decide (("lt" : Str) = "gt") = false := by decide +kernel
    have c2 : decide (("lt" : Str) = "lt") = true := by decide +kernel
    have c3 : decide (("lt" : Str) = "eq") = false := by decide +kernel
    have eq : lkA i j ("lt", x, y) = [⟨x, y, true, (i, j, false)⟩] := by
      unfold lkA
      rw [if_neg (of_decide_eq_false c1), if_pos (of_decide_eq_true c2)]
    rw [eq, List.map_append]
    (repeat (first | (with_reducible refine Gi.of e0 ?_) | (rw [c1]) | (rw [c2]) | (rw [c3]) | (with_reducible refine And.intro hl ?_) | walk_at "go1"))
    exact ⟨_, _, _, _, rfl⟩
  · have c1 : decide (("gt" : Str) = "gt") = true := by decide +kernel
    have c2 : decide (("lt" : Str) = "lt") = true := by decide +kernel
    have c3 : decide (("lt" : Str) = "eq") = false := by decide +kernel
    have eq : lkA i j ("gt", x, y) = [⟨y, x, true, (i, j, true)⟩] := by
      unfold lkA
      rw [if_pos (of_decide_eq_true c1)]
    have tq : turn (("gt" : Str), x, y) = (("lt" : Str), y, x) := by
      show (bk "gt", y, x) = _
      rw [bk_gt]
    rw [tq] at et
    rw [eq, List.map_append]
    (repeat (first | (with_reducible refine Gi.of e0 ?_) | (with_reducible refine Gi.of et ?_) | (rw [c1]) | (rw [c2]) | (rw [c3]) | (with_reducible refine And.intro hl ?_) | walk_at "go1"))
    exact ⟨_, _, _, _, rfl⟩
theorem linksIn_eq {rs : List Row} (hr : ∀ r ∈ rs, FtOk r.2) (hl : rs.length ≤ 200) : f_links_in [rwsD rs] = some (.ow ((links rs).map lkD)) := by
  have h2 : ∀ r ∈ rs, r.2.length ≤ 2 := fun r h => by have := (hr r h).len; omega
  unfold f_links_in
  refine fnP_w ?_
  unfold m_links_in
  (repeat walk_at "go1")
  refine wS_for _ (fun n r => ∃ o2 o3 o4 o5 o6 o7 o8 o9 o10, r = [some (.sh (rwsD rs)), some (.ow ((lkR 0 (rs.take n)).map lkD)), o2, o3, o4, o5, o6, o7, o8, o9, o10]) ?_ (fun r h => ?_) ⟨_, _, _, _, _, _, _, _, _, rfl⟩
  · rintro i d hd r ⟨o2, o3, o4, o5, o6, o7, o8, o9, o10, rfl⟩
    obtain ⟨dx, e0, rfl⟩ := enumD_get hd
    rw [List.getElem?_map] at e0
    obtain ⟨row, e1, rfl⟩ := Option.map_eq_some_iff.mp e0
    have hrow := hr row (List.mem_of_getElem? e1)
    have hll : (lkR 0 (rs.take i)).length ≤ 800 := by
      have := lkR_len (rs := rs.take i) (fun r h => h2 r (List.mem_of_mem_take h)) 0
      rw [List.length_take] at this
      omega
    rw [Nat.zero_add]
    rw [take_snoc e1, lkR_snoc, take_lenN e1, Nat.zero_add]
    generalize lkR 0 (rs.take i) = L0 at *
    obtain ⟨nm, fs⟩ := row
    simp only at hrow
    refine Gi.of (z := [some (.sh (rwsD rs)), some (.ow (L0.map lkD)), some (.sh (.int (i : Nat))), some (.sh (.str nm)), some (.sh (ftD fs)), o5, o6, o7, o8, o9, o10]) rfl ?_
    rintro r2 rfl
    unfold bd_links_in_2
    (repeat walk_at "go1")
    refine wS_for _ (fun n r => ∃ o5 o6 o7 o8 o9 o10, r = [some (.sh (rwsD rs)), some (.ow ((L0 ++ lkF i 0 (fs.take n)).map lkD)), some (.sh (.int (i : Nat))), some (.sh (.str nm)), some (.sh (ftD fs)), o5, o6, o7, o8, o9, o10]) ?_ (fun r h => ?_) ⟨_, _, _, _, _, _, by rw [show lkF i 0 (fs.take 0) = [] from rfl, List.append_nil]⟩
    · rintro j d hd r ⟨o5, o6, o7, o8, o9, o10, rfl⟩
      obtain ⟨dx, e3, rfl⟩ := enumD_get hd
      rw [List.getElem?_map] at e3
      obtain ⟨a, e2, rfl⟩ := Option.map_eq_some_iff.mp e3
      rw [Nat.zero_add]
      rw [take_snoc e2, lkF_snoc, take_lenN e2, Nat.zero_add, ← List.append_assoc]
      have hl2 : (L0 ++ lkF i 0 (fs.take j)).length ≤ 900 := by
        have := lkF_len i 0 (fs.take j)
        have hfl := hrow.len
        rw [List.length_take] at this
        rw [List.length_append]
        omega
      generalize L0 ++ lkF i 0 (fs.take j) = L1 at *
      refine Gi.of (z := [some (.sh (rwsD rs)), some (.ow (L1.map lkD)), some (.sh (.int (i : Nat))), some (.sh (.str nm)), some (.sh (ftD fs)), some (.sh (.int (j : Nat))), some (.sh (atD a)), o7, o8, o9, o10]) rfl ?_
      rintro r2 rfl
      refine wS_mono (links_atom (hrow.all a (List.mem_of_getElem? e2)) rs L1 hl2 i j _ _ o7 o8 o9 o10) ?_
      rintro y ⟨p7, p8, p9, p10, rfl⟩
      exact ⟨_, _, _, _, _, _, rfl⟩
    · obtain ⟨o5, o6, o7, o8, o9, o10, rfl⟩ := h
      rw [enumD_len, List.length_map, List.take_length]
      exact ⟨_, _, _, _, _, _, _, _, _, rfl⟩
  · obtain ⟨o2, o3, o4, o5, o6, o7, o8, o9, o10, rfl⟩ := h
    rw [enumD_len, List.length_map, List.take_length]
    (repeat walk_at "go1")
    rfl
end T

namespace T
open PySem L2 DL
/-! ### the search, run -/
theorem w_orVB {r : En} {E : Exn → En → Prop} {f h : En → Rs D} {B B' : Bool} {Q : D → En → Prop} (h1 : wE f r (fun d r1 => d = .bl B ∧ r1 = r) nE) (h2 : wE h r (fun d r1 => d = .bl B' ∧ r1 = r) nE) (q : Q (.bl (B || B')) r) : wE (orV f h) r Q E := by
  refine w_orV (wE_mono h1 (fun d r1 e => ?_) fun _ _ z => z.elim)
  obtain ⟨rfl, rfl⟩ := e
  refine Gi.of (z := B) rfl ?_
  cases B with
  | true => exact q
  | false => exact wE_mono h2 (fun d r2 e => by obtain ⟨rfl, rfl⟩ := e; exact q) fun _ _ z => z.elim
def bothN (xs : List Str) : List Nd := xs.flatMap fun x => [(x, false), (x, true)]
theorem bothN_mem {xs : List Str} {n : Nd} (h : n.1 ∈ xs) : n ∈ bothN xs := by
  obtain ⟨x, b⟩ := n
  refine List.mem_flatMap.mpr ⟨x, h, ?_⟩
  cases b <;> simp
theorem bothN_of {xs : List Str} {n : Nd} (h : n ∈ bothN xs) : n.1 ∈ xs := by
  obtain ⟨x, hx, h⟩ := List.mem_flatMap.mp h
  simp only [List.mem_cons, List.not_mem_nil, or_false] at h
  rcases h with rfl | rfl <;> exact hx
theorem bothN_len : ∀ (xs : List Str), (bothN xs).length = 2 * xs.length
  | [] => rfl
  | x :: xs => by
    have := bothN_len xs
    unfold bothN at this ⊢
    rw [List.flatMap_cons, List.length_append, this, List.length_cons, List.length_cons, List.length_cons, List.length_nil]
    omega
theorem sm_nd {n : Nd} (h : NameOk n.1) : Sm 1 300 (ndD n) := (Sm.tup (n := 0) (w := 82) (m := 2) (fun d hd => by
  simp only [List.mem_cons, List.not_mem_nil, or_false] at hd
  rcases hd with rfl | rfl
  · exact sm_str h
  · exact (Sm.bl _).mono (Nat.le_refl _) (by decide)) (Nat.le_refl _)).mono (Nat.le_refl _) (by decide)
theorem ndD_inj {n m : Nd} : ndD n = ndD m ↔ n = m := by
  obtain ⟨x, a⟩ := n
  obtain ⟨y, b⟩ := m
  simp [ndD]
theorem in_ends {n : Nd} {ends : List Nd} (hn : NameOk n.1) (he : ∀ m ∈ ends, NameOk m.1) (hl : ends.length ≤ 60) : semIn2 (ndD n) (.lst (ends.map ndD)) = some (.bl (decide (n ∈ ends))) := by
  have h1 : (D.lst (ends.map ndD)).fit = true := (Sm.lst (n := 1) (w := 300) (m := 60) (fun d hd => by
    obtain ⟨m, hm, rfl⟩ := List.mem_map.mp hd
    exact sm_nd (he m hm)) (by rw [List.length_map]; exact hl)).fit
  rw [semIn_lst false (sm_nd hn).fit h1 rfl (fun e he => by
    obtain ⟨m, hm, rfl⟩ := List.mem_map.mp he
    rfl)]
  congr 2
  exact decide_eq_decide.mpr ⟨fun h => by
    obtain ⟨m, hm, e⟩ := List.mem_map.mp h
    rw [← ndD_inj.mp e]; exact hm, fun h => List.mem_map.mpr ⟨n, h, rfl⟩⟩
theorem popP_cons (d : D) (ds : List D) (h : ds.length < 1000000) : popP (.int 0) (d :: ds) = some (d, ds) := by
  unfold popP
  simp [ixN]
def envS (L : List Lk) (b : Str) (ends : List Nd) (F : FnL) (W : List Nd) (o6 o7 o8 o9 o10 o11 o12 : Option OV) : En := [some (.sh (.lst (L.map lkD))), some (.sh (.str b)), some (.sh (.lst (ends.map ndD))), some (.sh (ndD (b, false))), some (.od (odF F)), some (.ow (W.map ndD)), o6, o7, o8, o9, o10, o11, o12]
theorem odF_snoc (F : FnL) (n : Nd) (p : List Lk) : odF F ++ [(ndD n, pthD p)] = odF (F ++ [(n, p)]) := by
  unfold odF
  rw [List.map_append]; rfl
set_option maxHeartbeats 4000000 in
/-- one link -/
theorem short_link {L : List Lk} {b : Str} {ends U : List Nd} {F : FnL} {W : List Nd} {c : Nd} {p dn : List Lk} {m : Nat} {k : Lk} (B : Bi L b ends U c p dn m F W) (hp : ∀ x ∈ F, x.2.length ≤ F.length) (hF : F.length ≤ 100) (hW : W.length ≤ 200) (hk : k ∈ L) (hu : (k.r, c.2 || k.s) ∈ U) (o12 : Option OV) :
    wS bd_shortest_links_1 (envS L b ends F W (some (.sh (.str c.1))) (some (.sh (.bl c.2))) (some (.sh (.str k.l))) (some (.sh (.str k.r))) (some (.sh (.bl k.s))) (some (.sh (whD k.w))) o12)
      (fun y => ∃ F' W' o12, y = .nx (envS L b ends F' W' (some (.sh (.str c.1))) (some (.sh (.bl c.2))) (some (.sh (.str k.l))) (some (.sh (.str k.r))) (some (.sh (.bl k.s))) (some (.sh (whD k.w))) o12) ∧ Bi L b ends U c p (dn ++ [k]) m F' W' ∧ (∀ x ∈ F', x.2.length ≤ F'.length) ∧ W'.length ≤ W.length + 1 ∧ F'.length ≤ F.length + 1) := by
  have ek : (D.tup [.str k.r, .bl (c.2 || k.s)]).key8 = some (nkN (k.r, c.2 || k.s)) := rfl
  have ec : (D.tup [.str c.1, .bl c.2]).key8 = some (nkN c) := rfl
  have hA := has_F F (k.r, c.2 || k.s)
  have hAt : ((D.tup [.str c.1, .bl c.2]).key8.bind fun k => odAt (odF F) k) = some (pthD p) := by
    rw [ec]; exact at_F B.nd B.cp
  have ea : semAdd (pthD p) (.lst [whD k.w]) = some (pthD (p ++ [k])) := by
    have := hp _ B.cp
    unfold pthD
    rw [semAdd_l (by rw [List.length_map]; simp only [List.length_cons, List.length_nil]; simp only at this; omega), List.map_append]
    rfl
  have hW1 : (W.map ndD).length ≤ 1000000 := by rw [List.length_map]; omega
  have hO1 : (odF F).length ≤ 1000000 := by unfold odF; rw [List.length_map]; omega
  have hsn : odF F ++ [(D.tup [.str k.r, .bl (c.2 || k.s)], pthD (p ++ [k]))] = odF (F ++ [((k.r, c.2 || k.s), p ++ [k])]) := odF_snoc F (k.r, c.2 || k.s) (p ++ [k])
  have hws : W.map ndD ++ [D.tup [.str k.r, .bl (c.2 || k.s)]] = (W ++ [(k.r, c.2 || k.s)]).map ndD := by rw [List.map_append]; rfl
  by_cases h1 : k.l = c.1
  · by_cases h2 : (k.r, c.2 || k.s) ∈ keysF F
    · rw [decide_eq_true h2] at hA
      have B' := bi_skip B (fun _ => h2)
      unfold bd_shortest_links_1 envS
      (repeat (first | (with_reducible refine w_orVB (B := c.2) (B' := k.s) ?_ ?_ ?_) | (with_reducible refine Gi.of ek ?_) | walk_at "go1"))
      exact ⟨F, W, _, rfl, B', hp, Nat.le_succ _, Nat.le_succ _⟩
    · rw [decide_eq_false h2] at hA
      have B' := bi_add B hk h1 h2 hu
      unfold bd_shortest_links_1 envS
      (repeat (first | (with_reducible refine w_orVB (B := c.2) (B' := k.s) ?_ ?_ ?_) | (with_reducible refine Gi.of ek ?_) | (with_reducible refine Gi.of hAt ?_) | (with_reducible refine Gi.of ea ?_) | (with_reducible refine And.intro (And.intro hA hO1) ?_) | (with_reducible refine And.intro hW1 ?_) | (rw [hsn]) | (rw [hws]) | walk_at "go1"))
      refine ⟨_, _, _, rfl, B', fun x hx => ?_, ?_, ?_⟩
      · rw [List.length_append]
        rcases List.mem_append.mp hx with hx | hx
        · have := hp x hx
          omega
        · rw [List.mem_singleton.mp hx]
          have := hp _ B.cp
          simp only [List.length_append, List.length_cons, List.length_nil] at this ⊢
          omega
      · rw [List.length_append]; exact Nat.le_refl _
      · rw [List.length_append]; exact Nat.le_refl _
  · have B' := bi_skip B (fun e => absurd e h1)
    unfold bd_shortest_links_1 envS
    (repeat (first | (with_reducible refine w_orVB (B := c.2) (B' := k.s) ?_ ?_ ?_) | (with_reducible refine Gi.of ek ?_) | walk_at "go1"))
    exact ⟨F, W, _, rfl, B', hp, Nat.le_succ _, Nat.le_succ _⟩
/-- what the search tells -/
def Told (L : List Lk) (b : Str) (ends : List Nd) (d : D) : Prop := (d = .non ∧ ∀ n ∈ ends, ¬ Rch L b n) ∨ ∃ p n, d = pthD p ∧ Wk L b n p ∧ n ∈ ends ∧ p.length ≤ 100
set_option maxHeartbeats 4000000 in
theorem shortest_ok {xs : List Str} (hx : ∀ x ∈ xs, NameOk x) (hxl : xs.length ≤ 20) {L : List Lk} (hL : ∀ k ∈ L, k.r ∈ xs) (hLl : L.length ≤ 900) {b : Str} (hb : b ∈ xs) {ends : List Nd} (he : ∀ n ∈ ends, n.1 ∈ xs) (hel : ends.length ≤ 60) :
    ∃ d, f_shortest_links [.lst (L.map lkD), .str b, .lst (ends.map ndD)] = some (.sh d) ∧ Told L b ends d := by
  have hul := bothN_len xs
  have hU : ∀ c : Nd, ∀ k ∈ L, (k.r, c.2 || k.s) ∈ bothN xs := fun c k hk => bothN_mem (hL k hk)
  have key : ∃ o, f_shortest_links [.lst (L.map lkD), .str b, .lst (ends.map ndD)] = some o ∧ ∃ d, o = .sh d ∧ Told L b ends d := by
    unfold f_shortest_links fnP
    suffices h : wS m_shortest_links (startE 13 ([D.lst (L.map lkD), .str b, .lst (ends.map ndD)].map OV.sh)) (fun y => ∃ o r, y = .rt o r ∧ ∃ d, o = .sh d ∧ Told L b ends d) by
      obtain ⟨o, r, e, q⟩ := h
      rw [e]
      exact ⟨o, rfl, q⟩
    generalize hr0 : startE 13 ([D.lst (L.map lkD), .str b, .lst (ends.map ndD)].map OV.sh) = r0
    simp only [DL.startE, List.map_cons, List.map_nil, List.length_cons, List.length_nil, Nat.zero_add, Nat.reduceAdd, Nat.reduceSub, List.replicate, List.cons_append, List.nil_append] at hr0
    subst hr0
    unfold m_shortest_links
    have ek : (D.tup [.str b, .bl false]).key8 = some (nkN (b, false)) := rfl
    (repeat (first | (with_reducible refine Gi.of ek ?_) | walk_at "go1"))
    refine wS_wh (fun n r => ∃ F W o6 o7 o8 o9 o10 o11 o12, r = envS L b ends F W o6 o7 o8 o9 o10 o11 o12 ∧ Bf L b ends (bothN xs) F W ∧ (∀ x ∈ F, x.2.length ≤ F.length) ∧ W.length + (bothN xs).length + 1 ≤ n + F.length ∧ n ≤ 100) 100 ?_ (fun m r h => ?_) (fun r h => ?_)
    · refine ⟨[((b, false), [])], [(b, false)], none, none, none, none, none, none, none, rfl, bf_start (bothN_mem hb), fun x hx => ?_, ?_, Nat.le_refl _⟩
      · rw [List.mem_singleton.mp hx]; exact Nat.zero_le _
      · simp only [List.length_cons, List.length_nil]; omega
    · obtain ⟨F, W, o6, o7, o8, o9, o10, o11, o12, rfl, B, hp, hm, hn⟩ := h
      have hFl := bf_pos B
      have hnil := semNe_nil (W.map ndD)
      cases W with
      | nil =>
        have hnil : semNe (.lst (([] : List Nd).map ndD)) (.lst []) = some (.bl false) := hnil
        unfold ts_shortest_links_1 envS
        (repeat (first | (with_reducible refine Gi.of hnil ?_) | walk_at "go1"))
        refine ⟨fun _ => ?_, fun h => by cases h⟩
        (repeat walk_at "go1")
        exact ⟨_, _, rfl, _, rfl, .inl ⟨rfl, bf_end B⟩⟩
      | cons c W =>
        have hnil : semNe (.lst ((c :: W).map ndD)) (.lst []) = some (.bl true) := hnil
        unfold ts_shortest_links_1 envS
        (repeat (first | (with_reducible refine Gi.of hnil ?_) | walk_at "go1"))
        refine ⟨fun h => (by cases h), fun _ => ?_⟩
        rw [List.length_cons] at hm
        obtain ⟨m', rfl⟩ : ∃ m', m = m' + 1 := ⟨m - 1, by omega⟩
        obtain ⟨m2, rfl⟩ : ∃ m2, m' = m2 + 1 := ⟨m' - 1, by omega⟩
        refine ⟨m2 + 1, rfl, ?_⟩
        have hc : c.1 ∈ xs := bothN_of (B.un c (B.ws c List.mem_cons_self))
        obtain ⟨⟨c', p⟩, hcp, hce⟩ := List.mem_map.mp (B.ws c List.mem_cons_self)
        simp only at hce
        subst hce
        have hW : (W.map ndD).length < 1000000 := by
          rw [List.length_map]
          omega
        have epop : popP (.int 0) (((c' :: W)).map ndD) = some (ndD c', W.map ndD) := popP_cons _ _ hW
        have ein := in_ends (hx _ hc) (fun n hn => hx _ (he n hn)) hel
        have ein : semIn2 (.tup [.str c'.1, .bl c'.2]) (.lst (ends.map ndD)) = some (.bl (decide (c' ∈ ends))) := ein
        have egt : ∀ r, gT 2 (gsCons (gN 6) (gsCons (gN 7) gsNil)) (ndD c') r = gT 2 (gsCons (gN 6) (gsCons (gN 7) gsNil)) (.tup [.str c'.1, .bl c'.2]) r := fun _ => rfl
        unfold bd_shortest_links_2
        by_cases hin : c' ∈ ends
        · rw [decide_eq_true hin] at ein
          have hAt : ((D.tup [.str c'.1, .bl c'.2]).key8.bind fun k => odAt (odF F) k) = some (pthD p) := at_F B.nd hcp
          (repeat (first | (with_reducible refine Gi.of epop ?_) | (with_reducible refine Gi.of ein ?_) | (with_reducible refine Gi.of hAt ?_) | walk_at "go1"))
          refine ⟨_, _, rfl, _, rfl, .inr ⟨p, c', rfl, B.wk _ hcp, hin, ?_⟩⟩
          have := hp _ hcp
          simp only at this
          omega
        · rw [decide_eq_false hin] at ein
          have Bs := bi_start (m := m2) B hin hcp (by rw [List.length_cons]; omega)
          (repeat (first | (with_reducible refine Gi.of epop ?_) | (with_reducible refine Gi.of ein ?_) | walk_at "go1"))
          refine wS_forL L lkD rfl (fun n r => ∃ F W o8 o9 o10 o11 o12, r = envS L b ends F W (some (.sh (.str c'.1))) (some (.sh (.bl c'.2))) o8 o9 o10 o11 o12 ∧ Bi L b ends (bothN xs) c' p (L.take n) m2 F W ∧ (∀ x ∈ F, x.2.length ≤ F.length)) ?_ (fun r h => ?_) ⟨F, W, _, _, _, _, _, rfl, Bs, hp⟩
          · rintro i k hk r ⟨F, W, o8, o9, o10, o11, o12, rfl, B, hp⟩
            have hkm := List.mem_of_getElem? hk
            refine Gi.of (z := envS L b ends F W (some (.sh (.str c'.1))) (some (.sh (.bl c'.2))) (some (.sh (.str k.l))) (some (.sh (.str k.r))) (some (.sh (.bl k.s))) (some (.sh (whD k.w))) o12) rfl ?_
            rintro r2 rfl
            have hF2 : F.length ≤ (bothN xs).length := by
              have := nodup_leN B.nd B.un
              rw [keysF, List.length_map] at this
              exact this
            have hmm := B.mm
            refine wS_mono (short_link B hp (by omega) (by omega) hkm (hU c' k hkm) o12) ?_
            rintro y ⟨F', W', p12, rfl, B', hp', _, _⟩
            rw [← take_snoc hk] at B'
            exact ⟨F', W', _, _, _, _, p12, rfl, B', hp'⟩
          · obtain ⟨F, W, o8, o9, o10, o11, o12, rfl, B, hp⟩ := h
            rw [List.take_length] at B
            obtain ⟨B1, B2⟩ := bi_end B
            exact ⟨F, W, _, _, _, _, _, _, _, rfl, B1, hp, by omega, by omega⟩
    · obtain ⟨F, W, o6, o7, o8, o9, o10, o11, o12, rfl, B, hp, hm, _⟩ := h
      have := bf_pos B
      omega
  obtain ⟨o, e, d, rfl, q⟩ := key
  exact ⟨d, e, q⟩
end T

namespace T
open PySem L2 DL
/-! ### ring -/
theorem lkA_in {xs : List Str} {a : At} (h : AtIn xs a) (i j : Nat) : ∀ k ∈ lkA i j a, k.l ∈ xs ∧ k.r ∈ xs := fun k hk => by
  unfold lkA at hk
  split at hk
  · rw [List.mem_singleton.mp hk]; exact ⟨h.r, h.l⟩
  · split at hk
    · rw [List.mem_singleton.mp hk]; exact ⟨h.l, h.r⟩
    · simp only [List.mem_cons, List.not_mem_nil, or_false] at hk
      rcases hk with rfl | rfl
      · exact ⟨h.l, h.r⟩
      · exact ⟨h.r, h.l⟩
theorem lkF_mem {i : Nat} {k : Lk} : ∀ {as : List At} {j : Nat}, k ∈ lkF i j as → ∃ a ∈ as, ∃ j, k ∈ lkA i j a
  | a :: as, j, h => by
    rcases List.mem_append.mp (show k ∈ lkA i j a ++ lkF i (j + 1) as from h) with h | h
    · exact ⟨a, List.mem_cons_self, j, h⟩
    · obtain ⟨b, hb, j', h⟩ := lkF_mem h
      exact ⟨b, List.mem_cons_of_mem _ hb, j', h⟩
theorem lkR_mem {k : Lk} : ∀ {rs : List Row} {i : Nat}, k ∈ lkR i rs → ∃ r ∈ rs, ∃ a ∈ r.2, ∃ i j, k ∈ lkA i j a
  | r :: rs, i, h => by
    rcases List.mem_append.mp (show k ∈ lkF i 0 r.2 ++ lkR (i + 1) rs from h) with h | h
    · obtain ⟨a, ha, j, h⟩ := lkF_mem h
      exact ⟨r, List.mem_cons_self, a, ha, i, j, h⟩
    · obtain ⟨b, hb, a, ha, i', j', h⟩ := lkR_mem h
      exact ⟨b, List.mem_cons_of_mem _ hb, a, ha, i', j', h⟩
theorem lkF_has {i : Nat} {a : At} : ∀ {as : List At} {j : Nat}, a ∈ as → ∃ j', ∀ k ∈ lkA i j' a, k ∈ lkF i j as
  | b :: as, j, h => by
    rcases List.mem_cons.mp h with rfl | h
    · exact ⟨j, fun k hk => List.mem_append_left _ hk⟩
    · obtain ⟨j', h'⟩ := lkF_has (j := j + 1) h
      exact ⟨j', fun k hk => List.mem_append_right _ (h' k hk)⟩
theorem lkR_has {r : Row} {a : At} (ha : a ∈ r.2) : ∀ {rs : List Row} {i : Nat}, r ∈ rs → ∃ i' j', ∀ k ∈ lkA i' j' a, k ∈ lkR i rs
  | b :: rs, i, h => by
    rcases List.mem_cons.mp h with rfl | h
    · obtain ⟨j', h'⟩ := lkF_has (i := i) (j := 0) ha
      exact ⟨i, j', fun k hk => List.mem_append_left _ (h' k hk)⟩
    · obtain ⟨i', j', h'⟩ := lkR_has ha (i := i + 1) h
      exact ⟨i', j', fun k hk => List.mem_append_right _ (h' k hk)⟩
theorem links_in {xs : List Str} {rs : List Row} (h : ∀ r ∈ rs, FtIn xs r.2) : ∀ k ∈ links rs, k.l ∈ xs ∧ k.r ∈ xs := fun k hk => by
  obtain ⟨r, hr, a, ha, i, j, hk⟩ := lkR_mem hk
  exact lkA_in ((h r hr).all a ha) i j k hk
/-- the atoms hold just if the links do -/
theorem lkA_ok {a : At} (ha : isRel a.1) (val : Str → Int) (i j : Nat) : hA val a = true ↔ ∀ k ∈ lkA i j a, okL val k := by
  obtain ⟨r, x, y⟩ := a
  rcases ha with h | h | h <;> simp only at h <;> subst h
  · simp [hA, hold, lkA, okL, r_eq_lt, r_eq_gt, r_lt_gt, r_lt_eq, r_gt_eq, r_gt_lt, r_eq_0, r_lt_0, r_gt_0, r_0_eq, r_0_lt, r_0_gt]
    omega
  · simp [hA, hold, lkA, okL, r_eq_lt, r_eq_gt, r_lt_gt, r_lt_eq, r_gt_eq, r_gt_lt, r_eq_0, r_lt_0, r_gt_0, r_0_eq, r_0_lt, r_0_gt]
  · simp [hA, hold, lkA, okL, r_eq_lt, r_eq_gt, r_lt_gt, r_lt_eq, r_gt_eq, r_gt_lt, r_eq_0, r_lt_0, r_gt_0, r_0_eq, r_0_lt, r_0_gt]
theorem links_ok {xs : List Str} {rs : List Row} (h : ∀ r ∈ rs, FtIn xs r.2) (val : Str → Int) : allH val rs = true ↔ ∀ k ∈ links rs, okL val k := by
  unfold allH
  rw [List.all_eq_true]
  constructor
  · intro q k hk
    obtain ⟨r, hr, a, ha, i, j, hk⟩ := lkR_mem hk
    have := List.all_eq_true.mp (q r hr) a ha
    exact (lkA_ok ((h r hr).all a ha).rel val i j).mp this k hk
  · intro q r hr
    rw [List.all_eq_true]
    intro a ha
    obtain ⟨i, j, hk⟩ := lkR_has ha (i := 0) hr
    exact (lkA_ok ((h r hr).all a ha).rel val i j).mpr fun k hk' => q k (hk k hk')
def RingD (L : List Lk) (d : D) : Prop := (d = .non ∧ ¬ Ring L) ∨ ∃ k p s, k ∈ L ∧ k.s = true ∧ Wk L k.r (k.l, s) p ∧ d = pthD (k :: p)
set_option maxHeartbeats 4000000 in
theorem ring_eq {xs : List Str} (hx : ∀ x ∈ xs, NameOk x) (hxl : xs.length ≤ 20) {rs : List Row} (hr : ∀ r ∈ rs, FtIn xs r.2) (hl : rs.length ≤ 200) : ∃ d, f_ring [rwsD rs] = some (.sh d) ∧ RingD (links rs) d := by
  have hf : ∀ r ∈ rs, FtOk r.2 := fun r h => (hr r h).ok hx
  have e1 := linksIn_eq hf hl
  have hin := links_in hr
  have hLl : (links rs).length ≤ 900 := by
    have := lkR_len (fun r h => by have := (hr r h).len; omega) 0 (rs := rs)
    unfold links
    omega
  have key : ∃ o, f_ring [rwsD rs] = some o ∧ ∃ d, o = .sh d ∧ RingD (links rs) d := by
    generalize links rs = L at *
    unfold f_ring fnP
    suffices h : wS m_ring (startE 7 ([rwsD rs].map OV.sh)) (fun y => ∃ o r, y = .rt o r ∧ ∃ d, o = .sh d ∧ RingD L d) by
      obtain ⟨o, r, e, q⟩ := h
      rw [e]
      exact ⟨o, rfl, q⟩
    generalize rwsD rs = R at *
    generalize hr0 : startE 7 ([R].map OV.sh) = r0
    simp only [DL.startE, List.map_cons, List.map_nil, List.length_cons, List.length_nil, Nat.zero_add, Nat.reduceAdd, Nat.reduceSub, List.replicate, List.cons_append, List.nil_append] at hr0
    subst hr0
    unfold m_ring
    (repeat (first | (with_reducible refine Gi.of e1 ?_) | walk_at "go1"))
    refine wS_forL L lkD rfl (fun n r => ∃ o2 o3 o4 o5 o6, r = [some (.sh R), some (.sh (.lst (L.map lkD))), o2, o3, o4, o5, o6] ∧ ∀ k ∈ L.take n, k.s = true → ∀ s, ¬ Rch L k.r (k.l, s)) ?_ (fun r h => ?_) ⟨_, _, _, _, _, rfl, fun k hk => (by cases hk)⟩
    · rintro n k hk r ⟨o2, o3, o4, o5, o6, rfl, hn⟩
      have hkm := List.mem_of_getElem? hk
      refine Gi.of (z := [some (.sh R), some (.sh (.lst (L.map lkD))), some (.sh (.str k.l)), some (.sh (.str k.r)), some (.sh (.bl k.s)), some (.sh (whD k.w)), o6]) rfl ?_
      rintro r2 rfl
      rw [take_snoc hk]
      unfold bd_ring_1
      cases hs : k.s with
      | false =>
        (repeat walk_at "go1")
        refine ⟨_, _, _, _, _, rfl, fun k' hk' h' => ?_⟩
        rcases List.mem_append.mp hk' with z | z
        · exact hn k' z h'
        · rw [List.mem_singleton.mp z, hs] at h'; cases h'
      | true =>
        obtain ⟨d, e2, q⟩ := shortest_ok hx hxl (fun k hk => (hin k hk).2) hLl (hin k hkm).2 (ends := [(k.l, false), (k.l, true)]) (fun n hn => by
          simp only [List.mem_cons, List.not_mem_nil, or_false] at hn
          rcases hn with rfl | rfl <;> exact (hin k hkm).1) (by simp)
        have e2 : f_shortest_links [.lst (L.map lkD), .str k.r, .lst [.tup [.str k.l, .bl false], .tup [.str k.l, .bl true]]] = some (.sh d) := e2
        rcases q with ⟨rfl, q⟩ | ⟨p, m, rfl, hp, hm, hpl⟩
        · (repeat (first | (with_reducible refine Gi.of e2 ?_) | walk_at "go1"))
          refine ⟨_, _, _, _, _, rfl, fun k' hk' h' => ?_⟩
          rcases List.mem_append.mp hk' with z | z
          · exact hn k' z h'
          · rw [List.mem_singleton.mp z]
            intro s
            cases s
            · exact q _ (by simp)
            · exact q _ (by simp)
        · have e3 : semIsNot (pthD p) .non = some (.bl true) := rfl
          have e4 : semAdd (.lst [whD k.w]) (pthD p) = some (pthD (k :: p)) := by
            unfold pthD
            rw [semAdd_l (by rw [List.length_map]; simp only [List.length_cons, List.length_nil]; omega)]
            rfl
          (repeat (first | (with_reducible refine Gi.of e2 ?_) | (with_reducible refine Gi.of e3 ?_) | (with_reducible refine Gi.of e4 ?_) | walk_at "go1"))
          have hm2 : ∃ s, m = (k.l, s) := by
            simp only [List.mem_cons, List.not_mem_nil, or_false] at hm
            rcases hm with rfl | rfl <;> exact ⟨_, rfl⟩
          obtain ⟨s, rfl⟩ := hm2
          exact ⟨_, _, rfl, _, rfl, .inr ⟨k, p, s, hkm, hs, hp, rfl⟩⟩
    · obtain ⟨o2, o3, o4, o5, o6, rfl, hn⟩ := h
      rw [List.take_length] at hn
      (repeat walk_at "go1")
      refine ⟨_, _, rfl, _, rfl, .inl ⟨rfl, fun ⟨k, h1, h2, s, h3⟩ => hn k h1 h2 s h3⟩⟩
  obtain ⟨o, e, d, rfl, q⟩ := key
  exact ⟨d, e, q⟩
end T

namespace T
open PySem L2 DL
/-! ### possible -/
def dvs (ns : List Str) (val : Str → Int) : List (Key × D) := ns.map fun x => ((Sum.inr x : Key), D.int (val x))
def updV (val : Str → Int) (y : Str) (v : Int) : Str → Int := fun x => if x = y then v else val x
theorem kinr {x y : Str} : ((Sum.inr x : Key) = Sum.inr y) ↔ x = y := ⟨fun h => Sum.inr.inj h, fun h => by rw [h]⟩
theorem dvs_has (ns : List Str) (val : Str → Int) (y : Str) : ((dvs ns val).any fun kv => decide (kv.1 = (Sum.inr y : Key))) = decide (y ∈ ns) := by
  unfold dvs
  rw [List.any_map]
  induction ns with
  | nil => rfl
  | cons x ns ih =>
    rw [List.any_cons, ih]
    by_cases h : y = x
    · subst h
      simp
    · simp only [List.mem_cons, h, false_or, Function.comp_apply]
      rw [show decide ((Sum.inr x : Key) = Sum.inr y) = false from decide_eq_false fun z => h (kinr.mp z).symm, Bool.false_or]
theorem put_dvs {ns : List Str} {y : Str} (h : y ∈ ns) (val : Str → Int) (v : Int) : putD (dvs ns val) (.inr y) (.int v) = dvs ns (updV val y v) := by
  unfold putD
  rw [dvs_has, decide_eq_true h, if_pos rfl]
  unfold dvs
  rw [List.map_map]
  refine List.map_congr_left fun x _ => ?_
  simp only [Function.comp_apply, updV]
  by_cases hx : x = y
  · rw [if_pos (kinr.mpr hx), if_pos hx]
  · rw [if_neg (fun z => hx (kinr.mp z)), if_neg hx]
theorem at_dvs {ns : List Str} {y : Str} (h : y ∈ ns) (val : Str → Int) : semAt (.dic (dvs ns val)) (.str y) = some (.int (val y)) := by
  rw [semAt_dic]
  show valD (dvs ns val) (.inr y) = _
  unfold valD dvs
  induction ns with
  | nil => cases h
  | cons x ns ih =>
    rw [List.map_cons]
    by_cases hx : x = y
    · subst hx
      rw [List.find?_cons_of_pos (by simp)]
      rfl
    · rw [List.find?_cons_of_neg (by simpa using fun z => hx (kinr.mp z))]
      rcases List.mem_cons.mp h with z | z
      · exact absurd z.symm hx
      · exact ih z
theorem merge_zero {ns : List Str} (nd : ns.Nodup) : mergeD [] (ns.map fun x => ((Sum.inr x : Key), D.int 0)) = dvs ns fun _ => 0 := by
  have key : ∀ (a b : List Str), (a ++ b).Nodup → mergeD (dvs a fun _ => 0) (b.map fun x => ((Sum.inr x : Key), D.int 0)) = dvs (a ++ b) fun _ => 0 := by
    intro a b
    induction b generalizing a with
    | nil => intro _; rw [List.append_nil]; rfl
    | cons x b ih =>
      intro nd
      have hx : x ∉ a := fun h => by
        rw [List.nodup_append] at nd
        exact nd.2.2 x h x List.mem_cons_self rfl
      have e : mergeD (dvs a fun _ => 0) ((x :: b).map fun x => ((Sum.inr x : Key), D.int 0)) = mergeD (putD (dvs a fun _ => 0) (.inr x) (.int 0)) (b.map fun x => ((Sum.inr x : Key), D.int 0)) := rfl
      have e2 : putD (dvs a fun _ => 0) (.inr x) (.int 0) = dvs (a ++ [x]) fun _ => 0 := by
        unfold putD
        rw [dvs_has, decide_eq_false hx, if_neg Bool.false_ne_true]
        unfold dvs
        rw [List.map_append]
        rfl
      rw [e, e2, ih (a ++ [x]) (by rw [List.append_assoc]; exact nd), List.append_assoc]
      rfl
  exact key [] ns nd
/-- one link, all links, some rounds -/
def rl1 (val : Str → Int) (k : Lk) : Str → Int := updV val k.r (if val k.l + (if k.s = true then 1 else 0) > val k.r then val k.l + (if k.s = true then 1 else 0) else val k.r)
def rlA (L : List Lk) (val : Str → Int) : Str → Int := L.foldl rl1 val
def rlN (L : List Lk) : Nat → Str → Int
  | 0 => fun _ => 0
  | n + 1 => rlA L (rlN L n)
def nmL (L : List Lk) : List Str := srtT (L.map (·.l) ++ L.map (·.r))
theorem nmL_mem {L : List Lk} {k : Lk} (h : k ∈ L) : k.l ∈ nmL L ∧ k.r ∈ nmL L := by
  unfold nmL
  rw [srtT_mem, srtT_mem]
  exact ⟨List.mem_append_left _ (List.mem_map.mpr ⟨k, h, rfl⟩), List.mem_append_right _ (List.mem_map.mpr ⟨k, h, rfl⟩)⟩
theorem addT_few {xs ts : List Str} (h : ∀ t ∈ ts, t ∈ xs) : (addT [] ts).length ≤ xs.length :=
  nodup_leN (addT_nodup ts List.nodup_nil) fun x hx => by
    rcases (addT_mem ts [] x).mp hx with z | z
    · cases z
    · exact h x z
theorem nmL_few {xs : List Str} {L : List Lk} (h : ∀ k ∈ L, k.l ∈ xs ∧ k.r ∈ xs) : (nmL L).length ≤ xs.length :=
  nodup_leN (srtT_nodup _) fun x hx => by
    unfold nmL at hx
    rw [srtT_mem] at hx
    rcases List.mem_append.mp hx with z | z
    · obtain ⟨k, hk, rfl⟩ := List.mem_map.mp z
      exact (h k hk).1
    · obtain ⟨k, hk, rfl⟩ := List.mem_map.mp z
      exact (h k hk).2
def PossD (L : List Lk) (d : D) : Prop := (d = .non ∧ Ring L) ∨ (d = .dic (dvs (nmL L) (rlN L (nmL L).length)) ∧ ¬ Ring L)
set_option maxHeartbeats 4000000 in
theorem possible_eq {xs : List Str} (hx : ∀ x ∈ xs, NameOk x) (hxl : xs.length ≤ 15) {rs : List Row} (hr : ∀ r ∈ rs, FtIn xs r.2) (hl : rs.length ≤ 200) : ∃ d, f_possible [rwsD rs] = some (.sh d) ∧ PossD (links rs) d := by
  have hf : ∀ r ∈ rs, FtOk r.2 := fun r h => (hr r h).ok hx
  have e1 := linksIn_eq hf hl
  have hin := links_in hr
  have hLl : (links rs).length ≤ 900 := by
    have := lkR_len (fun r h => by have := (hr r h).len; omega) 0 (rs := rs)
    unfold links
    omega
  obtain ⟨dr, er, hrg⟩ := ring_eq hx (by omega) hr hl
  have key : ∃ o, f_possible [rwsD rs] = some o ∧ ∃ d, o = .sh d ∧ PossD (links rs) d := by
    generalize links rs = L at *
    unfold f_possible fnP
    suffices h : wS m_possible (startE 10 ([rwsD rs].map OV.sh)) (fun y => ∃ o r, y = .rt o r ∧ ∃ d, o = .sh d ∧ PossD L d) by
      obtain ⟨o, r, e, q⟩ := h
      rw [e]
      exact ⟨o, rfl, q⟩
    generalize rwsD rs = R at *
    generalize hr0 : startE 10 ([R].map OV.sh) = r0
    simp only [DL.startE, List.map_cons, List.map_nil, List.length_cons, List.length_nil, Nat.zero_add, Nat.reduceAdd, Nat.reduceSub, List.replicate, List.cons_append, List.nil_append] at hr0
    subst hr0
    unfold m_possible
    rcases hrg with ⟨rfl, hnr⟩ | ⟨k, p, s, h1, h2, h3, rfl⟩
    · have en : semIsNot .non .non = some (.bl false) := rfl
      have hnn : (nmL L).length ≤ 15 := Nat.le_trans (nmL_few hin) hxl
      have ha : (addT [] (L.map (·.l))).length ≤ 15 := Nat.le_trans (addT_few fun t ht => by
        obtain ⟨k, hk, rfl⟩ := List.mem_map.mp ht
        exact (hin k hk).1) hxl
      have hb : (addT [] (L.map (·.r))).length ≤ 15 := Nat.le_trans (addT_few fun t ht => by
        obtain ⟨k, hk, rfl⟩ := List.mem_map.mp ht
        exact (hin k hk).2) hxl
      (repeat (first | (with_reducible refine Gi.of er ?_) | (with_reducible refine Gi.of en ?_) | (with_reducible refine Gi.of e1 ?_) | walk_at "go1"))
      refine s_dkS (nmL L) D.str (fun x => Sum.inr x) (fun _ => .int 0) ?_
      (repeat walk_at "go1")
      have l0 : ∀ k : Lk, semAt (lkD k) (.int 0) = some (.str k.l) := fun _ => rfl
      have l1 : ∀ k : Lk, semAt (lkD k) (.int 1) = some (.str k.r) := fun _ => rfl
      have f1 : (L.map (·.l)).map D.str = L.flatMap fun k => [D.str k.l] := by
        rw [List.map_map, ← List.map_eq_flatMap]; rfl
      have f2 : (L.map (·.r)).map D.str = L.flatMap fun k => [D.str k.r] := by
        rw [List.map_map, ← List.map_eq_flatMap]; rfl
      refine w_scZ (ts := L.map (·.l)) ?_ (by rw [List.length_map]; omega)
      rw [f1]
      refine ad_cons1 L lkD _ ?_
      (repeat walk_at "go1")
      refine ⟨rfl, ?_⟩
      (repeat walk_at "go1")
      refine ⟨fun k hk => ?_, ?_⟩
      · (repeat walk_at "go1")
        refine ad_one okS_ok ?_
        (repeat (first | (with_reducible refine Gi.of (l0 k) ?_) | walk_at "go1"))
      refine w_scZ (ts := L.map (·.r)) ?_ (by rw [List.length_map]; omega)
      rw [f2]
      refine ad_cons1 L lkD _ ?_
      (repeat walk_at "go1")
      refine ⟨rfl, ?_⟩
      (repeat walk_at "go1")
      refine ⟨fun k hk => ?_, ?_⟩
      · (repeat walk_at "go1")
        refine ad_one okS_ok ?_
        (repeat (first | (with_reducible refine Gi.of (l1 k) ?_) | walk_at "go1"))
      refine ⟨⟨ha, hb⟩, ?_⟩
      rintro d rfl
      refine Gi.of (z := (nmL L).map D.str) rfl ?_
      refine ⟨rfl, by omega, ?_⟩
      (repeat walk_at "go1")
      refine ⟨fun x hx => ?_, ?_⟩
      · (repeat walk_at "go1")
        exact ⟨rfl, rfl, rfl⟩
      rw [merge_zero (ns := nmL L) (srtT_nodup _)]
      (repeat walk_at "go1")
      refine ⟨((dvs (nmL L) fun _ => 0).length : Nat), rfl, by unfold dvs; rw [List.length_map]; omega, ?_⟩
      have hdl : ((dvs (nmL L) fun _ => 0).length : Int).toNat = (nmL L).length := by unfold dvs; rw [List.length_map]; rfl
      rw [hdl]
      refine wS_for _ (fun n r => ∃ o3 o4 o5 o6 o7 o8 o9, r = [some (.sh R), some (.sh (.lst (L.map lkD))), some (.th (.dk (dvs (nmL L) (rlN L n)))), o3, o4, o5, o6, o7, o8, o9]) ?_ (fun r h => ?_) ⟨_, _, _, _, _, _, _, rfl⟩
      · rintro n d hd r ⟨o3, o4, o5, o6, o7, o8, o9, rfl⟩
        refine Gi.of (z := [some (.sh R), some (.sh (.lst (L.map lkD))), some (.th (.dk (dvs (nmL L) (rlN L n)))), o3, o4, some (.sh d), o6, o7, o8, o9]) rfl ?_
        rintro r2 rfl
        unfold bd_possible_2
        (repeat walk_at "go1")
        have hlast : rlN L (n + 1) = rlA L (rlN L n) := rfl
        rw [hlast]
        generalize rlN L n = v0
        refine wS_forL L lkD rfl (fun j r => ∃ o6 o7 o8 o9, r = [some (.sh R), some (.sh (.lst (L.map lkD))), some (.th (.dk (dvs (nmL L) (rlA (L.take j) v0)))), o3, o4, some (.sh d), o6, o7, o8, o9]) ?_ (fun r h => ?_) ⟨_, _, _, _, rfl⟩
        · rintro j k hk r ⟨o6, o7, o8, o9, rfl⟩
          have hkm := List.mem_of_getElem? hk
          have hsn : rlA (L.take (j + 1)) v0 = rl1 (rlA (L.take j) v0) k := by
            rw [take_snoc hk]
            unfold rlA
            rw [List.foldl_append]; rfl
          rw [hsn]
          generalize rlA (L.take j) v0 = v1
          refine Gi.of (z := [some (.sh R), some (.sh (.lst (L.map lkD))), some (.th (.dk (dvs (nmL L) v1))), o3, o4, some (.sh d), some (.sh (.str k.l)), some (.sh (.str k.r)), some (.sh (.bl k.s)), some (.sh (whD k.w))]) rfl ?_
          rintro r2 rfl
          obtain ⟨m1, m2⟩ := nmL_mem hkm
          have g1 := at_dvs m1 v1
          have g2 := at_dvs m2 v1
          have hi : semInt [.bl k.s] = some (.int (if k.s = true then 1 else 0)) := rfl
          have hmx : semMax [.int (v1 k.r), .int (v1 k.l + (if k.s = true then 1 else 0))] = some (.int (if v1 k.l + (if k.s = true then 1 else 0) > v1 k.r then v1 k.l + (if k.s = true then 1 else 0) else v1 k.r)) := rfl
          have hp := put_dvs m2 v1 (if v1 k.l + (if k.s = true then 1 else 0) > v1 k.r then v1 k.l + (if k.s = true then 1 else 0) else v1 k.r)
          have hdl : (dvs (nmL L) v1).length ≤ 1000000 := by unfold dvs; rw [List.length_map]; omega
          unfold bd_possible_1
          generalize hD : dvs (nmL L) v1 = DD at *
          (repeat (first | (with_reducible refine Gi.of g1 ?_) | (with_reducible refine Gi.of g2 ?_) | (with_reducible refine Gi.of hi ?_) | (with_reducible refine Gi.of hmx ?_) | (with_reducible refine getsDk rfl hdl ?_) | (with_reducible refine put_to hp ?_) | (walk_at "dk") | walk_at "go1"))
          exact ⟨_, _, _, _, rfl⟩
        · obtain ⟨o6, o7, o8, o9, rfl⟩ := h
          rw [List.take_length]
          exact ⟨_, _, _, _, _, _, _, rfl⟩
      · obtain ⟨o3, o4, o5, o6, o7, o8, o9, rfl⟩ := h
        have hrl : (rangeD 0 (nmL L).length).length = (nmL L).length := by unfold rangeD; simp
        rw [hrl]
        (repeat walk_at "go1")
        exact ⟨_, _, rfl, _, rfl, .inr ⟨rfl, hnr⟩⟩
    · have en : semIsNot (pthD (k :: p)) .non = some (.bl true) := rfl
      (repeat (first | (with_reducible refine Gi.of er ?_) | (with_reducible refine Gi.of en ?_) | walk_at "go1"))
      exact ⟨_, _, rfl, _, rfl, .inl ⟨rfl, k, h1, h2, s, p, h3⟩⟩
  obtain ⟨o, e, d, rfl, q⟩ := key
  exact ⟨d, e, q⟩
end T

namespace T
open PySem L2 DL
/-! ### apart, follows -/
def othr (r : Str) : List Str := if r = "eq" then ["lt", "gt"] else if r = "lt" then ["eq", "gt"] else ["eq", "lt"]
def withR (rs : List Row) (r : Str) (a : At) : List Row := rs ++ ([(("not" : Str), [(r, a.2.1, a.2.2)])] : List Row)
def ApD (rs : List Row) (a : At) (d : D) : Prop := (d = .non ∧ ∀ r ∈ othr a.1, Ring (links (withR rs r a))) ∨ ∃ r ∈ othr a.1, d = .dic (dvs (nmL (links (withR rs r a))) (rlN (links (withR rs r a)) (nmL (links (withR rs r a))).length)) ∧ ¬ Ring (links (withR rs r a))
theorem othr_tab {r : Str} (h : isRel r) : c_OTHERS.lookup r = some (.tup ((othr r).map D.str)) := by
  rcases h with rfl | rfl | rfl
  · rfl
  · have c1 : (("lt" : Str) == "eq") = false := by decide +kernel
    have c2 : (("lt" : Str) == "lt") = true := by decide +kernel
    unfold c_OTHERS othr
    rw [List.lookup_cons, c1, List.lookup_cons, c2, if_neg (by decide +kernel), if_pos rfl]
    rfl
  · have c1 : (("gt" : Str) == "eq") = false := by decide +kernel
    have c2 : (("gt" : Str) == "lt") = false := by decide +kernel
    have c3 : (("gt" : Str) == "gt") = true := by decide +kernel
    unfold c_OTHERS othr
    rw [List.lookup_cons, c1, List.lookup_cons, c2, List.lookup_cons, c3, if_neg (by decide +kernel), if_neg (by decide +kernel)]
    rfl
theorem othr_rel {r : Str} : ∀ x ∈ othr r, isRel x := fun x hx => by
  unfold othr at hx
  unfold isRel
  split at hx
  · simp only [List.mem_cons, List.not_mem_nil, or_false] at hx
    rcases hx with rfl | rfl <;> simp
  · split at hx
    · simp only [List.mem_cons, List.not_mem_nil, or_false] at hx
      rcases hx with rfl | rfl <;> simp
    · simp only [List.mem_cons, List.not_mem_nil, or_false] at hx
      rcases hx with rfl | rfl <;> simp
theorem hold_othr {r : Str} (h : isRel r) (x y : Int) : hold r x y = false ↔ ∃ q ∈ othr r, hold q x y = true := by
  rcases h with rfl | rfl | rfl
  · simp [hold, othr, r_eq_lt, r_eq_gt, r_lt_gt, r_lt_eq, r_gt_eq, r_gt_lt, r_eq_0, r_lt_0, r_gt_0, r_0_eq, r_0_lt, r_0_gt]
    omega
  · simp [hold, othr, r_eq_lt, r_eq_gt, r_lt_gt, r_lt_eq, r_gt_eq, r_gt_lt, r_eq_0, r_lt_0, r_gt_0, r_0_eq, r_0_lt, r_0_gt]
    omega
  · simp [hold, othr, r_eq_lt, r_eq_gt, r_lt_gt, r_lt_eq, r_gt_eq, r_gt_lt, r_eq_0, r_lt_0, r_gt_0, r_0_eq, r_0_lt, r_0_gt]
    omega
theorem withR_in {xs : List Str} {rs : List Row} (hr : ∀ r ∈ rs, FtIn xs r.2) {a : At} (ha : AtIn xs a) {q : Str} (hq : isRel q) : ∀ r ∈ withR rs q a, FtIn xs r.2 := fun r h => by
  rcases List.mem_append.mp h with h | h
  · exact hr r h
  · rw [List.mem_singleton.mp h]
    exact ⟨fun x hx => by rw [List.mem_singleton.mp hx]; exact ⟨hq, ha.l, ha.r⟩, .inl rfl⟩
theorem allH_withR (val : Str → Int) (rs : List Row) (q : Str) (a : At) : allH val (withR rs q a) = (allH val rs && hold q (val a.2.1) (val a.2.2)) := by
  unfold allH withR
  rw [List.all_append]
  simp [hA]
theorem w_tab {t : List (Str × D)} {p : Opd} {r : En} {E : Exn → En → Prop} {Q : D → En → Prop} (h : wE p.run r (fun a r1 => Gi (look r1 a) fun x => ∃ y, x = .str y ∧ Gi (t.lookup y) fun v => Q v r1) E) : wE (tabD t p) r Q E :=
  w_op1 (wE_mono h (fun a r1 ⟨x, e, y, ex, v, ev, q⟩ => ⟨x, e, v, by subst ex; exact ev, q⟩) fun _ _ z => z)
set_option maxHeartbeats 4000000 in
theorem apart_eq {xs : List Str} (hx : ∀ x ∈ xs, NameOk x) (hxl : xs.length ≤ 15) {rs : List Row} (hr : ∀ r ∈ rs, FtIn xs r.2) (hl : rs.length ≤ 190) {a : At} (ha : AtIn xs a) : ∃ d, f_apart [rwsD rs, atD a] = some (.sh d) ∧ ApD rs a d := by
  have key : ∃ o, f_apart [rwsD rs, atD a] = some o ∧ ∃ d, o = .sh d ∧ ApD rs a d := by
    unfold f_apart fnP
    suffices h : wS m_apart (startE 4 ([rwsD rs, atD a].map OV.sh)) (fun y => ∃ o r, y = .rt o r ∧ ∃ d, o = .sh d ∧ ApD rs a d) by
      obtain ⟨o, r, e, q⟩ := h
      rw [e]
      exact ⟨o, rfl, q⟩
    generalize hr0 : startE 4 ([rwsD rs, atD a].map OV.sh) = r0
    simp only [DL.startE, List.map_cons, List.map_nil, List.length_cons, List.length_nil, Nat.zero_add, Nat.reduceAdd, Nat.reduceSub, List.replicate, List.cons_append, List.nil_append] at hr0
    subst hr0
    unfold m_apart
    have e0 : semAt (atD a) (.int 0) = some (.str a.1) := rfl
    have et := othr_tab ha.rel
    (repeat (first | (with_reducible refine w_tab ?_) | (with_reducible refine Gi.of e0 ?_) | walk_at "go1"))
    refine ⟨_, rfl, Gi.of et ?_⟩
    refine Gi.of (z := (othr a.1).map D.str) rfl ?_
    have hpo : ∀ q ∈ othr a.1, ∃ d, f_possible [rwsD (withR rs q a)] = some (.sh d) ∧ PossD (links (withR rs q a)) d := fun q hq =>
      possible_eq hx hxl (withR_in hr ha (othr_rel q hq)) (by unfold withR; rw [List.length_append]; simp; omega)
    have hadd : ∀ q : Str, semAdd (rwsD rs) (.lst [.tup [.str "not", .tup [.tup [.str q, .str a.2.1, .str a.2.2]]]]) = some (rwsD (withR rs q a)) := fun q => by
      unfold rwsD
      rw [semAdd_l (by rw [List.length_map]; simp; omega)]
      unfold withR
      rw [List.map_append]
      rfl
    have hsl : semSl (atD a) (some 1) none = some (.tup [.str a.2.1, .str a.2.2]) := rfl
    generalize hA0 : atD a = A at *
    generalize hR0 : rwsD rs = R at *
    refine wS_forL (othr a.1) D.str rfl (fun n r => ∃ o2 o3, r = [some (.sh R), some (.sh A), o2, o3] ∧ ∀ q ∈ (othr a.1).take n, Ring (links (withR rs q a))) ?_ (fun r h => ?_) ⟨_, _, rfl, fun q hq => (by cases hq)⟩
    · rintro n q hq r ⟨o2, o3, rfl, hn⟩
      have hqm := List.mem_of_getElem? hq
      rw [take_snoc hq]
      obtain ⟨d, e1, hd⟩ := hpo q hqm
      have ha1 : semAdd R (OV.ow [.tup [.str "not", .tup [.tup [.str q, .str a.2.1, .str a.2.2]]]]).d = some (rwsD (withR rs q a)) := hadd q
      have hsq : D.sq (.tup [.str a.2.1, .str a.2.2]) = some [.str a.2.1, .str a.2.2] := rfl
      refine Gi.of (z := [some (.sh R), some (.sh A), some (.sh (.str q)), o3]) rfl ?_
      rintro r2 rfl
      unfold bd_apart_1
      rcases hd with ⟨rfl, hd⟩ | ⟨rfl, hd⟩
      · (repeat (first | (with_reducible refine Gi.of hsl ?_) | (with_reducible refine Gi.of ha1 ?_) | (with_reducible refine Gi.of e1 ?_) | walk_at "go1"))
        refine ⟨_, _, rfl, fun q' hq' => ?_⟩
        rcases List.mem_append.mp hq' with z | z
        · exact hn q' z
        · rw [List.mem_singleton.mp z]; exact hd
      · (repeat (first | (with_reducible refine Gi.of hsl ?_) | (with_reducible refine Gi.of ha1 ?_) | (with_reducible refine Gi.of e1 ?_) | walk_at "go1"))
        exact ⟨_, _, rfl, _, rfl, .inr ⟨q, hqm, rfl, hd⟩⟩
    · obtain ⟨o2, o3, rfl, hn⟩ := h
      rw [List.take_length] at hn
      (repeat walk_at "go1")
      exact ⟨_, _, rfl, _, rfl, .inl ⟨rfl, hn⟩⟩
  obtain ⟨o, e, d, rfl, q⟩ := key
  exact ⟨d, e, q⟩
/-- small integers -/
def SmV (xs : List Str) (val : Str → Int) : Prop := ∀ x ∈ xs, 0 ≤ val x ∧ val x < xs.length
theorem ring_iff {xs : List Str} {rs : List Row} (hr : ∀ r ∈ rs, FtIn xs r.2) : Ring (links rs) ↔ ∀ val, SmV xs val → allH val rs = false := by
  constructor
  · intro h val _
    cases e : allH val rs with
    | false => rfl
    | true => exact (ring_val h ((links_ok hr val).mp e)).elim
  · intro h
    refine Classical.byContradiction fun hn => ?_
    have h1 := rank_ok hn (xs := xs) fun k hk => (links_in hr k hk).1
    have h2 := (links_ok hr _).mpr h1
    rw [h _ fun x hx => ⟨Int.natCast_nonneg _, by have := rank_lt hn hx; omega⟩] at h2
    cases h2
def FollB (xs : List Str) (rs : List Row) (a : At) : Prop := ∀ val, SmV xs val → allH val rs = true → hA val a = true
theorem apD_iff {xs : List Str} {rs : List Row} (hr : ∀ r ∈ rs, FtIn xs r.2) {a : At} (ha : AtIn xs a) {d : D} (h : ApD rs a d) : (d = .non ∧ FollB xs rs a) ∨ ((∃ kvs, d = .dic kvs) ∧ ¬ FollB xs rs a) := by
  rcases h with ⟨rfl, h⟩ | ⟨q, hq, rfl, h⟩
  · refine .inl ⟨rfl, fun val hv h1 => ?_⟩
    cases e : hA val a with
    | true => rfl
    | false =>
      obtain ⟨q, hq, hh⟩ := (hold_othr ha.rel _ _).mp e
      have := (ring_iff (withR_in hr ha (othr_rel q hq))).mp (h q hq) val hv
      rw [allH_withR, h1, hh] at this
      cases this
  · refine .inr ⟨⟨_, rfl⟩, fun hf => h ((ring_iff (withR_in hr ha (othr_rel q hq))).mpr fun val hv => ?_)⟩
    rw [allH_withR]
    cases h1 : allH val rs with
    | false => rfl
    | true =>
      cases h2 : hold q (val a.2.1) (val a.2.2) with
      | false => rfl
      | true =>
        have h3 := hf val hv h1
        have h4 := (hold_othr ha.rel (val a.2.1) (val a.2.2)).mpr ⟨q, hq, h2⟩
        have h3 : hold a.1 (val a.2.1) (val a.2.2) = true := h3
        rw [h4] at h3
        cases h3
open Classical in
theorem follows_eq {xs : List Str} (hx : ∀ x ∈ xs, NameOk x) (hxl : xs.length ≤ 15) {rs : List Row} (hr : ∀ r ∈ rs, FtIn xs r.2) (hl : rs.length ≤ 190) {a : At} (ha : AtIn xs a) : f_follows [rwsD rs, atD a] = some (.sh (.bl (decide (FollB xs rs a)))) := by
  obtain ⟨d, e, h⟩ := apart_eq hx hxl hr hl ha
  have hi : semIs d .non = some (.bl (decide (FollB xs rs a))) := by
    rcases apD_iff hr ha h with ⟨rfl, h2⟩ | ⟨⟨kvs, rfl⟩, h2⟩
    · rw [decide_eq_true h2]; rfl
    · rw [decide_eq_false h2]; rfl
  unfold f_follows
  refine fnP_w ?_
  unfold m_follows
  (repeat (first | (with_reducible refine Gi.of e ?_) | (with_reducible refine Gi.of hi ?_) | walk_at "go1"))
  rfl
end T

namespace T
open PySem L2 DL
/-! ### all choices of small integers -/
def ch1 (n : Nat) (x : Str) (v : Str → Int) : List (Str → Int) := (List.range n).map fun (i : Nat) => updV v x (i : Int)
def chN (n : Nat) (xs : List Str) : List (Str → Int) := xs.foldl (fun fs x => fs.flatMap (ch1 n x)) [fun _ => 0]
theorem chN_snoc (n : Nat) (xs : List Str) (x : Str) : chN n (xs ++ [x]) = (chN n xs).flatMap (ch1 n x) := by
  unfold chN
  rw [List.foldl_append]; rfl
theorem flat_len {α β : Type} {f : α → List β} {n : Nat} (h : ∀ a, (f a).length = n) : ∀ (as : List α), (as.flatMap f).length = as.length * n
  | [] => by simp
  | a :: as => by
    rw [List.flatMap_cons, List.length_append, h a, flat_len h as, List.length_cons, Nat.add_mul, Nat.one_mul, Nat.add_comm]
theorem ch1_len (n : Nat) (x : Str) (v : Str → Int) : (ch1 n x v).length = n := by unfold ch1; rw [List.length_map, List.length_range]
theorem chF_len (n : Nat) : ∀ (xs : List Str) (fs : List (Str → Int)), (xs.foldl (fun fs x => fs.flatMap (ch1 n x)) fs).length = fs.length * n ^ xs.length
  | [], fs => by simp
  | x :: xs, fs => by
    rw [List.foldl_cons, chF_len n xs, flat_len (ch1_len n x), List.length_cons, Nat.pow_succ, Nat.mul_assoc, Nat.mul_comm n]
theorem chN_len (n : Nat) (xs : List Str) : (chN n xs).length = n ^ xs.length := by
  unfold chN
  rw [chF_len]
  simp
theorem chF_val {n : Nat} {y : Str} : ∀ (xs : List Str) (fs : List (Str → Int)), (y ∈ xs ∨ ∀ v ∈ fs, 0 ≤ v y ∧ v y < n) → ∀ v ∈ xs.foldl (fun fs x => fs.flatMap (ch1 n x)) fs, 0 ≤ v y ∧ v y < n
  | [], fs, h, v, hv => by
    rcases h with h | h
    · cases h
    · exact h v hv
  | x :: xs, fs, h, v, hv => by
    rw [List.foldl_cons] at hv
    refine chF_val xs _ ?_ v hv
    by_cases hy : y ∈ xs
    · exact .inl hy
    · refine .inr fun w hw => ?_
      obtain ⟨u, hu, hw⟩ := List.mem_flatMap.mp hw
      obtain ⟨i, hi, rfl⟩ := List.mem_map.mp hw
      have hi := List.mem_range.mp hi
      unfold updV
      split
      · omega
      · rename_i hne
        rcases h with h | h
        · rcases List.mem_cons.mp h with z | z
          · exact absurd z hne
          · exact absurd z hy
        · exact h u hu
theorem chF_has {n : Nat} (val : Str → Int) : ∀ (xs : List Str) (fs : List (Str → Int)) (D : List Str), (∀ x ∈ xs, 0 ≤ val x ∧ val x < n) → (∃ v ∈ fs, ∀ y ∈ D, v y = val y) → ∃ v ∈ xs.foldl (fun fs x => fs.flatMap (ch1 n x)) fs, ∀ y ∈ D ++ xs, v y = val y
  | [], fs, D, _, h => by rw [List.append_nil]; exact h
  | x :: xs, fs, D, hv, ⟨v, hm, he⟩ => by
    have h1 := hv x List.mem_cons_self
    have := chF_has val xs (fs.flatMap (ch1 n x)) (D ++ [x]) (fun y hy => hv y (List.mem_cons_of_mem _ hy)) ⟨updV v x (val x), List.mem_flatMap.mpr ⟨v, hm, List.mem_map.mpr ⟨(val x).toNat, List.mem_range.mpr (by omega), by
      show updV v x ((val x).toNat : Int) = _
      rw [show ((val x).toNat : Int) = val x by omega]⟩⟩, fun y hy => by
      unfold updV
      split
      · rename_i e; rw [e]
      · rename_i hne
        rcases List.mem_append.mp hy with z | z
        · exact he y z
        · exact absurd (List.mem_singleton.mp z) hne⟩
    rw [List.append_assoc] at this
    exact this
theorem chN_val {xs : List Str} {v : Str → Int} (h : v ∈ chN xs.length xs) : SmV xs v := fun y hy => chF_val xs _ (.inl hy) v h
theorem chN_has {xs : List Str} {val : Str → Int} (h : SmV xs val) : ∃ v ∈ chN xs.length xs, ∀ y ∈ xs, v y = val y := by
  have := chF_has (n := xs.length) val xs [fun _ => 0] [] h ⟨_, List.mem_singleton.mpr rfl, fun y hy => by cases hy⟩
  rw [List.nil_append] at this
  exact this
theorem allH_congr {xs : List Str} {v w : Str → Int} (h : ∀ y ∈ xs, v y = w y) {rs : List Row} (hr : ∀ r ∈ rs, FtIn xs r.2) : allH v rs = allH w rs := by
  have h1 : ∀ r ∈ rs, r.2.all (hA v) = r.2.all (hA w) := fun r hm => by
    have hf := (hr r hm).all
    have : ∀ l : List At, (∀ x ∈ l, AtIn xs x) → l.all (hA v) = l.all (hA w) := by
      intro l
      induction l with
      | nil => intro _; rfl
      | cons a l ih =>
        intro hl
        have ha := hl a List.mem_cons_self
        rw [List.all_cons, List.all_cons, ih fun x hx => hl x (List.mem_cons_of_mem _ hx)]
        unfold hA
        rw [h _ ha.l, h _ ha.r]
    exact this _ hf
  unfold allH
  induction rs with
  | nil => rfl
  | cons r rs ih =>
    rw [List.all_cons, List.all_cons, h1 r List.mem_cons_self, ih (fun r hm => hr r (List.mem_cons_of_mem _ hm)) fun r hm => h1 r (List.mem_cons_of_mem _ hm)]
theorem hA_congr {xs : List Str} {v w : Str → Int} (h : ∀ y ∈ xs, v y = w y) {a : At} (ha : AtIn xs a) : hA v a = hA w a := by
  unfold hA
  rw [h _ ha.l, h _ ha.r]
theorem val_dv (xs : List Str) (v : Str → Int) : ValOk xs (dvs xs v) v := ⟨fun x hx => at_dvs hx v⟩
/-- follows by the choices -/
theorem foll_iff {xs : List Str} {rs : List Row} (hr : ∀ r ∈ rs, FtIn xs r.2) {a : At} (ha : AtIn xs a) : FollB xs rs a ↔ ((chN xs.length xs).filter fun v => allH v rs).all (fun v => hA v a) = true := by
  rw [List.all_eq_true]
  constructor
  · intro h v hv
    obtain ⟨h1, h2⟩ := List.mem_filter.mp hv
    exact h v (chN_val h1) h2
  · intro h val hv h2
    obtain ⟨v, hm, he⟩ := chN_has hv
    rw [← hA_congr he ha]
    exact h v (List.mem_filter.mpr ⟨hm, by rw [allH_congr he hr]; exact h2⟩)
theorem poss_iff {xs : List Str} {rs : List Row} (hr : ∀ r ∈ rs, FtIn xs r.2) : Ring (links rs) ↔ ((chN xs.length xs).filter fun v => allH v rs).isEmpty = true := by
  rw [ring_iff hr, List.isEmpty_iff, List.filter_eq_nil_iff]
  constructor
  · intro h v hv
    rw [h v (chN_val hv)]
    exact Bool.false_ne_true
  · intro h val hv
    obtain ⟨v, hm, he⟩ := chN_has hv
    rw [← allH_congr he hr]
    exact Bool.eq_false_iff.mpr (h v hm)
theorem put_new {a : List Str} {x : Str} (h : x ∉ a) (v : Str → Int) (i : Int) : putD (dvs a v) (.inr x) (.int i) = dvs (a ++ [x]) (updV v x i) := by
  unfold putD
  rw [dvs_has, decide_eq_false h, if_neg Bool.false_ne_true]
  unfold dvs
  rw [List.map_append]
  congr 1
  · refine List.map_congr_left fun y hy => ?_
    have : y ≠ x := fun e => h (e ▸ hy)
    rw [show updV v x i y = v y from if_neg this]
  · show [((Sum.inr x : Key), D.int i)] = [((Sum.inr x : Key), D.int (updV v x i x))]
    rw [show updV v x i x = i from if_pos rfl]
def dvD (a : List Str) (v : Str → Int) : D := .dic (dvs a v)
set_option maxHeartbeats 4000000 in
theorem ch_in1 {a : List Str} {x : Str} (hx : x ∉ a) (hal : a.length ≤ 10) (v : Str → Int) (n : Nat) (hn : n ≤ 10) {X : D} (hln : semLen [X] = some (.int (n : Nat))) (o1 : Option OV) (base : List D) (hb : base.length ≤ 900000) (o5 o6 : Option OV) {Q : SRs → Prop} (q : ∀ o5 o6, Q (.nx [some (.sh X), o1, some (.sh (.str x)), some (.ow (base ++ (ch1 n x v).map (dvD (a ++ [x])))), some (.sh (dvD a v)), o5, o6])) :
    wS bd__law_choices_2 [some (.sh X), o1, some (.sh (.str x)), some (.ow base), some (.sh (dvD a v)), o5, o6] Q := by
  unfold bd__law_choices_2
  (repeat (first | (with_reducible refine Gi.of hln ?_) | walk_at "go1"))
  refine ⟨(n : Int), rfl, by omega, ?_⟩
  refine wS_for _ (fun i r => ∃ o5 o6, r = [some (.sh X), o1, some (.sh (.str x)), some (.ow (base ++ ((List.range i).map fun (i : Nat) => updV v x (i : Int)).map (dvD (a ++ [x])))), some (.sh (dvD a v)), o5, o6]) ?_ (fun r h => ?_) ⟨_, _, by rw [show List.range 0 = [] from rfl, List.map_nil, List.map_nil, List.append_nil]⟩
  · rintro i d hd r ⟨o5, o6, rfl⟩
    have hi : i < n ∧ d = .int (i : Int) := by
      unfold rangeD at hd
      rw [List.getElem?_map] at hd
      obtain ⟨k, hk, rfl⟩ := Option.map_eq_some_iff.mp hd
      obtain ⟨h1, h2⟩ := List.getElem?_eq_some_iff.mp hk
      rw [List.length_range] at h1
      rw [List.getElem_range] at h2
      subst h2
      refine ⟨by omega, ?_⟩
      rw [Int.zero_add]
    obtain ⟨hi, rfl⟩ := hi
    have hsn : base ++ ((List.range (i + 1)).map fun (i : Nat) => updV v x (i : Int)).map (dvD (a ++ [x])) = (base ++ ((List.range i).map fun (i : Nat) => updV v x (i : Int)).map (dvD (a ++ [x]))) ++ [dvD (a ++ [x]) (updV v x (i : Int))] := by
      rw [List.range_succ, List.map_append, List.map_append, ← List.append_assoc]; rfl
    rw [hsn]
    have hbl : (base ++ ((List.range i).map fun (i : Nat) => updV v x (i : Int)).map (dvD (a ++ [x]))).length ≤ 1000000 := by
      rw [List.length_append, List.length_map, List.length_map, List.length_range]; omega
    generalize base ++ ((List.range i).map fun (i : Nat) => updV v x (i : Int)).map (dvD (a ++ [x])) = B at *
    have hp := put_new hx v (i : Int)
    have hdl : (dvs a v).length ≤ 1000000 := by unfold dvs; rw [List.length_map]; omega
    refine Gi.of (z := [some (.sh X), o1, some (.sh (.str x)), some (.ow B), some (.sh (dvD a v)), some (.sh (.int (i : Int))), o6]) rfl ?_
    rintro r2 rfl
    unfold bd__law_choices_1
    (repeat walk_at "go1")
    refine ⟨dvs a v, rfl, ?_⟩
    generalize dvs a v = DD at *
    (repeat (first | (with_reducible refine getsDk rfl hdl ?_) | (with_reducible refine put_to hp ?_) | (with_reducible refine And.intro hbl ?_) | (walk_at "dk") | walk_at "go1"))
    exact ⟨_, _, rfl⟩
  · obtain ⟨o5, o6, rfl⟩ := h
    have hrl : (rangeD 0 (n : Int).toNat).length = n := by unfold rangeD; simp
    rw [hrl]
    exact q _ _
set_option maxHeartbeats 4000000 in
theorem ch_in2 {a : List Str} {x : Str} (hx : x ∉ a) (hal : a.length ≤ 10) (fs : List (Str → Int)) (hf : fs.length ≤ 4000) (n : Nat) (hn : n ≤ 10) {X : D} (hln : semLen [X] = some (.int (n : Nat))) (o1 o4 o5 o6 : Option OV) {Q : SRs → Prop} (q : ∀ o4 o5 o6, Q (.nx [some (.sh X), o1, some (.sh (.str x)), some (.ow ((fs.flatMap (ch1 n x)).map (dvD (a ++ [x])))), o4, o5, o6])) :
    wS (forS (gN 4) bd__law_choices_2 (fs.map (dvD a))) [some (.sh X), o1, some (.sh (.str x)), some (.ow []), o4, o5, o6] Q := by
  refine wS_forL fs (dvD a) rfl (fun m r => ∃ o4 o5 o6, r = [some (.sh X), o1, some (.sh (.str x)), some (.ow (((fs.take m).flatMap (ch1 n x)).map (dvD (a ++ [x])))), o4, o5, o6]) ?_ (fun r h => ?_) ⟨_, _, _, rfl⟩
  · rintro m v hv r ⟨o4, o5, o6, rfl⟩
    refine Gi.of (z := [some (.sh X), o1, some (.sh (.str x)), some (.ow (((fs.take m).flatMap (ch1 n x)).map (dvD (a ++ [x])))), some (.sh (dvD a v)), o5, o6]) rfl ?_
    rintro r2 rfl
    have hbl : (((fs.take m).flatMap (ch1 n x)).map (dvD (a ++ [x]))).length ≤ 900000 := by
      rw [List.length_map, flat_len (ch1_len n x), take_lenN hv]
      have := (List.getElem?_eq_some_iff.mp hv).1
      have h1 : m * n ≤ 4000 * 10 := Nat.mul_le_mul (by omega) hn
      omega
    refine ch_in1 hx hal v n hn hln o1 _ hbl o5 o6 fun o5 o6 => ?_
    exact ⟨some (.sh (dvD a v)), o5, o6, by rw [take_snoc hv, List.flatMap_append, List.map_append, List.flatMap_singleton]⟩
  · obtain ⟨o4, o5, o6, rfl⟩ := h
    rw [List.take_length]
    exact q _ _ _
set_option maxHeartbeats 4000000 in
theorem choices_eq {xs : List Str} (nd : xs.Nodup) (h0 : xs ≠ []) (hl : xs.length ≤ 5) : f__law_choices [.lst (xs.map D.str)] = some (.sh (.lst ((chN xs.length xs).map (dvD xs)))) := by
  have hln : semLen [.lst (xs.map D.str)] = some (.int (xs.length : Nat)) := by
    show some (D.int ((xs.map D.str).length : Nat)) = _
    rw [List.length_map]
  generalize hX : D.lst (xs.map D.str) = X at hln
  generalize hn : xs.length = n at *
  unfold f__law_choices
  refine fnP_w ?_
  unfold m__law_choices
  (repeat walk_at "go1")
  have hit : D.items X = some (xs.map D.str) := by rw [← hX]; rfl
  refine Gi.of hit ?_
  refine wS_forL xs D.str rfl (fun j r => ∃ o2 o3 o4 o5 o6 o1, r = [some (.sh X), o1, o2, o3, o4, o5, o6] ∧ (o1 = some (.sh (.lst ((chN n (xs.take j)).map (dvD (xs.take j))))) ∨ (j = 0 ∧ o1 = some (.ow [.dic []])))) ?_ (fun r h => ?_) ⟨_, _, _, _, _, _, rfl, .inr ⟨rfl, rfl⟩⟩
  · rintro j x hx r ⟨o2, o3, o4, o5, o6, o1, rfl, ho⟩
    have hjl := (List.getElem?_eq_some_iff.mp hx).1
    refine Gi.of (z := [some (.sh X), o1, some (.sh (.str x)), o3, o4, o5, o6]) rfl ?_
    rintro r2 rfl
    rw [take_snoc hx, chN_snoc]
    have hxn : x ∉ xs.take j := fun hm => by
      obtain ⟨i, hi, e⟩ := List.mem_iff_getElem.mp hm
      obtain ⟨h2, h3⟩ := List.getElem?_eq_some_iff.mp hx
      rw [List.getElem_take] at e
      have hij : i < j := by rw [List.length_take] at hi; omega
      have := (List.pairwise_iff_getElem.mp nd) i j (by omega) h2 hij
      exact this (e.trans h3.symm)
    have hlen : (chN n (xs.take j)).length ≤ 4000 := by
      rw [chN_len, take_lenN hx]
      exact Nat.le_trans (Nat.pow_le_pow_left hl j) (Nat.le_trans (Nat.pow_le_pow_right (by decide) (show j ≤ 5 by omega)) (by decide))
    have hal : (xs.take j).length ≤ 10 := by rw [take_lenN hx]; omega
    unfold bd__law_choices_3
    rcases ho with rfl | ⟨rfl, rfl⟩
    · generalize xs.take j = a at *
      generalize chN n a = fs at *
      have hi2 : D.items (.lst (fs.map (dvD a))) = some (fs.map (dvD a)) := rfl
      generalize D.lst (fs.map (dvD a)) = W at *
      (repeat (first | (with_reducible refine Gi.of hi2 ?_) | walk_at "go1"))
      refine ch_in2 hxn hal fs hlen n (by omega) hln _ _ _ _ fun o4 o5 o6 => ?_
      (repeat walk_at "go1")
      exact ⟨_, _, _, _, _, _, rfl, .inl rfl⟩
    · (repeat walk_at "go1")
      refine ch_in2 (a := []) (by simp) (by simp) [fun _ => 0] (by simp) n (by omega) hln _ _ _ _ fun o4 o5 o6 => ?_
      (repeat walk_at "go1")
      exact ⟨_, _, _, _, _, _, rfl, .inl rfl⟩
  · obtain ⟨o2, o3, o4, o5, o6, o1, rfl, ho⟩ := h
    rw [hn] at ho
    rcases ho with rfl | ⟨h, _⟩
    · rw [← hn, List.take_length]
      (repeat walk_at "go1")
      rfl
    · exact absurd (List.length_eq_zero_iff.mp (hn.trans h)) h0
end T

namespace T
open PySem L2 DL
def env43 (ns : List Int) (b : List D) (o2 o3 : Option OV) (ys : List Str) (o6 o7 o8 o9 o10 o11 o12 : Option OV) : En := [some (.sh (.scr ns)), some (.ow b), o2, o3, some (.sh (.lst (ys.map D.str))), some (.sh (.lst ((chN ys.length ys).map (dvD ys)))), o6, o7, o8, o9, o10, o11, o12]
theorem cut9 (ds : List D) : semSl (.lst ds) none (some 9) = some (.lst (ds.take 9)) := by
  show some (D.lst (cutL ds none (some ((9 : Nat) : Int)))) = _
  unfold cutL
  rw [HT.sIx_none, show HT.sIx ds.length ds.length (some ((9 : Nat) : Int)) = min 9 ds.length from HT.sIx_nat _ _ 9]
  show some (D.lst (ds.take (min 9 ds.length))) = _
  rw [← List.take_eq_take_min]
open Classical in
set_option maxHeartbeats 8000000 in
theorem k43_atom {ns : List Int} {b : List D} (hb : BagOk b) {ys : List Str} (hx : ∀ x ∈ ys, NameOk x) (h0 : ys ≠ []) (hyl : ys.length ≤ 5) {rs : List Row} (hr : ∀ r ∈ rs, FtIn ys r.2) (hl : rs.length ≤ 20) (o2 o3 o6 o9 o10 o11 o12 : Option OV) :
    wS bd_law_1 (env43 ns b o2 o3 ys o6 (some (.sh (rwsD rs))) (some (.sh (.lst (((chN ys.length ys).filter fun v => allH v rs).map (dvD ys))))) o9 o10 o11 o12)
      (fun y => ∃ b o9 o10 o11 o12, y = .nx (env43 ns b o2 o3 ys o6 (some (.sh (rwsD rs))) (some (.sh (.lst (((chN ys.length ys).filter fun v => allH v rs).map (dvD ys))))) o9 o10 o11 o12) ∧ BagOk b) := by
  obtain ⟨a, b1, e1, ha, hb1⟩ := atom_ok hb ys h0 (by omega)
  have hf := follows_eq hx (by omega) hr (by omega) ha
  have hV := fun v => val_dv ys v
  have hH : ∀ v, f_holds [atD a, dvD ys v] = some (.sh (.bl (hA v a))) := fun v => holds_eq (val_dv ys v) ha
  have hL : ∀ v, f__law_holds [atD a, dvD ys v] = some (.sh (.bl (hA v a))) := fun v => lawHolds_eq (val_dv ys v) ha
  have hfi := foll_iff hr ha
  have hgl : ((chN ys.length ys).filter fun v => allH v rs).length ≤ 4000 := by
    refine Nat.le_trans (List.length_filter_le _ _) ?_
    rw [chN_len]
    exact Nat.le_trans (Nat.pow_le_pow_left hyl _) (Nat.le_trans (Nat.pow_le_pow_right (by decide) hyl) (by decide))
  unfold env43
  generalize (chN ys.length ys).filter (fun v => allH v rs) = G at *
  generalize D.lst ((chN ys.length ys).map (dvD ys)) = EV at *
  generalize rwsD rs = R at *
  generalize atD a = A at *
  have n1 := semEq_nil ((G.filter fun v => !hA v a).map (dvD ys))
  have hp : ((G.filter fun v => !hA v a).map (dvD ys)).isEmpty = G.all fun v => hA v a := by
    rw [List.isEmpty_map, none_not]
  rw [hp] at n1
  have hff : decide (FollB ys rs a) = G.all fun v => hA v a := by
    cases e : G.all fun v => hA v a with
    | true => exact decide_eq_true (hfi.mpr e)
    | false => exact decide_eq_false fun h => by rw [hfi.mp h] at e; cases e
  rw [hff] at hf
  have al := alike_sm (d := .bl (G.all fun v => hA v a)) (Sm.bl _)
  unfold bd_law_1
  (repeat (first | (with_reducible refine Gb.of e1 ?_) | walk_at "go1"))
  refine w_lc G (dvD ys) (fun v => !hA v a) (dvD ys) ?_
  (repeat walk_at "go1")
  refine ⟨rfl, by omega, ?_⟩
  (repeat walk_at "go1")
  refine ⟨fun v hv => ?_, ?_⟩
  · have h1 := hL v
    generalize dvD ys v = W at *
    (repeat (first | (with_reducible refine Gi.of h1 ?_) | walk_at "go1"))
    refine ⟨rfl, rfl, fun _ => ?_⟩
    (repeat walk_at "go1")
  refine of_ow ?_
  (repeat (first | (with_reducible refine Gi.of n1 ?_) | (with_reducible refine Gi.of hf ?_) | (with_reducible refine Gi.of al ?_) | walk_at "go1"))
  have c9 := cut9 (G.map (dvD ys))
  rw [← List.map_take] at c9
  have c9 : semSl (.lst (G.map (dvD ys))) none (some 9) = some (.lst ((G.take 9).map (dvD ys))) := c9
  have i9 : D.items (.lst ((G.take 9).map (dvD ys))) = some ((G.take 9).map (dvD ys)) := rfl
  (repeat (first | (with_reducible refine w_lc (G.take 9) (dvD ys) (fun _ => false) (dvD ys) ?_) | (with_reducible refine Gi.of c9 ?_) | (with_reducible refine Gi.of i9 ?_) | walk_at "go1"))
  refine ⟨rfl, by rw [List.length_take]; omega, ?_⟩
  (repeat walk_at "go1")
  refine ⟨fun v hv => ?_, ?_⟩
  · have h1 := hL v
    have h2 := hH v
    have h3 : semNe (.bl (hA v a)) (.bl (hA v a)) = some (.bl false) := by rw [semNe_bl]; simp
    generalize dvD ys v = W at *
    (repeat (first | (with_reducible refine Gi.of h1 ?_) | (with_reducible refine Gi.of h2 ?_) | (with_reducible refine Gi.of h3 ?_) | walk_at "go1"))
    exact ⟨rfl, rfl, fun h => by cases h⟩
  have en : ((G.take 9).filter fun _ => false) = [] := List.filter_eq_nil_iff.mpr fun _ _ => Bool.false_ne_true
  rw [en, List.map_nil]
  have n3 : semNe (.lst []) (.lst []) = some (.bl false) := semNe_nil []
  (repeat (first | (with_reducible refine of_ow ?_) | (with_reducible refine Gi.of n3 ?_) | walk_at "go1"))
  exact ⟨_, _, _, _, _, rfl, hb1⟩
open Classical in
set_option maxHeartbeats 8000000 in
theorem k43_rows {ns : List Int} {b : List D} (hb : BagOk b) {xs ys : List Str} (w : WorldOk xs ys) (o2 o6 o7 o8 o9 o10 o11 o12 : Option OV) :
    wS bd_law_2 (env43 ns b o2 (some (.sh (wdD xs ys))) ys o6 o7 o8 o9 o10 o11 o12)
      (fun y => ∃ b o7 o8 o9 o10 o11 o12, y = .nx (env43 ns b o2 (some (.sh (wdD xs ys))) ys o6 o7 o8 o9 o10 o11 o12) ∧ BagOk b) := by
  obtain ⟨rs, b1, e1, hl, hri, hb1⟩ := rows_ok hb w 5 (by decide)
  have hr : ∀ r ∈ rs, FtIn ys r.2 := fun r h => (hri r h).ft
  have e1 : f__law_rows b [wdD xs ys, .int 5] = some (.ow (rs.map rwD), b1) := e1
  have hyl : ys.length ≤ 5 := by have := w.y2; omega
  have h0 : ys ≠ [] := fun e => by have := w.y2; rw [e] at this; simp at this
  have key := fun (b : List D) (hb : BagOk b) o3 o6 o9 o10 o11 o12 => k43_atom (ns := ns) hb w.y h0 hyl hr (by omega) o2 o3 o6 o9 o10 o11 o12
  have hHA : ∀ v, f__law_hold_all [rwsD rs, dvD ys v] = some (.sh (.bl (allH v rs))) := fun v => lawHoldAll_eq (val_dv ys v) hri (by omega)
  have hA : ∀ v, f_all_hold [rwsD rs, dvD ys v] = some (.sh (.bl (allH v rs))) := fun v => allHold_eq (val_dv ys v) hri (by omega)
  obtain ⟨d, ep, hp⟩ := possible_eq w.y (by omega) hr (by omega)
  have hpi := poss_iff hr
  have hEl : (chN ys.length ys).length ≤ 4000 := by
    rw [chN_len]
    exact Nat.le_trans (Nat.pow_le_pow_left hyl _) (Nat.le_trans (Nat.pow_le_pow_right (by decide) hyl) (by decide))
  have hgl : ((chN ys.length ys).filter fun v => allH v rs).length ≤ 4000 := Nat.le_trans (List.length_filter_le _ _) hEl
  have hall : ∀ v ∈ (chN ys.length ys).filter fun v => allH v rs, allH v rs = true := fun v hv => (List.mem_filter.mp hv).2
  have hps : semIs d .non = some (.bl ((chN ys.length ys).filter fun v => allH v rs).isEmpty) := by
    rcases hp with ⟨rfl, h⟩ | ⟨rfl, h⟩
    · rw [hpi.mp h]; rfl
    · cases e : ((chN ys.length ys).filter fun v => allH v rs).isEmpty with
      | true => exact absurd (hpi.mpr e) h
      | false => rfl
  unfold env43 at *
  generalize hEV : chN ys.length ys = EV at *
  unfold bd_law_2
  show wS (seqS _ (seqS _ (seqS _ (seqS _ fr_law_1)))) _ _
  unfold rwsD at *
  (repeat (first | (with_reducible refine Gb.of e1 ?_) | walk_at "go1"))
  generalize hR : D.lst (rs.map rwD) = R at *
  refine w_lc EV (dvD ys) (fun v => allH v rs) (dvD ys) ?_
  (repeat walk_at "go1")
  refine ⟨rfl, by omega, ?_⟩
  (repeat walk_at "go1")
  refine ⟨fun v hv => ?_, ?_⟩
  · have h1 := hHA v
    generalize dvD ys v = W at *
    (repeat (first | (with_reducible refine Gi.of h1 ?_) | walk_at "go1"))
    refine ⟨rfl, rfl, fun _ => ?_⟩
    (repeat walk_at "go1")
  refine of_ow ?_
  generalize hG : EV.filter (fun v => allH v rs) = G at *
  have n1 := semEq_nil (G.map (dvD ys))
  rw [List.isEmpty_map] at n1
  have n2 : semNe (.bl G.isEmpty) (.bl G.isEmpty) = some (.bl false) := by rw [semNe_bl]; simp
  have c9 := cut9 (G.map (dvD ys))
  rw [← List.map_take] at c9
  have c9 : semSl (.lst (G.map (dvD ys))) none (some 9) = some (.lst ((G.take 9).map (dvD ys))) := c9
  have i9 : D.items (.lst ((G.take 9).map (dvD ys))) = some ((G.take 9).map (dvD ys)) := rfl
  (repeat (first | (with_reducible refine w_lc (G.take 9) (dvD ys) (fun _ => false) (dvD ys) ?_) | (with_reducible refine Gi.of c9 ?_) | (with_reducible refine Gi.of i9 ?_) | walk_at "go1"))
  refine ⟨rfl, by rw [List.length_take]; omega, ?_⟩
  (repeat walk_at "go1")
  refine ⟨fun v hv => ?_, ?_⟩
  · have h1 := hA v
    rw [hall v (List.mem_of_mem_take hv)] at h1
    generalize dvD ys v = W at *
    (repeat (first | (with_reducible refine Gi.of h1 ?_) | walk_at "go1"))
    exact ⟨rfl, rfl, fun h => by cases h⟩
  have en : ((G.take 9).filter fun _ => false) = [] := List.filter_eq_nil_iff.mpr fun _ _ => Bool.false_ne_true
  rw [en, List.map_nil]
  have n3 : semNe (.lst []) (.lst []) = some (.bl false) := semNe_nil []
  (repeat (first | (with_reducible refine of_ow ?_) | (with_reducible refine Gi.of n3 ?_) | (with_reducible refine Gi.of ep ?_) | (with_reducible refine Gi.of hps ?_) | (with_reducible refine Gi.of n1 ?_) | (with_reducible refine Gi.of n2 ?_) | walk_at "go1"))
  refine ⟨4, rfl, by decide, ?_⟩
  refine wS_for _ (fun _ r => ∃ b o9 o10 o11 o12, r = [some (.sh (.scr ns)), some (.ow b), o2, some (.sh (wdD xs ys)), some (.sh (.lst (ys.map D.str))), some (.sh (.lst (EV.map (dvD ys)))), o6, some (.sh R), some (.sh (.lst (G.map (dvD ys)))), o9, o10, o11, o12] ∧ BagOk b) ?_ (fun r h => ?_) ⟨_, _, _, _, _, rfl, hb1⟩
  · rintro i d hd r ⟨b, o9, o10, o11, o12, rfl, hb⟩
    refine Gi.of (z := [some (.sh (.scr ns)), some (.ow b), o2, some (.sh (wdD xs ys)), some (.sh (.lst (ys.map D.str))), some (.sh (.lst (EV.map (dvD ys)))), o6, some (.sh R), some (.sh (.lst (G.map (dvD ys)))), o9, some (.sh d), o11, o12]) rfl ?_
    rintro r2 rfl
    refine wS_mono (key b hb _ _ _ _ _ _) ?_
    rintro y ⟨b, p9, p10, p11, p12, rfl, hb⟩
    exact ⟨b, p9, p10, p11, p12, rfl, hb⟩
  · obtain ⟨b, o9, o10, o11, o12, rfl, hb⟩ := h
    exact ⟨b, _, _, _, _, _, _, rfl, hb⟩
set_option maxHeartbeats 4000000 in
theorem plain (ns : List Int) (_ : ns.length ≤ 63) : f_law [.scr ns] = some (.sh (.bl true)) := by
  obtain ⟨bs, eb, hb⟩ := bag_ok ns
  unfold f_law
  refine fnP_w ?_
  unfold m_law
  (repeat (first | (with_reducible refine Gi.of eb ?_) | walk_at "go1"))
  refine ⟨2, rfl, by decide, ?_⟩
  refine wS_for _ (fun _ r => ∃ b o2 o3 o4 o5 o6 o7 o8 o9 o10 o11 o12, r = [some (.sh (.scr ns)), some (.ow b), o2, o3, o4, o5, o6, o7, o8, o9, o10, o11, o12] ∧ BagOk b) ?_ (fun r h => ?_) ⟨_, _, _, _, _, _, _, _, _, _, _, _, rfl, hb⟩
  · rintro i d hd r ⟨b, o2, o3, o4, o5, o6, o7, o8, o9, o10, o11, o12, rfl, hb⟩
    refine Gi.of (z := [some (.sh (.scr ns)), some (.ow b), some (.sh d), o3, o4, o5, o6, o7, o8, o9, o10, o11, o12]) rfl ?_
    rintro r2 rfl
    obtain ⟨xs, ys, b1, e1, w, hb1⟩ := world_ok hb
    have hyl : ys.length ≤ 5 := by have := w.y2; omega
    have h0 : ys ≠ [] := fun e => by have := w.y2; rw [e] at this; simp at this
    have ec := choices_eq w.yn h0 hyl
    have key := fun (b : List D) (hb : BagOk b) o6 o7 o8 o9 o10 o11 o12 => k43_rows (ns := ns) hb w (some (.sh d)) o6 o7 o8 o9 o10 o11 o12
    have et := wd_things xs ys
    unfold env43 at key
    unfold bd_law_3
    show wS (seqS _ (seqS _ (seqS _ fr_law_2))) _ _
    generalize wdD xs ys = W at *
    generalize D.lst (ys.map D.str) = Y at *
    generalize D.lst ((chN ys.length ys).map (dvD ys)) = EV at *
    (repeat (first | (with_reducible refine Gb.of e1 ?_) | (with_reducible refine Gi.of et ?_) | (with_reducible refine Gi.of ec ?_) | walk_at "go1"))
    refine ⟨4, rfl, by decide, ?_⟩
    refine wS_for _ (fun _ r => ∃ b o6 o7 o8 o9 o10 o11 o12, r = [some (.sh (.scr ns)), some (.ow b), some (.sh d), some (.sh W), some (.sh Y), some (.sh EV), o6, o7, o8, o9, o10, o11, o12] ∧ BagOk b) ?_ (fun r h => ?_) ⟨_, _, _, _, _, _, _, _, rfl, hb1⟩
    · rintro i d2 hd2 r ⟨b, o6, o7, o8, o9, o10, o11, o12, rfl, hb⟩
      refine Gi.of (z := [some (.sh (.scr ns)), some (.ow b), some (.sh d), some (.sh W), some (.sh Y), some (.sh EV), some (.sh d2), o7, o8, o9, o10, o11, o12]) rfl ?_
      rintro r2 rfl
      refine wS_mono (key b hb _ _ _ _ _ _ _) ?_
      rintro y ⟨b, p7, p8, p9, p10, p11, p12, rfl, hb⟩
      exact ⟨b, _, p7, p8, p9, p10, p11, p12, rfl, hb⟩
    · obtain ⟨b, o6, o7, o8, o9, o10, o11, o12, rfl, hb⟩ := h
      exact ⟨b, _, _, _, _, _, _, _, _, _, _, _, rfl, hb⟩
  · obtain ⟨b, o2, o3, o4, o5, o6, o7, o8, o9, o10, o11, o12, rfl, hb⟩ := h
    (repeat walk_at "go1")
    rfl
end T

open PySem PySem.W PyProof.Rows
set_option maxHeartbeats 0 in
theorem PySem.Challenge.cw_scriptpicks_k43_whole_all_small_integers_holds : PySem.Challenge.rw_scriptpicks_k43_whole_all_small_integers.Holds := by
  w_on; o_law; k_head; (case hw => w_witness2)
  k_fill
  refine DL.walkG (l := PySem.Challenge.rw_scriptpicks_k43_whole_all_small_integers) (n := 63) (k := 7) (x := "_law_script") (f := T.f_law) rfl rfl (by decide) rfl ⟨rfl, by decide, by decide⟩ (fun w h Y => PySem.W.kIn_of Y) ?F T.plain
  case F =>
    intro w mg fz h inK ns hmg
    refine' T.all_mk inK ns hmg ?a1 ?l1 ?c1 ?k1 ?a2 ?l2 ?c2 ?k2 ?a3 ?l3 ?c3 ?k3 ?a4 ?l4 ?c4 ?k4 ?a5 ?l5 ?c5 ?k5 ?a6 ?l6 ?c6 ?k6 ?a7 ?l7 ?c7 ?k7 ?a8 ?l8 ?c8 ?k8 ?a9 ?l9 ?c9 ?k9 ?a10 ?l10 ?c10 ?k10 ?a11 ?l11 ?c11 ?k11 ?a12 ?l12 ?c12 ?k12 ?a13 ?l13 ?c13 ?k13 ?a14 ?l14 ?c14 ?k14 ?a15 ?l15 ?c15 ?k15 ?a16 ?l16 ?c16 ?k16 ?a17 ?l17 ?c17 ?k17 ?a18 ?l18 ?c18 ?k18 ?a19 ?l19 ?c19 ?k19 ?a20 ?l20 ?c20 ?k20 ?a21 ?l21 ?c21 ?k21 ?a22 ?l22 ?c22 ?k22 ?a23 ?l23 ?c23 ?k23 ?da_BACK ?dl_BACK ?dk_BACK ?dv_BACK_0 ?dv_BACK_1 ?dv_BACK_2 ?dv_BACK_3 ?da_OTHERS ?dl_OTHERS ?dk_OTHERS ?dv_OTHERS_0 ?dv_OTHERS_1 ?dv_OTHERS_2 ?dw_OTHERS_0 ?dw_OTHERS_1 ?dw_OTHERS_2 ?z_abs ?z_all ?z_dict ?z_enumerate ?z_int ?z_len ?z_max ?z_range ?z_repr ?z_sorted ?z_tuple
    (case a1 => k_is); (case l1 => k_is); (case c1 => k_is); (case k1 => k_is); (case a2 => k_is); (case l2 => k_is); (case c2 => k_is); (case k2 => k_is); (case a3 => k_is); (case l3 => k_is); (case c3 => k_is); (case k3 => k_is); (case a4 => k_is); (case l4 => k_is); (case c4 => k_is); (case k4 => k_is); (case a5 => k_is); (case l5 => k_is); (case c5 => k_is); (case k5 => k_is); (case a6 => k_is); (case l6 => k_is); (case c6 => k_is); (case k6 => k_is); (case a7 => k_is); (case l7 => k_is); (case c7 => k_is); (case k7 => k_is); (case a8 => k_is); (case l8 => k_is); (case c8 => k_is); (case k8 => k_is); (case a9 => k_is); (case l9 => k_is); (case c9 => k_is); (case k9 => k_is); (case a10 => k_is); (case l10 => k_is); (case c10 => k_is); (case k10 => k_is); (case a11 => k_is); (case l11 => k_is); (case c11 => k_is); (case k11 => k_is); (case a12 => k_is); (case l12 => k_is); (case c12 => k_is); (case k12 => k_is); (case a13 => k_is); (case l13 => k_is); (case c13 => k_is); (case k13 => k_is); (case a14 => k_is); (case l14 => k_is); (case c14 => k_is); (case k14 => k_is); (case a15 => k_is); (case l15 => k_is); (case c15 => k_is); (case k15 => k_is); (case a16 => k_is); (case l16 => k_is); (case c16 => k_is); (case k16 => k_is); (case a17 => k_is); (case l17 => k_is); (case c17 => k_is); (case k17 => k_is); (case a18 => k_is); (case l18 => k_is); (case c18 => k_is); (case k18 => k_is); (case a19 => k_is); (case l19 => k_is); (case c19 => k_is); (case k19 => k_is); (case a20 => k_is); (case l20 => k_is); (case c20 => k_is); (case k20 => k_is); (case a21 => k_is); (case l21 => k_is); (case c21 => k_is); (case k21 => k_is); (case a22 => k_is); (case l22 => k_is); (case c22 => k_is); (case k22 => k_is); (case a23 => k_is); (case l23 => k_is); (case c23 => k_is); (case k23 => k_is); (case da_BACK => k_is); (case dl_BACK => k_is); (case dk_BACK => k_keys); (case dv_BACK_0 => k_is); (case dv_BACK_1 => k_is); (case dv_BACK_2 => k_is); (case dv_BACK_3 => k_is); (case da_OTHERS => k_is); (case dl_OTHERS => k_is); (case dk_OTHERS => k_keys); (case dv_OTHERS_0 => k_is); (case dv_OTHERS_1 => k_is); (case dv_OTHERS_2 => k_is); (case dw_OTHERS_0 => k_is); (case dw_OTHERS_1 => k_is); (case dw_OTHERS_2 => k_is); (case z_abs => k_is); (case z_all => k_is); (case z_dict => k_is); (case z_enumerate => k_is); (case z_int => k_is); (case z_len => k_is); (case z_max => k_is); (case z_range => k_is); (case z_repr => k_is); (case z_sorted => k_is); (case z_tuple => k_is)
