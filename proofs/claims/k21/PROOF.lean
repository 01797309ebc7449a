import PyProof.Rows.All
import Wide.All
import OpenK.AllK
import Wide.FinOn
import HandS.ForMost
import KE.KeyNested
import HandS.Exc
import HandS.Flow
import HandS.Style
import HandS.NoneIn
import HandS.Zip
import HandS.Deep
import HandS.TupAny
import HandS.TupMul
import HandS.Replace
import HandS.IsInst
import HandS.Codes
import PyProof.ReprRoads
import HandS.More
import HandS.Conv
import HandS.SetTxt0
import HandS.Set
import HandS.SetFor
import HandS.SetBool
import KE.SortData
import PyProof.SumAny
import PyProof.ListStr
import HandS.Star
import HandS.ExcOwn
import HandS.WordsExc
import HandS.CallSlots
import HandS.ExcInit
import HandS.ExcField
import HandS.ExcIs
import KE.KExcIs
import HandS.Property
import PySem.Challenge.RW_scriptpicks_k21_starts_refused
set_option Elab.async false
set_option linter.all false
set_option maxRecDepth 100000
set_option maxHeartbeats 4000000
/-! Data layer, part 1: plain data, reading of data in a heap, environments, the relation of a state to an environment. -/
namespace DL
open PySem L2

inductive D where
  | non
  | bl (b : Bool)
  | int (i : Int)
  | str (x : Str)
  | lst (xs : List D)
  | tup (xs : List D)
  | dic (kvs : List (Key × D))
  | scr (ns : List Int)
  /-- an instance of a class of the program's own that nobody changes any more: the class's name, its attributes -/
  | obj (c : Str) (fs : List (Str × D))

/-- the class of that name of the module -/
def ClsAt (K : PySem.W.Frag) (c : Str) (C : Addr) : Prop := PySem.W.nsIn K mainGlobals c = some (some (.ref C))

mutual
inductive RD (K : PySem.W.Frag) (F : Hp) : V → D → Prop
  | non : RD K F .non .non
  | bl (b : Bool) : RD K F (.bl b) (.bl b)
  | int (i : Int) : RD K F (.int i) (.int i)
  | str (x : Str) : RD K F (.str x) (.str x)
  | lst {a : Addr} {xs : List V} {ds : List D} : F a = some (.lst xs) → RDs K F xs ds → RD K F (.ref a) (.lst ds)
  | scr {a : Addr} (ns : List Int) : SqL K F a (ns.map V.int) → RD K F (.ref a) (.scr ns)
  | tup {a : Addr} {xs : List V} {ds : List D} : SqT K F a xs → RDs K F xs ds → RD K F (.ref a) (.tup ds)
  | dic {a : Addr} {kvs : List (Key × V)} {ds : List (Key × D)} : Rd F a (.dK kvs) → RDk K F kvs ds → RD K F (.ref a) (.dic ds)
  | obj {a C dx : Addr} {c : Str} {vs : List (Str × V)} {ds : List (Str × D)} : ClsAt K c C → F a = some (.ins C dx vs) → RDf K F vs ds → RD K F (.ref a) (.obj c ds)
inductive RDs (K : PySem.W.Frag) (F : Hp) : List V → List D → Prop
  | nil : RDs K F [] []
  | cons {v : V} {vs : List V} {d : D} {ds : List D} : RD K F v d → RDs K F vs ds → RDs K F (v :: vs) (d :: ds)
inductive RDk (K : PySem.W.Frag) (F : Hp) : List (Key × V) → List (Key × D) → Prop
  | nil : RDk K F [] []
  | cons {k : Key} {v : V} {vs : List (Key × V)} {d : D} {ds : List (Key × D)} : RD K F v d → RDk K F vs ds → RDk K F ((k, v) :: vs) ((k, d) :: ds)
inductive RDf (K : PySem.W.Frag) (F : Hp) : List (Str × V) → List (Str × D) → Prop
  | nil : RDf K F [] []
  | cons {k : Str} {v : V} {vs : List (Str × V)} {d : D} {ds : List (Str × D)} : RD K F v d → RDf K F vs ds → RDf K F ((k, v) :: vs) ((k, d) :: ds)
end

theorem same_rd {F F' : Hp} {a : Addr} {u : HO} (e : Same F F') (h : Rd F a u) : Rd F' a u := by
  rcases h with h | ⟨o, h⟩
  · exact .inl (e _ _ h)
  · exact .inr ⟨o, e _ _ h⟩
theorem same_sqT {K : PySem.W.Frag} {F F' : Hp} {a : Addr} {xs : List V} (e : Same F F') (h : SqT K F a xs) : SqT K F' a xs := by
  rcases h with h | h
  · exact .inl (same_rd e h)
  · exact .inr h

mutual
theorem RD.mono {K : PySem.W.Frag} {F F' : Hp} (e : Same F F') : ∀ (d : D) {v : V}, RD K F v d → RD K F' v d
  | .non, _, h => by cases h; exact .non
  | .bl b, _, h => by cases h; exact .bl b
  | .int i, _, h => by cases h; exact .int i
  | .str x, _, h => by cases h; exact .str x
  | .lst ds, _, h => by
    cases h with
    | lst h1 h2 => exact .lst (e _ _ h1) (RDs.mono e ds h2)
  | .tup ds, _, h => by
    cases h with
    | tup h1 h2 => exact .tup (same_sqT e h1) (RDs.mono e ds h2)
  | .dic ds, _, h => by
    cases h with
    | dic h1 h2 => exact .dic (same_rd e h1) (RDk.mono e ds h2)
  | .scr ns, _, h => by
    cases h with
    | scr _ h1 => exact .scr ns (e.seq h1)
  | .obj c ds, _, h => by
    cases h with
    | obj h1 h2 h3 => exact .obj h1 (e _ _ h2) (RDf.mono e ds h3)
theorem RDs.mono {K : PySem.W.Frag} {F F' : Hp} (e : Same F F') : ∀ (ds : List D) {vs : List V}, RDs K F vs ds → RDs K F' vs ds
  | [], _, h => by cases h; exact .nil
  | d :: ds, _, h => by
    cases h with
    | cons h1 h2 => exact .cons (RD.mono e d h1) (RDs.mono e ds h2)
theorem RDk.mono {K : PySem.W.Frag} {F F' : Hp} (e : Same F F') : ∀ (ds : List (Key × D)) {vs : List (Key × V)}, RDk K F vs ds → RDk K F' vs ds
  | [], _, h => by cases h; exact .nil
  | (k, d) :: ds, _, h => by
    cases h with
    | cons h1 h2 => exact .cons (RD.mono e d h1) (RDk.mono e ds h2)
theorem RDf.mono {K : PySem.W.Frag} {F F' : Hp} (e : Same F F') : ∀ (ds : List (Str × D)) {vs : List (Str × V)}, RDf K F vs ds → RDf K F' vs ds
  | [], _, h => by cases h; exact .nil
  | (k, d) :: ds, _, h => by
    cases h with
    | cons h1 h2 => exact .cons (RD.mono e d h1) (RDf.mono e ds h2)
end

section
variable {K : PySem.W.Frag} {F : Hp}
theorem RDs.length : ∀ {vs : List V} {ds : List D}, RDs K F vs ds → vs.length = ds.length
  | _, [], h => by cases h; rfl
  | _, d :: ds, h => by
    cases h with
    | cons h1 h2 => rw [List.length_cons, List.length_cons, RDs.length h2]
theorem RDs.get : ∀ {vs : List V} {ds : List D} {i : Nat} {d : D}, RDs K F vs ds → ds[i]? = some d → ∃ v, vs[i]? = some v ∧ RD K F v d
  | _, [], _, _, h, e => by simp at e
  | _, x :: ds, 0, d, h, e => by
    cases h with
    | cons h1 h2 =>
      have q : x = d := Option.some.inj e
      subst q
      exact ⟨_, rfl, h1⟩
  | _, x :: ds, i + 1, d, h, e => by
    cases h with
    | cons h1 h2 => exact RDs.get (i := i) h2 e
theorem RDs.getV : ∀ {vs : List V} {ds : List D} {i : Nat} {v : V}, RDs K F vs ds → vs[i]? = some v → ∃ d, ds[i]? = some d ∧ RD K F v d
  | _, [], _, _, h, e => by cases h; simp at e
  | _, x :: ds, 0, d, h, e => by
    cases h with
    | cons h1 h2 =>
      have q := Option.some.inj e
      subst q
      exact ⟨_, rfl, h1⟩
  | _, x :: ds, i + 1, d, h, e => by
    cases h with
    | cons h1 h2 => exact RDs.getV (i := i) h2 e
theorem RDs.app : ∀ {vs ws : List V} {ds es : List D}, RDs K F vs ds → RDs K F ws es → RDs K F (vs ++ ws) (ds ++ es)
  | _, _, [], _, h, h' => by cases h; exact h'
  | _, _, d :: ds, _, h, h' => by
    cases h with
    | cons h1 h2 => exact .cons h1 (RDs.app h2 h')
theorem RDs.tk : ∀ {vs : List V} {ds : List D} (n : Nat), RDs K F vs ds → RDs K F (vs.take n) (ds.take n)
  | _, [], n, h => by cases h; simp; exact .nil
  | _, d :: ds, 0, h => by simp; exact .nil
  | _, d :: ds, n + 1, h => by
    cases h with
    | cons h1 h2 => exact .cons h1 (RDs.tk n h2)
theorem RDs.dp : ∀ {vs : List V} {ds : List D} (n : Nat), RDs K F vs ds → RDs K F (vs.drop n) (ds.drop n)
  | _, [], n, h => by cases h; simp; exact .nil
  | _, d :: ds, 0, h => h
  | _, d :: ds, n + 1, h => by
    cases h with
    | cons h1 h2 => exact RDs.dp n h2
theorem RDs.upd {x : V} {e : D} (r : RD K F x e) : ∀ {vs : List V} {ds : List D} (n : Nat), RDs K F vs ds → RDs K F (vs.set n x) (ds.set n e)
  | _, [], n, h => by cases h; exact .nil
  | _, d :: ds, 0, h => by
    cases h with
    | cons h1 h2 => exact .cons r h2
  | _, d :: ds, n + 1, h => by
    cases h with
    | cons h1 h2 => exact .cons h1 (RDs.upd r n h2)
theorem RDs.ints : ∀ (ns : List Int), RDs K F (ns.map V.int) (ns.map D.int)
  | [] => .nil
  | n :: ns => .cons (.int n) (RDs.ints ns)
end

/-! ### environments -/
/-- an error: its class's name, its attributes -/
structure Exn where
  c : Str
  fs : List (Str × D)
/-- what a slot holds: shared data that nobody changes any more, or a list that this name owns -/
inductive OV where
  | sh (d : D)
  | ow (xs : List D)
  /-- a dict with tuples as keys that this name owns -/
  | od (kvs : List (D × D))
  /-- an instance that this name owns (self in __init__) -/
  | oi (c : Str) (fs : List (Str × D))
  /-- the error of an except clause -/
  | exc (x : Exn)
def OV.own : OV → Bool
  | .ow _ => true
  | .od _ => true
  | .oi _ _ => true
  | .exc _ => false
  | .sh _ => false
/-- frozen: as plain data (a dict of the third kind is never frozen) -/
def OV.d : OV → D
  | .sh d => d
  | .ow xs => .lst xs
  | .od _ => .non
  | .oi _ _ => .non
  | .exc _ => .non
abbrev En := List (Option OV)
inductive Rs (α : Type) where
  | ok (a : α) (r : En)
  | bad
  | ex (x : Exn) (r : En)
@[inline] def Rs.bind {α β : Type} (x : Rs α) (k : α → En → Rs β) : Rs β :=
  match x with
  | .ok a r => k a r
  | .bad => .bad
  | .ex x r => .ex x r
def Rs.map {α β : Type} (f : α → β) (x : Rs α) : Rs β :=
  match x with
  | .ok a r => .ok (f a) r
  | .bad => .bad
  | .ex x r => .ex x r
/-- an error in it is as bad as anything -/
def Rs.noE {α : Type} (x : Rs α) : Rs α :=
  match x with
  | .ok a r => .ok a r
  | _ => .bad
def ofO {α : Type} (o : Option α) (r : En) : Rs α :=
  match o with
  | some a => .ok a r
  | none => .bad

/-- at a def's entry: the frozen heap, the heap, the slots of the parameters by reference and their addresses; X: further objects that stay as they are -/
structure G where
  F0 : Hp
  H0 : Hp
  B : List (Nat × Addr)
  X : List (Addr × HO)
  w : World
  /-- the wish about errors, the error that is handled -/
  W : Option WX
  xc : Option (Addr × Value × Option Addr)

/-! data as a dict key -/
mutual
def D.nk : D → Option NestedKey
  | .non => some .none
  | .bl b => some (.num (if b = true then 1 else 0))
  | .int i => some (.num i)
  | .str x => some (.text x)
  | .tup ds => (nks ds).map NestedKey.tup
  | _ => none
def nks : List D → Option (List NestedKey)
  | [] => some []
  | d :: ds => d.nk.bind fun k => (nks ds).map fun ks => k :: ks
end
/-- the dict's object at a: its entries (key, the key's address, the value) -/
def OdO (w : World) (a : Addr) (xs : List (NestedKey × Addr × V)) : HO := .ext fun h => (a == sysModules) = false ∧ (xs.map (·.1)).Nodup ∧ ∃ us ep, Vals (xs.map (·.2.2)) us ∧ h.get? a = some { cls := .type "dict", data := .dict (List.zipWith (fun (x : NestedKey × Addr × V) (u : Value) => (⟨x.1.hash w, .ref x.2.1, u⟩ : DictEntry)) xs us).toArray ep }
inductive RDm (K : PySem.W.Frag) (F : Hp) : List (NestedKey × Addr × V) → List (D × D) → Prop
  | nil : RDm K F [] []
  | cons {k : NestedKey} {a : Addr} {v : V} {xs : List (NestedKey × Addr × V)} {kd d : D} {ds : List (D × D)} : RD K F (.ref a) kd → kd.nk = some k ∧ k.depth ≤ 8 → RD K F v d → RDm K F xs ds → RDm K F ((k, a, v) :: xs) ((kd, d) :: ds)
theorem RDm.mono {K : PySem.W.Frag} {F F' : Hp} (e : Same F F') : ∀ (ds : List (D × D)) {xs : List (NestedKey × Addr × V)}, RDm K F xs ds → RDm K F' xs ds
  | [], _, h => by cases h; exact .nil
  | (kd, d) :: ds, _, h => by
    cases h with
    | cons h1 h2 h3 h4 => exact .cons (RD.mono e kd h1) h2 (RD.mono e d h3) (RDm.mono e ds h4)
/-- the instance's object: class, dict, attributes -/
def OiO (x : Addr × Addr × List (Str × V)) : HO := .ins x.1 x.2.1 x.2.2
def RDi (K : PySem.W.Frag) (c : Str) (F : Hp) (x : Addr × Addr × List (Str × V)) (fs : List (Str × D)) : Prop := ClsAt K c x.1 ∧ RDf K F x.2.2 fs
theorem RDi.mono {K : PySem.W.Frag} {c : Str} {F F' : Hp} (e : Same F F') (fs : List (Str × D)) {x : Addr × Addr × List (Str × V)} (h : RDi K c F x fs) : RDi K c F' x fs := ⟨h.1, RDf.mono e fs h.2⟩
/-- an error of that class and with that dict is read as x -/
def RX (K : PySem.W.Frag) (F : Hp) (cls : Value) (d : Option Addr) (x : Exn) : Prop := ∃ C, cls = .ref C ∧ ClsAt K x.c C ∧ ((d = none ∧ x.fs = []) ∨ ∃ dd vs, d = some dd ∧ F dd = some (.xd vs) ∧ RDf K F vs x.fs)
theorem RX.mono {K : PySem.W.Frag} {F F' : Hp} {cls : Value} {d : Option Addr} {x : Exn} (e : Same F F') (h : RX K F cls d x) : RX K F' cls d x := by
  obtain ⟨C, h1, h2, h3 | ⟨dd, vs, h3, h4, h5⟩⟩ := h
  · exact ⟨C, h1, h2, .inl h3⟩
  · exact ⟨C, h1, h2, .inr ⟨dd, vs, h3, e _ _ h4, RDf.mono e _ h5⟩⟩
def RE (K : PySem.W.Frag) (xc : Option (Addr × Value × Option Addr)) (F : Hp) (v : V) (x : Exn) : Prop := ∃ a cls d, v = .ref a ∧ xc = some (a, cls, d) ∧ RX K F cls d x
theorem RE.mono {K : PySem.W.Frag} {xc : Option (Addr × Value × Option Addr)} {F F' : Hp} {v : V} {x : Exn} (e : Same F F') (h : RE K xc F v x) : RE K xc F' v x := by
  obtain ⟨a, cls, d, h1, h2, h3⟩ := h
  exact ⟨a, cls, d, h1, h2, h3.mono e⟩
def RO (K : PySem.W.Frag) (w : World) (xc : Option (Addr × Value × Option Addr)) (F H : Hp) (v : V) : OV → Prop
  | .sh d => RD K F v d
  | .ow xs => ∃ a vs, v = .ref a ∧ F a = none ∧ H a = some (.lst vs) ∧ RDs K F vs xs
  | .od kvs => ∃ a xs, v = .ref a ∧ F a = none ∧ H a = some (OdO w a xs) ∧ RDm K F xs kvs
  | .oi c fs => ∃ a xs, v = .ref a ∧ F a = none ∧ H a = some (OiO xs) ∧ RDi K c F xs fs
  | .exc x => RE K xc F v x

structure Rel (K : PySem.W.Frag) (g : G) (F H : Hp) (s : St) (r : En) : Prop where
  sub : Same F H
  f0 : Same g.F0 F
  fnew : ∀ b o, F b = some o → g.F0 b = none → g.H0 b = none
  keep : ∀ b o, g.H0 b = some o → (∀ p ∈ g.B, p.2 ≠ b) → H b = some o
  slot : ∀ (i : Nat) (o : OV), r[i]? = some (some o) → ∃ v, s[i]? = some (some v) ∧ RO K g.w g.xc F H v o
  own : ∀ (i : Nat) (o : OV) (a : Addr), r[i]? = some (some o) → o.own = true → s[i]? = some (some (.ref a)) → g.H0 a = none ∨ (i, a) ∈ g.B
  dist : ∀ (i j : Nat) (o u : OV) (a : Addr), i ≠ j → r[i]? = some (some o) → o.own = true → r[j]? = some (some u) → u.own = true → s[i]? = some (some (.ref a)) → s[j]? = some (some (.ref a)) → False
  pin : ∀ p ∈ g.B, s[p.1]? = some (some (.ref p.2)) ∧ ∃ o, r[p.1]? = some (some o) ∧ o.own = true
  len : r.length = s.length
  ext : ∀ p ∈ g.X, H p.1 = some p.2 ∧ F p.1 = none ∧ ∀ (j : Nat) (o : OV), r[j]? = some (some o) → o.own = true → s[j]? ≠ some (some (.ref p.1))

/-- what is wanted of an error that is let out -/
def exW (K : PySem.W.Frag) (g : G) (x : Exn) (r : En) : Prop := match g.W with
  | none => False
  | some W => ∀ F' H' s' cls d, Rel K g F' H' s' r → RX K F' cls d x → W cls d s' H'
/-- what is wanted of a result -/
def post {α : Type} (K : PySem.W.Frag) (g : G) (P : α → En → Prop) : Rs α → Prop
  | .ok a r => P a r
  | .bad => False
  | .ex x r => exW K g x r
section
variable {K : PySem.W.Frag} {g : G}
theorem post_bind {α β : Type} {P : β → En → Prop} {x : Rs α} {k : α → En → Rs β} (h : post K g P (x.bind k)) : post K g (fun a r => post K g P (k a r)) x := by
  cases x with
  | ok a r => exact h
  | bad => exact h
  | ex x r => exact h
theorem post_map {α β : Type} {P : β → En → Prop} {x : Rs α} {f : α → β} (h : post K g P (x.map f)) : post K g (fun a r => P (f a) r) x := by
  cases x with
  | ok a r => exact h
  | bad => exact h
  | ex x r => exact h
theorem post_mono {α : Type} {P P' : α → En → Prop} {x : Rs α} (h : post K g P x) (i : ∀ a r, P a r → P' a r) : post K g P' x := by
  cases x with
  | ok a r => exact i a r h
  | bad => exact h
  | ex x r => exact h
theorem post_ofO {α : Type} {P : α → En → Prop} {o : Option α} {r : En} (h : post K g P (ofO o r)) : ∃ a, o = some a ∧ P a r := by
  cases o with
  | none => exact h.elim
  | some a => exact ⟨a, rfl, h⟩
/-- no error: then the wish does not matter -/
theorem post_noE {α : Type} {P : α → En → Prop} {x : Rs α} {g' : G} (h : post K g P x.noE) : post K g' P x := by
  cases x with
  | ok a r => exact h
  | bad => exact h
  | ex x r => exact h.elim
end

section
variable {K : PySem.W.Frag} {g : G} {F F' H H' : Hp} {s : St} {r : En}
theorem Rel.live (R : Rel K g F H s r) {b : Addr} (h : H b = none) : g.H0 b = none := by
  cases e : g.H0 b with
  | none => rfl
  | some o =>
    by_cases hb : ∀ p ∈ g.B, p.2 ≠ b
    · rw [R.keep b o e hb] at h; cases h
    · have : ∃ p ∈ g.B, p.2 = b := Classical.byContradiction fun hn => hb fun p hp q => hn ⟨p, hp, q⟩
      obtain ⟨p, hp, q⟩ := this
      obtain ⟨h1, o', h2, h3⟩ := R.pin p hp
      obtain ⟨v, h4, h5⟩ := R.slot _ _ h2
      rw [h1] at h4
      cases h4
      cases o' with
      | sh d => cases h3
      | ow xs =>
        obtain ⟨a, vs, e1, _, e2, _⟩ := h5
        cases e1
        rw [q, h] at e2; cases e2
      | od xs =>
        obtain ⟨a, vs, e1, _, e2, _⟩ := h5
        cases e1
        rw [q, h] at e2; cases e2
      | oi c xs =>
        obtain ⟨a, vs, e1, _, e2, _⟩ := h5
        cases e1
        rw [q, h] at e2; cases e2
      | exc c => cases h3
theorem Rel.ff (R : Rel K g F H s r) {b : Addr} (h : H b = none) : F b = none := R.sub.free h
theorem RO.mono {w : World} {xc : Option (Addr × Value × Option Addr)} {v : V} {o : OV} (e : Same F F') (eh : ∀ a vs, v = .ref a → F a = none → H a = some vs → F' a = none ∧ H' a = some vs) (h : RO K w xc F H v o) : RO K w xc F' H' v o := by
  cases o with
  | sh d => exact RD.mono e d h
  | ow xs =>
    obtain ⟨a, vs, e1, e2, e3, e4⟩ := h
    obtain ⟨e5, e6⟩ := eh a _ e1 e2 e3
    exact ⟨a, vs, e1, e5, e6, RDs.mono e xs e4⟩
  | od xs =>
    obtain ⟨a, vs, e1, e2, e3, e4⟩ := h
    obtain ⟨e5, e6⟩ := eh a _ e1 e2 e3
    exact ⟨a, vs, e1, e5, e6, RDm.mono e xs e4⟩
  | oi c xs =>
    obtain ⟨a, vs, e1, e2, e3, e4⟩ := h
    obtain ⟨e5, e6⟩ := eh a _ e1 e2 e3
    exact ⟨a, vs, e1, e5, e6, RDi.mono e xs e4⟩
  | exc c => exact RE.mono e h
theorem same_upd {H : Hp} {p : Addr} {o : HO} (h : H p = none) : Same H (L2.upd H p o) := fun b x e => by
  rw [upd_ne (ne_of_none e h)]
  exact e
/-- a new object, frozen at once -/
theorem Rel.alloc (R : Rel K g F H s r) {p : Addr} {o : HO} (h : H p = none) : Rel K g (L2.upd F p o) (L2.upd H p o) s r := by
  have hF := R.ff h
  refine ⟨fun b u e => ?_, R.f0.trans (same_upd hF), fun b u e e0 => ?_, fun b u e hb => ?_, fun i u e => ?_, R.own, R.dist, R.pin, R.len, fun q hq => ?_⟩
  · by_cases hb : b = p
    · subst hb; rw [upd_same] at e ⊢; exact e
    · rw [upd_ne hb] at e ⊢; exact R.sub b u e
  · by_cases hb : b = p
    · subst hb; exact R.live h
    · rw [upd_ne hb] at e; exact R.fnew b u e e0
  · have q := R.keep b u e hb
    rw [upd_ne (ne_of_none q h)]; exact q
  · obtain ⟨v, h1, h2⟩ := R.slot i u e
    refine ⟨v, h1, h2.mono (same_upd hF) fun a vs e1 e2 e3 => ?_⟩
    have hn := ne_of_none e3 h
    rw [upd_ne hn, upd_ne hn]
    exact ⟨e2, e3⟩
  · obtain ⟨x1, x2, x3⟩ := R.ext q hq
    have hn := ne_of_none x1 h
    rw [upd_ne hn, upd_ne hn]
    exact ⟨x1, x2, x3⟩
/-- a new object, not frozen -/
theorem Rel.laid (R : Rel K g F H s r) {p : Addr} {o : HO} (h : H p = none) : Rel K g F (L2.upd H p o) s r := by
  refine ⟨R.sub.trans (same_upd h), R.f0, R.fnew, fun b u e hb => same_upd h b u (R.keep b u e hb), fun i u e => ?_, R.own, R.dist, R.pin, R.len, fun q hq => ⟨same_upd h _ _ (R.ext q hq).1, (R.ext q hq).2⟩⟩
  obtain ⟨v, h1, h2⟩ := R.slot i u e
  exact ⟨v, h1, h2.mono (Same.refl F) fun a vs e1 e2 e3 => ⟨e2, same_upd h _ _ e3⟩⟩
end

/-- a value that an expression gives: an owned list is new and no slot's -/
def RV (K : PySem.W.Frag) (g : G) (F H : Hp) (s : St) (r : En) (v : V) : OV → Prop
  | .sh d => RD K F v d
  | .ow xs => ∃ a vs, v = .ref a ∧ F a = none ∧ H a = some (.lst vs) ∧ RDs K F vs xs ∧ g.H0 a = none ∧ (∀ (j : Nat) (o : OV), r[j]? = some (some o) → o.own = true → s[j]? ≠ some (some (.ref a))) ∧ ∀ p ∈ g.X, p.1 ≠ a
  | .od _ => False
  | .oi _ _ => False
  | .exc _ => False

/-! ### readings by data -/
def PO (K : PySem.W.Frag) (g : G) (F : Hp) (s : St) (Q : VK) (o : OV) (r' : En) : Prop := ∀ F' H' v, Same F F' → Rel K g F' H' s r' → RV K g F' H' s r' v o → Q v H'
def PD (K : PySem.W.Frag) (g : G) (F : Hp) (s : St) (Q : VK) (d : D) (r' : En) : Prop := ∀ F' H' v, Same F F' → Rel K g F' H' s r' → RD K F' v d → Q v H'
def tO (K : PySem.W.Frag) (g : G) (f : En → Rs OV) : TE := fun s H Q => ∃ F r, Rel K g F H s r ∧ post K g (PO K g F s Q) (f r)
def tD (K : PySem.W.Frag) (g : G) (f : En → Rs D) : TE := fun s H Q => ∃ F r, Rel K g F H s r ∧ post K g (PD K g F s Q) (f r)
/-- the expression e computes f, by data -/
def DE (X : Cx) (g : G) (e : Expr) (f : En → Rs D) : Prop := PE X e (tD X.K g f)
def DO (X : Cx) (g : G) (e : Expr) (f : En → Rs OV) : Prop := PE X e (tO X.K g f)

theorem PE.imp {X : Cx} {e : Expr} {t t' : TE} (h : PE X e t) (i : ∀ s H Q, t' s H Q → t s H Q) : PE X e t' :=
  ⟨fun pins s σ H Q I q => h.run pins s σ H Q I (i σ H Q q)⟩
theorem PT.imp {X : Cx} {e : Expr} {t t' : TT} (h : PT X e t) (i : ∀ s H Q, t' s H Q → t s H Q) : PT X e t' :=
  ⟨fun pins s σ H Q I q => h.run pins s σ H Q I (i σ H Q q)⟩
theorem PS.imp {X : Cx} {e : Stmt} {t t' : TS} (h : PS X e t) (i : ∀ D s H, t' D s H → t D s H) : PS X e t' :=
  ⟨fun pins s σ H Q I q => h.run pins s σ H Q I (i Q σ H q)⟩
theorem PSs.imp {X : Cx} {e : List Stmt} {t t' : TS} (h : PSs X e t) (i : ∀ D s H, t' D s H → t D s H) : PSs X e t' :=
  ⟨fun pins s σ H Q I q => h.run pins s σ H Q I (i Q σ H q)⟩
theorem PI.imp {X : Cx} {tg e : Expr} {t t' : TI} (h : PI X tg e t) (i : ∀ s H R, t' s H R → t s H R) : PI X tg e t' :=
  ⟨fun pins s σ H Q I q => h.run pins s σ H Q I (i σ H Q q)⟩
theorem PA.imp {X : Cx} {e : List Expr} {t t' : TA} (h : PA X e t) (i : ∀ s H Q, t' s H Q → t s H Q) : PA X e t' :=
  ⟨fun pos pins s σ H Q I q => h.run pos pins s σ H Q I (i σ H Q q)⟩

section
variable {X : Cx} {g : G} {e a b : Expr} {pos : Pos}
/-- freeze what an expression gives -/
theorem RV.frz {K : PySem.W.Frag} {F H : Hp} {s : St} {r : En} {v : V} {o : OV} (R : Rel K g F H s r) (hv : RV K g F H s r v o) : ∃ F', Same F F' ∧ Rel K g F' H s r ∧ RD K F' v o.d := by
  cases o with
  | sh d => exact ⟨F, Same.refl _, R, hv⟩
  | ow xs =>
    obtain ⟨a, vs, rfl, e2, e3, e4, e5, e6, e7⟩ := hv
    have sF : Same F (L2.upd F a (.lst vs)) := same_upd e2
    refine ⟨L2.upd F a (.lst vs), sF, ⟨fun b u e => ?_, R.f0.trans sF, fun b u e e0 => ?_, R.keep, fun i u e => ?_, R.own, R.dist, R.pin, R.len, fun q hq => ⟨(R.ext q hq).1, by rw [upd_ne (e7 q hq)]; exact (R.ext q hq).2.1, (R.ext q hq).2.2⟩⟩, .lst upd_same (RDs.mono sF xs e4)⟩
    · by_cases hb : b = a
      · subst hb; rw [L2.upd_same] at e; cases e; exact e3
      · rw [upd_ne hb] at e; exact R.sub b u e
    · by_cases hb : b = a
      · subst hb; exact e5
      · rw [upd_ne hb] at e; exact R.fnew b u e e0
    · obtain ⟨v, h1, h2⟩ := R.slot i u e
      refine ⟨v, h1, ?_⟩
      cases u with
      | sh d => exact RD.mono sF d h2
      | ow ys =>
        obtain ⟨b, ws, rfl, f2, f3, f4⟩ := h2
        have hb : b ≠ a := fun z => e6 i _ e rfl (by rw [h1, z])
        exact ⟨b, ws, rfl, by rw [upd_ne hb]; exact f2, f3, RDs.mono sF ys f4⟩
      | od ys =>
        obtain ⟨b, ws, rfl, f2, f3, f4⟩ := h2
        have hb : b ≠ a := fun z => e6 i _ e rfl (by rw [h1, z])
        exact ⟨b, ws, rfl, by rw [upd_ne hb]; exact f2, f3, RDm.mono sF ys f4⟩
      | oi c ys =>
        obtain ⟨b, ws, rfl, f2, f3, f4⟩ := h2
        have hb : b ≠ a := fun z => e6 i _ e rfl (by rw [h1, z])
        exact ⟨b, ws, rfl, by rw [upd_ne hb]; exact f2, f3, RDi.mono sF ys f4⟩
      | exc c => exact RE.mono sF h2
  | od xs => exact hv.elim
  | oi c xs => exact hv.elim
  | exc c => exact hv.elim
theorem DO.frz {f : En → Rs OV} (h : DO X g e f) : DE X g e (fun r => (f r).map OV.d) :=
  PE.imp h fun s H Q ⟨F, r, R, q⟩ => ⟨F, r, R, post_mono (post_map q) fun o r' q F' H' v sm R' hv => by
    obtain ⟨F2, s2, R2, h2⟩ := RV.frz R' hv
    exact q F2 H' v (sm.trans s2) R2 h2⟩
theorem DE.sh {f : En → Rs D} (h : DE X g e f) : DO X g e (fun r => (f r).map OV.sh) :=
  PE.imp h fun s H Q ⟨F, r, R, q⟩ => ⟨F, r, R, post_mono (post_map q) fun o r' q F' H' v sm R' hv => q F' H' v sm R' hv⟩

/-! ### constants and names -/
def cD (d : D) : En → Rs D := fun r => .ok d r
theorem de_int {i : Int} {j : Nat} : DE X g (.Constant (.int i) j pos) (cD (.int i)) :=
  PE.imp pe_int fun s H Q ⟨F, r, R, q⟩ => q F H _ (Same.refl _) R (.int i)
theorem de_bl {i : Bool} {j : Nat} : DE X g (.Constant (.bool i) j pos) (cD (.bl i)) :=
  PE.imp pe_bl fun s H Q ⟨F, r, R, q⟩ => q F H _ (Same.refl _) R (.bl i)
theorem de_str {i : Str} {j : Nat} : DE X g (.Constant (.str i) j pos) (cD (.str i)) :=
  PE.imp pe_str fun s H Q ⟨F, r, R, q⟩ => q F H _ (Same.refl _) R (.str i)
theorem de_non {j : Nat} : DE X g (.Constant .none j pos) (cD .non) :=
  PE.imp pe_non fun s H Q ⟨F, r, R, q⟩ => q F H _ (Same.refl _) R .non
/-- a name's value: what is owned is frozen (not a parameter by reference) -/
def vD (i : Nat) : En → Rs D := fun r =>
  match r[i]? with
  | some (some (.sh d)) => .ok d r
  | some (some (.ow xs)) => .ok (.lst xs) (r.set i (some (.sh (.lst xs))))
  | _ => .bad
theorem de_var (i : Nat) {x : Str} (hb : ∀ p ∈ g.B, p.1 ≠ i) (h : PE X (.Name x pos) (tVar i)) : DE X g (.Name x pos) (vD i) := by
  refine PE.imp h fun s H Q ⟨F, r, R, q⟩ => ?_
  unfold vD at q
  revert q
  cases e : r[i]? with
  | none => exact fun q => q.elim
  | some w =>
    cases w with
    | none => exact fun q => q.elim
    | some o =>
      obtain ⟨v, h1, h2⟩ := R.slot i o e
      cases o with
      | sh d => exact fun q => ⟨v, h1, q F H v (Same.refl _) R h2⟩
      | ow xs =>
        intro q
        obtain ⟨a, vs, rfl, e2, e3, e4⟩ := h2
        have sF : Same F (L2.upd F a (.lst vs)) := same_upd e2
        have hi : i < r.length := by
          have := (List.getElem?_eq_some_iff.mp e).1
          exact this
        have ne : ∀ j u, (r.set i (some (.sh (.lst xs))))[j]? = some (some u) → u.own = true → j ≠ i ∧ r[j]? = some (some u) := fun j u z zo => by
          by_cases hj : i = j
          · subst hj
            rw [List.getElem?_set_self hi] at z
            cases z
            cases zo
          · rw [List.getElem?_set_ne hj] at z
            exact ⟨fun z => hj z.symm, z⟩
        have h0 : g.H0 a = none := by
          rcases R.own i _ a e rfl h1 with z | z
          · exact z
          · exact absurd rfl (hb _ z)
        refine ⟨_, h1, q (L2.upd F a (.lst vs)) H (.ref a) sF ⟨fun b u e => ?_, R.f0.trans sF, fun b u e e0 => ?_, R.keep, fun j u z => ?_, fun j u b z zo => ?_, fun j k u w b hjk z zo y yo => ?_, fun p hp => ?_, ?_, fun p hp => ?_⟩ (.lst upd_same (RDs.mono sF xs e4))⟩
        · by_cases hb : b = a
          · subst hb; rw [upd_same] at e; cases e; exact e3
          · rw [upd_ne hb] at e; exact R.sub b u e
        · by_cases hb : b = a
          · subst hb; exact h0
          · rw [upd_ne hb] at e; exact R.fnew b u e e0
        · by_cases hj : i = j
          · subst hj
            rw [List.getElem?_set_self hi] at z
            cases z
            exact ⟨_, h1, .lst upd_same (RDs.mono sF xs e4)⟩
          · rw [List.getElem?_set_ne hj] at z
            obtain ⟨w, g1, g2⟩ := R.slot j u z
            refine ⟨w, g1, ?_⟩
            cases u with
            | sh d => exact RD.mono sF d g2
            | ow ys =>
              obtain ⟨b, ws, rfl, f2, f3, f4⟩ := g2
              have hb : b ≠ a := fun zz => R.dist i j _ _ a hj e rfl z rfl h1 (by rw [g1, zz])
              exact ⟨b, ws, rfl, by rw [upd_ne hb]; exact f2, f3, RDs.mono sF ys f4⟩
            | od ys =>
              obtain ⟨b, ws, rfl, f2, f3, f4⟩ := g2
              have hb : b ≠ a := fun zz => R.dist i j _ _ a hj e rfl z rfl h1 (by rw [g1, zz])
              exact ⟨b, ws, rfl, by rw [upd_ne hb]; exact f2, f3, RDm.mono sF ys f4⟩
            | oi c ys =>
              obtain ⟨b, ws, rfl, f2, f3, f4⟩ := g2
              have hb : b ≠ a := fun zz => R.dist i j _ _ a hj e rfl z rfl h1 (by rw [g1, zz])
              exact ⟨b, ws, rfl, by rw [upd_ne hb]; exact f2, f3, RDi.mono sF ys f4⟩
            | exc c => exact RE.mono sF g2
        · obtain ⟨_, z'⟩ := ne j u z zo
          exact R.own j u b z' zo
        · obtain ⟨_, z'⟩ := ne j u z zo
          obtain ⟨_, y'⟩ := ne k w y yo
          exact R.dist j k u w b hjk z' zo y' yo
        · obtain ⟨p1, o, p2, p3⟩ := R.pin p hp
          refine ⟨p1, o, ?_, p3⟩
          rw [List.getElem?_set_ne fun z => hb p hp z.symm]
          exact p2
        · rw [List.length_set]; exact R.len
        · obtain ⟨x1, x2, x3⟩ := R.ext p hp
          refine ⟨x1, ?_, fun j u z zo => x3 j u (ne j u z zo).2 zo⟩
          have hn : p.1 ≠ a := fun zz => x3 i _ e rfl (by rw [h1, zz])
          rw [upd_ne hn]; exact x2
      | od xs => exact fun q => q.elim
      | oi c xs => exact fun q => q.elim
      | exc c => exact fun q => q.elim
/-- a further object that stays -/
def G.more (g : G) (a : Addr) (o : HO) : G := { g with X := (a, o) :: g.X }
theorem Rel.more {K : PySem.W.Frag} {F H : Hp} {s : St} {r : En} {a : Addr} {o : HO} (R : Rel K g F H s r) (h1 : H a = some o) (h2 : F a = none) (h3 : ∀ (j : Nat) (o : OV), r[j]? = some (some o) → o.own = true → s[j]? ≠ some (some (.ref a))) : Rel K (g.more a o) F H s r :=
  ⟨R.sub, R.f0, R.fnew, R.keep, R.slot, R.own, R.dist, R.pin, R.len, fun p hp => by
    rcases List.mem_cons.mp hp with e | hp
    · subst e; exact ⟨h1, h2, h3⟩
    · exact R.ext p hp⟩
theorem Rel.less {K : PySem.W.Frag} {F H : Hp} {s : St} {r : En} {a : Addr} {o : HO} (R : Rel K (g.more a o) F H s r) : Rel K g F H s r ∧ H a = some o ∧ F a = none ∧ ∀ (j : Nat) (o : OV), r[j]? = some (some o) → o.own = true → s[j]? ≠ some (some (.ref a)) :=
  ⟨⟨R.sub, R.f0, R.fnew, R.keep, R.slot, R.own, R.dist, R.pin, R.len, fun p hp => R.ext p (List.mem_cons_of_mem _ hp)⟩, R.ext (a, o) (List.mem_cons_self ..)⟩
end
end DL

/-! Data layer, part 2: operands, operators, tests, displays, statements. -/
namespace DL
open PySem L2

/-! ### operands: an expression, or a name that is only looked at -/
inductive Opd where
  | ex (f : En → Rs D)
  | va (i : Nat)
/-- is the slot filled -/
def fill (r : En) (i : Nat) : Rs Unit :=
  match r[i]? with
  | some (some _) => .ok () r
  | _ => .bad
theorem post_fill {K : PySem.W.Frag} {g : G} {P : Unit → En → Prop} {r : En} {i : Nat} (h : post K g P (fill r i)) : (∃ o, r[i]? = some (some o)) ∧ P () r := by
  unfold fill at h
  split at h
  · next o e => exact ⟨⟨o, e⟩, h⟩
  · exact h.elim
def Opd.run : Opd → En → Rs (Sum D Nat)
  | .ex f, r => (f r).map Sum.inl
  | .va i, r => (fill r i).bind fun _ r => .ok (.inr i) r
def lookV (r : En) (i : Nat) : Option OV :=
  match r[i]? with
  | some (some (.sh d)) => some (.sh d)
  | some (some (.ow xs)) => some (.ow xs)
  | _ => none
theorem lookV_some {r : En} {i : Nat} {o : OV} (h : lookV r i = some o) : r[i]? = some (some o) := by
  unfold lookV at h
  split at h
  · next x e => rw [e, h]
  · next x e => rw [e, h]
  · cases h
theorem lookV_noi {r : En} {i : Nat} {c : Str} {kvs : List (Str × D)} (h : lookV r i = some (.oi c kvs)) : False := by
  unfold lookV at h
  split at h
  · cases h
  · cases h
  · cases h
theorem lookV_nox {r : En} {i : Nat} {x : Exn} (h : lookV r i = some (.exc x)) : False := by
  unfold lookV at h
  split at h
  · cases h
  · cases h
  · cases h
theorem lookV_nod {r : En} {i : Nat} {kvs : List (D × D)} (h : lookV r i = some (.od kvs)) : False := by
  unfold lookV at h
  split at h
  · cases h
  · cases h
  · cases h
def look (r : En) : Sum D Nat → Option D
  | .inl d => some d
  | .inr i => (lookV r i).map OV.d
/-- read as data: frozen, or a list whose items are frozen -/
def RB (K : PySem.W.Frag) (F H : Hp) (v : V) (d : D) : Prop :=
  RD K F v d ∨ ∃ a vs xs, v = .ref a ∧ d = .lst xs ∧ H a = some (.lst vs) ∧ RDs K F vs xs
def OpdOk (K : PySem.W.Frag) (F : Hp) (s : St) (v : V) : Sum D Nat → Prop
  | .inl d => RD K F v d
  | .inr i => s[i]? = some (some v)
def PB (K : PySem.W.Frag) (g : G) (F : Hp) (s : St) (Q : VK) (z : Sum D Nat) (r' : En) : Prop := ∀ F' H' v, Same F F' → Rel K g F' H' s r' → OpdOk K F' s v z → Q v H'
def tB (K : PySem.W.Frag) (g : G) (p : Opd) : TE := fun s H Q => ∃ F r, Rel K g F H s r ∧ post K g (PB K g F s Q) (p.run r)
def DB (X : Cx) (g : G) (e : Expr) (p : Opd) : Prop := PE X e (tB X.K g p)

section
variable {K : PySem.W.Frag} {g : G} {F F' H H' : Hp} {s : St} {r : En} {v : V} {d : D}
theorem RB.rd (sub : Same F H) (h : RB K F H v d) : RD K H v d := by
  rcases h with h | ⟨a, vs, xs, rfl, rfl, h1, h2⟩
  · exact RD.mono sub d h
  · exact .lst h1 (RDs.mono sub xs h2)
theorem RB.lst {ds : List D} (sub : Same F H) (h : RB K F H v (.lst ds)) : ∃ a vs, v = .ref a ∧ H a = some (.lst vs) ∧ RDs K F vs ds := by
  rcases h with h | ⟨a, vs, xs, rfl, e, h1, h2⟩
  · cases h with
    | lst h1 h2 => exact ⟨_, _, rfl, sub _ _ h1, h2⟩
  · cases e
    exact ⟨a, vs, rfl, h1, h2⟩
theorem RB.flat (h : RB K F H v d) (hd : ∀ xs, d ≠ .lst xs) : RD K F v d := by
  rcases h with h | ⟨a, vs, xs, rfl, e, h1, h2⟩
  · exact h
  · exact absurd e (hd xs)
theorem look_ok {z : Sum D Nat} (R : Rel K g F H s r) (h : OpdOk K F s v z) (e : look r z = some d) : RB K F H v d := by
  cases z with
  | inl x => cases e; exact .inl h
  | inr i =>
    obtain ⟨o, q, rfl⟩ := Option.map_eq_some_iff.mp e
    obtain ⟨w, h1, h2⟩ := R.slot i o (lookV_some q)
    have hv : s[i]? = some (some v) := h
    rw [hv] at h1
    cases h1
    cases o with
    | sh d => exact .inl h2
    | ow xs =>
      obtain ⟨a, vs, e1, _, e3, e4⟩ := h2
      exact .inr ⟨a, vs, xs, e1, rfl, e3, e4⟩
    | od xs => exact (lookV_nod q).elim
    | oi c xs => exact (lookV_noi q).elim
    | exc c => exact (lookV_nox q).elim
theorem OpdOk.mono {z : Sum D Nat} (e : Same F F') (h : OpdOk K F s v z) : OpdOk K F' s v z := by
  cases z with
  | inl x => exact RD.mono e x h
  | inr i => exact h
end

section
variable {X : Cx} {g : G} {e a b c : Expr} {pos : Pos} {p q : Opd}
theorem DE.opd {f : En → Rs D} (h : DE X g e f) : DB X g e (.ex f) := PE.imp h fun s H Q ⟨F, r, R, q⟩ => ⟨F, r, R, post_map (f := Sum.inl) q⟩
theorem db_var (i : Nat) {x : Str} (h : PE X (.Name x pos) (tVar i)) : DB X g (.Name x pos) (.va i) :=
  PE.imp h fun s H Q ⟨F, r, R, q⟩ => by
    obtain ⟨⟨o, e⟩, q⟩ := post_fill (post_bind q)
    obtain ⟨v, h1, h2⟩ := R.slot i o e
    exact ⟨v, h1, q F H v (Same.refl _) R h1⟩

/-! ### operators -/
def op1 (p : Opd) (sem : D → Option D) : En → Rs D := fun r => (p.run r).bind fun x r1 => ofO ((look r1 x).bind sem) r1
def op2 (p q : Opd) (sem : D → D → Option D) : En → Rs D := fun r => (p.run r).bind fun x r1 => (q.run r1).bind fun y r2 => ofO ((look r2 x).bind fun dx => (look r2 y).bind fun dy => sem dx dy) r2
/-- an operation on values that computes sem -/
def rD1 (K : PySem.W.Frag) (g : G) (sem : D → Option D) : V → Hp → VK → Prop := fun x H Q => ∃ F s r dx d, Rel K g F H s r ∧ RB K F H x dx ∧ sem dx = some d ∧ PD K g F s Q d r
def rD2 (K : PySem.W.Frag) (g : G) (sem : D → D → Option D) : R2 := fun x y H Q => ∃ F s r dx dy d, Rel K g F H s r ∧ RB K F H x dx ∧ RB K F H y dy ∧ sem dx dy = some d ∧ PD K g F s Q d r

theorem tD_op1 {K : PySem.W.Frag} {sem : D → Option D} {s : St} {H : Hp} {Q : VK} (h : tD K g (op1 p sem) s H Q) : tB K g p s H fun x H1 => rD1 K g sem x H1 Q := by
  obtain ⟨F, r, R, h⟩ := h
  refine ⟨F, r, R, post_mono (post_bind h) fun z r1 q F1 H1 v sm R1 hv => ?_⟩
  obtain ⟨d, e, q⟩ := post_ofO q
  obtain ⟨dx, e1, e2⟩ := Option.bind_eq_some_iff.mp e
  exact ⟨F1, s, r1, dx, d, R1, look_ok R1 hv e1, e2, fun F2 H2 v2 s2 R2 h2 => q F2 H2 v2 (sm.trans s2) R2 h2⟩
theorem tD_op2 {K : PySem.W.Frag} {sem : D → D → Option D} {s : St} {H : Hp} {Q : VK} (h : tD K g (op2 p q sem) s H Q) :
    tB K g p s H fun x H1 => tB K g q s H1 fun y H2 => rD2 K g sem x y H2 Q := by
  obtain ⟨F, r, R, h⟩ := h
  refine ⟨F, r, R, post_mono (post_bind h) fun z r1 q1 F1 H1 v sm R1 hv => ⟨F1, r1, R1, post_mono (post_bind q1) fun y r2 q2 F2 H2 w s2 R2 hw => ?_⟩⟩
  obtain ⟨d, e, q2⟩ := post_ofO q2
  obtain ⟨dx, e1, e⟩ := Option.bind_eq_some_iff.mp e
  obtain ⟨dy, e2, e3⟩ := Option.bind_eq_some_iff.mp e
  exact ⟨F2, s, r2, dx, dy, d, R2, look_ok R2 (hv.mono s2) e1, look_ok R2 hw e2, e3, fun F3 H3 v3 s3 R3 h3 => q2 F3 H3 v3 ((sm.trans s2).trans s3) R3 h3⟩
theorem de_op {op : Operator} {sem : D → D → Option D} (ho : OpR X (binaryOp op) (rD2 X.K g sem)) (ha : DB X g a p) (hb : DB X g b q) : DE X g (.BinOp a op b pos) (op2 p q sem) :=
  PE.imp (pe_op ho ha hb) fun s H Q h => tD_op2 h
theorem de_un {op : UnaryOp} {sem : D → Option D} (ho : UnR X (unaryOp op) (rD1 X.K g sem)) (ha : DB X g a p) : DE X g (.UnaryOp op a pos) (op1 p sem) :=
  PE.imp (pe_un ho ha) fun s H Q h => tD_op1 h
theorem de_cmp {op : CmpOp} {sem : D → D → Option D} (ho : OpR X (compareOp op) (rD2 X.K g sem)) (ha : DB X g a p) (hb : DB X g b q) (hm : behindInMarks op b = false) : DE X g (.Compare a [op] [b] pos) (op2 p q sem) :=
  PE.imp (pe_cmpR ho ha hb hm) fun s H Q h => tD_op2 h
theorem de_ix {sem : D → D → Option D} (ho : IxR X (rD2 X.K g sem)) (ha : DB X g a p) (hb : DB X g b q) (hs : PlainIx b) : DE X g (.Subscript a b pos) (op2 p q sem) :=
  PE.imp (pe_ix ho ha hb hs) fun s H Q h => tD_op2 h

/-! ### tests -/
def PT' (K : PySem.W.Frag) (g : G) (F : Hp) (s : St) (Q : Bool → Hp → Prop) (b : Bool) (r' : En) : Prop := ∀ F' H', Same F F' → Rel K g F' H' s r' → Q b H'
def tTD (K : PySem.W.Frag) (g : G) (f : En → Rs Bool) : TT := fun s H Q => ∃ F r, Rel K g F H s r ∧ post K g (PT' K g F s Q) (f r)
def DT (X : Cx) (g : G) (e : Expr) (f : En → Rs Bool) : Prop := PT X e (tTD X.K g f)
def D.asB : D → Option Bool
  | .bl b => some b
  | _ => none
def toB (f : En → Rs D) : En → Rs Bool := fun r => (f r).bind fun d r1 => ofO d.asB r1
theorem asB_some {d : D} {b : Bool} (h : d.asB = some b) : d = .bl b := by
  cases d <;> first | (cases h; rfl) | cases h
/-- a comparison as a test -/
theorem dt_cmp {op : CmpOp} {sem : D → D → Option D} (ho : OpR X (compareOp op) (rD2 X.K g sem)) (ha : DB X g a p) (hb : DB X g b q) (hm : behindInMarks op b = false) : DT X g (.Compare a [op] [b] pos) (toB (op2 p q sem)) :=
  PT.imp (pt_cmpR ho ha hb hm) fun s H Q ⟨F, r, R, h⟩ => by
    refine tD_op2 ⟨F, r, R, post_mono (post_bind h) fun d r1 q F1 H1 v sm R1 hv => ?_⟩
    obtain ⟨b, e, q⟩ := post_ofO q
    have e := asB_some e
    subst e
    cases hv
    exact ⟨b, rfl, q F1 H1 sm R1⟩
/-- a plain bool expression as a test -/
theorem dt_val {f : En → Rs D} (h : DE X g e f) (he : ∀ whole, isTrue e X.env whole = (do let v ← whole; standAt e.pos; holding [v] (truthy v)) := by intro _; rfl) : DT X g e (toB f) :=
  PT.imp (pt_val h he) fun s H Q ⟨F, r, R, h⟩ => by
    refine ⟨F, r, R, post_mono (post_bind h) fun d r1 q F1 H1 v sm R1 hv => ?_⟩
    obtain ⟨b, e, q⟩ := post_ofO q
    have e := asB_some e
    subst e
    cases hv
    exact ⟨b, rfl, q F1 H1 sm R1⟩
def notT (f : En → Rs Bool) : En → Rs Bool := fun r => (f r).map (!·)
theorem dt_not {f : En → Rs Bool} (h : DT X g a f) : DT X g (.UnaryOp .Not a pos) (notT f) :=
  PT.imp (pt_not h) fun s H Q ⟨F, r, R, h⟩ => ⟨F, r, R, post_mono (post_map (f := fun b : Bool => !b) h) fun c r1 q => q⟩
/-- and, or as tests -/
def DW (X : Cx) (g : G) (e : Expr) (f : En → Rs Bool) : Prop := PW X e (tTD X.K g f)
def andT (f h : En → Rs Bool) : En → Rs Bool := fun r => (f r).bind fun b r1 => if b = true then h r1 else .ok false r1
def orT (f h : En → Rs Bool) : En → Rs Bool := fun r => (f r).bind fun b r1 => if b = true then .ok true r1 else h r1
theorem PW.imp {X : Cx} {e : Expr} {t t' : TT} (h : PW X e t) (i : ∀ s H Q, t' s H Q → t s H Q) : PW X e t' :=
  ⟨fun wh pins s σ H Q I q => h.run wh pins s σ H Q I (i σ H Q q)⟩
theorem dw_and1 {f : En → Rs Bool} (h : DT X g a f) : DW X g (.BoolOp .And [a] pos) f := pw_and1 h
theorem dw_or1 {f : En → Rs Bool} (h : DT X g a f) : DW X g (.BoolOp .Or [a] pos) f := pw_or1 h
theorem dw_and {f h : En → Rs Bool} {rest : List Expr} (hf : DT X g a f) (hh : DW X g (.BoolOp .And (b :: rest) pos) h) : DW X g (.BoolOp .And (a :: b :: rest) pos) (andT f h) :=
  PW.imp (pw_and hf hh) fun s H Q ⟨F, r, R, q⟩ => ⟨F, r, R, post_mono (post_bind q) fun c r1 q F1 H1 sm R1 => by
    cases c with
    | true => exact ⟨F1, r1, R1, post_mono q fun c r2 q F2 H2 s2 R2 => q F2 H2 (sm.trans s2) R2⟩
    | false => exact q F1 H1 sm R1⟩
theorem dw_or {f h : En → Rs Bool} {rest : List Expr} (hf : DT X g a f) (hh : DW X g (.BoolOp .Or (b :: rest) pos) h) : DW X g (.BoolOp .Or (a :: b :: rest) pos) (orT f h) :=
  PW.imp (pw_or hf hh) fun s H Q ⟨F, r, R, q⟩ => ⟨F, r, R, post_mono (post_bind q) fun c r1 q F1 H1 sm R1 => by
    cases c with
    | false => exact ⟨F1, r1, R1, post_mono q fun c r2 q F2 H2 s2 R2 => q F2 H2 (sm.trans s2) R2⟩
    | true => exact q F1 H1 sm R1⟩
theorem DW.dt {f : En → Rs Bool} (h : DW X g e f) : DT X g e f := PW.pt h

/-! ### and, or, not, if as values; truth -/
def andD (f h : En → Rs D) : En → Rs D := fun r => (f r).bind fun d r1 => (ofO d.asB r1).bind fun c r1 => if c = true then h r1 else .ok (.bl false) r1
def orD (f h : En → Rs D) : En → Rs D := fun r => (f r).bind fun d r1 => (ofO d.asB r1).bind fun c r1 => if c = true then .ok (.bl true) r1 else h r1
theorem de_one {op : BoolOp} {f : En → Rs D} (h : DE X g a f) : DE X g (.BoolOp op [a] pos) f := pe_one h
theorem de_and {f h : En → Rs D} {rest : List Expr} (hf : DE X g a f) (hh : DE X g (.BoolOp .And (b :: rest) pos) h) : DE X g (.BoolOp .And (a :: b :: rest) pos) (andD f h) :=
  PE.imp (pe_and hf hh) fun s H Q ⟨F, r, R, q⟩ => ⟨F, r, R, post_mono (post_bind q) fun d r1 q F1 H1 v sm R1 hv => by
    obtain ⟨c, e, q⟩ := post_ofO (post_bind q)
    have e := asB_some e
    subst e
    cases hv
    refine ⟨c, rfl, ?_⟩
    cases c with
    | true => exact ⟨F1, r1, R1, post_mono q fun c r2 q F2 H2 v s2 R2 hv => q F2 H2 v (sm.trans s2) R2 hv⟩
    | false => exact q F1 H1 _ sm R1 (.bl false)⟩
theorem de_or {f h : En → Rs D} {rest : List Expr} (hf : DE X g a f) (hh : DE X g (.BoolOp .Or (b :: rest) pos) h) : DE X g (.BoolOp .Or (a :: b :: rest) pos) (orD f h) :=
  PE.imp (pe_or hf hh) fun s H Q ⟨F, r, R, q⟩ => ⟨F, r, R, post_mono (post_bind q) fun d r1 q F1 H1 v sm R1 hv => by
    obtain ⟨c, e, q⟩ := post_ofO (post_bind q)
    have e := asB_some e
    subst e
    cases hv
    refine ⟨c, rfl, ?_⟩
    cases c with
    | false => exact ⟨F1, r1, R1, post_mono q fun c r2 q F2 H2 v s2 R2 hv => q F2 H2 v (sm.trans s2) R2 hv⟩
    | true => exact q F1 H1 _ sm R1 (.bl true)⟩
def notD (f : En → Rs D) : En → Rs D := fun r => (f r).bind fun d r1 => (ofO d.asB r1).map fun c => .bl (!c)
theorem de_not {f : En → Rs D} (hf : DE X g a f) : DE X g (.UnaryOp .Not a pos) (notD f) :=
  PE.imp (pe_not hf) fun s H Q ⟨F, r, R, q⟩ => ⟨F, r, R, post_mono (post_bind q) fun d r1 q F1 H1 v sm R1 hv => by
    obtain ⟨c, e, q⟩ := post_ofO (post_map q)
    have e := asB_some e
    subst e
    cases hv
    exact ⟨c, rfl, q F1 H1 _ sm R1 (.bl _)⟩⟩
def ifD {α : Type} (c : En → Rs Bool) (f h : En → Rs α) : En → Rs α := fun r => (c r).bind fun b r1 => if b = true then f r1 else h r1
theorem de_if {t : En → Rs Bool} {f h : En → Rs D} (hc : DT X g c t) (hf : DE X g a f) (hh : DE X g b h) : DE X g (.IfExp c a b pos) (ifD t f h) :=
  PE.imp (pe_ifExp hc hf hh) fun s H Q ⟨F, r, R, q⟩ => ⟨F, r, R, post_mono (post_bind q) fun c r1 q F1 H1 sm R1 => by
    cases c with
    | true => exact ⟨F1, r1, R1, post_mono q fun c r2 q F2 H2 v s2 R2 hv => q F2 H2 v (sm.trans s2) R2 hv⟩
    | false => exact ⟨F1, r1, R1, post_mono q fun c r2 q F2 H2 v s2 R2 hv => q F2 H2 v (sm.trans s2) R2 hv⟩⟩
theorem do_if {t : En → Rs Bool} {f h : En → Rs OV} (hc : DT X g c t) (hf : DO X g a f) (hh : DO X g b h) : DO X g (.IfExp c a b pos) (ifD t f h) :=
  PE.imp (pe_ifExp hc hf hh) fun s H Q ⟨F, r, R, q⟩ => ⟨F, r, R, post_mono (post_bind q) fun c r1 q F1 H1 sm R1 => by
    cases c with
    | true => exact ⟨F1, r1, R1, post_mono q fun c r2 q F2 H2 v s2 R2 hv => q F2 H2 v (sm.trans s2) R2 hv⟩
    | false => exact ⟨F1, r1, R1, post_mono q fun c r2 q F2 H2 v s2 R2 hv => q F2 H2 v (sm.trans s2) R2 hv⟩⟩

/-! ### argument lists of data; displays -/
def evs : List (En → Rs D) → En → Rs (List D)
  | [], r => .ok [] r
  | f :: fs, r => (f r).bind fun d r1 => (evs fs r1).bind fun ds r2 => .ok (d :: ds) r2
def PA' (K : PySem.W.Frag) (g : G) (F : Hp) (s : St) (Q : List V → Hp → Prop) (ds : List D) (r' : En) : Prop := ∀ F' H' vs, Same F F' → Rel K g F' H' s r' → RDs K F' vs ds → Q vs H'
def tAD (K : PySem.W.Frag) (g : G) (f : En → Rs (List D)) : TA := fun s H Q => ∃ F r, Rel K g F H s r ∧ post K g (PA' K g F s Q) (f r)
def DA (X : Cx) (g : G) (es : List Expr) (fs : List (En → Rs D)) : Prop := PA X es (tAD X.K g (evs fs))
theorem da_nil : DA X g [] [] := PA.imp pa_nil fun s H Q ⟨F, r, R, q⟩ => q F H [] (Same.refl _) R .nil
theorem da_cons {es : List Expr} {f : En → Rs D} {fs : List (En → Rs D)} (h : DE X g e f) (hs : DA X g es fs) (hst : starEach (e :: es) X.env = (false, eval e X.env) :: starEach es X.env := by rfl) : DA X g (e :: es) (f :: fs) :=
  PA.imp (pa_cons h hs hst) fun s H Q ⟨F, r, R, q⟩ => ⟨F, r, R, post_mono (post_bind q) fun d r1 q F1 H1 v sm R1 hv => ⟨F1, r1, R1, post_mono (post_bind q) fun ds r2 q F2 H2 vs s2 R2 hvs =>
    q F2 H2 (v :: vs) (sm.trans s2) R2 (.cons (RD.mono s2 d hv) hvs)⟩⟩
def tupD (fs : List (En → Rs D)) : En → Rs D := fun r => (evs fs r).bind fun ds r1 => if ds.length ≤ 1000 then .ok (.tup ds) r1 else .bad
def lstD (fs : List (En → Rs D)) : En → Rs OV := fun r => (evs fs r).bind fun ds r1 => if ds.length ≤ 1000 then .ok (.ow ds) r1 else .bad
theorem le_line {n : Nat} (h : n ≤ 1000) : n ≤ sizeLine := Nat.le_of_lt (small1000 h)
theorem post_if {K : PySem.W.Frag} {g : G} {α : Type} {P : α → En → Prop} {c : Prop} [Decidable c] {x : Rs α} (h : post K g P (if c then x else .bad)) : c ∧ post K g P x := by
  by_cases hc : c
  · rw [if_pos hc] at h; exact ⟨hc, h⟩
  · rw [if_neg hc] at h; exact h.elim
theorem de_tup {es : List Expr} {fs : List (En → Rs D)} {k : Nat} (h : DA X g es fs) : DE X g (.Tuple es k pos) (tupD fs) :=
  PE.imp (pe_tup h) fun s H Q ⟨F, r, R, q⟩ => ⟨F, r, R, post_mono (post_bind q) fun ds r1 q F1 H1 vs sm R1 hvs => by
    obtain ⟨hl, q⟩ := post_if q
    refine ⟨le_line (by rw [hvs.length]; exact hl), fun p np => ?_⟩
    have sF := same_upd (o := .tup vs) (R1.ff np)
    exact q _ _ _ (sm.trans sF) (R1.alloc np) (.tup (.of upd_same) (RDs.mono sF ds hvs))⟩
/-- a list just made is nobody's -/
theorem RV.new {K : PySem.W.Frag} {F H : Hp} {s : St} {r : En} {p : Addr} {vs : List V} {ds : List D} (R : Rel K g F H s r) (np : H p = none) (hvs : RDs K F vs ds) : RV K g F (L2.upd H p (.lst vs)) s r (.ref p) (.ow ds) := by
  refine ⟨p, vs, rfl, R.ff np, upd_same, hvs, R.live np, fun j o e eo z => ?_, fun q hq z => by have := (R.ext q hq).1; rw [z, np] at this; cases this⟩
  obtain ⟨v, h1, h2⟩ := R.slot j o e
  rw [z] at h1
  cases h1
  cases o with
  | sh d => cases eo
  | ow xs =>
    obtain ⟨a, ws, e1, _, e3, _⟩ := h2
    cases e1
    rw [np] at e3; cases e3
  | od xs =>
    obtain ⟨a, ws, e1, _, e3, _⟩ := h2
    cases e1
    rw [np] at e3; cases e3
  | oi c xs =>
    obtain ⟨a, ws, e1, _, e3, _⟩ := h2
    cases e1
    rw [np] at e3; cases e3
  | exc c => cases eo
theorem do_lst {es : List Expr} {fs : List (En → Rs D)} (h : DA X g es fs) : DO X g (.List es pos) (lstD fs) :=
  PE.imp (pe_lst h) fun s H Q ⟨F, r, R, q⟩ => ⟨F, r, R, post_mono (post_bind q) fun ds r1 q F1 H1 vs sm R1 hvs => by
    obtain ⟨hl, q⟩ := post_if q
    refine ⟨le_line (by rw [hvs.length]; exact hl), fun p np => ?_⟩
    exact q _ _ _ sm (R1.laid np) (RV.new R1 np hvs)⟩
end
end DL

/-! Data layer, part 3: statements, targets, what is walked, loops, comprehensions. -/
namespace DL
open PySem L2

inductive SRs where
  | nx (r : En)
  | rt (o : OV) (r : En)
  | bk (r : En)
  | ct (r : En)
  | bad
  | ex (x : Exn) (r : En)
def SPost (K : PySem.W.Frag) (g : G) (F : Hp) (E : Ends) : SRs → Prop
  | .nx r' => ∀ F' H' s', Same F F' → Rel K g F' H' s' r' → E.nx s' H'
  | .rt o r' => ∀ F' H' s' v, Same F F' → Rel K g F' H' s' r' → RV K g F' H' s' r' v o → E.rt v H'
  | .bk r' => ∀ F' H' s', Same F F' → Rel K g F' H' s' r' → E.bk s' H'
  | .ct r' => ∀ F' H' s', Same F F' → Rel K g F' H' s' r' → E.ct s' H'
  | .bad => False
  | .ex x r' => exW K g x r'
def tSD (K : PySem.W.Frag) (g : G) (f : En → SRs) : TS := fun E s H => ∃ F r, Rel K g F H s r ∧ SPost K g F E (f r)
def DS (X : Cx) (g : G) (st : Stmt) (f : En → SRs) : Prop := PS X st (tSD X.K g f)
def DSs (X : Cx) (g : G) (st : List Stmt) (f : En → SRs) : Prop := PSs X st (tSD X.K g f)

theorem SPost.mono {K : PySem.W.Frag} {g : G} {F F' : Hp} {E : Ends} {x : SRs} (h : SPost K g F E x) (e : Same F F') : SPost K g F' E x := by
  cases x with
  | nx r => exact fun F2 H2 s2 e2 R2 => h F2 H2 s2 (e.trans e2) R2
  | rt o r => exact fun F2 H2 s2 v e2 R2 => h F2 H2 s2 v (e.trans e2) R2
  | bk r => exact fun F2 H2 s2 e2 R2 => h F2 H2 s2 (e.trans e2) R2
  | ct r => exact fun F2 H2 s2 e2 R2 => h F2 H2 s2 (e.trans e2) R2
  | bad => exact h
  | ex x r => exact h

def seqS (f h : En → SRs) : En → SRs := fun r => match f r with
  | .nx r1 => h r1
  | x => x
def nxS : En → SRs := fun r => .nx r
/-- a result that goes on -/
def thenS {α : Type} (x : Rs α) (k : α → En → SRs) : SRs := match x with
  | .ok a r => k a r
  | .bad => .bad
  | .ex x r => .ex x r
theorem post_then {α : Type} {K : PySem.W.Frag} {g : G} {F : Hp} {E : Ends} {x : Rs α} {k : α → En → SRs} (h : SPost K g F E (thenS x k)) : post K g (fun a r => SPost K g F E (k a r)) x := by
  cases x with
  | ok a r => exact h
  | bad => exact h
  | ex x r => exact h

section
variable {X : Cx} {g : G} {e a b c : Expr} {pos : Pos} {st : Stmt} {sts : List Stmt}
theorem ds_nil : DSs X g [] nxS := PSs.imp pss_nil fun E s H ⟨F, r, R, q⟩ => q F H s (Same.refl _) R
theorem ds_cons {f h : En → SRs} (h1 : DS X g st f) (h2 : DSs X g sts h) : DSs X g (st :: sts) (seqS f h) :=
  PSs.imp (pss_cons h1 h2) fun E s H ⟨F, r, R, q⟩ => by
    refine ⟨F, r, R, ?_⟩
    unfold seqS at q
    revert q
    cases f r with
    | nx r1 => exact fun q F1 H1 s1 sm R1 => ⟨F1, r1, R1, q.mono sm⟩
    | rt o r1 => exact fun q => q
    | bk r1 => exact fun q => q
    | ct r1 => exact fun q => q
    | bad => exact fun q => q
    | ex x r1 => exact fun q => q
theorem ds_one {f : En → SRs} (h1 : DS X g st f) : DSs X g [st] f := pss_one h1
theorem ds_pass : DS X g (.Pass pos) nxS := PS.imp ps_pass fun E s H ⟨F, r, R, q⟩ => q F H s (Same.refl _) R
def bkS : En → SRs := fun r => .bk r
def ctS : En → SRs := fun r => .ct r
theorem ds_break : DS X g (.Break pos) bkS := PS.imp ps_break fun E s H ⟨F, r, R, q⟩ => q F H s (Same.refl _) R
theorem ds_continue : DS X g (.Continue pos) ctS := PS.imp ps_continue fun E s H ⟨F, r, R, q⟩ => q F H s (Same.refl _) R
def rtS (f : En → Rs OV) : En → SRs := fun r => thenS (f r) fun o r1 => .rt o r1
theorem ds_ret {f : En → Rs OV} (h : DO X g e f) : DS X g (.Return (some e) pos) (rtS f) :=
  PS.imp (ps_ret h) fun E s H ⟨F, r, R, q⟩ => ⟨F, r, R, post_mono (post_then q) fun o r1 q F1 H1 v sm R1 hv => q F1 H1 s v sm R1 hv⟩
def rtN : En → SRs := fun r => .rt (.sh .non) r
theorem ds_retN : DS X g (.Return none pos) rtN := PS.imp ps_retN fun E s H ⟨F, r, R, q⟩ => q F H s _ (Same.refl _) R RD.non
def ifS (t : En → Rs Bool) (f h : En → SRs) : En → SRs := fun r => thenS (t r) fun b r1 => if b = true then f r1 else h r1
theorem ds_if {t : En → Rs Bool} {f h : En → SRs} {sa sb : List Stmt} (hc : DT X g c t) (hf : DSs X g sa f) (hh : DSs X g sb h) : DS X g (.If c sa sb pos) (ifS t f h) :=
  PS.imp (ps_if hc hf hh) fun E s H ⟨F, r, R, q⟩ => ⟨F, r, R, post_mono (post_then q) fun b r1 q F1 H1 sm R1 => by
    cases b with
    | true => exact ⟨F1, r1, R1, q.mono sm⟩
    | false => exact ⟨F1, r1, R1, q.mono sm⟩⟩
/-- an expression whose value is dropped -/
def exS (f : En → Rs D) : En → SRs := fun r => thenS (f r) fun _ r1 => .nx r1
theorem ds_expr {f : En → Rs D} (h : DE X g e f) (hs : swapsWith e none pos.line X.env = pure false := by rfl) : DS X g (.Expr e pos) (exS f) :=
  PS.imp (ps_expr h hs) fun E s H ⟨F, r, R, q⟩ => ⟨F, r, R, post_mono (post_then q) fun o r1 q F1 H1 v sm R1 hv => q F1 H1 s sm R1⟩

/-! ### stores -/
/-- a slot gets a value -/
theorem Rel.set {K : PySem.W.Frag} {F H : Hp} {s : St} {r : En} {i : Nat} {v : V} {o : OV} (R : Rel K g F H s r) (hb : ∀ p ∈ g.B, p.1 ≠ i) (hv : RV K g F H s r v o) : Rel K g F H (s.set i (some v)) (r.set i (some o)) := by
  have hl := R.len
  have cs : ∀ (j : Nat) (u : OV), (r.set i (some o))[j]? = some (some u) → (j = i ∧ u = o ∧ (s.set i (some v))[j]? = some (some v)) ∨ (j ≠ i ∧ r[j]? = some (some u) ∧ (s.set i (some v))[j]? = s[j]?) := fun j u z => by
    by_cases hj : i = j
    · subst hj
      have hi : i < r.length := by
        have := (List.getElem?_eq_some_iff.mp z).1
        rw [List.length_set] at this
        exact this
      rw [List.getElem?_set_self hi] at z
      cases z
      exact .inl ⟨rfl, rfl, List.getElem?_set_self (by rw [← hl]; exact hi)⟩
    · rw [List.getElem?_set_ne hj] at z
      exact .inr ⟨fun z => hj z.symm, z, List.getElem?_set_ne hj⟩
  refine ⟨R.sub, R.f0, R.fnew, R.keep, fun j u z => ?_, fun j u a z zo za => ?_, fun j k u w a hjk z zo y yo za ya => ?_, fun p hp => ?_, by rw [List.length_set, List.length_set]; exact hl, fun p hp => ?_⟩
  · rcases cs j u z with ⟨rfl, rfl, e⟩ | ⟨hj, z', e⟩
    · refine ⟨v, e, ?_⟩
      cases u with
      | sh d => exact hv
      | ow xs =>
        obtain ⟨a, vs, e1, e2, e3, e4, _⟩ := hv
        exact ⟨a, vs, e1, e2, e3, e4⟩
      | od xs => exact hv.elim
      | oi c xs => exact hv.elim
      | exc c => exact hv.elim
    · rw [e]; exact R.slot j u z'
  · rcases cs j u z with ⟨rfl, rfl, e⟩ | ⟨hj, z', e⟩
    · rw [e] at za
      cases za
      cases u with
      | sh d => cases zo
      | ow xs =>
        obtain ⟨b, vs, e1, e2, e3, e4, e5, _⟩ := hv
        cases e1
        exact .inl e5
      | od xs => exact hv.elim
      | oi c xs => exact hv.elim
      | exc c => exact hv.elim
    · rw [e] at za; exact R.own j u a z' zo za
  · have key : ∀ (k : Nat) (w : OV), r[k]? = some (some w) → w.own = true → s[k]? = some (some (.ref a)) → v = .ref a → o.own = true → False := fun k2 w2 y2 yo2 ya2 hva ho => by
      cases o with
      | sh d => cases ho
      | ow xs =>
        obtain ⟨b, vs, e1, e2, e3, e4, e5, e6, e7⟩ := hv
        rw [hva] at e1
        cases e1
        exact e6 k2 w2 y2 yo2 ya2
      | od xs => exact hv.elim
      | oi c xs => exact hv.elim
      | exc c => exact hv.elim
    rcases cs j u z with ⟨ej, eu, e⟩ | ⟨hj, z', e⟩
    · rcases cs k w y with ⟨ek, _, _⟩ | ⟨hk, y', e'⟩
      · exact hjk (ej.trans ek.symm)
      · rw [e] at za
        rw [e'] at ya
        exact key k w y' yo ya (by cases za; rfl) (by rw [← eu]; exact zo)
    · rcases cs k w y with ⟨ek, ew, e'⟩ | ⟨hk, y', e'⟩
      · rw [e'] at ya
        rw [e] at za
        exact key j u z' zo za (by cases ya; rfl) (by rw [← ew]; exact yo)
      · rw [e] at za
        rw [e'] at ya
        exact R.dist j k u w a hjk z' zo y' yo za ya
  · obtain ⟨p1, u, p2, p3⟩ := R.pin p hp
    have h := hb p hp
    exact ⟨by rw [List.getElem?_set_ne fun z => h z.symm]; exact p1, u, by rw [List.getElem?_set_ne fun z => h z.symm]; exact p2, p3⟩
  · obtain ⟨x1, x2, x3⟩ := R.ext p hp
    refine ⟨x1, x2, fun j u z zo za => ?_⟩
    rcases cs j u z with ⟨rfl, rfl, e⟩ | ⟨hj, z', e⟩
    · rw [e] at za
      cases u with
      | sh d => cases zo
      | ow xs =>
        obtain ⟨b, vs, e1, e2, e3, e4, e5, e6, e7⟩ := hv
        cases za
        cases e1
        exact e7 p hp rfl
      | od xs => exact hv.elim
      | oi c xs => exact hv.elim
      | exc c => exact hv.elim
    · rw [e] at za; exact x3 j u z' zo za
def setS (i : Nat) (f : En → Rs OV) : En → SRs := fun r => thenS (f r) fun o r1 => .nx (r1.set i (some o))
theorem ds_set {i : Nat} {x : Str} {pos' : Pos} {f : En → Rs OV} (hb : ∀ p ∈ g.B, p.1 ≠ i) (hN : X.N.Nodup) (h : DO X g e f) (hi : X.N[i]? = some x := by rfl) (hx : Loc X.env.scope x := by first | exact Or.inl rfl | exact Or.inr rfl)
    (hs : swapsWith e (some (.Name x pos')) pos.line X.env = pure false := by rfl) (hf : X.fn x = true ∨ X.env.scope.names.lookup x = some .local := by first | exact .inl rfl | exact .inr rfl | assumption) : DS X g (.Assign [.Name x pos'] e pos) (setS i f) :=
  PS.imp (ps_set hN hi hx h hs hf) fun E s H ⟨F, r, R, q⟩ => ⟨F, r, R, post_mono (post_then q) fun o r1 q F1 H1 v sm R1 hv => q F1 H1 _ sm (R1.set hb hv)⟩

/-! ### targets (ks: the slots that are stored to) -/
def Agr (ks : List Nat) (s s' : St) : Prop := s'.length = s.length ∧ ∀ i : Nat, i ∉ ks → s'[i]? = s[i]?
theorem Agr.refl (ks : List Nat) (s : St) : Agr ks s s := ⟨rfl, fun _ _ => rfl⟩
theorem Agr.trans {k1 k2 : List Nat} {s s1 s2 : St} (a : Agr k1 s s1) (b : Agr k2 s1 s2) : Agr (k1 ++ k2) s s2 :=
  ⟨b.1.trans a.1, fun i hi => (b.2 i fun z => hi (List.mem_append_right _ z)).trans (a.2 i fun z => hi (List.mem_append_left _ z))⟩
def tGD (K : PySem.W.Frag) (g : G) (ks : List Nat) (h : D → En → Option En) : TG := fun v s H Q => ∃ F r d r', Rel K g F H s r ∧ RD K F v d ∧ h d r = some r' ∧ ∀ s', Agr ks s s' → Rel K g F H s' r' → Q s' H
def DG (X : Cx) (g : G) (e : Expr) (ks : List Nat) (h : D → En → Option En) : Prop := PG X e (tGD X.K g ks h)
theorem PG.imp {X : Cx} {e : Expr} {t t' : TG} (h : PG X e t) (i : ∀ v s H Q, t' v s H Q → t v s H Q) : PG X e t' :=
  ⟨fun pins s σ H v u Q I rv q => h.run pins s σ H v u Q I rv (i v σ H Q q)⟩
theorem PGs.imp {X : Cx} {e : List Expr} {t t' : TGs} (h : PGs X e t) (i : ∀ v s H Q, t' v s H Q → t v s H Q) : PGs X e t' :=
  ⟨fun pins s σ H v u Q I rv q => h.run pins s σ H v u Q I rv (i v σ H Q q)⟩
def gN (i : Nat) : D → En → Option En := fun d r => some (r.set i (some (.sh d)))
theorem dg_name {i : Nat} {x : Str} (hb : ∀ p ∈ g.B, p.1 ≠ i) (hN : X.N.Nodup) (hi : X.N[i]? = some x := by rfl) (hx : Loc X.env.scope x := by first | exact Or.inl rfl | exact Or.inr rfl)
    (hf : X.fn x = true ∨ X.env.scope.names.lookup x = some .local := by first | exact .inl rfl | exact .inr rfl | assumption) : DG X g (.Name x pos) [i] (gN i) :=
  PG.imp (pg_name hN hi hx hf) fun v s H Q ⟨F, r, d, r', R, hd, e, q⟩ => by
    cases e
    exact q _ ⟨List.length_set .., fun j hj => List.getElem?_set_ne fun z => hj (by rw [z]; exact List.mem_singleton.mpr rfl)⟩ (R.set hb (o := .sh d) hd)
def tGsD (K : PySem.W.Frag) (g : G) (ks : List Nat) (h : List D → En → Option En) : TGs := fun vs s H Q => ∃ F r ds r', Rel K g F H s r ∧ RDs K F vs ds ∧ h ds r = some r' ∧ ∀ s', Agr ks s s' → Rel K g F H s' r' → Q s' H
def DGs (X : Cx) (g : G) (es : List Expr) (ks : List Nat) (h : List D → En → Option En) : Prop := PGs X es (tGsD X.K g ks h)
def gsNil : List D → En → Option En
  | [], r => some r
  | _ :: _, _ => none
def gsCons (h : D → En → Option En) (hs : List D → En → Option En) : List D → En → Option En
  | [], _ => none
  | d :: ds, r => (h d r).bind fun r1 => hs ds r1
theorem dgs_nil : DGs X g [] [] gsNil := PGs.imp pgs_nil fun vs s H Q ⟨F, r, ds, r', R, hd, e, q⟩ => by
  cases ds with
  | nil => cases hd; cases e; exact ⟨rfl, q s (Agr.refl _ _) R⟩
  | cons d ds => cases e
theorem dgs_cons {es : List Expr} {k1 k2 : List Nat} {h : D → En → Option En} {hs : List D → En → Option En} (h1 : DG X g e k1 h) (h2 : DGs X g es k2 hs)
    (ha : (assignEach (e :: es) X.env).map (·.2) = assign e X.env :: (assignEach es X.env).map (·.2) := by rfl) : DGs X g (e :: es) (k1 ++ k2) (gsCons h hs) :=
  PGs.imp (pgs_cons h1 h2 ha) fun vs s H Q ⟨F, r, ds, r', R, hd, e, q⟩ => by
    cases ds with
    | nil => cases e
    | cons d ds =>
      obtain ⟨r1, e1, e2⟩ := Option.bind_eq_some_iff.mp e
      cases hd with
      | cons a1 a2 => exact ⟨_, _, rfl, F, r, d, r1, R, a1, e1, fun s1 g1 R1 => ⟨F, r1, ds, r', R1, a2, e2, fun s2 g2 R2 => q s2 (g1.trans g2) R2⟩⟩
def gT (n : Nat) (hs : List D → En → Option En) : D → En → Option En
  | .tup ds, r => if ds.length = n then hs ds r else none
  | .lst ds, r => if ds.length = n then hs ds r else none
  | _, _ => none
theorem gT_some {n : Nat} {hs : List D → En → Option En} {d : D} {r r' : En} (e : gT n hs d r = some r') : ∃ ds, (d = .tup ds ∨ d = .lst ds) ∧ ds.length = n ∧ hs ds r = some r' := by
  cases d with
  | tup ds =>
    have e' : (if ds.length = n then hs ds r else none) = some r' := e
    by_cases hl : ds.length = n
    · rw [if_pos hl] at e'; exact ⟨ds, .inl rfl, hl, e'⟩
    · rw [if_neg hl] at e'; cases e'
  | lst ds =>
    have e' : (if ds.length = n then hs ds r else none) = some r' := e
    by_cases hl : ds.length = n
    · rw [if_pos hl] at e'; exact ⟨ds, .inr rfl, hl, e'⟩
    · rw [if_neg hl] at e'; cases e'
  | _ => cases e
theorem dg_tup {es : List Expr} {k n : Nat} {ks : List Nat} {hs : List D → En → Option En} (hc : X.calm = true) (h : DGs X g es ks hs) (hn : (assignEach es X.env).length = n := by rfl) (hst : (assignEach es X.env).findIdx? (·.1) = none := by rfl) : DG X g (.Tuple es k pos) ks (gT n hs) :=
  ⟨fun pins s σ H v u Q I rv ⟨F, r, d, r', R, hd, e, q⟩ => by
    obtain ⟨ds, ed, hl, e'⟩ := gT_some e
    rcases ed with rfl | rfl
    · cases hd with
      | tup a1 a2 => exact (pg_tup hc h hn hst).run pins s σ H _ u Q I rv ⟨_, _, rfl, same_sqT R.sub a1, by rw [a2.length]; exact hl, F, r, ds, r', R, a2, e', q⟩
    · cases hd with
      | lst a1 a2 => exact (pg_unl hc h hn hst).run pins s σ H _ u Q I rv ⟨_, _, rfl, .of (R.sub _ _ a1), by rw [a2.length]; exact hl, F, r, ds, r', R, a2, e', q⟩⟩
def asgS (f : En → Rs D) (h : D → En → Option En) : En → SRs := fun r => thenS (f r) fun d r1 => match h d r1 with
  | some r2 => .nx r2
  | none => .bad
theorem ds_asg {tg : Expr} {f : En → Rs D} {ks : List Nat} {h : D → En → Option En} (he : DE X g e f) (hg : DG X g tg ks h) (hs : swapsWithSole [tg] e pos.line X.env = pure false := by rfl) (hw : swappedStores [tg] e X.env = pure none := by rfl)
    (h1 : (assignEach [tg] X.env).map (·.2) = [assign tg X.env] := by rfl) : DS X g (.Assign [tg] e pos) (asgS f h) :=
  PS.imp (ps_asg he hg hs hw h1) fun E s H ⟨F, r, R, q⟩ => ⟨F, r, R, post_mono (post_then q) fun d r1 q F1 H1 v sm R1 hv => by
    revert q
    cases eh : h d r1 with
    | none => exact fun q => q.elim
    | some r2 => exact fun q => ⟨F1, r1, d, r2, R1, hv, eh, fun s' _ R' => q F1 H1 s' sm R'⟩⟩
end
end DL

/-! Data layer, part 4: what is walked, for, list comprehensions. -/
namespace DL
open PySem L2

/-- the iterator J yields the data ds -/
def Wk (K : PySem.W.Frag) (B : List (Nat × Addr)) (F : Hp) (J : It) (ds : List D) : Prop :=
  ∀ (g : G) (F1 H1 : Hp) (s : St) (r : En), g.B = B → Same F F1 → Rel K g F1 H1 s r →
    (∀ (i : Nat) (d : D), ds[i]? = some d → J.go i H1 ∧ ∀ x H2, J.yld i H1 x H2 → ∃ F2, Same F1 F2 ∧ Rel K g F2 H2 s r ∧ RD K F2 x d) ∧ (∀ i, ds.length ≤ i → J.stop i H1)
theorem Wk.mono {K : PySem.W.Frag} {B : List (Nat × Addr)} {F F' : Hp} {J : It} {ds : List D} (h : Wk K B F J ds) (e : Same F F') : Wk K B F' J ds := fun g F1 H1 s r hB e1 R => h g F1 H1 s r hB (e.trans e1) R
def PI' (K : PySem.W.Frag) (g : G) (F : Hp) (s : St) (Q : It → Hp → Prop) (ds : List D) (r' : En) : Prop := ∀ F' H' J, Same F F' → Rel K g F' H' s r' → Wk K g.B F' J ds → Q J H'
def tID (K : PySem.W.Frag) (g : G) (f : En → Rs (List D)) : TI := fun s H Q => ∃ F r, Rel K g F H s r ∧ post K g (PI' K g F s Q) (f r)
def DI (X : Cx) (g : G) (tg e : Expr) (f : En → Rs (List D)) : Prop := PI X tg e (tID X.K g f)

/-- over a list; over a tuple -/
def D.asL : D → Option (List D)
  | .lst ds => some ds
  | _ => none
def D.asT : D → Option (List D)
  | .tup ds => some ds
  | _ => none
def itL (f : En → Rs D) : En → Rs (List D) := fun r => (f r).bind fun d r1 => ofO d.asL r1
def itT (f : En → Rs D) : En → Rs (List D) := fun r => (f r).bind fun d r1 => ofO d.asT r1
theorem asL_some {d : D} {ds : List D} (h : d.asL = some ds) : d = .lst ds := by
  cases d <;> first | (cases h; rfl) | cases h
theorem asT_some {d : D} {ds : List D} (h : d.asT = some ds) : d = .tup ds := by
  cases d <;> first | (cases h; rfl) | cases h
section
variable {X : Cx} {g : G} {e a b c tg : Expr} {pos : Pos}
theorem wk_list {K : PySem.W.Frag} {B : List (Nat × Addr)} {F : Hp} {p : Addr} {vs : List V} {ds : List D} (h1 : F p = some (.lst vs)) (h2 : RDs K F vs ds) : Wk K B F (Itl K p) ds := fun g F1 H1 s r _ sm R => by
  have h1' : SqL K H1 p vs := .of (R.sub _ _ (sm _ _ h1))
  refine ⟨fun i d e => ?_, fun i hi => ⟨vs, h1', by rw [h2.length]; exact hi⟩⟩
  obtain ⟨v, e1, e2⟩ := h2.get e
  refine ⟨⟨vs, v, h1', e1⟩, fun x H2 ⟨eh, ey⟩ => ?_⟩
  subst eh
  have := ey vs h1'
  rw [e1] at this
  cases this
  exact ⟨F1, Same.refl _, R, RD.mono sm d e2⟩
theorem wk_tup {K : PySem.W.Frag} {B : List (Nat × Addr)} {F : Hp} {p : Addr} {vs : List V} {ds : List D} (h1 : SqT K F p vs) (h2 : RDs K F vs ds) : Wk K B F (Itt K p) ds := fun g F1 H1 s r _ sm R => by
  have h1' := same_sqT R.sub (same_sqT sm h1)
  refine ⟨fun i d e => ?_, fun i hi => ⟨vs, h1', by rw [h2.length]; exact hi⟩⟩
  obtain ⟨v, e1, e2⟩ := h2.get e
  refine ⟨⟨vs, v, h1', e1⟩, fun x H2 ⟨eh, ey⟩ => ?_⟩
  subst eh
  have := ey vs h1'
  rw [e1] at this
  cases this
  exact ⟨F1, Same.refl _, R, RD.mono sm d e2⟩
theorem di_list {f : En → Rs D} (h : DE X g e f) : DI X g tg e (itL f) :=
  PI.imp (pi_list h) fun s H Q ⟨F, r, R, q⟩ => ⟨F, r, R, post_mono (post_bind q) fun d r1 q F1 H1 v sm R1 hv => by
    obtain ⟨ds, ed, q⟩ := post_ofO q
    have ed := asL_some ed
    subst ed
    cases hv with
    | lst h1 h2 => exact ⟨_, rfl, ⟨_, .of (R1.sub _ _ h1)⟩, q F1 H1 _ sm R1 (wk_list h1 h2)⟩⟩
theorem di_tup {f : En → Rs D} (h : DE X g e f) : DI X g tg e (itT f) :=
  PI.imp (pi_tup h) fun s H Q ⟨F, r, R, q⟩ => ⟨F, r, R, post_mono (post_bind q) fun d r1 q F1 H1 v sm R1 hv => by
    obtain ⟨ds, ed, q⟩ := post_ofO q
    have ed := asT_some ed
    subst ed
    cases hv with
    | tup h1 h2 => exact ⟨_, rfl, ⟨_, same_sqT R1.sub h1⟩, q F1 H1 _ sm R1 (wk_tup h1 h2)⟩⟩
def D.asI : D → Option Int
  | .int i => some i
  | _ => none
theorem asI_some {d : D} {i : Int} (h : d.asI = some i) : d = .int i := by
  cases d <;> first | (cases h; rfl) | cases h
/-- lo, lo + 1, .. : n of them -/
def rangeD (lo : Int) (n : Nat) : List D := (List.range n).map fun (k : Nat) => D.int (lo + (k : Int))
theorem rangeD_get {lo : Int} {n i : Nat} {d : D} (h : (rangeD lo n)[i]? = some d) : i < n ∧ d = .int (lo + i) := by
  unfold rangeD at h
  rw [List.getElem?_map] at h
  obtain ⟨k, h1, h2⟩ := Option.map_eq_some_iff.mp h
  obtain ⟨h3, h4⟩ := List.getElem?_eq_some_iff.mp h1
  rw [List.length_range] at h3
  rw [List.getElem_range] at h4
  exact ⟨h3, by rw [← h2, ← h4]⟩
theorem wk_range {K : PySem.W.Frag} {B : List (Nat × Addr)} {F : Hp} {lo : Int} {n : Nat} : Wk K B F (Itr lo n) (rangeD lo n) := fun g F1 H1 s r _ sm R => by
  refine ⟨fun i d e => ?_, fun i hi => ?_⟩
  · obtain ⟨h1, rfl⟩ := rangeD_get e
    refine ⟨h1, fun x H2 ⟨eh, ex⟩ => ?_⟩
    subst eh ex
    exact ⟨F1, Same.refl _, R, .int _⟩
  · unfold rangeD at hi
    rw [List.length_map, List.length_range] at hi
    exact hi
def rg1 (f : En → Rs D) : En → Rs (List D) := fun r => (f r).bind fun d r1 => (ofO d.asI r1).bind fun i r1 => if -1000000 ≤ i ∧ i ≤ 1000000 then .ok (rangeD 0 i.toNat) r1 else .bad
def rg2 (f h : En → Rs D) : En → Rs (List D) := fun r => (f r).bind fun d r1 => (h r1).bind fun d' r2 => (ofO d.asI r2).bind fun i r2 => (ofO d'.asI r2).bind fun j r2 => if (-1000000 ≤ i ∧ i ≤ 1000000) ∧ -1000000 ≤ j ∧ j ≤ 1000000 then .ok (rangeD i (j - i).toNat) r2 else .bad
theorem di_range1 {f : En → Rs D} {p : Pos} (hg : Gl X "range") (hm : X.mg "range" = none) (h : DE X g a f) (hs : starEach [a] X.env = [(false, eval a X.env)] := by rfl) : DI X g tg (.Call (.Name "range" p) [a] [] pos) (rg1 f) :=
  PI.imp (pi_range1 hg hm (pa_cons h pa_nil hs) hs) fun s H Q ⟨F, r, R, q⟩ => ⟨F, r, R, post_mono (post_bind q) fun d r1 q F1 H1 v sm R1 hv => by
    obtain ⟨i, ed, q⟩ := post_ofO (post_bind q)
    have ed := asI_some ed
    subst ed
    obtain ⟨hi, q⟩ := post_if q
    cases hv
    exact ⟨i, rfl, by omega, by omega, q F1 H1 _ sm R1 wk_range⟩⟩
theorem di_range2 {f h : En → Rs D} {p : Pos} (hg : Gl X "range") (hm : X.mg "range" = none) (hf : DE X g a f) (hh : DE X g b h) (hs : starEach [a, b] X.env = [(false, eval a X.env), (false, eval b X.env)] := by rfl) (hs2 : starEach [b] X.env = [(false, eval b X.env)] := by rfl)
    (hs3 : starEach [a, b] X.env = (false, eval a X.env) :: starEach [b] X.env := by rfl) : DI X g tg (.Call (.Name "range" p) [a, b] [] pos) (rg2 f h) :=
  PI.imp (pi_range2 hg hm (pa_cons hf (pa_cons hh pa_nil hs2) hs3) hs hs2) fun s H Q ⟨F, r, R, q⟩ => ⟨F, r, R, post_mono (post_bind q) fun d r1 q F1 H1 v sm R1 hv => ⟨F1, r1, R1, post_mono (post_bind q) fun d' r2 q F2 H2 v' sm' R2 hv' => by
    obtain ⟨i, ed, q1⟩ := post_ofO (post_bind q)
    obtain ⟨j, ed', q2⟩ := post_ofO (post_bind q1)
    obtain ⟨hi, q3⟩ := post_if q2
    have ed := asI_some ed
    have ed' := asI_some ed'
    subst ed ed'
    cases hv
    cases hv'
    exact ⟨i, j, rfl, by omega, q3 F2 H2 _ (sm.trans sm') R2 wk_range⟩⟩⟩

/-! ### for -/
def forS (h : D → En → Option En) (body : En → SRs) : List D → En → SRs
  | [], r => .nx r
  | d :: ds, r =>
    match h d r with
    | none => .bad
    | some r1 =>
      match body r1 with
      | .nx r2 => forS h body ds r2
      | .ct r2 => forS h body ds r2
      | .bk r2 => .nx r2
      | .rt o r2 => .rt o r2
      | .bad => .bad
      | .ex x r2 => .ex x r2
def forD (f : En → Rs (List D)) (h : D → En → Option En) (body : En → SRs) : En → SRs := fun r => thenS (f r) fun ds r1 => forS h body ds r1
theorem ds_for {f : En → Rs (List D)} {ks : List Nat} {h : D → En → Option En} {bf : En → SRs} {body : List Stmt} {iter : Expr} (hp : PassesOwn (model X.prog X.w) X.A X.env X.xe) (hc : X.calm = true)
    (hi : DI X g tg iter f) (hg : DG X g tg ks h) (hb : DSs X g body bf) (hs : ∀ x, foldedSetIterable iter X.env x = pure x := by intro _; rfl) : DS X g (.For tg iter body [] pos) (forD f h bf) :=
  PS.imp (ps_for hp hc hi hg hb hs) fun E s H ⟨F, r, R, q⟩ => ⟨F, r, R, post_mono (post_then q) fun ds r1 q F1 H1 J sm R1 wk => by
    refine ⟨fun i m s2 H2 => m = ds.length - i ∧ i ≤ ds.length ∧ ∃ F2 r2, Same F1 F2 ∧ Rel X.K g F2 H2 s2 r2 ∧ SPost X.K g F1 E (forS h bf (ds.drop i) r2), ⟨ds.length, rfl, Nat.zero_le _, F1, r1, Same.refl _, R1, by rw [List.drop_zero]; exact q.mono sm⟩, ?_⟩
    rintro i m s2 H2 ⟨rfl, hi, F2, r2, sm2, R2, q2⟩
    obtain ⟨w1, w2⟩ := wk g F2 H2 s2 r2 rfl sm2 R2
    by_cases hlt : i < ds.length
    · have ed : ds[i]? = some ds[i] := List.getElem?_eq_getElem hlt
      obtain ⟨go, yl⟩ := w1 i _ ed
      rw [List.drop_eq_getElem_cons hlt] at q2
      refine .inr ⟨go, fun s3 H3 => ∃ F3 r3, Same F1 F3 ∧ Rel X.K g F3 H3 s3 r3 ∧ SPost X.K g F1 E (forS h bf (ds.drop (i + 1)) r3), fun s3 H3 ⟨F3, r3, a1, a2, a3⟩ => ⟨ds.length - (i + 1), by omega, rfl, hlt, F3, r3, a1, a2, a3⟩, fun x H3 hy => ?_⟩
      obtain ⟨F3, sm3, R3, hx⟩ := yl x H3 hy
      have q3 : SPost X.K g F1 E (match h ds[i] r2 with
        | none => .bad
        | some r1 => match bf r1 with
          | .nx r2 => forS h bf (ds.drop (i + 1)) r2
          | .ct r2 => forS h bf (ds.drop (i + 1)) r2
          | .bk r2 => .nx r2
          | .rt o r2 => .rt o r2
          | .bad => .bad
          | .ex x r2 => .ex x r2) := q2
      cases eh : h ds[i] r2 with
      | none => rw [eh] at q3; exact q3.elim
      | some r3 =>
        rw [eh] at q3
        refine ⟨F3, r2, ds[i], r3, R3, hx, eh, fun s4 _ R4 => ⟨F3, r3, R4, ?_⟩⟩
        have sm13 : Same F1 F3 := sm2.trans sm3
        revert q3
        show SPost X.K g F1 E (match bf r3 with
          | .nx r2 => forS h bf (ds.drop (i + 1)) r2
          | .ct r2 => forS h bf (ds.drop (i + 1)) r2
          | .bk r2 => .nx r2
          | .rt o r2 => .rt o r2
          | .bad => .bad
          | .ex x r2 => .ex x r2) → _
        cases bf r3 with
        | nx r4 => exact fun q3 F5 H5 s5 sm5 R5 => ⟨F5, r4, sm13.trans sm5, R5, q3⟩
        | ct r4 => exact fun q3 F5 H5 s5 sm5 R5 => ⟨F5, r4, sm13.trans sm5, R5, q3⟩
        | bk r4 => exact fun q3 F5 H5 s5 sm5 R5 => q3 F5 H5 s5 (sm13.trans sm5) R5
        | rt o r4 => exact fun q3 F5 H5 s5 v sm5 R5 hv => q3 F5 H5 s5 v (sm13.trans sm5) R5 hv
        | bad => exact fun q3 => q3
        | ex x r4 => exact fun q3 => q3
    · have ei : i = ds.length := by omega
      rw [List.drop_of_length_le (by omega)] at q2
      exact .inl ⟨w2 i (by omega), q2 F2 H2 s2 sm2 R2⟩⟩

/-! ### while -/
/-- fuel: the turns at most -/
def whS (c : En → Rs Bool) (body : En → SRs) : Nat → En → SRs
  | 0, _ => .bad
  | n + 1, r => thenS (c r) fun b r1 => if b = true then
      match body r1 with
      | .nx r2 => whS c body n r2
      | .ct r2 => whS c body n r2
      | .bk r2 => .nx r2
      | .rt o r2 => .rt o r2
      | .bad => .bad
      | .ex x r2 => .ex x r2
    else .nx r1
theorem ds_while {t : En → Rs Bool} {bf : En → SRs} {body : List Stmt} (n : Nat) (hp : PassesOwn (model X.prog X.w) X.A X.env X.xe) (hc : DT X g c t) (hb : DSs X g body bf) : DS X g (.While c body [] pos) (whS t bf n) :=
  PS.imp (ps_while hp hc hb) fun E s H ⟨F, r, R, q⟩ => by
    refine ⟨fun m s2 H2 => ∃ F2 r2, Same F F2 ∧ Rel X.K g F2 H2 s2 r2 ∧ SPost X.K g F E (whS t bf m r2), ⟨n, F, r, Same.refl _, R, q⟩, ?_⟩
    rintro m s2 H2 ⟨F2, r2, sm2, R2, q2⟩
    cases m with
    | zero => exact q2.elim
    | succ m =>
      refine ⟨F2, r2, R2, post_mono (post_then (show SPost X.K g F E (thenS (t r2) _) from q2)) fun b r3 q3 F3 H3 sm3 R3 => ?_⟩
      have sm13 : Same F F3 := sm2.trans sm3
      cases b with
      | false => exact q3 F3 H3 s2 sm13 R3
      | true =>
        refine ⟨fun s4 H4 => ∃ F4 r4, Same F F4 ∧ Rel X.K g F4 H4 s4 r4 ∧ SPost X.K g F E (whS t bf m r4), fun s4 H4 hh => ⟨m, Nat.lt_succ_self m, hh⟩, F3, r3, R3, ?_⟩
        revert q3
        show SPost X.K g F E (match bf r3 with
          | .nx r2 => whS t bf m r2
          | .ct r2 => whS t bf m r2
          | .bk r2 => .nx r2
          | .rt o r2 => .rt o r2
          | .bad => .bad
          | .ex x r2 => .ex x r2) → _
        cases bf r3 with
        | nx r4 => exact fun q3 F5 H5 s5 sm5 R5 => ⟨F5, r4, sm13.trans sm5, R5, q3⟩
        | ct r4 => exact fun q3 F5 H5 s5 sm5 R5 => ⟨F5, r4, sm13.trans sm5, R5, q3⟩
        | bk r4 => exact fun q3 F5 H5 s5 sm5 R5 => q3 F5 H5 s5 (sm13.trans sm5) R5
        | rt o r4 => exact fun q3 F5 H5 s5 v sm5 R5 hv => q3 F5 H5 s5 v (sm13.trans sm5) R5 hv
        | bad => exact fun q3 => q3
        | ex x r4 => exact fun q3 => q3

/-! ### list comprehensions -/
/-- without a wish about errors -/
def G.nw (g : G) : G := { g with W := none }
/-- a block's own: no error leaves it -/
structure Blk (g g' : G) : Prop where
  B : g'.B = g.B
  w : g'.w = g.w
  xc : g'.xc = g.xc
  W : g'.W = none
theorem Rel.nw {K : PySem.W.Frag} {g : G} {F H : Hp} {s : St} {r : En} (R : Rel K g F H s r) : Rel K g.nw F H s r := ⟨R.sub, R.f0, R.fnew, R.keep, R.slot, R.own, R.dist, R.pin, R.len, R.ext⟩
theorem Rel.unw {K : PySem.W.Frag} {g : G} {F H : Hp} {s : St} {r : En} (R : Rel K g.nw F H s r) : Rel K g F H s r := ⟨R.sub, R.f0, R.fnew, R.keep, R.slot, R.own, R.dist, R.pin, R.len, R.ext⟩
theorem post_w {α : Type} {K : PySem.W.Frag} {g g' : G} {P : α → En → Prop} {x : Rs α} (h : post K g P x) (hw : g.W = none := by rfl) : post K g' P x := by
  cases x with
  | ok a r => exact h
  | bad => exact h
  | ex x r =>
    have h : exW K g x r := h
    unfold exW at h
    rw [hw] at h
    exact h.elim
def wipeE (r : En) : List Nat → En
  | [] => r
  | v :: vs => (wipeE r vs).set v none
theorem wipeE_len (r : En) : ∀ vs, (wipeE r vs).length = r.length
  | [] => rfl
  | v :: vs => by unfold wipeE; rw [List.length_set, wipeE_len r vs]
theorem wipeE_some {r : En} {i : Nat} {o : OV} : ∀ {vs : List Nat}, (wipeE r vs)[i]? = some (some o) → r[i]? = some (some o) ∧ i ∉ vs
  | [], h => ⟨h, by simp⟩
  | v :: vs, h => by
    unfold wipeE at h
    by_cases hv : v = i
    · subst hv
      by_cases hl : v < (wipeE r vs).length
      · rw [List.getElem?_set_self hl] at h; cases h
      · rw [List.getElem?_eq_none (by simpa using hl)] at h; cases h
    · rw [List.getElem?_set_ne hv] at h
      obtain ⟨h1, h2⟩ := wipeE_some h
      exact ⟨h1, fun z => (List.mem_cons.mp z).elim (fun z => hv z.symm) h2⟩
theorem wipeE_keep {r : En} {i : Nat} : ∀ {vs : List Nat}, i ∉ vs → (wipeE r vs)[i]? = r[i]?
  | [], _ => rfl
  | v :: vs, h => by
    unfold wipeE
    rw [List.getElem?_set_ne fun z => h (by rw [z]; exact List.mem_cons_self ..)]
    exact wipeE_keep fun z => h (List.mem_cons_of_mem _ z)
theorem wipe_keep {s : St} {i : Nat} : ∀ {vs : List Nat}, i ∉ vs → (wipe s vs)[i]? = s[i]?
  | [], _ => rfl
  | v :: vs, h => by
    unfold wipe
    rw [List.getElem?_set_ne fun z => h (by rw [z]; exact List.mem_cons_self ..)]
    exact wipe_keep fun z => h (List.mem_cons_of_mem _ z)
/-- forget the slots vs -/
theorem Rel.forget {K : PySem.W.Frag} {F H : Hp} {s s' : St} {r : En} {vs : List Nat} (R : Rel K g F H s r) (hb : ∀ p ∈ g.B, p.1 ∉ vs) (hl : s'.length = s.length) (hs : ∀ i, i ∉ vs → s'[i]? = s[i]?) : Rel K g F H s' (wipeE r vs) := by
  refine ⟨R.sub, R.f0, R.fnew, R.keep, fun i o e => ?_, fun i o a e eo ea => ?_, fun i j o u a hij e eo e' eo' ea ea' => ?_, fun p hp => ?_, by rw [wipeE_len, hl]; exact R.len, fun p hp => ?_⟩
  · obtain ⟨h1, h2⟩ := wipeE_some e
    obtain ⟨v, h3, h4⟩ := R.slot i o h1
    exact ⟨v, by rw [hs i h2]; exact h3, h4⟩
  · obtain ⟨h1, h2⟩ := wipeE_some e
    rw [hs i h2] at ea
    exact R.own i o a h1 eo ea
  · obtain ⟨h1, h2⟩ := wipeE_some e
    obtain ⟨h3, h4⟩ := wipeE_some e'
    rw [hs i h2] at ea
    rw [hs j h4] at ea'
    exact R.dist i j o u a hij h1 eo h3 eo' ea ea'
  · obtain ⟨p1, o, p2, p3⟩ := R.pin p hp
    exact ⟨by rw [hs _ (hb p hp)]; exact p1, o, by rw [wipeE_keep (hb p hp)]; exact p2, p3⟩
  · obtain ⟨x1, x2, x3⟩ := R.ext p hp
    refine ⟨x1, x2, fun j o e eo => ?_⟩
    obtain ⟨h1, h2⟩ := wipeE_some e
    rw [hs j h2]
    exact x3 j o h1 eo
theorem agr_wipe {ks vs : List Nat} {s s' : St} (a : Agr ks (wipe s vs) s') (h : ∀ i ∈ ks, i ∈ vs) : wipe s' vs = wipe s vs := by
  refine List.ext_getElem? fun i => ?_
  by_cases hi : i ∈ vs
  · have no : ∀ (t : St) (us : List Nat), i ∈ us → (wipe t us)[i]? = if i < t.length then some none else none := fun t us => by
      induction us with
      | nil => intro z; cases z
      | cons v us ih =>
        intro z
        unfold wipe
        by_cases hv : v = i
        · subst hv
          by_cases hl : v < (wipe t us).length
          · rw [List.getElem?_set_self hl, if_pos (by rw [wipe_length] at hl; exact hl)]
          · rw [List.getElem?_eq_none (by simpa using hl), if_neg (by rw [wipe_length] at hl; exact hl)]
        · rw [List.getElem?_set_ne hv]
          exact ih ((List.mem_cons.mp z).resolve_left fun z => hv z.symm)
    rw [no _ _ hi, no _ _ hi, a.1, wipe_length]
  · rw [wipe_keep hi, a.2 i fun z => hi (h i z)]
def lcS (vs : List Nat) (h : D → En → Option En) (t : En → Rs Bool) (elt : En → Rs D) : List D → En → Rs (List D)
  | [], r => .ok [] r
  | d :: ds, r =>
    match h d (wipeE r vs) with
    | none => .bad
    | some r1 => (t r1).bind fun b r2 => if b = true then (elt r2).bind fun y r3 => (lcS vs h t elt ds (wipeE r3 vs)).bind fun ys r4 => .ok (y :: ys) r4 else lcS vs h t elt ds (wipeE r2 vs)
def lcD (f : En → Rs (List D)) (vs : List Nat) (h : D → En → Option En) (t : En → Rs Bool) (elt : En → Rs D) : En → Rs OV := fun r => (f r).bind fun ds r1 => if ds.length ≤ 1000000 then (lcS vs h t elt ds r1).noE.bind fun ys r2 => .ok (.ow ys) (wipeE r2 vs) else .bad
theorem lcS_len {vs : List Nat} {h : D → En → Option En} {t : En → Rs Bool} {elt : En → Rs D} : ∀ {ds : List D} {r r' : En} {ys : List D}, lcS vs h t elt ds r = .ok ys r' → ys.length ≤ ds.length
  | [], r, r', ys, e => by cases e; exact Nat.le_refl _
  | d :: ds, r, r', ys, e => by
    unfold lcS at e
    cases eh : h d (wipeE r vs) with
    | none => rw [eh] at e; cases e
    | some r1 =>
      rw [eh] at e
      simp only [] at e
      cases et : t r1 with
      | bad => rw [et] at e; cases e
      | ex x r2 => rw [et] at e; cases e
      | ok b r2 =>
        rw [et] at e
        simp only [Rs.bind] at e
        cases b with
        | false =>
          have := lcS_len e
          rw [List.length_cons]; omega
        | true =>
          simp only [if_true] at e
          cases ee : elt r2 with
          | bad => rw [ee] at e; cases e
          | ex x r3 => rw [ee] at e; cases e
          | ok y r3 =>
            rw [ee] at e
            simp only [] at e
            cases el : lcS vs h t elt ds (wipeE r3 vs) with
            | bad => rw [el] at e; cases e
            | ex x r4 => rw [el] at e; cases e
            | ok zs r4 =>
              rw [el] at e
              cases e
              have := lcS_len el
              rw [List.length_cons, List.length_cons]; omega
theorem not_own {K : PySem.W.Frag} {F H : Hp} {s : St} {r : En} {p : Addr} (R : Rel K g F H s r) (np : H p = none) (j : Nat) (o : OV) (e : r[j]? = some (some o)) (eo : o.own = true) : s[j]? ≠ some (some (.ref p)) := fun z => by
  obtain ⟨v, h1, h2⟩ := R.slot j o e
  rw [z] at h1
  cases h1
  cases o with
  | sh d => cases eo
  | ow xs =>
    obtain ⟨a, ws, e1, _, e3, _⟩ := h2
    cases e1
    rw [np] at e3; cases e3
  | od xs =>
    obtain ⟨a, ws, e1, _, e3, _⟩ := h2
    cases e1
    rw [np] at e3; cases e3
  | oi c xs =>
    obtain ⟨a, ws, e1, _, e3, _⟩ := h2
    cases e1
    rw [np] at e3; cases e3
  | exc c => cases eo
/-- between two turns of a comprehension: the list at A holds what was made so far -/
def LcI (K : PySem.W.Frag) (g : G) (F1 : Hp) (s : St) (Q : VK) (A : Addr) (vs : List Nat) (h : D → En → Option En) (t : En → Rs Bool) (fe : En → Rs D) (ds : List D) (i : Nat) (H2 : Hp) : Prop :=
  ∃ F2 r2 acc vacc, Same F1 F2 ∧ Rel K g F2 H2 s r2 ∧ H2 A = some (.lst vacc) ∧ F2 A = none ∧ (∀ (j : Nat) (o : OV), r2[j]? = some (some o) → o.own = true → s[j]? ≠ some (some (.ref A))) ∧ RDs K F2 vacc acc ∧ acc.length ≤ i ∧
    post K g.nw (fun ys r3 => PO K g F1 s Q (.ow (acc ++ ys)) (wipeE r3 vs)) (lcS vs h t fe (ds.drop i) r2)
/-- what is held still is changed (the list at A grows) -/
theorem Rel.grow {K : PySem.W.Frag} {F H : Hp} {s : St} {r : En} {A : Addr} {o o' : HO} (R : Rel K (g.more A o) F H s r) (h0 : g.H0 A = none) (hX : ∀ p ∈ g.X, p.1 ≠ A) : Rel K g F (L2.upd H A o') s r := by
  obtain ⟨R, h1, h2, h3⟩ := R.less
  refine ⟨fun b u e => ?_, R.f0, R.fnew, fun b u e hb => ?_, fun i u e => ?_, R.own, R.dist, R.pin, R.len, fun p hp => ?_⟩
  · rw [upd_ne fun z => by rw [z, h2] at e; cases e]; exact R.sub b u e
  · rw [upd_ne fun z => by rw [z, h0] at e; cases e]; exact R.keep b u e hb
  · obtain ⟨v, a1, a2⟩ := R.slot i u e
    refine ⟨v, a1, ?_⟩
    cases u with
    | sh d => exact a2
    | ow xs =>
      obtain ⟨b, ws, e1, e2, e3, e4⟩ := a2
      refine ⟨b, ws, e1, e2, ?_, e4⟩
      rw [upd_ne fun z => h3 i _ e rfl (by rw [a1, e1, z])]
      exact e3
    | od xs =>
      obtain ⟨b, ws, e1, e2, e3, e4⟩ := a2
      refine ⟨b, ws, e1, e2, ?_, e4⟩
      rw [upd_ne fun z => h3 i _ e rfl (by rw [a1, e1, z])]
      exact e3
    | oi c xs =>
      obtain ⟨b, ws, e1, e2, e3, e4⟩ := a2
      refine ⟨b, ws, e1, e2, ?_, e4⟩
      rw [upd_ne fun z => h3 i _ e rfl (by rw [a1, e1, z])]
      exact e3
    | exc c => exact a2
  · obtain ⟨x1, x2, x3⟩ := R.ext p hp
    exact ⟨by rw [upd_ne (hX p hp)]; exact x1, x2, x3⟩
theorem lc_imp {K : PySem.W.Frag} {vs ks : List Nat} {f : En → Rs (List D)} {h : D → En → Option En} {t : En → Rs Bool} {fe : En → Rs D} {s : St} {H : Hp} {Q : VK} (hb : ∀ p ∈ g.B, p.1 ∉ vs) (hks : ∀ i ∈ ks, i ∈ vs) (h0 : tO K g (lcD f vs h t fe) s H Q) :
    tLc (tID K g f) (fun v s H Q => ∃ g' : G, Blk g g' ∧ tGD K g' ks h v s H Q) (fun s H Q => ∃ g' : G, Blk g g' ∧ tTD K g' t s H Q) (fun s H Q => ∃ g' : G, Blk g g' ∧ tD K g' fe s H Q) vs s H Q := by
  obtain ⟨F, r, R, q⟩ := h0
  refine ⟨F, r, R, post_mono (post_bind q) fun ds r1 q F1 H1 J sm R1 wk => ?_⟩
  obtain ⟨hl, q⟩ := post_if q
  have q : post K g.nw _ _ := post_noE (post_bind q)
  intro A nA
  have hA0 : g.H0 A = none := R1.live nA
  have hAX : ∀ p ∈ g.X, p.1 ≠ A := fun p hp z => by have := (R1.ext p hp).1; rw [z, nA] at this; cases this
  refine ⟨fun i m H2 => m = ds.length - i ∧ i ≤ ds.length ∧ LcI K g F1 s Q A vs h t fe ds i H2, ⟨ds.length, rfl, Nat.zero_le _, F1, r1, [], [], Same.refl _, R1.laid nA, upd_same, R1.ff nA, fun j o e eo => not_own R1 nA j o e eo, .nil, Nat.le_refl _, ?_⟩, ?_⟩
  · rw [List.drop_zero]
    exact post_mono q fun ys r3 q F3 H3 v sm3 R3 hv => q F3 H3 v (sm.trans sm3) R3 hv
  rintro i m H2 ⟨rfl, hi2, F2, r2, acc, vacc, sm2, R2, hA, hFA, hAo, hacc, hal, q2⟩
  obtain ⟨w1, w2⟩ := wk g F2 H2 s r2 rfl sm2 R2
  by_cases hlt : i < ds.length
  · have ed : ds[i]? = some ds[i] := List.getElem?_eq_getElem hlt
    obtain ⟨go, yl⟩ := w1 i _ ed
    rw [List.drop_eq_getElem_cons hlt] at q2
    refine .inr ⟨go, fun H3 => LcI K g F1 s Q A vs h t fe ds (i + 1) H3, fun H3 hh => ⟨ds.length - (i + 1), by omega, rfl, hlt, hh⟩, fun x H3 hy => ?_⟩
    -- the turn, with the list at A held still
    have R2m : Rel K (g.more A (.lst vacc)) F2 H2 s r2 := R2.more hA hFA hAo
    obtain ⟨w1m, _⟩ := wk (g.more A (.lst vacc)) F2 H2 s r2 rfl sm2 R2m
    obtain ⟨F3, sm3, R3, hx⟩ := (w1m i _ ed).2 x H3 hy
    have R3w : Rel K (g.more A (.lst vacc)) F3 H3 (wipe s vs) (wipeE r2 vs) := R3.forget hb (wipe_length _ _) fun i hi => wipe_keep hi
    have q3 : post K g.nw (fun ys r3 => PO K g F1 s Q (.ow (acc ++ ys)) (wipeE r3 vs)) (match h ds[i] (wipeE r2 vs) with
      | none => .bad
      | some r1 => (t r1).bind fun b r2 => if b = true then (fe r2).bind fun y r3 => (lcS vs h t fe (ds.drop (i + 1)) (wipeE r3 vs)).bind fun ys r4 => .ok (y :: ys) r4 else lcS vs h t fe (ds.drop (i + 1)) (wipeE r2 vs)) := q2
    cases eh : h ds[i] (wipeE r2 vs) with
    | none => rw [eh] at q3; exact q3.elim
    | some r3 =>
      rw [eh] at q3
      refine ⟨(g.more A (.lst vacc)).nw, ⟨rfl, rfl, rfl, rfl⟩, F3, _, ds[i], r3, R3w.nw, hx, eh, fun s4 ag R4 => ⟨agr_wipe ag hks, (g.more A (.lst vacc)).nw, ⟨rfl, rfl, rfl, rfl⟩, F3, r3, R4, post_mono (post_w (post_bind q3)) fun b r4 q4 F4 H4 sm4 R4' => ?_⟩⟩
      have wkeep : ∀ i, i ∉ vs → s[i]? = s4[i]? := fun i hi => by rw [ag.2 i fun z => hi (hks i z), wipe_keep hi]
      have hl4 : s.length = s4.length := by rw [ag.1, wipe_length]
      have sm14 : Same F1 F4 := (sm2.trans sm3).trans sm4
      cases b with
      | false =>
        obtain ⟨R5, a1, a2, a3⟩ := R4'.unw.less
        refine ⟨F4, wipeE r4 vs, acc, vacc, sm14, R5.forget hb hl4 wkeep, a1, a2, fun j o e eo => ?_, RDs.mono (sm3.trans sm4) acc hacc, by omega, q4⟩
        obtain ⟨e1, e2⟩ := wipeE_some e
        rw [wkeep j e2]
        exact a3 j o e1 eo
      | true =>
        refine ⟨(g.more A (.lst vacc)).nw, ⟨rfl, rfl, rfl, rfl⟩, F4, r4, R4', post_mono (post_w (post_bind q4)) fun y r5 q5 F5 H5 v sm5 R5' hv => ?_⟩
        have R5' := R5'.unw
        have a1 := R5'.less.2.1
        have a2 := R5'.less.2.2.1
        have a3 := R5'.less.2.2.2
        have sm15 : Same F1 F5 := sm14.trans sm5
        have hacc5 := RDs.mono ((sm3.trans sm4).trans sm5) acc hacc
        refine ⟨vacc, a1, ?_, F5, wipeE r5 vs, acc ++ [y], vacc ++ [v], sm15, (R5'.grow hA0 hAX).forget hb hl4 wkeep, upd_same, a2, fun j o e eo => ?_, hacc5.app (.cons hv .nil), by rw [List.length_append]; simp; omega, ?_⟩
        · rw [hacc.length]
          have : (1000000 : Nat) < sizeLine := by decide
          omega
        · obtain ⟨e1, e2⟩ := wipeE_some e
          rw [wkeep j e2]
          exact a3 j o e1 eo
        · refine post_mono (post_bind q5) fun ys r6 q6 => ?_
          have q6 : PO K g F1 s Q (.ow (acc ++ y :: ys)) (wipeE r6 vs) := q6
          rw [List.append_assoc]
          exact q6
  · rw [List.drop_of_length_le (by omega)] at q2
    have q2 : PO K g F1 s Q (.ow (acc ++ [])) (wipeE r2 vs) := q2
    rw [List.append_nil] at q2
    refine .inl ⟨w2 i (by omega), q2 F2 H2 (.ref A) sm2 (R2.forget hb rfl fun _ _ => rfl) ⟨A, vacc, rfl, hFA, hA, hacc, hA0, fun j o e eo => ?_, hAX⟩⟩
    obtain ⟨e1, e2⟩ := wipeE_some e
    exact hAo j o e1 eo
theorem do_lc {elt iter : Expr} {ifs : List Expr} {scope : Scope} {own : List (Str × Nat)} {vs ks : List Nat} {f : En → Rs (List D)} {h : D → En → Option En} {t : En → Rs Bool} {fe : En → Rs D} (hc : X.calm = true) (hN : X.N.Nodup) (hi : DI X g tg iter f) (ok : BlkOk X.N X.env.scope scope own)
    (hvs : own.map (·.2) = vs) (hb : ∀ p ∈ g.B, p.1 ∉ vs) (hks : ∀ i ∈ ks, i ∈ vs)
    (hg : ∀ (s : Shared) (H : Hp) (C : Addr) (cl : List (Str × Addr)) (fp : List Addr) (g' : G), Blk g g' → DG (X.blk s H scope (compEnvC scope cl C X.env) fp) g' tg ks h)
    (ht : ∀ (s : Shared) (H : Hp) (C : Addr) (cl : List (Str × Addr)) (fp : List Addr) (g' : G), Blk g g' → PTs (X.blk s H scope (compEnvC scope cl C X.env) fp) ifs (tTD X.K g' t))
    (he : ∀ (s : Shared) (H : Hp) (C : Addr) (cl : List (Str × Addr)) (fp : List Addr) (g' : G), Blk g g' → DE (X.blk s H scope (compEnvC scope cl C X.env) fp) g' elt fe) (hs : ∀ x, foldedSetIterable iter X.env x = pure x := by intro _; rfl) :
    DO X g (.ListComp elt [⟨tg, iter, ifs, 0⟩] scope pos) (lcD f vs h t fe) := by
  subst hvs
  exact PE.imp (pe_lc hc hN hi ok (g := fun v s H Q => ∃ g' : G, Blk g g' ∧ tGD X.K g' ks h v s H Q) (tt := fun s H Q => ∃ g' : G, Blk g g' ∧ tTD X.K g' t s H Q) (te := fun s H Q => ∃ g' : G, Blk g g' ∧ tD X.K g' fe s H Q)
    (fun s H C cl fp => ⟨fun pins s2 σ H2 v u Q I rv ⟨g', eg, q⟩ => (hg s H C cl fp g' eg).run pins s2 σ H2 v u Q I rv q⟩)
    (fun s H C cl fp => ⟨fun pins s2 σ H2 Q I ⟨g', eg, q⟩ => (ht s H C cl fp g' eg).run pins s2 σ H2 Q I q⟩)
    (fun s H C cl fp => ⟨fun pins s2 σ H2 Q I ⟨g', eg, q⟩ => (he s H C cl fp g' eg).run pins s2 σ H2 Q I q⟩) hs) fun s H Q h0 => lc_imp hb hks h0
/-- name = [..] on one line, the name a plain local -/
theorem ds_setLc {i : Nat} {y : Str} {py spos : Pos} {elt iter : Expr} {ifs : List Expr} {scope : Scope} {own : List (Str × Nat)} {vs ks : List Nat} {f : En → Rs (List D)} {h : D → En → Option En} {t : En → Rs Bool} {fe : En → Rs D} (hbi : ∀ p ∈ g.B, p.1 ≠ i) (hc : X.calm = true) (hN : X.N.Nodup) (hi : DI X g tg iter f) (ok : BlkOk X.N X.env.scope scope own)
    (hvs : own.map (·.2) = vs) (hb : ∀ p ∈ g.B, p.1 ∉ vs) (hks : ∀ i ∈ ks, i ∈ vs)
    (hg : ∀ (s : Shared) (H : Hp) (C : Addr) (cl : List (Str × Addr)) (fp : List Addr) (g' : G), Blk g g' → DG (X.blk s H scope (compEnvC scope cl C X.env) fp) g' tg ks h)
    (ht : ∀ (s : Shared) (H : Hp) (C : Addr) (cl : List (Str × Addr)) (fp : List Addr) (g' : G), Blk g g' → PTs (X.blk s H scope (compEnvC scope cl C X.env) fp) ifs (tTD X.K g' t))
    (he : ∀ (s : Shared) (H : Hp) (C : Addr) (cl : List (Str × Addr)) (fp : List Addr) (g' : G), Blk g g' → DE (X.blk s H scope (compEnvC scope cl C X.env) fp) g' elt fe)
    (hsw : swapsWith (.ListComp elt [⟨tg, iter, ifs, 0⟩] scope pos) (some (.Name y py)) spos.line X.env = pure true) (hy : X.N[i]? = some y := by rfl) (hyl : X.env.scope.names.lookup y = some .local := by rfl) (hs : ∀ x, foldedSetIterable iter X.env x = pure x := by intro _; rfl) :
    DS X g (.Assign [.Name y py] (.ListComp elt [⟨tg, iter, ifs, 0⟩] scope pos) spos) (setS i (lcD f vs h t fe)) := by
  subst hvs
  refine PS.imp (ps_setLc hc hN hy hyl hsw hi ok (g := fun v s H Q => ∃ g' : G, Blk g g' ∧ tGD X.K g' ks h v s H Q) (tt := fun s H Q => ∃ g' : G, Blk g g' ∧ tTD X.K g' t s H Q) (te := fun s H Q => ∃ g' : G, Blk g g' ∧ tD X.K g' fe s H Q)
    (fun s H C cl fp => ⟨fun pins s2 σ H2 v u Q I rv ⟨g', eg, q⟩ => (hg s H C cl fp g' eg).run pins s2 σ H2 v u Q I rv q⟩)
    (fun s H C cl fp => ⟨fun pins s2 σ H2 Q I ⟨g', eg, q⟩ => (ht s H C cl fp g' eg).run pins s2 σ H2 Q I q⟩)
    (fun s H C cl fp => ⟨fun pins s2 σ H2 Q I ⟨g', eg, q⟩ => (he s H C cl fp g' eg).run pins s2 σ H2 Q I q⟩) hs) fun E s H ⟨F, r, R, q⟩ => ?_
  exact lc_imp hb hks ⟨F, r, R, post_mono (post_then q) fun o r1 q F1 H1 v sm R1 hv => q F1 H1 _ sm (R1.set hbi hv)⟩
end
end DL

/-! Data layer, part 5: what a def promises by data (its callers outside any repr), calls, the law's own call. -/
namespace DL
open PySem L2

/-- like FnOk, for callers that stand in no repr -/
structure FnG (P : Program) (w : World) (K : PySem.W.Frag) (mg : Str → Option Value) (base : Heap) (CX : CXT) (k : Nat) (f : Addr) (fd : FuncData) (ps : List Str) (sp : Sp) : Prop where
  len : ∀ vs H Q E, sp vs H Q E → vs.length = ps.length
  run : ∀ (A : Around) (outer : List Env) (s : Shared) (H : Hp) (args : Args) (us : List Value) (vs : List V) (Q : VK) (E : XK), A.guards = some [] → Room k A → Env0 P w K mg base A outer s H →
    BindsTo s fd args (ps.zip us) → Vals vs us → sp vs H Q E → codeAny (model P w) A (.call (.ref f) args) (CR CX outer P w H s Q E) s
section
variable {P : Program} {w : World} {K : PySem.W.Frag} {mg : Str → Option Value} {base : Heap} {CX : CXT}
theorem FnG.mono {j k : Nat} {f : Addr} {fd : FuncData} {ps : List Str} {sp : Sp} (F : FnG P w K mg base CX j f fd ps sp) (h : j ≤ k) : FnG P w K mg base CX k f fd ps sp :=
  ⟨F.len, fun A o s H as us vs Q E hg hr => F.run A o s H as us vs Q E hg (hr.mono h)⟩
theorem FnG.imp {k : Nat} {f : Addr} {fd : FuncData} {ps : List Str} {sp sp' : Sp} (F : FnG P w K mg base CX k f fd ps sp) (h : ∀ vs H Q E, sp' vs H Q E → sp vs H Q E) : FnG P w K mg base CX k f fd ps sp' :=
  ⟨fun vs H Q E q => F.len vs H Q E (h _ _ _ _ q), fun A o s H as us vs Q E hg hr e0 hb rv hs => F.run A o s H as us vs Q E hg hr e0 hb rv (h _ _ _ _ hs)⟩
/-- a def by its body -/
theorem fnG_of {x qual : Str} {st : Stmt} {f : Addr} {fd : FuncData} {N ps : List Str} {k : Nat} {sp : Sp} (F : Fun K x qual st f fd) (S : FnScope N ps (defScope st)) (len : ∀ vs H Q E, sp vs H Q E → vs.length = ps.length)
    (hbody : ∀ (cdv : Value) (A : Around) (outer : List Env) (s : Shared) (H : Hp) (vs : List V) (Q : VK) (E : XK), A.guards = some [] → Room k (A.deeper (PyProof.Rows.envOfC qual (defScope st) s.heap.objs.size f cdv)) → sp vs H Q E →
      ∃ t, PSs (cxOf CX P w K mg base N qual (defScope st) f cdv A outer s H E) (defBody st) t ∧ t { nx := fun _ H' => Q .non H', rt := Q } (start N vs) H) : FnG P w K mg base CX (k + 1) f fd ps sp := by
  obtain ⟨oc, od, kV, doc, pm, an, cdv, ct, osl, rfl, lk, hcd⟩ := F.ex
  refine ⟨len, ?_⟩
  intro A outer s H args us vs Q E hgd room en bind rel want
  have inK : K.In s.heap := en.mod.kin.keeps fun b u z => (en.bs b u z).1
  have nolim : s.heap.NoLimit := en.mod.nolimit.keeps fun b u z => (en.bs b u z).1
  have kinds : ∀ y ∈ ps.zip us, (defScope st).names.lookup y.1 = some .local ∨ ((defScope st).names.lookup y.1 = some .cell ∧ ((cellsFrom (s.heap.objs.size + 1) (defScope st).names []).lookup y.1).isSome = true) := by
    rintro ⟨nm, vl⟩ hy
    cases S.par nm (List.of_mem_zip hy).1 with
    | inl q => exact Or.inl q
    | inr q => exact Or.inr ⟨q, PySem.W.cellsFrom_some _ _ _ (.inl q)⟩
  refine codeAny_call_function room.depth (inK _ _ lk) rfl S.co S.gen rfl (PySem.W.codeRec_of inK hcd) (bind _ _ _ _ ?_)
  refine PySem.wpAny_newFunctionEnv_cells S.kind kinds fun env eenv s1 ic => ?_
  subst eenv
  refine ⟨nolim.keeps ic.toInCall.keep, codeAny_func ?_⟩
  obtain ⟨t, pt, tq⟩ := hbody cdv A outer s H vs Q E hgd (room.deeper _) want
  have inv0 : Inv (cxOf CX P w K mg base N qual (defScope st) f cdv A outer s H E) [] (start N vs) H s1 := inv_start S room.hd en (len _ _ _ _ want) rel ic
  refine wpAny_mono (pt.run [] s1 (start N vs) H _ inv0 tq) ?_ fun _ _ z => z
  intro fl s2 hs2
  have ending : ∀ {σ2 : St} {H2 : Hp} {v : V} {u : Value}, Inv (cxOf CX P w K mg base N qual (defScope st) f cdv A outer s H E) [] σ2 H2 s2 → RelV v u → Q v H2 → CE outer P w H s Q u s2 := by
    intro σ2 H2 v u J rv qv
    exact ⟨v, H2, J.os, J.bare, J.base, J.hok, rv, qv⟩
  cases fl with
  | next => obtain ⟨σ2, H2, J, qv⟩ := hs2; exact ending (v := V.non) (u := Value.none) J rfl qv
  | ret u => obtain ⟨v, σ2, H2, J, rv, qv⟩ := hs2; exact ending J rv qv
  | brk => obtain ⟨_, _, _, z⟩ := hs2; exact z.elim
  | cont => obtain ⟨_, _, _, z⟩ := hs2; exact z.elim
end

section
variable {X : Cx} {CX : CXT} {k : Nat} {f : Addr} {fd : FuncData} {ps : List Str} {sp : Sp} {E : XK} {x : Str} {p pos : Pos} {e : Expr} {es : List Expr} {t : TA}
theorem runG {pins : List (Addr × Obj)} {σ : St} {H : Hp} {s : Shared} {Q : VK} {us : List Value} {vs : List V} (F : FnG X.prog X.w X.K X.mg X.base CX k f fd ps sp) (hgd : X.A.guards = some []) (hr : Room k X.A) (hb : Binds X.K fd ps []) (hx : Passes CX X E)
    (I : Inv X pins σ H s) (r : Vals vs us) (h : sp vs H Q E) : wpAny (model X.prog X.w) X.A (call (.ref f) us) (EP X pins σ Q) X.xe s := by
  have bl := hb s us I.kIn (by rw [List.append_nil, ← r.length]; exact F.len _ _ _ _ h)
  rw [List.append_nil] at bl
  refine wpAny_call (codeAny_mono (F.run X.A X.stack s H ⟨us, []⟩ us vs Q E hgd hr I.env0 bl r h) ?_)
  intro res s2 hq
  cases res with
  | error er => exact hx pins σ H s er s2 I hq
  | ok fl =>
    cases fl with
    | ret u => exact I.after hq
    | next => cases hq
    | brk => cases hq
    | cont => cases hq
theorem pe_callG1 (F : FnG X.prog X.w X.K X.mg X.base CX k f fd ps sp) (hgd : X.A.guards = some []) (hr : Room k X.A) (hg : Gl X x) (hm : X.mg x = some (.ref f)) (hk : PySem.W.keepIn X.K (.ref f) = true) (hb : Binds X.K fd ps []) (hx : Passes CX X E)
    (ha : PA X (e :: es) t) (hdb : (x == ("__debug__" : Str)) = false := by decide) (he : starEach (e :: es) X.env = (false, eval e X.env) :: starEach es X.env := by rfl) (hpl : (backTo pos (starEach es X.env)).any (·.1) = false := by rfl) :
    PE X (.Call (.Name x p) (e :: es) [] pos) (fun σ H Q => t σ H fun vs H1 => sp vs H1 Q E) := by
  constructor
  intro pins s σ H Q I h
  refine PySem.wpAny_Call_Name_kw (ld_glob I hg hm ?_ hdb)
  refine PySem.W.callWith_K (h₀ := X.base) I.ok.mod.kin hk (thn (ha.run pos pins s σ H _ I h) ?_) he hpl
  rintro us s1 ⟨vs, H1, I1, rv, q⟩
  exact ⟨I1.kIn, runG F hgd hr hb hx I1 rv q⟩
end

/-! ### promises by data -/
def RVf (K : PySem.W.Frag) (F' H' H : Hp) (v : V) : OV → Prop
  | .sh d => RD K F' v d
  | .ow xs => ∃ a vs, v = .ref a ∧ F' a = none ∧ H' a = some (.lst vs) ∧ RDs K F' vs xs ∧ H a = none
  | .od _ => False
  | .oi _ _ => False
  | .exc _ => False
def Fresh (F F' H : Hp) : Prop := ∀ b o, F' b = some o → F b = none → H b = none
def spP (K : PySem.W.Frag) (n : Nat) (f : List D → Option OV) : Sp := fun vs H Q _ => ∃ F ds o, Same F H ∧ RDs K F vs ds ∧ ds.length = n ∧ f ds = some o ∧
  ∀ F' H' v, Same F F' → Same F' H' → Fresh F F' H → Same H H' → RVf K F' H' H v o → Q v H'
def spB (K : PySem.W.Frag) (n : Nat) (f : List D → List D → Option (OV × List D)) : Sp := fun vs H Q _ => ∃ F a bs vb ws ds o bs', vs = .ref a :: ws ∧ Same F H ∧ F a = none ∧ H a = some (.lst vb) ∧ RDs K F vb bs ∧ RDs K F ws ds ∧ ds.length = n ∧ f bs ds = some (o, bs') ∧
  ∀ F' H' v vb', Same F F' → Same F' H' → Fresh F F' H → (∀ b o, H b = some o → b ≠ a → H' b = some o) → F' a = none → H' a = some (.lst vb') → RDs K F' vb' bs' → RVf K F' H' H v o → Q v H'
def startE (n : Nat) (os : List OV) : En := os.map some ++ List.replicate (n - os.length) none
def fnP (n : Nat) (m : En → SRs) : List D → Option OV := fun ds => match m (startE n (ds.map OV.sh)) with
  | .nx _ => some (.sh .non)
  | .rt o _ => some o
  | _ => none
def OV.lst? : OV → Option (List D)
  | .ow xs => some xs
  | _ => none
def fnB (n : Nat) (m : En → SRs) : List D → List D → Option (OV × List D) := fun bs ds => match m (startE n (.ow bs :: ds.map OV.sh)) with
  | .nx r => ((lookV r 0).bind OV.lst?).map fun b => (.sh .non, b)
  | .rt o r => ((lookV r 0).bind OV.lst?).map fun b => (o, b)
  | _ => none

theorem startE_get {n : Nat} {os : List OV} {i : Nat} {o : OV} (h : (startE n os)[i]? = some (some o)) : os[i]? = some o := by
  unfold startE at h
  by_cases hi : i < os.length
  · rw [List.getElem?_append_left (by simpa using hi), List.getElem?_map] at h
    cases e : os[i]? with
    | none => rw [e] at h; cases h
    | some a => rw [e] at h; cases h; rfl
  · rw [List.getElem?_append_right (by simpa using hi), List.getElem?_replicate] at h
    split at h <;> cases h
theorem start_get {N : List Str} {vs : List V} {i : Nat} {v : V} (h : vs[i]? = some v) : (start N vs)[i]? = some (some v) := by
  unfold L2.start
  have hi : i < vs.length := (List.getElem?_eq_some_iff.mp h).1
  rw [List.getElem?_append_left (by simpa using hi), List.getElem?_map, h]
  rfl
theorem start_len (N : List Str) (vs : List V) (os : List OV) (h : vs.length = os.length) : (startE N.length os).length = (start N vs).length := by
  unfold L2.start startE
  simp [h]
section
variable {K : PySem.W.Frag} {F H : Hp} {w : World}
theorem relP {N : List Str} {vs : List V} {ds : List D} (sub : Same F H) (h : RDs K F vs ds) : Rel K ⟨F, H, [], [], w, none, none⟩ F H (start N vs) (startE N.length (ds.map OV.sh)) := by
  have nown : ∀ (i : Nat) (o : OV), (startE N.length (ds.map OV.sh))[i]? = some (some o) → ∃ d, ds[i]? = some d ∧ o = .sh d := fun i o e => by
    have q := startE_get e
    rw [List.getElem?_map] at q
    obtain ⟨d, q1, q2⟩ := Option.map_eq_some_iff.mp q
    exact ⟨d, q1, q2.symm⟩
  refine ⟨sub, Same.refl _, fun b o e z => ?_, fun b o e _ => e, fun i o e => ?_, fun i o a e eo => ?_, fun i j o u a _ e eo => ?_, fun p hp => ?_, start_len N vs _ (by rw [List.length_map, h.length]), fun p hp => ?_⟩
  · have z : F b = none := z
    rw [z] at e; cases e
  · obtain ⟨d, h1, rfl⟩ := nown i o e
    obtain ⟨v, h2, h3⟩ := h.get h1
    exact ⟨v, start_get h2, h3⟩
  · obtain ⟨d, h1, rfl⟩ := nown i o e
    cases eo
  · obtain ⟨d, h1, rfl⟩ := nown i o e
    cases eo
  · cases hp
  · cases hp
theorem relB {N : List Str} {a : Addr} {vb ws : List V} {bs ds : List D} (sub : Same F H) (fa : F a = none) (ha : H a = some (.lst vb)) (hb : RDs K F vb bs) (h : RDs K F ws ds) :
    Rel K ⟨F, H, [(0, a)], [], w, none, none⟩ F H (start N (.ref a :: ws)) (startE N.length (.ow bs :: ds.map OV.sh)) := by
  have nown : ∀ (i : Nat) (o : OV), (startE N.length (.ow bs :: ds.map OV.sh))[i]? = some (some o) → (i = 0 ∧ o = .ow bs) ∨ ∃ j d, i = j + 1 ∧ ds[j]? = some d ∧ o = .sh d := fun i o e => by
    have q := startE_get e
    cases i with
    | zero => cases q; exact .inl ⟨rfl, rfl⟩
    | succ j =>
      have q : (ds.map OV.sh)[j]? = some o := q
      rw [List.getElem?_map] at q
      obtain ⟨d, q1, q2⟩ := Option.map_eq_some_iff.mp q
      exact .inr ⟨j, d, rfl, q1, q2.symm⟩
  have s0 : (start N (.ref a :: ws))[0]? = some (some (.ref a)) := start_get rfl
  refine ⟨sub, Same.refl _, fun b o e z => ?_, fun b o e _ => e, fun i o e => ?_, fun i o b e eo es => ?_, fun i j o u b hij e eo e' eo' => ?_, fun p hp => ?_, start_len N (.ref a :: ws) (.ow bs :: ds.map OV.sh) (by simp [h.length]), fun p hp => by cases hp⟩
  · have z : F b = none := z
    rw [z] at e; cases e
  · rcases nown i o e with ⟨rfl, rfl⟩ | ⟨j, d, rfl, h1, rfl⟩
    · exact ⟨_, s0, a, vb, rfl, fa, ha, hb⟩
    · obtain ⟨v, h2, h3⟩ := h.get h1
      exact ⟨v, start_get (i := j + 1) h2, h3⟩
  · rcases nown i o e with ⟨rfl, rfl⟩ | ⟨j, d, rfl, h1, rfl⟩
    · rw [s0] at es
      cases es
      exact .inr (List.mem_singleton.mpr rfl)
    · cases eo
  · rcases nown i o e with ⟨rfl, rfl⟩ | ⟨j, d, rfl, h1, rfl⟩
    · rcases nown j u e' with ⟨rfl, rfl⟩ | ⟨k, d, rfl, h1, rfl⟩
      · exact absurd rfl hij
      · cases eo'
    · cases eo
  · have hp := List.mem_singleton.mp hp
    subst hp
    exact ⟨s0, .ow bs, by unfold startE; rfl, rfl⟩
end

section
variable {P : Program} {w : World} {K : PySem.W.Frag} {mg : Str → Option Value} {base : Heap}
/-- a def without parameters by reference -/
theorem fnP_ok {x qual : Str} {st : Stmt} {f : Addr} {fd : FuncData} {N ps : List Str} {k n np : Nat} {m : En → SRs} (F : Fun K x qual st f fd) (S : FnScope N ps (defScope st)) (en : N.length = n) (ep : ps.length = np)
    (hbody : ∀ (cdv : Value) (A : Around) (outer : List Env) (s : Shared) (H : Hp) (E : XK) (g : G), A.guards = some [] → Room k (A.deeper (PyProof.Rows.envOfC qual (defScope st) s.heap.objs.size f cdv)) → g.B = [] → g.w = w → g.W = none → g.xc = none →
      DSs (cxOf CX0 P w K mg base N qual (defScope st) f cdv A outer s H E).nox g (defBody st) m) : FnG P w K mg base CX0 (k + 1) f fd ps (spP K np (fnP n m)) := by
  subst en ep
  refine fnG_of F S (fun vs H Q E ⟨F, ds, o, _, h, hl, _⟩ => by rw [h.length]; exact hl) fun cdv A outer s H vs Q E hg hr hsp => ?_
  obtain ⟨Fz, ds, o, sub, h, hl, ef, q⟩ := hsp
  refine ⟨_, PSs.nox (hbody cdv A outer s H E ⟨Fz, H, [], [], w, none, none⟩ hg hr rfl rfl rfl rfl), Fz, startE N.length (ds.map OV.sh), relP sub h, ?_⟩
  unfold fnP at ef
  revert ef
  cases m (startE N.length (ds.map OV.sh)) with
  | nx r' =>
    intro ef F' H' s' sm R'
    cases ef
    exact q F' H' .non sm R'.sub (fun b o e e0 => R'.fnew b o e e0) (fun b o e => R'.keep b o e fun p hp => by cases hp) .non
  | rt o' r' =>
    intro ef F' H' s' v sm R' hv
    cases ef
    refine q F' H' v sm R'.sub (fun b o e e0 => R'.fnew b o e e0) (fun b o e => R'.keep b o e fun p hp => by cases hp) ?_
    cases o with
    | sh d => exact hv
    | ow xs =>
      obtain ⟨a, vs, e1, e2, e3, e4, e5, _⟩ := hv
      exact ⟨a, vs, e1, e2, e3, e4, e5⟩
    | od xs => exact hv.elim
    | oi c xs => exact hv.elim
    | exc c => exact hv.elim
  | bk r' => intro ef; cases ef
  | ct r' => intro ef; cases ef
  | bad => intro ef; cases ef
  | ex x r' => intro ef; cases ef
/-- a def whose first parameter is a list by reference -/
theorem fnB_ok {x qual : Str} {st : Stmt} {f : Addr} {fd : FuncData} {N : List Str} {p0 : Str} {ps : List Str} {k n np : Nat} {m : En → SRs} (F : Fun K x qual st f fd) (S : FnScope N (p0 :: ps) (defScope st)) (en : N.length = n) (ep : ps.length = np)
    (hbody : ∀ (cdv : Value) (A : Around) (outer : List Env) (s : Shared) (H : Hp) (E : XK) (g : G), A.guards = some [] → Room k (A.deeper (PyProof.Rows.envOfC qual (defScope st) s.heap.objs.size f cdv)) → g.B.map (·.1) = [0] → g.w = w → g.W = none → g.xc = none →
      DSs (cxOf CX0 P w K mg base N qual (defScope st) f cdv A outer s H E).nox g (defBody st) m) : FnG P w K mg base CX0 (k + 1) f fd (p0 :: ps) (spB K np (fnB n m)) := by
  subst en ep
  refine fnG_of F S (fun vs H Q E ⟨F, a, bs, vb, ws, ds, o, bs', e, _, _, _, _, h, hl, _⟩ => by rw [e, List.length_cons, List.length_cons, h.length, hl]) fun cdv A outer s H vs Q E hg hr hsp => ?_
  obtain ⟨Fz, a, bs, vb, ws, ds, o, bs', rfl, sub, fa, ha, hb, h, hl, ef, q⟩ := hsp
  refine ⟨_, PSs.nox (hbody cdv A outer s H E ⟨Fz, H, [(0, a)], [], w, none, none⟩ hg hr rfl rfl rfl rfl), Fz, startE N.length (.ow bs :: ds.map OV.sh), relB sub fa ha hb h, ?_⟩
  unfold fnB at ef
  have outs : ∀ {F' H' : Hp} {s' : St} {r' : En}, Rel K ⟨Fz, H, [(0, a)], [], w, none, none⟩ F' H' s' r' → (lookV r' 0).bind OV.lst? = some bs' → F' a = none ∧ ∃ vb', H' a = some (.lst vb') ∧ RDs K F' vb' bs' := fun {F' H' s' r'} R' e => by
    obtain ⟨o1, e1, e2⟩ := Option.bind_eq_some_iff.mp e
    obtain ⟨p1, _⟩ := R'.pin (0, a) (List.mem_singleton.mpr rfl)
    obtain ⟨v, h1, h2⟩ := R'.slot 0 o1 (lookV_some e1)
    rw [p1] at h1
    cases h1
    cases o1 with
    | sh d => cases e2
    | ow xs =>
      cases e2
      obtain ⟨b, vs, e3, e4, e5, e6⟩ := h2
      cases e3
      exact ⟨e4, vs, e5, e6⟩
    | od xs => cases e2
    | oi c xs => cases e2
    | exc c => cases e2
  have kp : ∀ {F' H' : Hp} {s' : St} {r' : En}, Rel K ⟨Fz, H, [(0, a)], [], w, none, none⟩ F' H' s' r' → ∀ b o, H b = some o → b ≠ a → H' b = some o := fun {F' H' s' r'} R' b o e hb => R'.keep b o e fun p hp => by
    have hp := List.mem_singleton.mp hp
    subst hp
    exact fun z => hb z.symm
  revert ef
  cases m (startE N.length (.ow bs :: ds.map OV.sh)) with
  | nx r' =>
    intro ef F' H' s' sm R'
    obtain ⟨b, e1, e2⟩ := Option.map_eq_some_iff.mp ef
    cases e2
    obtain ⟨f1, vb', f2, f3⟩ := outs R' e1
    exact q F' H' .non vb' sm R'.sub (fun b o e e0 => R'.fnew b o e e0) (kp R') f1 f2 f3 .non
  | rt o' r' =>
    intro ef F' H' s' v sm R' hv
    obtain ⟨b, e1, e2⟩ := Option.map_eq_some_iff.mp ef
    cases e2
    obtain ⟨f1, vb', f2, f3⟩ := outs R' e1
    refine q F' H' v vb' sm R'.sub (fun b o e e0 => R'.fnew b o e e0) (kp R') f1 f2 f3 ?_
    cases o with
    | sh d => exact hv
    | ow xs =>
      obtain ⟨a, vs, e1, e2, e3, e4, e5, _⟩ := hv
      exact ⟨a, vs, e1, e2, e3, e4, e5⟩
    | od xs => exact hv.elim
    | oi c xs => exact hv.elim
    | exc c => exact hv.elim
  | bk r' => intro ef; cases ef
  | ct r' => intro ef; cases ef
  | bad => intro ef; cases ef
  | ex x r' => intro ef; cases ef
end

/-! ### calls -/
structure HasP (P : Program) (w : World) (K : PySem.W.Frag) (mg : Str → Option Value) (base : Heap) (k : Nat) (x : Str) (n : Nat) (f : List D → Option OV) : Prop where
  ex : ∃ fa fd ps, FnG P w K mg base CX0 k fa fd ps (spP K n f) ∧ mg x = some (.ref fa) ∧ PySem.W.keepIn K (.ref fa) = true ∧ Binds K fd ps []
structure HasB (P : Program) (w : World) (K : PySem.W.Frag) (mg : Str → Option Value) (base : Heap) (k : Nat) (x : Str) (n : Nat) (f : List D → List D → Option (OV × List D)) : Prop where
  ex : ∃ fa fd ps, FnG P w K mg base CX0 k fa fd ps (spB K n f) ∧ mg x = some (.ref fa) ∧ PySem.W.keepIn K (.ref fa) = true ∧ Binds K fd ps []
theorem HasP.mono {P : Program} {w : World} {K : PySem.W.Frag} {mg : Str → Option Value} {base : Heap} {j k : Nat} {x : Str} {n : Nat} {f : List D → Option OV} (h : HasP P w K mg base j x n f) (hk : j ≤ k) : HasP P w K mg base k x n f := by
  obtain ⟨fa, fd, ps, F, h1, h2, h3⟩ := h.ex
  exact ⟨fa, fd, ps, F.mono hk, h1, h2, h3⟩
theorem HasB.mono {P : Program} {w : World} {K : PySem.W.Frag} {mg : Str → Option Value} {base : Heap} {j k : Nat} {x : Str} {n : Nat} {f : List D → List D → Option (OV × List D)} (h : HasB P w K mg base j x n f) (hk : j ≤ k) : HasB P w K mg base k x n f := by
  obtain ⟨fa, fd, ps, F, h1, h2, h3⟩ := h.ex
  exact ⟨fa, fd, ps, F.mono hk, h1, h2, h3⟩
/-- f(e, ..) by data -/
def callP (n : Nat) (f : List D → Option OV) (fs : List (En → Rs D)) : En → Rs OV := fun r => (evs fs r).bind fun ds r1 => if ds.length = n then ofO (f ds) r1 else .bad
/-- f(bag, e, ..), the bag in slot j -/
def callB (n : Nat) (f : List D → List D → Option (OV × List D)) (j : Nat) (fs : List (En → Rs D)) : En → Rs OV := fun r => (fill r j).bind fun _ r => (evs fs r).bind fun ds r1 => if ds.length = n then
  (ofO (((lookV r1 j).bind OV.lst?).bind fun bs => f bs ds) r1).bind fun z r1 => .ok z.1 (r1.set j (some (.ow z.2))) else .bad
section
variable {X : Cx} {g : G} {k n : Nat} {x : Str} {p pos : Pos} {e : Expr} {es : List Expr}
theorem evs_len : ∀ {fs : List (En → Rs D)} {r r' : En} {ds : List D}, evs fs r = .ok ds r' → ds.length = fs.length
  | [], r, r', ds, h => by cases h; rfl
  | f :: fs, r, r', ds, h => by
    unfold evs at h
    cases e1 : f r with
    | bad => rw [e1] at h; cases h
    | ex x r1 => rw [e1] at h; cases h
    | ok d r1 =>
      rw [e1] at h
      simp only [Rs.bind] at h
      cases e2 : evs fs r1 with
      | bad => rw [e2] at h; cases h
      | ex x r2 => rw [e2] at h; cases h
      | ok ds r2 =>
        rw [e2] at h
        cases h
        rw [List.length_cons, List.length_cons, evs_len e2]
theorem do_callP {f : List D → Option OV} {fs : List (En → Rs D)} (h : HasP X.prog X.w X.K X.mg X.base k x n f) (hgd : X.A.guards = some []) (hr : Room k X.A) (ha : DA X g (e :: es) fs) (hg : Gl X x := by rfl)
    (hdb : (x == ("__debug__" : Str)) = false := by decide) (he : starEach (e :: es) X.env = (false, eval e X.env) :: starEach es X.env := by rfl) (hpl : (backTo pos (starEach es X.env)).any (·.1) = false := by rfl) : DO X g (.Call (.Name x p) (e :: es) [] pos) (callP n f fs) := by
  obtain ⟨fa, fd, ps, F, h1, h2, h3⟩ := h.ex
  refine PE.imp (pe_callG1 F hgd hr hg h1 h2 h3 pass0 ha hdb he hpl) fun s H Q ⟨Fz, r, R, q⟩ => ⟨Fz, r, R, post_mono (post_bind q) fun ds r1 q F1 H1 vs sm R1 hvs => ?_⟩
  obtain ⟨hn, q⟩ := post_if q
  obtain ⟨o, ef, q⟩ := post_ofO q
  refine ⟨F1, ds, o, R1.sub, hvs, hn, ef, fun F' H' v s1 s2 fr s3 hv => ?_⟩
  have fn : ∀ {a : Addr} {u : HO}, F1 a = none → H1 a = some u → F' a = none := fun {a u} z1 z2 => by
    cases z : F' a with
    | none => rfl
    | some o' => rw [fr a o' z z1] at z2; cases z2
  have R' : Rel X.K g F' H' s r1 := by
    refine ⟨s2, R1.f0.trans s1, fun b u e e0 => ?_, fun b u e hb => s3 _ _ (R1.keep b u e hb), fun i u e => ?_, R1.own, R1.dist, R1.pin, R1.len, fun q hq => ?_⟩
    · cases z : F1 b with
      | some u' => exact R1.fnew b u' z e0
      | none => exact R1.live (fr b u e z)
    · obtain ⟨w, a1, a2⟩ := R1.slot i u e
      exact ⟨w, a1, RO.mono s1 (fun a vs ew e2 e3 => ⟨fn e2 e3, s3 _ _ e3⟩) a2⟩
    · obtain ⟨x1, x2, x3⟩ := R1.ext q hq
      exact ⟨s3 _ _ x1, fn x2 x1, x3⟩
  refine q F' H' v (sm.trans s1) R' ?_
  cases o with
  | sh d => exact hv
  | ow xs =>
    obtain ⟨a, us, e1, e2, e3, e4, e5⟩ := hv
    exact ⟨a, us, e1, e2, e3, e4, R1.live e5, fun j o e eo => not_own R1 e5 j o e eo, fun q hq z => by have := (R1.ext q hq).1; rw [z, e5] at this; cases this⟩
  | od xs => exact hv.elim
  | oi c xs => exact hv.elim
  | exc c => exact hv.elim
/-- f(bag, e, ..): the bag is the list that slot j owns -/
theorem do_callB {f : List D → List D → Option (OV × List D)} {j : Nat} {y : Str} {yp : Pos} {fs : List (En → Rs D)} (h : HasB X.prog X.w X.K X.mg X.base k x n f) (hgd : X.A.guards = some []) (hr : Room k X.A) (hj : PE X (.Name y yp) (tVar j)) (ha : DA X g es fs)
    (hg : Gl X x := by rfl) (hst : starEach (.Name y yp :: es) X.env = (false, eval (.Name y yp) X.env) :: starEach es X.env := by rfl)
    (hdb : (x == ("__debug__" : Str)) = false := by decide) (hpl : (backTo pos (starEach es X.env)).any (·.1) = false := by rfl) : DO X g (.Call (.Name x p) (.Name y yp :: es) [] pos) (callB n f j fs) := by
  obtain ⟨fa, fd, ps, F, h1, h2, h3⟩ := h.ex
  refine PE.imp (pe_callG1 F hgd hr hg h1 h2 h3 pass0 (pa_cons hj ha hst) hdb hst hpl) fun s H Q ⟨Fz, r, R, q⟩ => ?_
  obtain ⟨⟨o, eo⟩, q⟩ := post_fill (post_bind q)
  obtain ⟨v, hv, _⟩ := R.slot j o eo
  refine ⟨v, hv, Fz, r, R, post_mono (post_bind q) fun ds r1 q F1 H1 vs sm R1 hvs => ?_⟩
  obtain ⟨hn, q⟩ := post_if q
  obtain ⟨⟨o, bs'⟩, ef, q⟩ := post_ofO (post_bind q)
  obtain ⟨bs, eb, ef⟩ := Option.bind_eq_some_iff.mp ef
  obtain ⟨ob, e1, e2⟩ := Option.bind_eq_some_iff.mp eb
  cases ob with
  | sh d => cases e2
  | ow xs =>
    cases e2
    have ej := lookV_some e1
    obtain ⟨v', hv', hb⟩ := R1.slot j _ ej
    rw [hv] at hv'
    cases hv'
    obtain ⟨a, vb, rfl, fa1, ha1, hb1⟩ := hb
    refine ⟨F1, a, bs, vb, vs, ds, o, bs', rfl, R1.sub, fa1, ha1, hb1, hvs, hn, ef, fun F' H' v vb' s1 s2 fr kp fa2 ha2 hb2 hv2 => ?_⟩
    have hj1 : j < r1.length := (List.getElem?_eq_some_iff.mp ej).1
    have fn : ∀ {c : Addr} {u : HO}, F1 c = none → H1 c = some u → F' c = none := fun {c u} z1 z2 => by
      cases z : F' c with
      | none => rfl
      | some o' => rw [fr c o' z z1] at z2; cases z2
    have ao : g.H0 a = none ∨ (j, a) ∈ g.B := R1.own j _ a ej rfl hv
    -- the slots behind the call
    have cs : ∀ (i : Nat) (u : OV), (r1.set j (some (.ow bs')))[i]? = some (some u) → (i = j ∧ u = .ow bs') ∨ (i ≠ j ∧ r1[i]? = some (some u)) := fun i u z => by
      by_cases hi : j = i
      · subst hi
        rw [List.getElem?_set_self hj1] at z
        cases z
        exact .inl ⟨rfl, rfl⟩
      · rw [List.getElem?_set_ne hi] at z
        exact .inr ⟨fun z => hi z.symm, z⟩
    have ow1 : ∀ (i : Nat) (u : OV), (r1.set j (some (.ow bs')))[i]? = some (some u) → u.own = true → ∃ u', r1[i]? = some (some u') ∧ u'.own = true := fun i u z zo => by
      rcases cs i u z with ⟨rfl, rfl⟩ | ⟨_, z'⟩
      · exact ⟨_, ej, rfl⟩
      · exact ⟨u, z', zo⟩
    have R' : Rel X.K g F' H' s (r1.set j (some (.ow bs'))) := by
      refine ⟨s2, R1.f0.trans s1, fun b u e e0 => ?_, fun b u e hb => ?_, fun i u e => ?_, fun i u b e eo eb => ?_, fun i i' u u' b hii e eo e' eo' => ?_, fun q hq => ?_, by rw [List.length_set]; exact R1.len, fun q hq => ?_⟩
      · cases z : F1 b with
        | some u' => exact R1.fnew b u' z e0
        | none => exact R1.live (fr b u e z)
      · refine kp _ _ (R1.keep b u e hb) fun z => ?_
        subst z
        rcases ao with z | z
        · rw [z] at e; cases e
        · exact hb _ z rfl
      · rcases cs i u e with ⟨rfl, rfl⟩ | ⟨hi, e⟩
        · exact ⟨_, hv, a, vb', rfl, fa2, ha2, hb2⟩
        · obtain ⟨w, a1, a2⟩ := R1.slot i u e
          refine ⟨w, a1, ?_⟩
          cases u with
          | sh d => exact RD.mono s1 d a2
          | ow ys =>
            obtain ⟨c, ws, rfl, c2, c3, c4⟩ := a2
            exact ⟨c, ws, rfl, fn c2 c3, kp _ _ c3 fun z => R1.dist i j _ _ a hi e rfl ej rfl (by rw [a1, z]) hv, RDs.mono s1 ys c4⟩
          | od ys =>
            obtain ⟨c, ws, rfl, c2, c3, c4⟩ := a2
            exact ⟨c, ws, rfl, fn c2 c3, kp _ _ c3 fun z => R1.dist i j _ _ a hi e rfl ej rfl (by rw [a1, z]) hv, RDm.mono s1 ys c4⟩
          | oi c ys =>
            obtain ⟨c, ws, rfl, c2, c3, c4⟩ := a2
            exact ⟨c, ws, rfl, fn c2 c3, kp _ _ c3 fun z => R1.dist i j _ _ a hi e rfl ej rfl (by rw [a1, z]) hv, RDi.mono s1 ys c4⟩
          | exc c => exact RE.mono s1 a2
      · obtain ⟨u', e', eo'⟩ := ow1 i u e eo
        exact R1.own i u' b e' eo' eb
      · obtain ⟨w, f1, f2⟩ := ow1 i u e eo
        obtain ⟨w', f1', f2'⟩ := ow1 i' u' e' eo'
        exact R1.dist i i' w w' b hii f1 f2 f1' f2'
      · obtain ⟨p1, u, p2, p3⟩ := R1.pin q hq
        refine ⟨p1, ?_⟩
        by_cases hi : j = q.1
        · exact ⟨.ow bs', by rw [← hi]; exact List.getElem?_set_self hj1, rfl⟩
        · exact ⟨u, by rw [List.getElem?_set_ne hi]; exact p2, p3⟩
      · obtain ⟨x1, x2, x3⟩ := R1.ext q hq
        refine ⟨kp _ _ x1 fun z => x3 j _ ej rfl (by rw [hv, z]), fn x2 x1, fun i u e eo => ?_⟩
        obtain ⟨u', e', eo'⟩ := ow1 i u e eo
        exact x3 i u' e' eo'
    refine q F' H' v (sm.trans s1) R' ?_
    cases o with
    | sh d => exact hv2
    | ow xs =>
      obtain ⟨c, us, d1, d2, d3, d4, d5⟩ := hv2
      refine ⟨c, us, d1, d2, d3, d4, R1.live d5, fun i u e eo => ?_, fun q hq z => by have := (R1.ext q hq).1; rw [z, d5] at this; cases this⟩
      obtain ⟨u', e', eo'⟩ := ow1 i u e eo
      exact not_own R1 d5 i u' e' eo'
    | od xs => exact hv2.elim
    | oi c xs => exact hv2.elim
    | exc c => exact hv2.elim
  | od xs => cases e2
  | oi c xs => cases e2
  | exc c => cases e2
/-- a name handed out: what it owned goes along -/
def mvD (i : Nat) : En → Rs OV := fun r => match lookV r i with
  | some (.sh d) => .ok (.sh d) r
  | some (.ow xs) => .ok (.ow xs) (r.set i none)
  | _ => .bad
theorem do_var (i : Nat) (hb : ∀ p ∈ g.B, p.1 ≠ i) (h : PE X (.Name x p) (tVar i)) : DO X g (.Name x p) (mvD i) := by
  refine PE.imp h fun s H Q ⟨F, r, R, q⟩ => ?_
  unfold mvD at q
  revert q
  cases e : lookV r i with
  | none => exact fun q => q.elim
  | some o =>
    have e := lookV_some e
    obtain ⟨v, h1, h2⟩ := R.slot i o e
    cases o with
    | sh d => exact fun q => ⟨v, h1, q F H v (Same.refl _) R h2⟩
    | ow xs =>
      intro q
      obtain ⟨a, vs, rfl, e2, e3, e4⟩ := h2
      have ew : r.set i none = wipeE r [i] := rfl
      have h0 : g.H0 a = none := by
        rcases R.own i _ a e rfl h1 with z | z
        · exact z
        · exact absurd rfl (hb _ z)
      have R' : Rel X.K g F H s (wipeE r [i]) := R.forget (fun p hp z => hb p hp (List.mem_singleton.mp z)) rfl fun _ _ => rfl
      refine ⟨_, h1, q F H (.ref a) (Same.refl _) R' ⟨a, vs, rfl, e2, e3, e4, h0, fun j o ej eo z => ?_, fun p hp z => ?_⟩⟩
      · have ej : (wipeE r [i])[j]? = some (some o) := ej
        obtain ⟨e5, e6⟩ := wipeE_some ej
        exact R.dist i j _ _ a (fun z => e6 (List.mem_singleton.mpr z.symm)) e rfl e5 eo h1 z
      · exact (R.ext p hp).2.2 i _ e rfl (by rw [h1, z])
    | od xs => exact fun q => q.elim
    | oi c xs => exact fun q => q.elim
    | exc c => exact fun q => q.elim
end

/-! ### the law's own call -/
/-- the base has the table of modules: what is made stands elsewhere -/
def SysAt (base : Heap) : Prop := ∃ o, base.get? sysModules = some o
theorem law_callG {P : Program} {w : World} {K : PySem.W.Frag} {mg mb : Str → Option Value} {k : Nat} {fa a : Addr} {fd : FuncData} {x : Str} {sp : Sp} {s : Shared} {us : List Value} {ns : List Int}
    (inK : K.In s.heap) (hns : s.heap.Ns mainGlobals mg) (hbn : s.heap.Ns builtinsNs mb) (hbb : ∀ x : Str, x ≠ "__name__" → mb x = bootBuiltins x) (lim : s.heap.NoLimit) (hsys : ∃ mm, s.heap.Ns sysModules mm) (gens : s.gens = #[])
    (at_a : s.heap.get? a = some { cls := .type "list", data := .seq us.toArray }) (hints : PyProof.Rows.IntsAre us ns) (short : ns.length ≤ sizeLine) (room : Room k callerA)
    (F : ∀ base : Heap, K.In base → base.Ns mainGlobals mg → SysAt base → FnG P w K mg base CX0 k fa fd [x] sp) (bind : ∀ (s : Shared) (u : Value), BindsTo s fd ⟨[u], []⟩ [(x, u)])
    (hsp : ∀ H : Hp, Only H → SqL K H a (ns.map V.int) → sp [.ref a] H (fun v _ => v = .bl true) fun _ _ _ => False) :
    codeAny (model P w) callerA (.call (.ref fa) ⟨[.ref a], []⟩) (fun r s' => r = .ok (.ret (.bool true)) ∧ OldK s.heap s'.heap ∧ s'.os = s.os ∧ PyProof.Rows.AllBare s'.gens) s := by
  have main : ∀ H : Hp, Only H → SqL K H a (ns.map V.int) → HOk P w H s.heap → (∀ b, H b ≠ none → b = a) → (H a ≠ none → K.lookup a = none) →
      codeAny (model P w) callerA (.call (.ref fa) ⟨[.ref a], []⟩) (fun r s' => r = .ok (.ret (.bool true)) ∧ OldK s.heap s'.heap ∧ s'.os = s.os ∧ PyProof.Rows.AllBare s'.gens) s := by
    intro H only sq ok sole notK
    have hid : ∀ {b : Addr} {o : Obj}, s.heap.get? b = some o → H b = none → (hidT s.heap H).get? b = some o := fun z1 z2 => hidT_get z1 z2
    have dicts : ∀ {b : Addr} {o : Obj} {es : Array DictEntry} {ep : Nat}, s.heap.get? b = some o → o.data = .dict es ep → H b = none := by
      intro b o es ep z1 z2
      cases hz : H b with
      | none => rfl
      | some u =>
        have zb := sole b (by rw [hz]; exact Option.some_ne_none _)
        subst zb
        rw [at_a] at z1
        cases z1
        have z3 : Data.seq us.toArray _ = Data.dict es ep := z2
        cases z3
    have nsH : ∀ {b : Addr} {m : Str → Option Value}, s.heap.Ns b m → (hidT s.heap H).Ns b m := by
      rintro b m ⟨o, es, ep, z1, z2, z3⟩
      exact ⟨o, es, ep, hid z1 (dicts z1 z2), z2, z3⟩
    have inB : K.In (hidT s.heap H) := by
      intro b o z1
      refine hid (inK b o z1) ?_
      cases hz : H b with
      | none => rfl
      | some u =>
        have zb := sole b (by rw [hz]; exact Option.some_ne_none _)
        subst zb
        rw [notK (by rw [hz]; exact Option.some_ne_none _)] at z1
        cases z1
    have modl : Mod K mg (hidT s.heap H) := by
      obtain ⟨mc, l1, l2⟩ := lim
      exact ⟨inB, nsH hns, ⟨mb, nsH hbn, hbb⟩, ⟨mc, nsH l1, l2⟩⟩
    have en : Env0 P w K mg (hidT s.heap H) callerA [] s H := ⟨rfl, modl, fun b o z => of_hidT z, Nat.le_of_eq (hidT_size _ _), trivial, fun b z => absurd (show b ∈ ([] : List Addr) from z) List.not_mem_nil, ok, .of_eq gens⟩
    have sysB : SysAt (hidT s.heap H) := by
      obtain ⟨mm, hm⟩ := hsys
      obtain ⟨o, es, ep, z1, _⟩ := nsH hm
      exact ⟨o, z1⟩
    refine codeAny_mono ((F _ inB (nsH hns) sysB).run callerA [] s H ⟨[.ref a], []⟩ [.ref a] [.ref a] _ _ rfl room en (bind s (.ref a)) (.cons rfl .nil) (hsp H only sq)) ?_
    intro res s2 h2
    cases res with
    | error er => cases h2
    | ok fl =>
      cases fl with
      | next => cases h2
      | brk => cases h2
      | cont => cases h2
      | ret u =>
        obtain ⟨v, H2, os2, bare2, un2, ok2, rv, hv⟩ := h2
        have hv : v = .bl true := hv
        subst hv
        obtain rfl : u = Value.bool true := rv
        refine ⟨rfl, OldK.of_keep ?_, os2, bare2⟩
        intro b o z1
        cases hz : H b with
        | none => exact un2.keep b o z1 hz (fun z => absurd (show b ∈ ([] : List Addr) from z) List.not_mem_nil) (by simp)
        | some u =>
          cases only b with
          | inl z => rw [hz] at z; cases z
          | inr z =>
            obtain ⟨ob, xs, z⟩ := z
            have kept := (ok2 b _ (un2.frzs b ob _ z)).1
            have was := (ok b _ z).1
            rw [z1] at was
            cases was
            exact kept
  have rel := vals_ints hints
  cases look : K.lookup a with
  | some o =>
    have z := inK a o look
    rw [at_a] at z
    cases z
    exact main (fun _ => none) (fun _ => .inl rfl) (.inr ⟨_, us.toArray, _, look, rfl, rfl, rfl, by rw [List.size_toArray, hints.length]; exact short, by simpa using rel⟩) (fun b u z => nomatch (show (none : Option HO) = some u from z)) (fun b z => absurd rfl z) fun z => absurd rfl z
  | none =>
    let u0 : HO := .frz { cls := .type "list", data := .seq us.toArray } (.lst (ns.map V.int))
    have h1 : (fun b => if b = a then some u0 else none : Hp) a = some u0 := if_pos rfl
    have h2 : ∀ b, b ≠ a → (fun b => if b = a then some u0 else none : Hp) b = none := fun b hb => if_neg hb
    refine main (fun b => if b = a then some u0 else none) (fun b => ?_) (.inl (.inr ⟨_, h1⟩)) (fun b u z => ?_) (fun b z => Classical.byContradiction fun hb => z (h2 b hb)) fun _ => look
    · by_cases hb : b = a
      · subst hb; exact .inr ⟨_, _, h1⟩
      · exact .inl (h2 b hb)
    · by_cases hb : b = a
      · subst hb
        have z := h1.symm.trans z
        cases z
        exact ⟨at_a, by rw [List.length_map]; exact short, us, _, rel, at_a⟩
      · have z := (h2 b hb).symm.trans z
        cases z
end DL

/-! Data layer, part 6: operators, built-ins and methods by data. -/
namespace DL
open PySem L2

/-! ### data as the library's data; equality -/
mutual
def D.py : D → PyData
  | .non => .none
  | .bl b => .bool b
  | .int i => .int i
  | .str x => .str x
  | .lst xs => .list (pys xs)
  | .tup xs => .tuple (pys xs)
  | .dic kvs => .dict (pyk kvs)
  | .scr ns => .list (ns.map PyData.int)
  | .obj _ _ => .none
def pys : List D → List PyData
  | [] => []
  | d :: ds => d.py :: pys ds
def pyk : List (Key × D) → List (PyData × PyData)
  | [] => []
  | (k, d) :: ds => ((match k with | .inl i => .int i | .inr x => .str x), d.py) :: pyk ds
end
/-! plain: no dict, no script, texts of code points -/
mutual
def D.pl : D → Bool
  | .non => true
  | .bl _ => true
  | .int _ => true
  | .str x => x.cps.all (· < 1114112)
  | .lst xs => plAll xs
  | .tup xs => plAll xs
  | .dic _ => false
  | .scr _ => false
  | .obj _ _ => false
def plAll : List D → Bool
  | [] => true
  | d :: ds => d.pl && plAll ds
end
mutual
def D.dp : D → Nat
  | .lst xs => dpAll xs + 1
  | .tup xs => dpAll xs + 1
  | _ => 0
def dpAll : List D → Nat
  | [] => 0
  | d :: ds => max d.dp (dpAll ds)
end
mutual
def D.eqv : D → D → Bool
  | .non, .non => true
  | .bl a, .bl b => a == b
  | .bl a, .int j => (if a then 1 else 0) == j
  | .int i, .bl b => i == (if b then 1 else 0)
  | .int i, .int j => i == j
  | .str x, .str y => x == y
  | .lst xs, .lst ys => eqvAll xs ys
  | .tup xs, .tup ys => eqvAll xs ys
  | _, _ => false
def eqvAll : List D → List D → Bool
  | [], [] => true
  | x :: xs, y :: ys => x.eqv y && eqvAll xs ys
  | _, _ => false
end
/-- may be compared at any depth -/
def D.fit (d : D) : Bool := d.pl && decide (d.dp ≤ 64)
mutual
theorem py_lay : ∀ d : D, d.pl = true → d.py.canLay0 = true
  | .non, _ => rfl
  | .bl _, _ => rfl
  | .int _, _ => rfl
  | .str x, h => by
    exact h
  | .lst xs, h => by
    have h : plAll xs = true := h
    show PyData.canLayAll0 (pys xs) = true
    exact pys_lay xs h
  | .tup xs, h => by
    have h : plAll xs = true := h
    show PyData.canLayAll0 (pys xs) = true
    exact pys_lay xs h
  | .dic _, h => by cases h
  | .scr _, h => by cases h
  | .obj _ _, h => by cases h
theorem pys_lay : ∀ ds : List D, plAll ds = true → PyData.canLayAll0 (pys ds) = true
  | [], _ => rfl
  | d :: ds, h => by
    have h : (d.pl && plAll ds) = true := h
    obtain ⟨h1, h2⟩ := Bool.and_eq_true_iff.mp h
    show (d.py.canLay0 && PyData.canLayAll0 (pys ds)) = true
    rw [py_lay d h1, pys_lay ds h2]; rfl
end
mutual
theorem py_depth : ∀ d : D, d.pl = true → d.py.depth = d.dp
  | .non, _ => rfl
  | .bl _, _ => rfl
  | .int _, _ => rfl
  | .str x, h => rfl
  | .lst xs, h => by
    have h : plAll xs = true := h
    show PyData.depthAll (pys xs) + 1 = dpAll xs + 1
    rw [pys_depth xs h]
  | .tup xs, h => by
    have h : plAll xs = true := h
    show PyData.depthAll (pys xs) + 1 = dpAll xs + 1
    rw [pys_depth xs h]
  | .dic _, h => by cases h
  | .scr _, h => by cases h
  | .obj _ _, h => by cases h
theorem pys_depth : ∀ ds : List D, plAll ds = true → PyData.depthAll (pys ds) = dpAll ds
  | [], _ => rfl
  | d :: ds, h => by
    have h : (d.pl && plAll ds) = true := h
    obtain ⟨h1, h2⟩ := Bool.and_eq_true_iff.mp h
    show max d.py.depth (PyData.depthAll (pys ds)) = max d.dp (dpAll ds)
    rw [py_depth d h1, pys_depth ds h2]
end
theorem fit_shaped {d : D} (h : d.fit = true) : SeqAt.shaped d.py = true := by
  obtain ⟨h1, h2⟩ := Bool.and_eq_true_iff.mp h
  have h2 := of_decide_eq_true h2
  unfold SeqAt.shaped
  rw [py_lay d h1, py_depth d h1, decide_eq_true h2]; rfl
mutual
theorem py_eqv : ∀ d e : D, d.pl = true → e.pl = true → PyData.eqv d.py e.py = d.eqv e
  | .non, e, _, he => by cases e <;> first | rfl | cases he
  | .bl a, e, _, he => by cases e <;> first | rfl | cases he
  | .int a, e, _, he => by cases e <;> first | rfl | cases he
  | .str a, e, _, he => by cases e <;> first | rfl | cases he
  | .lst xs, e, h, he => by
    cases e with
    | lst ys =>
      have h : plAll xs = true := h
      have he : plAll ys = true := he
      show PyData.eqvAll (pys xs) (pys ys) = eqvAll xs ys
      exact pys_eqv xs ys h he
    | non => rfl
    | bl _ => rfl
    | int _ => rfl
    | str _ => rfl
    | tup _ => rfl
    | dic _ => cases he
    | scr _ => cases he
    | obj _ _ => cases he
  | .tup xs, e, h, he => by
    cases e with
    | tup ys =>
      have h : plAll xs = true := h
      have he : plAll ys = true := he
      show PyData.eqvAll (pys xs) (pys ys) = eqvAll xs ys
      exact pys_eqv xs ys h he
    | non => rfl
    | bl _ => rfl
    | int _ => rfl
    | str _ => rfl
    | lst _ => rfl
    | dic _ => cases he
    | scr _ => cases he
    | obj _ _ => cases he
  | .dic _, _, h, _ => by cases h
  | .scr _, _, h, _ => by cases h
  | .obj _ _, _, h, _ => by cases h
theorem pys_eqv : ∀ ds es : List D, plAll ds = true → plAll es = true → PyData.eqvAll (pys ds) (pys es) = eqvAll ds es
  | [], [], _, _ => rfl
  | [], _ :: _, _, _ => rfl
  | _ :: _, [], _, _ => rfl
  | d :: ds, e :: es, h, h' => by
    have h : (d.pl && plAll ds) = true := h
    have h' : (e.pl && plAll es) = true := h'
    obtain ⟨h1, h2⟩ := Bool.and_eq_true_iff.mp h
    obtain ⟨h3, h4⟩ := Bool.and_eq_true_iff.mp h'
    show (PyData.eqv d.py e.py && PyData.eqvAll (pys ds) (pys es)) = (d.eqv e && eqvAll ds es)
    rw [py_eqv d e h1 h3, pys_eqv ds es h2 h4]
end
theorem pys_map : ∀ ds : List D, pys ds = ds.map D.py
  | [] => rfl
  | d :: ds => by show d.py :: pys ds = _; rw [pys_map ds]; rfl

section
variable {X : Cx} {pins : List (Addr × Obj)} {s : Shared} {F H : Hp} {sg : St}
mutual
theorem RD.reads (I : Inv X pins sg H s) : ∀ (d : D) (v : V) (u : Value), d.pl = true → RD X.K H v d → RelV v u → ∃ as, Reads s.heap u d.py as
  | .non, _, _, _, h, r => by cases h; cases r; exact ⟨_, Reads.none⟩
  | .bl b, _, _, _, h, r => by cases h; cases r; exact ⟨_, Reads.bool b⟩
  | .int i, _, _, _, h, r => by cases h; obtain ⟨t, rfl⟩ := r; exact ⟨_, Reads.int i t⟩
  | .str x, _, _, _, h, r => by cases h; obtain ⟨t, rfl⟩ := r; exact ⟨_, Reads.str x t⟩
  | .lst ds, _, _, hp, h, r => by
    have hp : plAll ds = true := hp
    cases h with
    | lst hs ha =>
      cases r
      obtain ⟨its, rv, ⟨o, n, ho, hc, _, hd⟩, _⟩ := I.list (SqL.of hs)
      obtain ⟨as, hr⟩ := RDs.reads I ds _ its hp ha rv
      exact ⟨_, Reads.list ho hc hd hr⟩
  | .tup ds, _, _, hp, h, r => by
    have hp : plAll ds = true := hp
    cases h with
    | tup hs ha =>
      cases r
      obtain ⟨its, rv, ⟨o, ho, hc, n, hd⟩, _⟩ := I.tuple hs
      obtain ⟨as, hr⟩ := RDs.reads I ds _ its hp ha rv
      exact ⟨_, Reads.tuple ho hc hd hr⟩
  | .dic _, _, _, hp, _, _ => by cases hp
  | .scr _, _, _, hp, _, _ => by cases hp
  | .obj _ _, _, _, hp, _, _ => by cases hp
theorem RDs.reads (I : Inv X pins sg H s) : ∀ (ds : List D) (vs : List V) (us : List Value), plAll ds = true → RDs X.K H vs ds → Vals vs us → ∃ as, ReadsAll s.heap us (pys ds) as
  | [], _, _, _, h, r => by cases h; cases r; exact ⟨_, ReadsAll.nil⟩
  | d :: ds, _, _, hp, h, r => by
    have hp : (d.pl && plAll ds) = true := hp
    obtain ⟨h1, h2⟩ := Bool.and_eq_true_iff.mp hp
    cases h with
    | cons a1 a2 =>
      cases r with
      | cons r1 r2 =>
        obtain ⟨as, q1⟩ := RD.reads I d _ _ h1 a1 r1
        obtain ⟨bs, q2⟩ := RDs.reads I ds _ _ h2 a2 r2
        exact ⟨_, ReadsAll.cons q1 q2⟩
end
end

/-- scalars are compared whatever their size -/
def D.sc : D → D → Option Bool
  | .int i, .int j => some (decide (i = j))
  | .str i, .str j => some (decide (i = j))
  | .bl i, .bl j => some (decide (i = j))
  | _, _ => none
/-- by the lengths alone, whatever is in them -/
def lenB : D → D → Option Bool
  | .lst xs, .lst ys => if xs.length = ys.length then none else some false
  | .tup xs, .tup [] => some xs.isEmpty
  | .tup (.str x :: xs), .tup [.str y] => some (decide (x = y) && xs.isEmpty)
  | _, _ => none
def eqB (d e : D) : Option Bool := match D.sc d e with
  | some b => some b
  | none => if d.fit && e.fit then some (d.eqv e) else lenB d e
def semEq (d e : D) : Option D := (eqB d e).map D.bl
def semNe (d e : D) : Option D := (eqB d e).map fun b => D.bl (!b)
theorem semEq_one (x y : Str) (xs : List D) : semEq (.tup (.str x :: xs)) (.tup [.str y]) = some (.bl (decide (x = y) && xs.isEmpty)) := by
  have e1 : D.eqv (.tup (.str x :: xs)) (.tup [.str y]) = (decide (x = y) && xs.isEmpty) := by
    cases xs with
    | nil => show (decide (x = y) && true) = _; rfl
    | cons a l => show (decide (x = y) && false) = _; rfl
  have e2 : lenB (.tup (.str x :: xs)) (.tup [.str y]) = some (decide (x = y) && xs.isEmpty) := rfl
  have e3 : D.sc (.tup (.str x :: xs)) (.tup [.str y]) = none := rfl
  unfold semEq eqB
  rw [e3]
  simp only [e1, e2]
  split <;> rfl
def D.seq : D → Option (List D)
  | .lst xs => some xs
  | .tup xs => some xs
  | _ => none
def inB (d e : D) : Option Bool := match d, e with
  | .str x, .str y => some (!(Builtin.Str.occurrences y x 0 y.length 1).isEmpty)
  | d, e => match e.seq with
    | some ds => if d.fit && e.fit then some (ds.any fun z => z.eqv d) else none
    | none => none
def semIn (d e : D) : Option D := (inB d e).map D.bl
def semNotIn (d e : D) : Option D := (inB d e).map fun b => D.bl (!b)

section
variable {X : Cx} {g : G}
theorem sc_some {d e : D} {b : Bool} (h : D.sc d e = some b) : (∃ i j, d = .int i ∧ e = .int j ∧ b = decide (i = j)) ∨ (∃ i j, d = .str i ∧ e = .str j ∧ b = decide (i = j)) ∨ ∃ i j, d = .bl i ∧ e = .bl j ∧ b = decide (i = j) := by
  unfold D.sc at h
  split at h
  · cases h; exact .inl ⟨_, _, rfl, rfl, rfl⟩
  · cases h; exact .inr (.inl ⟨_, _, rfl, rfl, rfl⟩)
  · cases h; exact .inr (.inr ⟨_, _, rfl, rfl, rfl⟩)
  · cases h
theorem RB.tup {K : PySem.W.Frag} {F H : Hp} {v : V} {ds : List D} (sub : Same F H) (h : RB K F H v (.tup ds)) : ∃ a vs, v = .ref a ∧ SqT K H a vs ∧ SqT K F a vs ∧ RDs K F vs ds := by
  cases h.flat (fun _ => nofun) with
  | tup h1 h2 => exact ⟨_, _, rfl, same_sqT sub h1, h1, h2⟩
theorem opd_eq (hu : X.A.units + 64 < cLine) : OpR X (compareOp .Eq) (rD2 X.K g semEq) := by
  intro pins s sg H x y v u Q I rx ry h
  obtain ⟨F, s0, r, dx, dy, d, R, hx, hy, e, q⟩ := h
  obtain ⟨b, eb, rfl⟩ := Option.map_eq_some_iff.mp e
  clear e
  have e := eb
  unfold eqB at e
  split at e
  · next b' es =>
    cases e
    rcases sc_some es with ⟨i, j, rfl, rfl, rfl⟩ | ⟨i, j, rfl, rfl, rfl⟩ | ⟨i, j, rfl, rfl, rfl⟩
    · cases hx.flat (fun _ => nofun); cases hy.flat (fun _ => nofun)
      refine op_eq pins s sg H _ _ v u Q I rx ry ⟨rfl, ?_⟩
      have := q F H (.bl (decide (i = j))) (Same.refl _) R (.bl _)
      simpa using this
    · cases hx.flat (fun _ => nofun); cases hy.flat (fun _ => nofun)
      refine op_eq pins s sg H _ _ v u Q I rx ry ⟨rfl, ?_⟩
      have := q F H (.bl (decide (i = j))) (Same.refl _) R (.bl _)
      simpa using this
    · cases hx.flat (fun _ => nofun); cases hy.flat (fun _ => nofun)
      refine op_eq pins s sg H _ _ v u Q I rx ry ⟨rfl, ?_⟩
      have := q F H (.bl (decide (i = j))) (Same.refl _) R (.bl _)
      simpa using this
  · split at e
    · next hf =>
      cases e
      obtain ⟨f1, f2⟩ := Bool.and_eq_true_iff.mp hf
      have p1 := (Bool.and_eq_true_iff.mp f1).1
      have p2 := (Bool.and_eq_true_iff.mp f2).1
      obtain ⟨as, r1⟩ := RD.reads I dx x v p1 (hx.rd R.sub) rx
      obtain ⟨bs, r2⟩ := RD.reads I dy y u p2 (hy.rd R.sub) ry
      refine SeqAt.compareEq_shaped r1 r2 (fit_shaped f1) (fit_shaped f2) hu ⟨.bl _, H, I, rfl, ?_⟩
      rw [py_eqv dx dy p1 p2]
      exact q F H _ (Same.refl _) R (.bl _)
    · unfold lenB at e
      split at e
      · next xs ys =>
        split at e
        · cases e
        · next hne =>
          cases e
          obtain ⟨a, vs, rfl, h1, h2⟩ := hx.lst R.sub
          obtain ⟨b, ws, rfl, h3, h4⟩ := hy.lst R.sub
          cases rx
          cases ry
          obtain ⟨its, rv, pl, _⟩ := I.list (SqL.of h1)
          obtain ⟨its2, rv2, pl2, _⟩ := I.list (SqL.of h3)
          refine SeqAt.RcAt.lists_lengths pl.isList pl2.isList ?_ (by omega) X.prog X.w X.xe _ ⟨.bl false, H, I, rfl, q F H _ (Same.refl _) R (.bl _)⟩
          have z1 := rv.length
          have z2 := rv2.length
          have z3 := h2.length
          have z4 := h4.length
          simp only [List.size_toArray, bne_iff_ne, ne_eq]
          omega
      · next xs _ _ =>
        cases e
        obtain ⟨a, vs, rfl, h1, _, h2⟩ := hx.tup R.sub
        obtain ⟨b, ws, rfl, h3, _, h4⟩ := hy.tup R.sub
        cases rx
        cases ry
        obtain ⟨its, rv, pl, _⟩ := I.tuple h1
        obtain ⟨its2, rv2, pl2, _⟩ := I.tuple h3
        have z1 := rv.length
        have z2 := rv2.length
        have z3 := h2.length
        have z4 := h4.length
        have hz : its2 = [] := List.eq_nil_of_length_eq_zero (by rw [← z2, z4]; rfl)
        subst hz
        have hb : ((List.range (min its.toArray.size (List.toArray ([] : List Value)).size)).all (fun _ => true) && its.toArray.size == (List.toArray ([] : List Value)).size) = xs.isEmpty := by
          simp only [List.size_toArray, List.length_nil, Nat.min_zero, List.range_zero, List.all_nil, Bool.true_and]
          have z5 : its.length = xs.length := by rw [← z1, z3]
          rw [z5]
          cases xs with
          | nil => rfl
          | cons x xs => rfl
        have := SeqAt.RcAt.tuples (A := X.A) (s := s) (e := fun _ => true) pl pl2 (by omega) (fun j _ h => absurd h (by simp))
        rw [hb] at this
        exact this X.prog X.w X.xe _ ⟨.bl _, H, I, rfl, q F H _ (Same.refl _) R (.bl _)⟩
      · next x xs y _ _ =>
        cases e
        obtain ⟨a, vs, rfl, h1, _, h2⟩ := hx.tup R.sub
        obtain ⟨b, ws, rfl, h3, _, h4⟩ := hy.tup R.sub
        cases rx
        cases ry
        obtain ⟨its, rv, pl, _⟩ := I.tuple h1
        obtain ⟨its2, rv2, pl2, _⟩ := I.tuple h3
        cases h2 with
        | cons a1 a2 =>
        cases h4 with
        | cons a3 a4 =>
        cases a1; cases a3; cases a4
        cases rv with
        | cons r1 r2 =>
        cases rv2 with
        | cons r3 r4 =>
        obtain ⟨t1, rfl⟩ := r1
        obtain ⟨t2, rfl⟩ := r3
        cases r4
        have z1 := r2.length
        have z3 := a2.length
        rename_i its _ _
        have hb : ∀ (v u : Value) (its : List Value), its.length = xs.length → ((List.range (min (v :: its).toArray.size [u].toArray.size)).all (fun _ => decide (x = y)) && (v :: its).toArray.size == [u].toArray.size) = (decide (x = y) && xs.isEmpty) := by
          intro v u its z5
          have hm : min (its.length + 1) 1 = 1 := by omega
          simp only [List.size_toArray, List.length_cons, List.length_nil, Nat.zero_add, hm, z5]
          cases xs with
          | nil => simp [List.range, List.range.loop]
          | cons x xs => simp [List.range, List.range.loop]
        have := SeqAt.RcAt.tuples (A := X.A) (s := s) (e := fun _ => decide (x = y)) pl pl2 (by omega) (fun j _ h => by
          have : j = 0 := by simp at h; omega
          subst this
          exact SeqAt.EqAt.str_str _ _ _ _)
        rw [hb _ _ _ (by omega)] at this
        exact this X.prog X.w X.xe _ ⟨.bl _, H, I, rfl, q F H _ (Same.refl _) R (.bl _)⟩
      · cases e
theorem opd_ne (hu : X.A.units + 64 < cLine) : OpR X (compareOp .NotEq) (rD2 X.K g semNe) := by
  intro pins s sg H x y v u Q I rx ry h
  obtain ⟨F, s0, r, dx, dy, d, R, hx, hy, e, q⟩ := h
  obtain ⟨b, eb, rfl⟩ := Option.map_eq_some_iff.mp e
  clear e
  have e := eb
  unfold eqB at e
  split at e
  · next b' es =>
    cases e
    rcases sc_some es with ⟨i, j, rfl, rfl, rfl⟩ | ⟨i, j, rfl, rfl, rfl⟩ | ⟨i, j, rfl, rfl, rfl⟩
    · cases hx.flat (fun _ => nofun); cases hy.flat (fun _ => nofun)
      refine op_ne pins s sg H _ _ v u Q I rx ry ⟨rfl, ?_⟩
      have := q F H (.bl (!decide (i = j))) (Same.refl _) R (.bl _)
      simpa using this
    · cases hx.flat (fun _ => nofun); cases hy.flat (fun _ => nofun)
      refine op_ne pins s sg H _ _ v u Q I rx ry ⟨rfl, ?_⟩
      have := q F H (.bl (!decide (i = j))) (Same.refl _) R (.bl _)
      simpa using this
    · cases hx.flat (fun _ => nofun); cases hy.flat (fun _ => nofun)
      refine op_ne pins s sg H _ _ v u Q I rx ry ⟨rfl, ?_⟩
      have := q F H (.bl (!decide (i = j))) (Same.refl _) R (.bl _)
      simpa using this
  · split at e
    · next hf =>
      cases e
      obtain ⟨f1, f2⟩ := Bool.and_eq_true_iff.mp hf
      have p1 := (Bool.and_eq_true_iff.mp f1).1
      have p2 := (Bool.and_eq_true_iff.mp f2).1
      obtain ⟨as, r1⟩ := RD.reads I dx x v p1 (hx.rd R.sub) rx
      obtain ⟨bs, r2⟩ := RD.reads I dy y u p2 (hy.rd R.sub) ry
      refine SeqAt.compareNe_shaped r1 r2 (fit_shaped f1) (fit_shaped f2) hu ⟨.bl _, H, I, rfl, ?_⟩
      rw [py_eqv dx dy p1 p2]
      exact q F H _ (Same.refl _) R (.bl _)
    · unfold lenB at e
      split at e
      · next xs ys =>
        split at e
        · cases e
        · next hne =>
          cases e
          obtain ⟨a, vs, rfl, h1, h2⟩ := hx.lst R.sub
          obtain ⟨b, ws, rfl, h3, h4⟩ := hy.lst R.sub
          cases rx
          cases ry
          obtain ⟨its, rv, pl, _⟩ := I.list (SqL.of h1)
          obtain ⟨its2, rv2, pl2, _⟩ := I.list (SqL.of h3)
          refine SeqAt.RcNeAt.lists_lengths pl.isList pl2.isList ?_ (by omega) X.prog X.w X.xe _ ⟨.bl true, H, I, rfl, q F H _ (Same.refl _) R (.bl _)⟩
          have z1 := rv.length
          have z2 := rv2.length
          have z3 := h2.length
          have z4 := h4.length
          simp only [List.size_toArray, bne_iff_ne, ne_eq]
          omega
      · next xs _ _ =>
        cases e
        obtain ⟨a, vs, rfl, h1, _, h2⟩ := hx.tup R.sub
        obtain ⟨b, ws, rfl, h3, _, h4⟩ := hy.tup R.sub
        cases rx
        cases ry
        obtain ⟨its, rv, pl, _⟩ := I.tuple h1
        obtain ⟨its2, rv2, pl2, _⟩ := I.tuple h3
        have z1 := rv.length
        have z2 := rv2.length
        have z3 := h2.length
        have z4 := h4.length
        have hz : its2 = [] := List.eq_nil_of_length_eq_zero (by rw [← z2, z4]; rfl)
        subst hz
        have hb : ((List.range (min its.toArray.size (List.toArray ([] : List Value)).size)).all (fun _ => true) && its.toArray.size == (List.toArray ([] : List Value)).size) = xs.isEmpty := by
          simp only [List.size_toArray, List.length_nil, Nat.min_zero, List.range_zero, List.all_nil, Bool.true_and]
          have z5 : its.length = xs.length := by rw [← z1, z3]
          rw [z5]
          cases xs with
          | nil => rfl
          | cons x xs => rfl
        have := SeqAt.RcNeAt.tuples (A := X.A) (s := s) (e := fun _ => true) pl pl2 (by omega) (fun j _ h => absurd h (by simp))
        rw [hb] at this
        exact this X.prog X.w X.xe _ ⟨.bl _, H, I, rfl, q F H _ (Same.refl _) R (.bl _)⟩
      · next x xs y _ _ =>
        cases e
        obtain ⟨a, vs, rfl, h1, _, h2⟩ := hx.tup R.sub
        obtain ⟨b, ws, rfl, h3, _, h4⟩ := hy.tup R.sub
        cases rx
        cases ry
        obtain ⟨its, rv, pl, _⟩ := I.tuple h1
        obtain ⟨its2, rv2, pl2, _⟩ := I.tuple h3
        cases h2 with
        | cons a1 a2 =>
        cases h4 with
        | cons a3 a4 =>
        cases a1; cases a3; cases a4
        cases rv with
        | cons r1 r2 =>
        cases rv2 with
        | cons r3 r4 =>
        obtain ⟨t1, rfl⟩ := r1
        obtain ⟨t2, rfl⟩ := r3
        cases r4
        have z1 := r2.length
        have z3 := a2.length
        rename_i its _ _
        have hb : ∀ (v u : Value) (its : List Value), its.length = xs.length → ((List.range (min (v :: its).toArray.size [u].toArray.size)).all (fun _ => decide (x = y)) && (v :: its).toArray.size == [u].toArray.size) = (decide (x = y) && xs.isEmpty) := by
          intro v u its z5
          have hm : min (its.length + 1) 1 = 1 := by omega
          simp only [List.size_toArray, List.length_cons, List.length_nil, Nat.zero_add, hm, z5]
          cases xs with
          | nil => simp [List.range, List.range.loop]
          | cons x xs => simp [List.range, List.range.loop]
        have := SeqAt.RcNeAt.tuples (A := X.A) (s := s) (e := fun _ => decide (x = y)) pl pl2 (by omega) (fun j _ h => by
          have : j = 0 := by simp at h; omega
          subst this
          exact SeqAt.EqAt.str_str _ _ _ _)
        rw [hb _ _ _ (by omega)] at this
        exact this X.prog X.w X.xe _ ⟨.bl _, H, I, rfl, q F H _ (Same.refl _) R (.bl _)⟩
      · cases e
theorem any_py (ds : List D) (d : D) (h : plAll ds = true) (hd : d.pl = true) : ((pys ds).any fun y => PyData.eqv y d.py) = ds.any fun z => z.eqv d := by
  induction ds with
  | nil => rfl
  | cons e es ih =>
    have h : (e.pl && plAll es) = true := h
    obtain ⟨h1, h2⟩ := Bool.and_eq_true_iff.mp h
    show (PyData.eqv e.py d.py || (pys es).any fun y => PyData.eqv y d.py) = (e.eqv d || es.any fun z => z.eqv d)
    rw [ih h2, py_eqv e d h1 hd]
theorem room_in {n m : Nat} {A : Around} (h : m ≤ 64) (hu : A.units + 65 < cLine) : A.units + 1 + min n m < cLine := by
  have : min n m ≤ m := Nat.min_le_right _ _
  omega
theorem inB_cases {dx dy : D} {b : Bool} (e : inB dx dy = some b) : (∃ x y, dx = .str x ∧ dy = .str y ∧ b = !(Builtin.Str.occurrences y x 0 y.length 1).isEmpty) ∨ ∃ ds, dy.seq = some ds ∧ dx.fit = true ∧ dy.fit = true ∧ b = ds.any fun z => z.eqv dx := by
  unfold inB at e
  split at e
  · cases e; exact .inl ⟨_, _, rfl, rfl, rfl⟩
  · split at e
    · next ds es =>
      split at e
      · next hf =>
        cases e
        obtain ⟨f1, f2⟩ := Bool.and_eq_true_iff.mp hf
        exact .inr ⟨ds, es, f1, f2, rfl⟩
      · cases e
    · cases e
theorem opd_in (hu : X.A.units + 65 < cLine) : OpR X (compareOp .In) (rD2 X.K g semIn) := by
  intro pins s sg H x y v u Q I rx ry h
  obtain ⟨F, s0, r, dx, dy, d, R, hx, hy, e, q⟩ := h
  obtain ⟨b, eb, rfl⟩ := Option.map_eq_some_iff.mp e
  clear e
  have e := eb
  rcases inB_cases e with ⟨x', y', rfl, rfl, rfl⟩ | ⟨ds, es, f1, f2, rfl⟩
  · cases hx.flat (fun _ => nofun); cases hy.flat (fun _ => nofun)
    exact op_in_str pins s sg H _ _ v u Q I rx ry ⟨_, _, rfl, rfl, q F H _ (Same.refl _) R (.bl _)⟩
  · have p1 := (Bool.and_eq_true_iff.mp f1).1
    have p2 := (Bool.and_eq_true_iff.mp f2).1
    have dp1 := of_decide_eq_true (Bool.and_eq_true_iff.mp f1).2
    obtain ⟨as, r1⟩ := RD.reads I dx x v p1 (hx.rd R.sub) rx
    obtain ⟨bs, r2⟩ := RD.reads I dy y u p2 (hy.rd R.sub) ry
    have fin : EP X pins sg Q (.bool ((pys ds).any fun y => PyData.eqv y dx.py)) s := by
      refine ⟨.bl _, H, I, rfl, ?_⟩
      have pd : plAll ds = true := by
        cases dy <;> first | (cases es; exact p2) | cases es
      rw [any_py ds dx pd p1]
      exact q F H _ (Same.refl _) R (.bl _)
    cases dy with
    | lst zs =>
      cases es
      exact SeqAt.in_list_reads (show Reads s.heap u (.list (pys ds)) bs from r2) r1 (pys_lay ds p2) (py_lay dx p1) (by rw [py_depth dx p1]; exact room_in dp1 hu) fin
    | tup zs =>
      cases es
      exact SeqAt.in_tuple_reads (show Reads s.heap u (.tuple (pys ds)) bs from r2) r1 (pys_lay ds p2) (py_lay dx p1) (by rw [py_depth dx p1]; exact room_in dp1 hu) fin
    | _ => cases es
theorem opd_notIn (hu : X.A.units + 65 < cLine) : OpR X (compareOp .NotIn) (rD2 X.K g semNotIn) := by
  intro pins s sg H x y v u Q I rx ry h
  obtain ⟨F, s0, r, dx, dy, d, R, hx, hy, e, q⟩ := h
  obtain ⟨b, eb, rfl⟩ := Option.map_eq_some_iff.mp e
  clear e
  have e := eb
  rcases inB_cases e with ⟨x', y', rfl, rfl, rfl⟩ | ⟨ds, es, f1, f2, rfl⟩
  · cases hx.flat (fun _ => nofun); cases hy.flat (fun _ => nofun)
    exact op_notin_str pins s sg H _ _ v u Q I rx ry ⟨_, _, rfl, rfl, q F H _ (Same.refl _) R (.bl _)⟩
  · have p1 := (Bool.and_eq_true_iff.mp f1).1
    have p2 := (Bool.and_eq_true_iff.mp f2).1
    have dp1 := of_decide_eq_true (Bool.and_eq_true_iff.mp f1).2
    obtain ⟨as, r1⟩ := RD.reads I dx x v p1 (hx.rd R.sub) rx
    obtain ⟨bs, r2⟩ := RD.reads I dy y u p2 (hy.rd R.sub) ry
    have fin : EP X pins sg Q (.bool (!(pys ds).any fun y => PyData.eqv y dx.py)) s := by
      refine ⟨.bl _, H, I, rfl, ?_⟩
      have pd : plAll ds = true := by
        cases dy <;> first | (cases es; exact p2) | cases es
      rw [any_py ds dx pd p1]
      exact q F H _ (Same.refl _) R (.bl _)
    cases dy with
    | lst zs =>
      cases es
      exact SeqAt.notIn_list_reads (show Reads s.heap u (.list (pys ds)) bs from r2) r1 (pys_lay ds p2) (py_lay dx p1) (by rw [py_depth dx p1]; exact room_in dp1 hu) fin
    | tup zs =>
      cases es
      exact SeqAt.notIn_tuple_reads (show Reads s.heap u (.tuple (pys ds)) bs from r2) r1 (pys_lay ds p2) (py_lay dx p1) (by rw [py_depth dx p1]; exact room_in dp1 hu) fin
    | _ => cases es
end
end DL

/-! Data layer, part 7: arithmetic, subscripts, slices, built-ins, methods. -/
namespace DL
open PySem L2

/-! ### arithmetic -/
def big : Nat := 1000000
def semAdd : D → D → Option D
  | .int i, .int j => some (.int (i + j))
  | .str x, .str y => if x.length + y.length ≤ 1000000 then some (.str (x ++ y)) else none
  | .lst xs, .lst ys => if xs.length + ys.length ≤ 1000000 then some (.lst (xs ++ ys)) else none
  | .tup xs, .tup ys => if xs.length + ys.length ≤ 1000000 then some (.tup (xs ++ ys)) else none
  | _, _ => none
def semSub : D → D → Option D
  | .int i, .int j => some (.int (i - j))
  | _, _ => none
def semMul : D → D → Option D
  | .int i, .int j => if (-18446744073709551616 < i ∧ i < 18446744073709551616) then some (.int (i * j)) else none
  | .lst xs, .int k => if 0 ≤ k ∧ k ≤ 10000 ∧ xs.length ≤ 1000 then some (.lst (List.replicate k.toNat xs).flatten) else none
  | .str x, .int k => if 0 ≤ k ∧ k ≤ 1000 ∧ x.length ≤ 1000 then some (.str (Txt.mul x k)) else none
  | .tup xs, .int k => if xs ≠ [] ∧ 2 ≤ k ∧ k ≤ 1000 ∧ xs.length ≤ 1000 then some (.tup (List.replicate k.toNat xs).flatten) else none
  | _, _ => none
theorem mulOk_small {x : Str} {k : Int} (h : 0 ≤ k ∧ k ≤ 1000 ∧ x.length ≤ 1000) : MulOk x k := by
  refine ⟨?_, fun h1 _ h2 => ?_, fun _ _ => ?_⟩
  · have h1 : decide (k < -(2 ^ 63 : Int)) = false := decide_eq_false (by omega)
    have h2 : decide (k ≥ 2 ^ 63) = false := decide_eq_false (by omega)
    rw [h1, h2]; rfl
  · have h3 : (x.length : Int) ≤ 1000 := by omega
    have h4 : (1000 : Int) ≤ (2 ^ 63 - 1) / k := by
      apply Int.le_ediv_of_mul_le (by omega)
      omega
    omega
  · have h5 : k.toNat ≤ 1000 := by omega
    have h6 : x.length * k.toNat ≤ 1000 * 1000 := Nat.mul_le_mul h.2.2 h5
    unfold Builtin.Str.tooLong
    rw [sizeLine_eq]
    simp
    omega
def semFdiv : D → D → Option D
  | .int i, .int j => if 0 < j ∧ j < 1073741824 then some (.int (i / j)) else none
  | _, _ => none
def semMod : D → D → Option D
  | .int i, .int j => if 0 < j then some (.int (i % j)) else none
  | _, _ => none
def semPow : D → D → Option D
  | .int i, .int j => if 0 ≤ j ∧ j ≤ 1000 ∧ i.natAbs < 1000 then some (.int (i ^ j.toNat)) else none
  | _, _ => none
def semNeg : D → Option D
  | .int i => some (.int (-i))
  | _ => none
theorem mil_line : (1000000 : Nat) ≤ sizeLine := by decide
section
variable {X : Cx} {g : G}
/-- a new list, frozen -/
theorem PD.lst {K : PySem.W.Frag} {F H : Hp} {s : St} {r : En} {Q : VK} {ds : List D} {vs : List V} (R : Rel K g F H s r) (hvs : RDs K F vs ds) (q : PD K g F s Q (.lst ds) r) (p : Addr) (np : H p = none) : Q (.ref p) (L2.upd H p (.lst vs)) := by
  have sF := same_upd (o := .lst vs) (R.ff np)
  exact q _ _ _ sF (R.alloc np) (.lst upd_same (RDs.mono sF ds hvs))
theorem PD.tup {K : PySem.W.Frag} {F H : Hp} {s : St} {r : En} {Q : VK} {ds : List D} {vs : List V} (R : Rel K g F H s r) (hvs : RDs K F vs ds) (q : PD K g F s Q (.tup ds) r) (p : Addr) (np : H p = none) : Q (.ref p) (L2.upd H p (.tup vs)) := by
  have sF := same_upd (o := .tup vs) (R.ff np)
  exact q _ _ _ sF (R.alloc np) (.tup (.of upd_same) (RDs.mono sF ds hvs))
theorem opd_add : OpR X (binaryOp .Add) (rD2 X.K g semAdd) := by
  intro pins s sg H x y v u Q I rx ry h
  obtain ⟨F, s0, r, dx, dy, d, R, hx, hy, e, q⟩ := h
  unfold semAdd at e
  split at e
  · cases e
    cases hx.flat (fun _ => nofun); cases hy.flat (fun _ => nofun)
    exact op_add pins s sg H _ _ v u Q I rx ry ⟨_, _, rfl, rfl, q F H _ (Same.refl _) R (.int _)⟩
  · split at e
    · next hl =>
      cases e
      cases hx.flat (fun _ => nofun); cases hy.flat (fun _ => nofun)
      exact op_add_str pins s sg H _ _ v u Q I rx ry ⟨_, _, rfl, rfl, Nat.le_trans hl mil_line, q F H _ (Same.refl _) R (.str _)⟩
    · cases e
  · split at e
    · next hl =>
      cases e
      obtain ⟨a, vs, rfl, h1, h2⟩ := hx.lst R.sub
      obtain ⟨b, ws, rfl, h3, h4⟩ := hy.lst R.sub
      exact op_cat pins s sg H _ _ v u Q I rx ry ⟨a, b, vs, ws, rfl, rfl, h1, h3, by rw [h2.length, h4.length]; exact Nat.le_trans hl mil_line, PD.lst R (h2.app h4) q⟩
    · cases e
  · split at e
    · next hl =>
      cases e
      obtain ⟨a, vs, rfl, h1, h1', h2⟩ := hx.tup R.sub
      obtain ⟨b, ws, rfl, h3, h3', h4⟩ := hy.tup R.sub
      refine op_catA pins s sg H _ _ v u Q I rx ry ⟨a, b, vs, ws, rfl, rfl, h1, h3, by rw [h2.length, h4.length]; exact Nat.le_trans hl mil_line, fun z => ?_, fun _ z => ?_, fun _ _ => PD.tup R (h2.app h4) q⟩
      · subst z
        cases h2
        rw [List.nil_append] at q
        exact q F H _ (Same.refl _) R (.tup h3' h4)
      · subst z
        cases h4
        rw [List.append_nil] at q
        exact q F H _ (Same.refl _) R (.tup h1' h2)
    · cases e
  · cases e
theorem opd_sub : OpR X (binaryOp .Sub) (rD2 X.K g semSub) := by
  intro pins s sg H x y v u Q I rx ry h
  obtain ⟨F, s0, r, dx, dy, d, R, hx, hy, e, q⟩ := h
  unfold semSub at e
  split at e
  · cases e
    cases hx.flat (fun _ => nofun); cases hy.flat (fun _ => nofun)
    exact op_sub pins s sg H _ _ v u Q I rx ry ⟨_, _, rfl, rfl, q F H _ (Same.refl _) R (.int _)⟩
  · cases e
theorem opd_mul : OpR X (binaryOp .Mult) (rD2 X.K g semMul) := by
  intro pins s sg H x y v u Q I rx ry h
  obtain ⟨F, s0, r, dx, dy, d, R, hx, hy, e, q⟩ := h
  unfold semMul at e
  split at e
  · split at e
    · next hl =>
      cases e
      cases hx.flat (fun _ => nofun); cases hy.flat (fun _ => nofun)
      exact op_mul pins s sg H _ _ v u Q I rx ry ⟨_, _, rfl, rfl, .inl ⟨by omega, by omega⟩, q F H _ (Same.refl _) R (.int _)⟩
    · cases e
  · split at e
    · next xs k hl =>
      cases e
      obtain ⟨a, vs, rfl, h1, h2⟩ := hx.lst R.sub
      cases hy.flat (fun _ => nofun)
      have rep : ∀ n : Nat, RDs X.K F (List.replicate n vs).flatten (List.replicate n xs).flatten := fun n => by
        induction n with
        | zero => exact .nil
        | succ n ih =>
          rw [List.replicate_succ, List.replicate_succ, List.flatten_cons, List.flatten_cons]
          exact h2.app ih
      refine op_rep pins s sg H _ _ v u Q I rx ry ⟨a, k, vs, rfl, rfl, h1, by omega, by omega, ?_, PD.lst R (rep _) q⟩
      rw [h2.length]
      have h5 : k.toNat ≤ 10000 := by omega
      have h6 : xs.length * k.toNat ≤ 1000 * 10000 := Nat.mul_le_mul hl.2.2 h5
      exact Nat.le_trans h6 (by decide)
    · cases e
  · split at e
    · next x k hl =>
      cases e
      cases hx.flat (fun _ => nofun); cases hy.flat (fun _ => nofun)
      obtain ⟨t, rfl⟩ := rx
      obtain ⟨t', rfl⟩ := ry
      exact SB.mul (mulOk_small hl) fun t'' k' => ⟨.str _, H, I.tok _, ⟨_, rfl⟩, q F H _ (Same.refl _) R (.str _)⟩
    · cases e
  · split at e
    · next xs k hl =>
      cases e
      obtain ⟨a, vs, rfl, h1, _, h2⟩ := hx.tup R.sub
      cases hy.flat (fun _ => nofun)
      have rep : ∀ n : Nat, RDs X.K F (List.replicate n vs).flatten (List.replicate n xs).flatten := fun n => by
        induction n with
        | zero => exact .nil
        | succ n ih =>
          rw [List.replicate_succ, List.replicate_succ, List.flatten_cons, List.flatten_cons]
          exact h2.app ih
      refine op_repT pins s sg H _ _ v u Q I rx ry ⟨a, k, vs, rfl, rfl, h1, fun z => hl.1 ?_, hl.2.1, hl.2.2.1, by rw [h2.length]; exact hl.2.2.2, PD.tup R (rep _) q⟩
      have := h2.length
      rw [z] at this
      exact List.length_eq_zero_iff.mp this.symm
    · cases e
  · cases e
theorem opd_fdiv : OpR X (binaryOp .FloorDiv) (rD2 X.K g semFdiv) := by
  intro pins s sg H x y v u Q I rx ry h
  obtain ⟨F, s0, r, dx, dy, d, R, hx, hy, e, q⟩ := h
  unfold semFdiv at e
  split at e
  · split at e
    · next hl =>
      cases e
      cases hx.flat (fun _ => nofun); cases hy.flat (fun _ => nofun)
      exact op_fdiv pins s sg H _ _ v u Q I rx ry ⟨_, _, rfl, rfl, hl, q F H _ (Same.refl _) R (.int _)⟩
    · cases e
  · cases e
theorem opd_mod : OpR X (binaryOp .Mod) (rD2 X.K g semMod) := by
  intro pins s sg H x y v u Q I rx ry h
  obtain ⟨F, s0, r, dx, dy, d, R, hx, hy, e, q⟩ := h
  unfold semMod at e
  split at e
  · split at e
    · next hl =>
      cases e
      cases hx.flat (fun _ => nofun); cases hy.flat (fun _ => nofun)
      exact op_mod pins s sg H _ _ v u Q I rx ry ⟨_, _, rfl, rfl, hl, q F H _ (Same.refl _) R (.int _)⟩
    · cases e
  · cases e
theorem opd_pow : OpR X (binaryOp .Pow) (rD2 X.K g semPow) := by
  intro pins s sg H x y v u Q I rx ry h
  obtain ⟨F, s0, r, dx, dy, d, R, hx, hy, e, q⟩ := h
  unfold semPow at e
  split at e
  · split at e
    · next i j hl =>
      cases e
      cases hx.flat (fun _ => nofun); cases hy.flat (fun _ => nofun)
      refine op_pow pins s sg H _ _ v u Q I rx ry ⟨_, _, rfl, rfl, ⟨hl.1, by omega, ?_⟩, q F H _ (Same.refl _) R (.int _)⟩
      exact Nat.lt_trans hl.2.2 (by decide)
    · cases e
  · cases e
theorem und_neg : UnR X (unaryOp .USub) (rD1 X.K g semNeg) := by
  intro pins s sg H x v Q I rx h
  obtain ⟨F, s0, r, dx, d, R, hx, e, q⟩ := h
  unfold semNeg at e
  split at e
  · cases e
    cases hx.flat (fun _ => nofun)
    exact un_neg pins s sg H _ v Q I rx ⟨_, rfl, q F H _ (Same.refl _) R (.int _)⟩
  · cases e

/-! ### order -/
def semLt : D → D → Option D
  | .int i, .int j => some (.bl (decide (i < j)))
  | .str i, .str j => some (.bl (decide (i.cps.toList < j.cps.toList)))
  | _, _ => none
def semLe : D → D → Option D
  | .int i, .int j => some (.bl (decide (i ≤ j)))
  | _, _ => none
def semGt : D → D → Option D
  | .int i, .int j => some (.bl (decide (j < i)))
  | _, _ => none
def semGe : D → D → Option D
  | .int i, .int j => some (.bl (decide (j ≤ i)))
  | _, _ => none
theorem opd_lt : OpR X (compareOp .Lt) (rD2 X.K g semLt) := by
  intro pins s sg H x y v u Q I rx ry h
  obtain ⟨F, s0, r, dx, dy, d, R, hx, hy, e, q⟩ := h
  unfold semLt at e
  split at e
  · cases e
    cases hx.flat (fun _ => nofun); cases hy.flat (fun _ => nofun)
    exact op_lt pins s sg H _ _ v u Q I rx ry ⟨_, _, rfl, rfl, q F H _ (Same.refl _) R (.bl _)⟩
  · cases e
    cases hx.flat (fun _ => nofun); cases hy.flat (fun _ => nofun)
    exact op_lt_str pins s sg H _ _ v u Q I rx ry ⟨_, _, rfl, rfl, q F H _ (Same.refl _) R (.bl _)⟩
  · cases e
theorem opd_le : OpR X (compareOp .LtE) (rD2 X.K g semLe) := by
  intro pins s sg H x y v u Q I rx ry h
  obtain ⟨F, s0, r, dx, dy, d, R, hx, hy, e, q⟩ := h
  unfold semLe at e
  split at e
  · cases e
    cases hx.flat (fun _ => nofun); cases hy.flat (fun _ => nofun)
    exact op_le pins s sg H _ _ v u Q I rx ry ⟨_, _, rfl, rfl, q F H _ (Same.refl _) R (.bl _)⟩
  · cases e
theorem opd_gt : OpR X (compareOp .Gt) (rD2 X.K g semGt) := by
  intro pins s sg H x y v u Q I rx ry h
  obtain ⟨F, s0, r, dx, dy, d, R, hx, hy, e, q⟩ := h
  unfold semGt at e
  split at e
  · cases e
    cases hx.flat (fun _ => nofun); cases hy.flat (fun _ => nofun)
    exact op_gt pins s sg H _ _ v u Q I rx ry ⟨_, _, rfl, rfl, q F H _ (Same.refl _) R (.bl _)⟩
  · cases e
theorem opd_ge : OpR X (compareOp .GtE) (rD2 X.K g semGe) := by
  intro pins s sg H x y v u Q I rx ry h
  obtain ⟨F, s0, r, dx, dy, d, R, hx, hy, e, q⟩ := h
  unfold semGe at e
  split at e
  · cases e
    cases hx.flat (fun _ => nofun); cases hy.flat (fun _ => nofun)
    exact op_ge pins s sg H _ _ v u Q I rx ry ⟨_, _, rfl, rfl, q F H _ (Same.refl _) R (.bl _)⟩
  · cases e
/-- is None, is not None -/
def D.isN : D → Bool
  | .non => true
  | _ => false
def semIs : D → D → Option D
  | d, .non => some (.bl d.isN)
  | _, _ => none
def semIsNot : D → D → Option D
  | d, .non => some (.bl (!d.isN))
  | _, _ => none
theorem isN_ok {K : PySem.W.Frag} {H : Hp} {v : V} {d : D} (h : RD K H v d) : decide (v = V.non) = d.isN := by
  cases h <;> rfl
theorem opd_is : OpR X (compareOp .Is) (rD2 X.K g semIs) := by
  intro pins s sg H x y v u Q I rx ry h
  obtain ⟨F, s0, r, dx, dy, d, R, hx, hy, e, q⟩ := h
  unfold semIs at e
  split at e
  · cases e
    cases hy.flat (fun _ => nofun)
    refine op_isN pins s sg H _ _ v u Q I rx ry ⟨rfl, ?_⟩
    rw [isN_ok (hx.rd R.sub)]
    exact q F H _ (Same.refl _) R (.bl _)
  · cases e
theorem opd_isNot : OpR X (compareOp .IsNot) (rD2 X.K g semIsNot) := by
  intro pins s sg H x y v u Q I rx ry h
  obtain ⟨F, s0, r, dx, dy, d, R, hx, hy, e, q⟩ := h
  unfold semIsNot at e
  split at e
  · cases e
    cases hy.flat (fun _ => nofun)
    refine op_notN pins s sg H _ _ v u Q I rx ry ⟨rfl, ?_⟩
    rw [isN_ok (hx.rd R.sub)]
    exact q F H _ (Same.refl _) R (.bl _)
  · cases e

/-! ### subscripts -/
def semIx : D → D → Option D
  | .lst xs, .int i => atI xs i
  | .tup xs, .int i => atI xs i
  | .str x, .int i => if x.length ≤ 1000000 then (atI x.cps.toList i).map fun c => .str ⟨#[c]⟩ else none
  | _, _ => none
theorem RDs.at {K : PySem.W.Frag} {F : Hp} {vs : List V} {ds : List D} {i : Int} {d : D} (h : RDs K F vs ds) (e : atI ds i = some d) : ∃ v, atI vs i = some v ∧ RD K F v d := by
  unfold atI at e ⊢
  rw [h.length]
  obtain ⟨j, e1, e2⟩ := Option.bind_eq_some_iff.mp e
  obtain ⟨v, h1, h2⟩ := h.get e2
  exact ⟨v, by rw [e1]; exact h1, h2⟩
theorem ixd : IxR X (rD2 X.K g semIx) := by
  intro value slice pins s sg H x y v u Q I rx ry h hs
  obtain ⟨F, s0, r, dx, dy, d, R, hx, hy, e, q⟩ := h
  unfold semIx at e
  split at e
  · obtain ⟨a, vs, rfl, h1, h2⟩ := hx.lst R.sub
    cases hy.flat (fun _ => nofun)
    obtain ⟨w, e1, e2⟩ := h2.at e
    exact ix_list value slice pins s sg H _ _ v u Q I rx ry ⟨a, vs, _, w, rfl, rfl, .of h1, e1, q F H _ (Same.refl _) R e2⟩ hs
  · obtain ⟨a, vs, rfl, h1, _, h2⟩ := hx.tup R.sub
    cases hy.flat (fun _ => nofun)
    obtain ⟨w, e1, e2⟩ := h2.at e
    exact ix_tup value slice pins s sg H _ _ v u Q I rx ry ⟨a, vs, _, w, rfl, rfl, h1, e1, q F H _ (Same.refl _) R e2⟩ hs
  · split at e
    · next hl =>
      obtain ⟨c, e1, rfl⟩ := Option.map_eq_some_iff.mp e
      cases hx.flat (fun _ => nofun); cases hy.flat (fun _ => nofun)
      exact ix_str value slice pins s sg H _ _ v u Q I rx ry ⟨_, _, c, rfl, rfl, Nat.le_trans hl mil_line, e1, q F H _ (Same.refl _) R (.str _)⟩ hs
    · cases e
  · cases e

/-! ### slices -/
def cutL {α : Type} (xs : List α) (lo hi : Option Int) : List α := (xs.drop (HT.sIx xs.length 0 lo)).take (HT.sIx xs.length xs.length hi - HT.sIx xs.length 0 lo)
theorem RDs.cut {K : PySem.W.Frag} {F : Hp} {vs : List V} {ds : List D} (h : RDs K F vs ds) (lo hi : Option Int) : RDs K F (cutV vs lo hi) (cutL ds lo hi) := by
  unfold cutV cutL
  rw [h.length]
  exact (h.dp _).tk _
def semSl : D → Option Int → Option Int → Option D
  | .lst xs, lo, hi => some (.lst (cutL xs lo hi))
  | .scr ns, lo, hi => some (.lst ((cutL ns lo hi).map D.int))
  | .tup xs, lo, hi => some (.tup (cutL xs lo hi))
  | .str x, lo, hi => if x.length ≤ 1000000 then some (.str (cutS x lo hi)) else none
  | _, _, _ => none
def rDsl (K : PySem.W.Frag) (g : G) (sem : D → Option Int → Option Int → Option D) : V → Option Int → Option Int → Hp → VK → Prop := fun x lo hi H Q => ∃ F s r dx d, Rel K g F H s r ∧ RB K F H x dx ∧ sem dx lo hi = some d ∧ PD K g F s Q d r
theorem cut_ints (ns : List Int) (lo hi : Option Int) : cutV (ns.map V.int) lo hi = (cutL ns lo hi).map V.int := by
  unfold cutV cutL
  rw [List.length_map, List.map_take, List.map_drop]
theorem sld : SlR X (rDsl X.K g semSl) := by
  intro pins s sg H x v vl vu lo hi sl Q I rx hs pl pu h
  obtain ⟨F, s0, r, dx, d, R, hx, e, q⟩ := h
  unfold semSl at e
  split at e
  · cases e
    obtain ⟨a, vs, rfl, h1, h2⟩ := hx.lst R.sub
    exact sl_list pins s sg H _ v vl vu lo hi sl Q I rx hs pl pu ⟨a, vs, rfl, .of h1, PD.lst R (h2.cut lo hi) q⟩
  · next ns _ _ =>
    cases e
    cases hx.flat (fun _ => nofun) with
    | scr _ h1 =>
      refine sl_list pins s sg H _ v vl vu lo hi sl Q I rx hs pl pu ⟨_, _, rfl, R.sub.seq h1, ?_⟩
      rw [cut_ints]
      exact PD.lst R (RDs.ints _) q
  · cases e
    obtain ⟨a, vs, rfl, h1, h1', h2⟩ := hx.tup R.sub
    refine sl_tupA pins s sg H _ v vl vu lo hi sl Q I rx hs pl pu ⟨a, vs, rfl, h1, fun z => ?_, fun _ => PD.tup R (h2.cut lo hi) q⟩
    have ec : ∀ ys : List D, RDs X.K F vs ys → cutL ys lo hi = ys := fun ys h => by
      unfold cutL
      rw [h.length] at z
      rw [z.1, z.2]
      simp
    rw [ec _ h2] at q
    exact q F H _ (Same.refl _) R (.tup h1' h2)
  · split at e
    · next hl =>
      cases e
      cases hx.flat (fun _ => nofun)
      exact sl_str pins s sg H _ v vl vu lo hi sl Q I rx hs pl pu ⟨_, rfl, Nat.le_trans hl mil_line, q F H _ (Same.refl _) R (.str _)⟩
    · cases e
  · cases e
variable {a b c e : Expr} {pos p2 : Pos} {p : Opd}
/-- the parts of a slice: left out, or an int -/
def PtO (K : PySem.W.Frag) (g : G) (F : Hp) (s : St) (Q : Option Int → Hp → Prop) (o : Option Int) (r' : En) : Prop := ∀ F' H', Same F F' → Rel K g F' H' s r' → Q o H'
def tPO (K : PySem.W.Frag) (g : G) (f : En → Rs (Option Int)) : TO := fun s H Q => ∃ F r, Rel K g F H s r ∧ post K g (PtO K g F s Q) (f r)
def DPo (X : Cx) (g : G) (e : Option Expr) (f : En → Rs (Option Int)) : Prop := L2.PO X e (tPO X.K g f)
theorem PO.imp {X : Cx} {e : Option Expr} {t t' : TO} (h : L2.PO X e t) (i : ∀ s H Q, t' s H Q → t s H Q) : L2.PO X e t' :=
  ⟨fun pins s sg H Q I q => h.run pins s sg H Q I (i sg H Q q)⟩
def poN : En → Rs (Option Int) := fun r => .ok none r
def poS (f : En → Rs D) : En → Rs (Option Int) := fun r => (f r).bind fun d r1 => (ofO d.asI r1).map some
theorem dpo_none : DPo X g none poN := PO.imp po_none fun s H Q ⟨F, r, R, q⟩ => q F H (Same.refl _) R
theorem dpo_some {f : En → Rs D} (h : DE X g e f) : DPo X g (some e) (poS f) := PO.imp (po_some h) fun s H Q ⟨F, r, R, q⟩ => ⟨F, r, R, post_mono (post_bind q) fun d r1 q F1 H1 v sm R1 hv => by
  obtain ⟨i, ed, q⟩ := post_ofO (post_map q)
  have ed := asI_some ed
  subst ed
  cases hv
  exact ⟨i, rfl, q F1 H1 sm R1⟩⟩
def slD (p : Opd) (lo hi : En → Rs (Option Int)) (sem : D → Option Int → Option Int → Option D) : En → Rs D := fun r => (p.run r).bind fun x r1 => (lo r1).bind fun l r2 => (hi r2).bind fun h r3 => ofO ((look r3 x).bind fun d => sem d l h) r3
theorem de_slice {lo hi : Option Expr} {fl fh : En → Rs (Option Int)} (ha : DB X g a p) (hl : DPo X g lo fl) (hh : DPo X g hi fh) : DE X g (.Subscript a (.Slice lo hi none p2) pos) (slD p fl fh semSl) :=
  PE.imp (pe_slice sld ha hl hh) fun s H Q ⟨F, r, R, q⟩ => by
    refine ⟨F, r, R, post_mono (post_bind q) fun z r1 q1 F1 H1 v sm R1 hv => ⟨F1, r1, R1, post_mono (post_bind q1) fun l r2 q2 F2 H2 s2 R2 => ⟨F2, r2, R2, post_mono (post_bind q2) fun h r3 q3 F3 H3 s3 R3 => ?_⟩⟩⟩
    obtain ⟨d, e, q3⟩ := post_ofO q3
    obtain ⟨dx, e1, e2⟩ := Option.bind_eq_some_iff.mp e
    exact ⟨F3, s, r3, dx, d, R3, look_ok R3 ((hv.mono s2).mono s3) e1, e2, fun F4 H4 v4 s4 R4 h4 => q3 F4 H4 v4 (((sm.trans s2).trans s3).trans s4) R4 h4⟩

/-! ### built-ins by values: all arguments are looked at -/
def runs : List Opd → En → Rs (List (Sum D Nat))
  | [], r => .ok [] r
  | p :: ps, r => (p.run r).bind fun x r1 => (runs ps r1).bind fun xs r2 => .ok (x :: xs) r2
def looks (r : En) : List (Sum D Nat) → Option (List D)
  | [] => some []
  | x :: xs => (look r x).bind fun d => (looks r xs).map fun ds => d :: ds
def opN (ps : List Opd) (sem : List D → Option D) : En → Rs D := fun r => (runs ps r).bind fun xs r1 => ofO ((looks r1 xs).bind sem) r1
inductive RBs (K : PySem.W.Frag) (F H : Hp) : List V → List D → Prop
  | nil : RBs K F H [] []
  | cons {v : V} {vs : List V} {d : D} {ds : List D} : RB K F H v d → RBs K F H vs ds → RBs K F H (v :: vs) (d :: ds)
inductive OpdsOk (K : PySem.W.Frag) (F : Hp) (s : St) : List V → List (Sum D Nat) → Prop
  | nil : OpdsOk K F s [] []
  | cons {v : V} {vs : List V} {z : Sum D Nat} {zs : List (Sum D Nat)} : OpdOk K F s v z → OpdsOk K F s vs zs → OpdsOk K F s (v :: vs) (z :: zs)
def tBs (K : PySem.W.Frag) (g : G) (ps : List Opd) : TA := fun s H Q => ∃ F r, Rel K g F H s r ∧ post K g (fun zs r' => ∀ F' H' vs, Same F F' → Rel K g F' H' s r' → OpdsOk K F' s vs zs → Q vs H') (runs ps r)
def DBs (X : Cx) (g : G) (es : List Expr) (ps : List Opd) : Prop := PA X es (tBs X.K g ps)
theorem dbs_nil : DBs X g [] [] := PA.imp pa_nil fun s H Q ⟨F, r, R, q⟩ => q F H [] (Same.refl _) R .nil
theorem dbs_cons {es : List Expr} {ps : List Opd} (h : DB X g e p) (hs : DBs X g es ps) (hst : starEach (e :: es) X.env = (false, eval e X.env) :: starEach es X.env := by rfl) : DBs X g (e :: es) (p :: ps) :=
  PA.imp (pa_cons h hs hst) fun s H Q ⟨F, r, R, q⟩ => ⟨F, r, R, post_mono (post_bind q) fun z r1 q F1 H1 v sm R1 hv => ⟨F1, r1, R1, post_mono (post_bind q) fun zs r2 q F2 H2 vs s2 R2 hvs => q F2 H2 (v :: vs) (sm.trans s2) R2 (.cons (hv.mono s2) hvs)⟩⟩
theorem looks_ok {K : PySem.W.Frag} {F H : Hp} {s : St} {r : En} (R : Rel K g F H s r) : ∀ {zs : List (Sum D Nat)} {vs : List V} {ds : List D}, OpdsOk K F s vs zs → looks r zs = some ds → RBs K F H vs ds
  | [], _, _, .nil, e => by cases e; exact .nil
  | z :: zs, _, _, .cons h1 h2, e => by
    obtain ⟨d, e1, e2⟩ := Option.bind_eq_some_iff.mp e
    obtain ⟨ds, e3, rfl⟩ := Option.map_eq_some_iff.mp e2
    exact .cons (look_ok R h1 e1) (looks_ok R h2 e3)
def rDN (K : PySem.W.Frag) (g : G) (sem : List D → Option D) : List V → Hp → VK → Prop := fun xs H Q => ∃ F s r ds d, Rel K g F H s r ∧ RBs K F H xs ds ∧ sem ds = some d ∧ PD K g F s Q d r
theorem tD_opN {K : PySem.W.Frag} {ps : List Opd} {sem : List D → Option D} {s : St} {H : Hp} {Q : VK} (h : tD K g (opN ps sem) s H Q) : tBs K g ps s H fun xs H1 => rDN K g sem xs H1 Q := by
  obtain ⟨F, r, R, h⟩ := h
  refine ⟨F, r, R, post_mono (post_bind h) fun zs r1 q F1 H1 vs sm R1 hv => ?_⟩
  obtain ⟨d, e, q⟩ := post_ofO q
  obtain ⟨ds, e1, e2⟩ := Option.bind_eq_some_iff.mp e
  exact ⟨F1, s, r1, ds, d, R1, looks_ok R1 hv e1, e2, fun F2 H2 v2 s2 R2 h2 => q F2 H2 v2 (sm.trans s2) R2 h2⟩
theorem de_callB {x : Str} {pn : Pos} {id : String} {es : List Expr} {ps : List Opd} {sem : List D → Option D} (hc : CallR X (.builtin id) (rDN X.K g sem)) (hm : X.mg x = none) (ha : DBs X g (e :: es) ps) (hg : Gl X x := by rfl) (hv : bootBuiltins x = some (.builtin id) := by decide +kernel)
    (hn : x ≠ "__name__" := by decide) (hdb : (x == ("__debug__" : Str)) = false := by decide) (he : starEach (e :: es) X.env = (false, eval e X.env) :: starEach es X.env := by rfl) (hpl : (backTo pos (starEach es X.env)).any (·.1) = false := by rfl) : DE X g (.Call (.Name x pn) (e :: es) [] pos) (opN ps sem) :=
  PE.imp (pe_callB hc hg hm hv ha hn hdb he hpl) fun s H Q h => tD_opN h
theorem de_callT {x : Str} {pn : Pos} {T : String} {es : List Expr} {ps : List Opd} {sem : List D → Option D} (hc : CallR X (.type T) (rDN X.K g sem)) (hm : X.mg x = none) (ha : DBs X g (e :: es) ps) (hg : Gl X x := by rfl) (hv : bootBuiltins x = some (.type T) := by decide +kernel)
    (hn : x ≠ "__name__" := by decide) (hdb : (x == ("__debug__" : Str)) = false := by decide) (he : starEach (e :: es) X.env = (false, eval e X.env) :: starEach es X.env := by rfl) (hpl : (backTo pos (starEach es X.env)).any (·.1) = false := by rfl) : DE X g (.Call (.Name x pn) (e :: es) [] pos) (opN ps sem) :=
  PE.imp (pe_callTy hc hg hm hv ha hn hdb he hpl) fun s H Q h => tD_opN h

def semAbs : List D → Option D
  | [.int i] => some (.int (if i < 0 then -i else i))
  | _ => none
def semInt : List D → Option D
  | [.int i] => some (.int i)
  | [.bl b] => some (.int (if b then 1 else 0))
  | _ => none
def semLen : List D → Option D
  | [.lst xs] => some (.int xs.length)
  | [.tup xs] => some (.int xs.length)
  | [.str x] => if x.length ≤ 1000000 then some (.int x.length) else none
  | _ => none
def semTuple : List D → Option D
  | [.lst xs] => some (.tup xs)
  | [.tup xs] => some (.tup xs)
  | _ => none
def semList : List D → Option D
  | [.lst xs] => some (.lst xs)
  | [.tup xs] => some (.lst xs)
  | _ => none
def bools : List D → Option (List Bool)
  | [] => some []
  | .bl b :: ds => (bools ds).map fun bs => b :: bs
  | _ :: _ => none
def semAll : List D → Option D
  | [.lst xs] => (bools xs).map fun bs => .bl (bs.all id)
  | _ => none
def semAny : List D → Option D
  | [.lst xs] => (bools xs).map fun bs => .bl (bs.any id)
  | _ => none
theorem RBs.one {K : PySem.W.Frag} {F H : Hp} {vs : List V} {d : D} (h : RBs K F H vs [d]) : ∃ v, vs = [v] ∧ RB K F H v d := by
  cases h with
  | cons h1 h2 => cases h2; exact ⟨_, rfl, h1⟩
theorem RBs.two {K : PySem.W.Frag} {F H : Hp} {vs : List V} {d e : D} (h : RBs K F H vs [d, e]) : ∃ v w, vs = [v, w] ∧ RB K F H v d ∧ RB K F H w e := by
  cases h with
  | cons h1 h2 =>
    obtain ⟨w, e, h3⟩ := h2.one
    subst e
    exact ⟨_, _, rfl, h1, h3⟩
theorem bools_vs {K : PySem.W.Frag} {F : Hp} : ∀ {vs : List V} {ds : List D} {bs : List Bool}, RDs K F vs ds → bools ds = some bs → vs = bs.map V.bl
  | _, [], bs, h, e => by cases h; cases e; rfl
  | _, d :: ds, bs, h, e => by
    cases h with
    | cons h1 h2 =>
      cases d with
      | bl b =>
        obtain ⟨bs', e1, rfl⟩ := Option.map_eq_some_iff.mp e
        cases h1
        rw [bools_vs h2 e1]; rfl
      | _ => cases e
theorem cd_abs : CallR X (.builtin "abs") (rDN X.K g semAbs) := by
  intro pins s sg H xs us Q I rv h
  obtain ⟨F, s0, r, ds, d, R, hx, e, q⟩ := h
  unfold semAbs at e
  split at e
  · cases e
    obtain ⟨v, rfl, h1⟩ := hx.one
    cases h1.flat (fun _ => nofun)
    exact call_abs pins s sg H _ us Q I rv ⟨_, rfl, q F H _ (Same.refl _) R (.int _)⟩
  · cases e
theorem cd_int : CallR X (.type "int") (rDN X.K g semInt) := by
  intro pins s sg H xs us Q I rv h
  obtain ⟨F, s0, r, ds, d, R, hx, e, q⟩ := h
  unfold semInt at e
  split at e
  · cases e
    obtain ⟨v, rfl, h1⟩ := hx.one
    cases h1.flat (fun _ => nofun)
    exact call_int1 pins s sg H _ us Q I rv (.inl ⟨_, rfl, q F H _ (Same.refl _) R (.int _)⟩)
  · cases e
    obtain ⟨v, rfl, h1⟩ := hx.one
    cases h1.flat (fun _ => nofun)
    exact call_int1 pins s sg H _ us Q I rv (.inr ⟨_, rfl, q F H _ (Same.refl _) R (.int _)⟩)
  · cases e
theorem cd_len : CallR X (.builtin "len") (rDN X.K g semLen) := by
  intro pins s sg H xs us Q I rv h
  obtain ⟨F, s0, r, ds, d, R, hx, e, q⟩ := h
  unfold semLen at e
  split at e
  · cases e
    obtain ⟨v, rfl, h1⟩ := hx.one
    obtain ⟨a, vs, rfl, h2, h3⟩ := h1.lst R.sub
    refine call_len_seq pins s sg H _ us Q I rv ⟨a, vs, rfl, .inl (.of h2), ?_⟩
    rw [h3.length]
    exact q F H _ (Same.refl _) R (.int _)
  · cases e
    obtain ⟨v, rfl, h1⟩ := hx.one
    obtain ⟨a, vs, rfl, h2, _, h3⟩ := h1.tup R.sub
    refine call_len_seq pins s sg H _ us Q I rv ⟨a, vs, rfl, .inr h2, ?_⟩
    rw [h3.length]
    exact q F H _ (Same.refl _) R (.int _)
  · split at e
    · next hl =>
      cases e
      obtain ⟨v, rfl, h1⟩ := hx.one
      cases h1.flat (fun _ => nofun)
      exact call_len_str pins s sg H _ us Q I rv ⟨_, rfl, Nat.le_trans hl mil_line, q F H _ (Same.refl _) R (.int _)⟩
    · cases e
  · cases e
theorem cd_tuple : CallR X (.type "tuple") (rDN X.K g semTuple) := by
  intro pins s sg H xs us Q I rv h
  obtain ⟨F, s0, r, ds, d, R, hx, e, q⟩ := h
  unfold semTuple at e
  split at e
  · cases e
    obtain ⟨v, rfl, h1⟩ := hx.one
    obtain ⟨a, vs, rfl, h2, h3⟩ := h1.lst R.sub
    exact call_tuple_of pins s sg H _ us Q I rv ⟨a, vs, rfl, .inl ⟨.of h2, PD.tup R h3 q⟩⟩
  · cases e
    obtain ⟨v, rfl, h1⟩ := hx.one
    obtain ⟨a, vs, rfl, h2, h2', h3⟩ := h1.tup R.sub
    exact call_tuple_of pins s sg H _ us Q I rv ⟨a, vs, rfl, .inr ⟨h2, q F H _ (Same.refl _) R (.tup h2' h3)⟩⟩
  · cases e
theorem cd_list : CallR X (.type "list") (rDN X.K g semList) := by
  intro pins s sg H xs us Q I rv h
  obtain ⟨F, s0, r, ds, d, R, hx, e, q⟩ := h
  unfold semList at e
  split at e
  · cases e
    obtain ⟨v, rfl, h1⟩ := hx.one
    obtain ⟨a, vs, rfl, h2, h3⟩ := h1.lst R.sub
    exact call_list_of pins s sg H _ us Q I rv ⟨a, vs, rfl, .inl (.of h2), PD.lst R h3 q⟩
  · cases e
    obtain ⟨v, rfl, h1⟩ := hx.one
    obtain ⟨a, vs, rfl, h2, h2', h3⟩ := h1.tup R.sub
    exact call_list_of pins s sg H _ us Q I rv ⟨a, vs, rfl, .inr h2, PD.lst R h3 q⟩
  · cases e
theorem cd_all (hc : X.calm = true) : CallR X (.builtin "all") (rDN X.K g semAll) := by
  intro pins s sg H xs us Q I rv h
  obtain ⟨F, s0, r, ds, d, R, hx, e, q⟩ := h
  unfold semAll at e
  split at e
  · obtain ⟨bs, e1, rfl⟩ := Option.map_eq_some_iff.mp e
    obtain ⟨v, rfl, h1⟩ := hx.one
    obtain ⟨a, vs, rfl, h2, h3⟩ := h1.lst R.sub
    have ev := bools_vs h3 e1
    subst ev
    exact cr_all hc pins s sg H _ us Q I rv ⟨a, bs, rfl, .of h2, q F H _ (Same.refl _) R (.bl _)⟩
  · cases e
theorem cd_any (hc : X.calm = true) : CallR X (.builtin "any") (rDN X.K g semAny) := by
  intro pins s sg H xs us Q I rv h
  obtain ⟨F, s0, r, ds, d, R, hx, e, q⟩ := h
  unfold semAny at e
  split at e
  · obtain ⟨bs, e1, rfl⟩ := Option.map_eq_some_iff.mp e
    obtain ⟨v, rfl, h1⟩ := hx.one
    obtain ⟨a, vs, rfl, h2, h3⟩ := h1.lst R.sub
    have ev := bools_vs h3 e1
    subst ev
    exact cr_any hc pins s sg H _ us Q I rv ⟨a, bs, rfl, .of h2, q F H _ (Same.refl _) R (.bl _)⟩
  · cases e
end
end DL

/-! Data layer, part 8: lists that a name owns, walks of any data, methods of texts, constants of the module. -/
namespace DL
open PySem L2

/-! ### an owned list is changed -/
section
variable {X : Cx} {g : G}
theorem Rel.chg {K : PySem.W.Frag} {F H : Hp} {s : St} {r : En} {i : Nat} {xs xs' : List D} {a : Addr} {vs vs' : List V} (R : Rel K g F H s r) (e : r[i]? = some (some (.ow xs))) (hs : s[i]? = some (some (.ref a))) (fa : F a = none) (ha : H a = some (.lst vs)) (hv : RDs K F vs' xs') :
    Rel K g F (L2.upd H a (.lst vs')) s (r.set i (some (.ow xs'))) := by
  have hi : i < r.length := (List.getElem?_eq_some_iff.mp e).1
  have cs : ∀ (j : Nat) (u : OV), (r.set i (some (.ow xs')))[j]? = some (some u) → (j = i ∧ u = .ow xs') ∨ (j ≠ i ∧ r[j]? = some (some u)) := fun j u z => by
    by_cases hj : i = j
    · subst hj
      rw [List.getElem?_set_self hi] at z
      cases z
      exact .inl ⟨rfl, rfl⟩
    · rw [List.getElem?_set_ne hj] at z
      exact .inr ⟨fun z => hj z.symm, z⟩
  have ow1 : ∀ (j : Nat) (u : OV), (r.set i (some (.ow xs')))[j]? = some (some u) → u.own = true → ∃ u', r[j]? = some (some u') ∧ u'.own = true := fun j u z zo => by
    rcases cs j u z with ⟨rfl, rfl⟩ | ⟨_, z'⟩
    · exact ⟨_, e, rfl⟩
    · exact ⟨u, z', zo⟩
  refine ⟨fun b u eb => ?_, R.f0, R.fnew, fun b u eb hb => ?_, fun j u ej => ?_, fun j u b ej eo es => ?_, fun j k u w b hjk ej eo ek ek' => ?_, fun p hp => ?_, by rw [List.length_set]; exact R.len, fun p hp => ?_⟩
  · rw [upd_ne fun z => by rw [z, fa] at eb; cases eb]; exact R.sub b u eb
  · rw [upd_ne fun z => ?_]
    · exact R.keep b u eb hb
    · subst z
      rcases R.own i _ b e rfl hs with q | q
      · rw [q] at eb; cases eb
      · exact hb _ q rfl
  · rcases cs j u ej with ⟨rfl, rfl⟩ | ⟨hj, ej⟩
    · exact ⟨_, hs, a, vs', rfl, fa, upd_same, hv⟩
    · obtain ⟨v, h1, h2⟩ := R.slot j u ej
      refine ⟨v, h1, ?_⟩
      cases u with
      | sh d => exact h2
      | ow ys =>
        obtain ⟨b, ws, rfl, b2, b3, b4⟩ := h2
        exact ⟨b, ws, rfl, b2, by rw [upd_ne fun z => R.dist j i _ _ a hj ej rfl e rfl (by rw [h1, z]) hs]; exact b3, b4⟩
      | od ys =>
        obtain ⟨b, ws, rfl, b2, b3, b4⟩ := h2
        exact ⟨b, ws, rfl, b2, by rw [upd_ne fun z => R.dist j i _ _ a hj ej rfl e rfl (by rw [h1, z]) hs]; exact b3, b4⟩
      | oi c ys =>
        obtain ⟨b, ws, rfl, b2, b3, b4⟩ := h2
        exact ⟨b, ws, rfl, b2, by rw [upd_ne fun z => R.dist j i _ _ a hj ej rfl e rfl (by rw [h1, z]) hs]; exact b3, b4⟩
      | exc c => exact h2
  · obtain ⟨u', e1, e2⟩ := ow1 j u ej eo
    exact R.own j u' b e1 e2 es
  · obtain ⟨u', e1, e2⟩ := ow1 j u ej eo
    obtain ⟨w', e3, e4⟩ := ow1 k w ek ek'
    exact R.dist j k u' w' b hjk e1 e2 e3 e4
  · obtain ⟨p1, u, p2, p3⟩ := R.pin p hp
    refine ⟨p1, ?_⟩
    by_cases hj : i = p.1
    · exact ⟨.ow xs', by rw [← hj]; exact List.getElem?_set_self hi, rfl⟩
    · exact ⟨u, by rw [List.getElem?_set_ne hj]; exact p2, p3⟩
  · obtain ⟨x1, x2, x3⟩ := R.ext p hp
    refine ⟨by rw [upd_ne fun z => x3 i _ e rfl (by rw [hs, z])]; exact x1, x2, fun j u ej eo => ?_⟩
    obtain ⟨u', e1, e2⟩ := ow1 j u ej eo
    exact x3 j u' e1 e2
/-- does the slot own a list -/
def fillW (r : En) (i : Nat) : Rs Unit :=
  match lookV r i with
  | some (.ow _) => .ok () r
  | _ => .bad
theorem post_fillW {K : PySem.W.Frag} {g : G} {P : Unit → En → Prop} {r : En} {i : Nat} (h : post K g P (fillW r i)) : (∃ xs, r[i]? = some (some (.ow xs))) ∧ P () r := by
  unfold fillW at h
  split at h
  · next xs e => exact ⟨⟨xs, lookV_some e⟩, h⟩
  · exact h.elim
theorem then_fillW {K : PySem.W.Frag} {F : Hp} {E : Ends} {r : En} {i : Nat} {k : Unit → En → SRs} (h : SPost K g F E (thenS (fillW r i) k)) : (∃ xs, r[i]? = some (some (.ow xs))) ∧ SPost K g F E (k () r) := post_fillW (post_then h)
/-- change the list of a slot -/
def chgS (i : Nat) (f : List D → Option (List D)) (r : En) : SRs :=
  match (lookV r i).bind OV.lst? with
  | some xs => match f xs with
    | some ys => .nx (r.set i (some (.ow ys)))
    | none => .bad
  | none => .bad
theorem chgS_ok {K : PySem.W.Frag} {F0 F H : Hp} {E : Ends} {s : St} {r : En} {i : Nat} {f : List D → Option (List D)} (R : Rel K g F H s r) (sm : Same F0 F) (h : SPost K g F0 E (chgS i f r)) :
    ∃ a vs xs ys, s[i]? = some (some (.ref a)) ∧ H a = some (.lst vs) ∧ RDs K F vs xs ∧ r[i]? = some (some (.ow xs)) ∧ f xs = some ys ∧ ∀ vs', RDs K F vs' ys → E.nx s (L2.upd H a (.lst vs')) := by
  unfold chgS at h
  split at h
  · next xs e =>
    obtain ⟨o, e1, e2⟩ := Option.bind_eq_some_iff.mp e
    cases o with
    | sh d => cases e2
    | ow zs =>
      cases e2
      have e1 := lookV_some e1
      obtain ⟨v, h1, a, vs, rfl, fa, ha, hv⟩ := R.slot i _ e1
      split at h
      · next ys ef => exact ⟨a, vs, xs, ys, h1, ha, hv, e1, ef, fun vs' hv' => h F _ s sm (R.chg e1 h1 fa ha hv')⟩
      · exact h.elim
    | od zs => cases e2
    | oi c zs => cases e2
    | exc c => cases e2
  · exact h.elim
variable {e ei : Expr} {pos apos cpos : Pos} {x : Str} {p : Pos}
def appF (d : D) : List D → Option (List D) := fun xs => if xs.length ≤ 1000000 then some (xs ++ [d]) else none
def appS (i : Nat) (f : En → Rs D) : En → SRs := fun r => thenS (fillW r i) fun _ r => thenS (f r) fun d r1 => chgS i (appF d) r1
theorem ds_append {i : Nat} {f : En → Rs D} (hv : PE X (.Name x p) (tVar i)) (h : DE X g e f) (hst : starEach [e] X.env = [(false, eval e X.env)] := by rfl) (hb : attributeBase (.Name x p) "append" X.env (eval (.Name x p) X.env) = eval (.Name x p) X.env := by rfl)
    (hline : (apos.endLine == cpos.line) = true := by rfl) (hsw : swapsWith (.Call (.Attribute (.Name x p) "append" apos) [e] [] cpos) none pos.line X.env = pure false := by rfl)
    (hfew : ((backTo cpos (starEach [e] X.env)).all (fun x => !x.1) && (backToKw cpos (keywordEach [] X.env)).all (fun x => x.1.isSome) && decide ([e].length + ([] : List Keyword).length + (if ([] : List Keyword).isEmpty then 0 else 1) < 30)) = true := by rfl)
    (hpl : (backTo cpos (starEach [] X.env)).any (·.1) = false := by rfl) : DS X g (.Expr (.Call (.Attribute (.Name x p) "append" apos) [e] [] cpos) pos) (appS i f) :=
  PS.imp (ps_expr (pe_bm PySem.F.plainAttrs_list PySem.F.slot_list_append PySem.F.type_list_append mt_append hv (pa_cons h pa_nil hst) hb hfew hline hst hpl) hsw) fun E s H ⟨F, r, R, q⟩ => by
    obtain ⟨⟨xs, e0⟩, q⟩ := then_fillW q
    obtain ⟨v, h1, a, vs, rfl, fa, ha, hvs⟩ := R.slot i _ e0
    refine ⟨_, h1, .inl ⟨rfl, vs, .of ha⟩, F, r, R, post_mono (post_then q) fun d r1 q F1 H1 w sm R1 hw => ?_⟩
    obtain ⟨b, ws, zs, ys, g1, g2, g3, g4, g5, g6⟩ := chgS_ok R1 sm q
    rw [h1] at g1
    cases g1
    unfold appF at g5
    split at g5
    · next hl =>
      cases g5
      exact ⟨a, ws, w, rfl, rfl, g2, by rw [g3.length]; exact Nat.lt_of_le_of_lt hl (by decide), g6 _ (g3.app (.cons hw .nil))⟩
    · cases g5
def extF (d : D) : List D → Option (List D) := fun xs => match d with
  | .lst ys => if xs.length + ys.length ≤ 1000000 then some (xs ++ ys) else none
  | _ => none
def extS (i : Nat) (f : En → Rs D) : En → SRs := fun r => thenS (fillW r i) fun _ r => thenS (f r) fun d r1 => chgS i (extF d) r1
theorem ds_extend {i : Nat} {f : En → Rs D} (hv : PE X (.Name x p) (tVar i)) (h : DE X g e f) (hst : starEach [e] X.env = [(false, eval e X.env)] := by rfl) (hb : attributeBase (.Name x p) "extend" X.env (eval (.Name x p) X.env) = eval (.Name x p) X.env := by rfl)
    (hline : (apos.endLine == cpos.line) = true := by rfl) (hsw : swapsWith (.Call (.Attribute (.Name x p) "extend" apos) [e] [] cpos) none pos.line X.env = pure false := by rfl)
    (hfew : ((backTo cpos (starEach [e] X.env)).all (fun x => !x.1) && (backToKw cpos (keywordEach [] X.env)).all (fun x => x.1.isSome) && decide ([e].length + ([] : List Keyword).length + (if ([] : List Keyword).isEmpty then 0 else 1) < 30)) = true := by rfl)
    (hpl : (backTo cpos (starEach [] X.env)).any (·.1) = false := by rfl) : DS X g (.Expr (.Call (.Attribute (.Name x p) "extend" apos) [e] [] cpos) pos) (extS i f) :=
  PS.imp (ps_expr (pe_bm PySem.F.plainAttrs_list PySem.F.slot_list_extend PySem.F.type_list_extend mt_extend hv (pa_cons h pa_nil hst) hb hfew hline hst hpl) hsw) fun E s H ⟨F, r, R, q⟩ => by
    obtain ⟨⟨xs, e0⟩, q⟩ := then_fillW q
    obtain ⟨v, h1, a, vs, rfl, fa, ha, hvs⟩ := R.slot i _ e0
    refine ⟨_, h1, .inl ⟨rfl, vs, .of ha⟩, F, r, R, post_mono (post_then q) fun d r1 q F1 H1 w sm R1 hw => ?_⟩
    obtain ⟨b, ws, zs, ys, g1, g2, g3, g4, g5, g6⟩ := chgS_ok R1 sm q
    rw [h1] at g1
    cases g1
    unfold extF at g5
    split at g5
    · split at g5
      · next hl =>
        cases g5
        cases hw with
        | lst k1 k2 => exact ⟨a, _, ws, _, rfl, rfl, g2, R1.sub _ _ k1, by rw [g3.length, k2.length]; exact Nat.le_trans hl mil_line, g6 _ (g3.app k2)⟩
      · cases g5
    · cases g5
/-- name[i] = e -/
def putF (k : D) (d : D) : List D → Option (List D) := fun xs => match k with
  | .int i => (ixN xs.length i).map fun j => xs.set j d
  | _ => none
def putS (i : Nat) (fi f : En → Rs D) : En → SRs := fun r => thenS (f r) fun d r1 => thenS (fillW r1 i) fun _ r1 => thenS (fi r1) fun k r2 => chgS i (putF k d) r2
theorem ds_put {i : Nat} {fi f : En → Rs D} {sp : Pos} (hv : PE X (.Name x p) (tVar i)) (hi : DE X g ei fi) (h : DE X g e f) (hs : swapsWithSole [.Subscript (.Name x p) ei sp] e pos.line X.env = pure false := by rfl) (hw : swappedStores [.Subscript (.Name x p) ei sp] e X.env = pure none := by rfl)
    (h1 : (assignEach [.Subscript (.Name x p) ei sp] X.env).map (·.2) = [assign (.Subscript (.Name x p) ei sp) X.env] := by rfl)
    (ha : ∀ v, assign (.Subscript (.Name x p) ei sp) X.env v = (do
      let ov ← holding [v] (eval (.Name x p) X.env)
      let iv ← holding [v, ov] (eval ei X.env)
      standAt sp
      holding [v, ov, iv] (setItem ov iv v)
      release [v, ov, iv] []) := by intro _; rfl) : DS X g (.Assign [.Subscript (.Name x p) ei sp] e pos) (putS i fi f) :=
  PS.imp (ps_asg h (pg_sub hv hi set_list ha) hs hw h1) fun E s H ⟨F, r, R, q⟩ => ⟨F, r, R, post_mono (post_then q) fun d r1 q F1 H1 w sm R1 hw => by
    obtain ⟨⟨xs, e0⟩, q⟩ := then_fillW q
    obtain ⟨v, h1, a, vs, rfl, fa, ha, hvs⟩ := R1.slot i _ e0
    refine ⟨_, h1, F1, r1, R1, post_mono (post_then q) fun k r2 q F2 H2 vk sm2 R2 hk => ?_⟩
    obtain ⟨b, ws, zs, ys, g1, g2, g3, g4, g5, g6⟩ := chgS_ok R2 (sm.trans sm2) q
    rw [h1] at g1
    cases g1
    unfold putF at g5
    split at g5
    · obtain ⟨j, g7, rfl⟩ := Option.map_eq_some_iff.mp g5
      cases hk
      exact ⟨a, ws, _, j, rfl, rfl, g2, by rw [g3.length]; exact g7, g6 _ (g3.upd (RD.mono sm2 d hw) j)⟩
    · cases g5⟩
/-- an item of a tracked list, by values -/
theorem get_list : PGet X (fun o i H Q => ∃ a vs k v, o = .ref a ∧ i = .int k ∧ H a = some (.lst vs) ∧ 0 ≤ k ∧ k < 1000000 ∧ vs[k.toNat]? = some v ∧ Q v H) := by
  intro pins s sg H o i ov iv Q I ro ri h
  obtain ⟨a, vs, k, v, rfl, rfl, ha, h0, h1, hv, q⟩ := h
  cases ro
  obtain ⟨t, rfl⟩ := ri
  obtain ⟨its, rv, pl, _⟩ := I.list (SqL.of ha)
  obtain ⟨u, hu, ru⟩ := rv.get hv
  exact PySem.wpAny_getItem_list pl.isList h0 (by omega) (by simpa using hu) ⟨v, H, I, ru, q⟩
/-- name[i] += e, ints -/
def augF (k d : D) : List D → Option (List D) := fun xs => match k, d with
  | .int i, .int y => if 0 ≤ i ∧ i < 1000000 then match xs[i.toNat]? with
    | some (.int z) => some (xs.set i.toNat (.int (z + y)))
    | _ => none else none
  | _, _ => none
def augC (k y : Int) (r : En) (i : Nat) : SRs := chgS i (augF (.int k) (.int y)) r
def augS (i : Nat) (k y : Int) : En → SRs := fun r => chgS i (augF (.int k) (.int y)) r
theorem ixN_nat {n : Nat} {k : Int} (h0 : 0 ≤ k) (h : k.toNat < n) : ixN n k = some k.toNat := by
  unfold ixN
  rw [if_pos h0, if_pos (by omega)]
theorem ds_augI {i : Nat} {k y : Int} {j1 j2 : Nat} {sp p1 p2 : Pos} (hv : PE X (.Name x p) (tVar i))
    (ha : ∀ ov iv new, augStore (.Constant (.int k) j1 p1) ov iv new = (do holding [new, ov, iv] (setItem ov iv new); release [new, ov, iv] []; pure .next) := by intros; rfl) :
    DS X g (.AugAssign (.Subscript (.Name x p) (.Constant (.int k) j1 p1) sp) .Add (.Constant (.int y) j2 p2) pos) (augS i k y) :=
  PS.imp (ps_augS hv pe_int get_list pe_int ip_add set_list ha) fun E s H ⟨F, r, R, q⟩ => by
    obtain ⟨a, ws, zs, ys, g1, g2, g3, g4, g5, g6⟩ := chgS_ok R (Same.refl _) q
    have g5 : (if 0 ≤ k ∧ k < 1000000 then match zs[k.toNat]? with
      | some (.int z) => some (zs.set k.toNat (.int (z + y)))
      | _ => none else none) = some ys := g5
    split at g5
    · next hk =>
      split at g5
      · next z ez =>
        cases g5
        obtain ⟨w, k1, k2⟩ := g3.get ez
        cases k2
        refine ⟨_, g1, a, ws, k, _, rfl, rfl, g2, hk.1, hk.2, k1, z, y, rfl, rfl, a, ws, k, k.toNat, rfl, rfl, g2, ixN_nat hk.1 ?_, g6 _ (g3.upd (.int _) _)⟩
        exact (List.getElem?_eq_some_iff.mp k1).1
      · cases g5
    · cases g5
end

/-! ### walks of any data -/
def signs (x : Str) : List D := x.cps.toList.map fun c => .str ⟨#[c]⟩
def D.items : D → Option (List D)
  | .lst ds => some ds
  | .tup ds => some ds
  | .str x => if x.length ≤ 1000000 then some (signs x) else none
  | _ => none
def itA (f : En → Rs D) : En → Rs (List D) := fun r => (f r).bind fun d r1 => ofO d.items r1
section
variable {X : Cx} {g : G} {tg e a b : Expr} {pos p : Pos}
theorem PI.or {X : Cx} {tg e : Expr} {t t' : TI} (h : PI X tg e t) (h' : PI X tg e t') : PI X tg e (fun s H Q => t s H Q ∨ t' s H Q) :=
  ⟨fun pins s sg H Q I q => q.elim (h.run pins s sg H Q I) (h'.run pins s sg H Q I)⟩
theorem wk_str {K : PySem.W.Frag} {B : List (Nat × Addr)} {F : Hp} {x : Str} {J : It} (hg : ∀ i H, i < x.cps.size → J.go i H) (hy : ∀ (i : Nat) H v H', J.yld i H v H' → H' = H ∧ ∃ c, x.cps[i]? = some c ∧ v = .str ⟨#[c]⟩) (hs : ∀ i H, x.cps.size ≤ i → J.stop i H) : Wk K B F J (signs x) := fun g F1 H1 s r _ sm R => by
  refine ⟨fun i d ed => ?_, fun i hi => hs i H1 (by unfold signs at hi; simpa using hi)⟩
  unfold signs at ed
  rw [List.getElem?_map] at ed
  obtain ⟨c, e1, rfl⟩ := Option.map_eq_some_iff.mp ed
  have hi : i < x.cps.size := by
    have := (List.getElem?_eq_some_iff.mp e1).1
    simpa using this
  refine ⟨hg i H1 hi, fun v H2 hv => ?_⟩
  obtain ⟨rfl, c', e2, rfl⟩ := hy i H1 v H2 hv
  have e3 : x.cps[i]? = some c := by simpa using e1
  rw [e3] at e2
  cases e2
  exact ⟨F1, Same.refl _, R, .str _⟩
end
end DL

/-! Data layer, part 9: walks, methods of texts, constants of the module, the end. -/
namespace DL
open PySem L2
section
variable {X : Cx} {g : G} {tg e a b o : Expr} {pos p apos : Pos}
theorem di_any {f : En → Rs D} (h : DE X g e f) : DI X g tg e (itA f) := by
  refine PI.imp (PI.or (PI.or (pi_list h) (pi_tup h)) (pi_str h)) fun s H Q ⟨F, r, R, q⟩ => ?_
  cases ef : f r with
  | bad =>
    unfold itA at q
    rw [ef] at q
    exact q.elim
  | ex x r1 =>
    unfold itA at q
    rw [ef] at q
    exact .inl (.inl ⟨F, r, R, by rw [ef]; exact q⟩)
  | ok d r1 =>
    have q : post X.K g (PI' X.K g F s Q) (ofO d.items r1) := by
      unfold itA at q
      rw [ef] at q
      exact q
    obtain ⟨ds, ed, q⟩ := post_ofO q
    cases d with
    | lst zs =>
      cases ed
      refine .inl (.inl ⟨F, r, R, ?_⟩)
      rw [ef]
      intro F1 H1 v sm R1 hv
      cases hv with
      | lst h1 h2 => exact ⟨_, rfl, ⟨_, .of (R1.sub _ _ h1)⟩, q F1 H1 _ sm R1 (wk_list h1 h2)⟩
    | tup zs =>
      cases ed
      refine .inl (.inr ⟨F, r, R, ?_⟩)
      rw [ef]
      intro F1 H1 v sm R1 hv
      cases hv with
      | tup h1 h2 => exact ⟨_, rfl, ⟨_, same_sqT R1.sub h1⟩, q F1 H1 _ sm R1 (wk_tup h1 h2)⟩
    | str x =>
      have ed : (if x.length ≤ 1000000 then some (signs x) else none) = some ds := ed
      split at ed
      · cases ed
        refine .inr ⟨F, r, R, ?_⟩
        rw [ef]
        intro F1 H1 v sm R1 hv
        cases hv
        exact ⟨x, rfl, q F1 H1 _ sm R1 (wk_str (fun i H hi => hi) (fun i H v H' hy => hy) fun i H hi => hi)⟩
      · cases ed
    | _ => cases ed
/-- zip of two lists, of two tuples -/
def zipD : List D → List D → List D
  | x :: xs, y :: ys => .tup [x, y] :: zipD xs ys
  | _, _ => []
theorem zipD_len : ∀ xs ys : List D, (zipD xs ys).length = min xs.length ys.length
  | [], _ => by simp [zipD]
  | _ :: _, [] => by simp [zipD]
  | x :: xs, y :: ys => by simp [zipD, zipD_len xs ys]
theorem zipD_get : ∀ {xs ys : List D} {i : Nat} {d : D}, (zipD xs ys)[i]? = some d → ∃ x y, xs[i]? = some x ∧ ys[i]? = some y ∧ d = .tup [x, y]
  | [], _, _, _, h => by simp [zipD] at h
  | _ :: _, [], _, _, h => by simp [zipD] at h
  | x :: xs, y :: ys, 0, d, h => by
    simp [zipD] at h
    exact ⟨x, y, rfl, rfl, h.symm⟩
  | x :: xs, y :: ys, i + 1, d, h => by
    have h2 : (zipD xs ys)[i]? = some d := by simpa [zipD] using h
    exact zipD_get (xs := xs) (ys := ys) (i := i) h2
def zip2 : D → D → Option (List D)
  | .lst xs, .lst ys => some (zipD xs ys)
  | .tup xs, .tup ys => some (zipD xs ys)
  | _, _ => none
def zpD (f h : En → Rs D) : En → Rs (List D) := fun r => (f r).bind fun d r1 => (h r1).bind fun e r2 => ofO (zip2 d e) r2
theorem wk_zipL {K : PySem.W.Frag} {B : List (Nat × Addr)} {F : Hp} {p q : Addr} {vs ws : List V} {xs ys : List D} (h1 : F p = some (.lst vs)) (h2 : RDs K F vs xs) (h3 : F q = some (.lst ws)) (h4 : RDs K F ws ys) : Wk K B F (Itz K p q) (zipD xs ys) := fun g F1 H1 s r _ sm R => by
  have h1' : SqL K H1 p vs := .of (R.sub _ _ (sm _ _ h1))
  have h3' : SqL K H1 q ws := .of (R.sub _ _ (sm _ _ h3))
  refine ⟨fun i d e => ?_, fun i hi => ⟨vs, ws, h1', h3', ?_⟩⟩
  · obtain ⟨x, y, e1, e2, rfl⟩ := zipD_get e
    obtain ⟨v, e3, e4⟩ := h2.get e1
    obtain ⟨w, e5, e6⟩ := h4.get e2
    refine ⟨⟨vs, ws, v, w, h1', h3', e3, e5⟩, fun z H2 ⟨T, x', y', ez, nT, eH, f1, f2⟩ => ?_⟩
    subst ez eH
    have g1 := f1 vs h1'
    rw [e3] at g1
    cases g1
    have g2 := f2 ws h3'
    rw [e5] at g2
    cases g2
    have sF := same_upd (o := .tup [v, w]) (R.ff nT)
    exact ⟨_, sF, R.alloc nT, .tup (.of upd_same) (.cons (RD.mono (sm.trans sF) x e4) (.cons (RD.mono (sm.trans sF) y e6) .nil))⟩
  · rw [zipD_len] at hi
    rw [h2.length, h4.length]
    omega
theorem wk_zipT {K : PySem.W.Frag} {B : List (Nat × Addr)} {F : Hp} {p q : Addr} {vs ws : List V} {xs ys : List D} (h1 : SqT K F p vs) (h2 : RDs K F vs xs) (h3 : SqT K F q ws) (h4 : RDs K F ws ys) : Wk K B F (RZ.ItzT K p q) (zipD xs ys) := fun g F1 H1 s r _ sm R => by
  have h1' : SqT K H1 p vs := same_sqT R.sub (same_sqT sm h1)
  have h3' : SqT K H1 q ws := same_sqT R.sub (same_sqT sm h3)
  refine ⟨fun i d e => ?_, fun i hi => ⟨vs, ws, h1', h3', ?_⟩⟩
  · obtain ⟨x, y, e1, e2, rfl⟩ := zipD_get e
    obtain ⟨v, e3, e4⟩ := h2.get e1
    obtain ⟨w, e5, e6⟩ := h4.get e2
    refine ⟨⟨vs, ws, v, w, h1', h3', e3, e5⟩, fun z H2 ⟨T, x', y', ez, nT, eH, f1, f2⟩ => ?_⟩
    subst ez eH
    have g1 := f1 vs h1'
    rw [e3] at g1
    cases g1
    have g2 := f2 ws h3'
    rw [e5] at g2
    cases g2
    have sF := same_upd (o := .tup [v, w]) (R.ff nT)
    exact ⟨_, sF, R.alloc nT, .tup (.of upd_same) (.cons (RD.mono (sm.trans sF) x e4) (.cons (RD.mono (sm.trans sF) y e6) .nil))⟩
  · rw [zipD_len] at hi
    rw [h2.length, h4.length]
    omega
theorem di_zip {f h : En → Rs D} {elts : List Expr} {kk : Nat} {tpos : Pos} (hm : X.mg "zip" = none) (hf : DE X g a f) (hh : DE X g b h) (hg : Gl X "zip" := by rfl) (hs2 : starEach [b] X.env = [(false, eval b X.env)] := by rfl)
    (hs : starEach [a, b] X.env = (false, eval a X.env) :: starEach [b] X.env := by rfl) (hpl : (backTo pos (starEach [b] X.env)).any (·.1) = false := by rfl) : DI X g (.Tuple elts kk tpos) (.Call (.Name "zip" p) [a, b] [] pos) (zpD f h) :=
  PI.imp (RZ.pi_zipA hg hm (pa_cons hf (pa_cons hh pa_nil hs2) hs) hs hpl) fun s H Q ⟨F, r, R, q⟩ => ⟨F, r, R, post_mono (post_bind q) fun d r1 q F1 H1 v sm R1 hv => ⟨F1, r1, R1, post_mono (post_bind q) fun d2 r2 q F2 H2 v2 sm2 R2 hv2 => by
    obtain ⟨ds, ez, q⟩ := post_ofO q
    unfold zip2 at ez
    split at ez
    · cases ez
      cases hv with
      | lst h1 h2 =>
        cases hv2 with
        | lst h3 h4 => exact ⟨_, _, _, _, rfl, .inl ⟨.of (R2.sub _ _ (sm2 _ _ h1)), .of (R2.sub _ _ h3), q F2 H2 _ (sm.trans sm2) R2 (wk_zipL (sm2 _ _ h1) (RDs.mono sm2 _ h2) h3 h4)⟩⟩
    · cases ez
      cases hv with
      | tup h1 h2 =>
        cases hv2 with
        | tup h3 h4 => exact ⟨_, _, _, _, rfl, .inr ⟨same_sqT R2.sub (same_sqT sm2 h1), same_sqT R2.sub h3, q F2 H2 _ (sm.trans sm2) R2 (wk_zipT (same_sqT sm2 h1) (RDs.mono sm2 _ h2) h3 h4)⟩⟩
    · cases ez⟩⟩
/-- enumerate of a list -/
def enumD : Nat → List D → List D
  | _, [] => []
  | n, d :: ds => .tup [.int (n : Int), d] :: enumD (n + 1) ds
theorem enumD_len : ∀ (n : Nat) (ds : List D), (enumD n ds).length = ds.length
  | _, [] => rfl
  | n, d :: ds => by simp [enumD, enumD_len (n + 1) ds]
theorem enumD_get : ∀ {n : Nat} {ds : List D} {i : Nat} {d : D}, (enumD n ds)[i]? = some d → ∃ x, ds[i]? = some x ∧ d = .tup [.int ((n + i : Nat) : Int), x]
  | _, [], _, _, h => by simp [enumD] at h
  | n, x :: xs, 0, d, h => by
    simp [enumD] at h
    exact ⟨x, rfl, h.symm⟩
  | n, x :: xs, i + 1, d, h => by
    have h2 : (enumD (n + 1) xs)[i]? = some d := by simpa [enumD] using h
    obtain ⟨y, e1, e2⟩ := enumD_get (n := n + 1) (ds := xs) (i := i) h2
    exact ⟨y, e1, by rw [e2, show n + 1 + i = n + (i + 1) by omega]⟩
def enD (f : En → Rs D) : En → Rs (List D) := fun r => (f r).bind fun d r1 => ofO (d.asL.map (enumD 0)) r1
theorem di_enum {f : En → Rs D} {elts : List Expr} {kk : Nat} {tpos : Pos} (hm : X.mg "enumerate" = none) (hf : DE X g a f) (hg : Gl X "enumerate" := by rfl) (hs : starEach [a] X.env = [(false, eval a X.env)] := by rfl) : DI X g (.Tuple elts kk tpos) (.Call (.Name "enumerate" p) [a] [] pos) (enD f) :=
  PI.imp (pi_enum hg hm (pa_cons hf pa_nil hs) hs) fun s H Q ⟨F, r, R, q⟩ => ⟨F, r, R, post_mono (post_bind q) fun d r1 q F1 H1 v sm R1 hv => by
    obtain ⟨ds, ez, q⟩ := post_ofO q
    obtain ⟨xs, e1, rfl⟩ := Option.map_eq_some_iff.mp ez
    have e1 := asL_some e1
    subst e1
    cases hv with
    | lst h1 h2 =>
      refine ⟨_, _, rfl, .of (R1.sub _ _ h1), q F1 H1 _ sm R1 fun g F2 H2 s2 r2 _ sm2 R2 => ?_⟩
      have h1' : SqL X.K H2 _ _ := .of (R2.sub _ _ (sm2 _ _ h1))
      refine ⟨fun i d e => ?_, fun i hi => ⟨_, h1', by rw [enumD_len] at hi; rw [h2.length]; exact hi⟩⟩
      obtain ⟨x, e1, rfl⟩ := enumD_get e
      obtain ⟨w, e3, e4⟩ := h2.get e1
      refine ⟨⟨_, w, h1', e3⟩, fun z H3 ⟨T, x', ez, nT, eH, f1⟩ => ?_⟩
      subst ez eH
      have g1 := f1 _ h1'
      rw [e3] at g1
      cases g1
      have sF := same_upd (o := .tup [.int (i : Nat), w]) (R2.ff nT)
      refine ⟨_, sF, R2.alloc nT, .tup (.of upd_same) (.cons ?_ (.cons (RD.mono (sm2.trans sF) x e4) .nil))⟩
      rw [Nat.zero_add]
      exact .int _⟩

/-! ### methods of texts -/
def m1D (p q : Opd) (sem : D → D → Option D) : En → Rs D := fun r => (p.run r).bind fun x r1 => match look r1 x with
  | some (.str y) => (q.run r1).bind fun z r2 => ofO ((look r2 z).bind fun d => sem (.str y) d) r2
  | _ => .bad
theorem de_m1 {id : String} {name : Str} {pp q : Opd} {sem : D → D → Option D} (slot : Slot "str" name id) (ty : typeOf (.builtin id) = pure (.type "method_descriptor")) (rule : MtR X id (fun x xs H Q => ∃ y, xs = [y] ∧ rD2 X.K g sem x y H Q)) (ho : DB X g o pp) (he : DB X g e q)
    (hs : starEach [e] X.env = [(false, eval e X.env)] := by rfl) (hbase : attributeBase o name X.env (eval o X.env) = eval o X.env := by rfl) (hline : (apos.endLine == pos.line) = true := by rfl) : DE X g (.Call (.Attribute o name apos) [e] [] pos) (m1D pp q sem) :=
  PE.imp (pe_m1 slot ty rule ho he hs hbase hline) fun s H Q ⟨F, r, R, h⟩ => ⟨F, r, R, post_mono (post_bind h) fun z r1 q1 F1 H1 v sm R1 hv => by
    cases el : look r1 z with
    | none => rw [el] at q1; exact q1.elim
    | some d =>
      cases d with
      | str y =>
        rw [el] at q1
        have hb := look_ok R1 hv el
        cases hb.flat (fun _ => nofun)
        refine ⟨⟨y, rfl⟩, F1, r1, R1, post_mono (post_bind q1) fun z2 r2 q2 F2 H2 w s2 R2 hw => ⟨w, rfl, ?_⟩⟩
        obtain ⟨d, e, q2⟩ := post_ofO q2
        obtain ⟨dy, e2, e3⟩ := Option.bind_eq_some_iff.mp e
        exact ⟨F2, s, r2, .str y, dy, d, R2, .inl (.str y), look_ok R2 hw e2, e3, fun F3 H3 v3 s3 R3 h3 => q2 F3 H3 v3 ((sm.trans s2).trans s3) R3 h3⟩
      | _ => rw [el] at q1; exact q1.elim⟩
def semSIndex : D → D → Option D
  | .str x, .str y => match Builtin.Str.occurrences x y 0 x.length 1 with
    | i :: _ => some (.int (i : Nat))
    | [] => none
  | _, _ => none
theorem md_sindex : MtR X "str.index" (fun x xs H Q => ∃ y, xs = [y] ∧ rD2 X.K g semSIndex x y H Q) := by
  intro pins s sg H x xs v us Q I rx rv h
  obtain ⟨y, rfl, F, s0, r, dx, dy, d, R, hx, hy, e, q⟩ := h
  unfold semSIndex at e
  split at e
  · split at e
    · next i rest eo =>
      cases e
      cases hx.flat (fun _ => nofun); cases hy.flat (fun _ => nofun)
      exact mt_sindex pins s sg H _ _ v us Q I rx rv ⟨_, _, i, rest, rfl, rfl, eo, q F H _ (Same.refl _) R (.int _)⟩
    · cases e
  · cases e
def strsOf : List D → Option (List Str)
  | [] => some []
  | .str b :: ds => (strsOf ds).map fun bs => b :: bs
  | _ :: _ => none
theorem strs_vs {K : PySem.W.Frag} {F : Hp} : ∀ {vs : List V} {ds : List D} {bs : List Str}, RDs K F vs ds → strsOf ds = some bs → vs = bs.map V.str
  | _, [], bs, h, e => by cases h; cases e; rfl
  | _, d :: ds, bs, h, e => by
    cases h with
    | cons h1 h2 =>
      cases d with
      | str b =>
        obtain ⟨bs', e1, rfl⟩ := Option.map_eq_some_iff.mp e
        cases h1
        rw [strs_vs h2 e1]; rfl
      | _ => cases e
theorem RDs.strs {K : PySem.W.Frag} {F : Hp} : ∀ bs : List Str, RDs K F (bs.map V.str) (bs.map D.str)
  | [] => .nil
  | b :: bs => .cons (.str b) (RDs.strs bs)
def semJoin : D → D → Option D
  | .str x, .lst ds => (strsOf ds).bind fun ys => if (ys.map (·.length)).sum + ys.length * x.length ≤ 1000000 then some (.str (Txt.join x ys)) else none
  | .str x, .tup ds => (strsOf ds).bind fun ys => if (ys.map (·.length)).sum + ys.length * x.length ≤ 1000000 then some (.str (Txt.join x ys)) else none
  | _, _ => none
theorem md_join : MtR X "str.join" (fun x xs H Q => ∃ y, xs = [y] ∧ rD2 X.K g semJoin x y H Q) := by
  intro pins s sg H x xs v us Q I rx rv h
  obtain ⟨y, rfl, F, s0, r, dx, dy, d, R, hx, hy, e, q⟩ := h
  unfold semJoin at e
  split at e
  · obtain ⟨ys, e1, e2⟩ := Option.bind_eq_some_iff.mp e
    split at e2
    · next hl =>
      cases e2
      cases hx.flat (fun _ => nofun)
      obtain ⟨a, vs, rfl, h1, h2⟩ := hy.lst R.sub
      have ev := strs_vs h2 e1
      subst ev
      exact mt_join pins s sg H _ _ v us Q I rx rv ⟨_, a, ys, rfl, rfl, .inl (.of h1), Nat.le_trans hl (by decide), q F H _ (Same.refl _) R (.str _)⟩
    · cases e2
  · obtain ⟨ys, e1, e2⟩ := Option.bind_eq_some_iff.mp e
    split at e2
    · next hl =>
      cases e2
      cases hx.flat (fun _ => nofun)
      obtain ⟨a, vs, rfl, h1, _, h2⟩ := hy.tup R.sub
      have ev := strs_vs h2 e1
      subst ev
      exact mt_join pins s sg H _ _ v us Q I rx rv ⟨_, a, ys, rfl, rfl, .inr h1, Nat.le_trans hl (by decide), q F H _ (Same.refl _) R (.str _)⟩
    · cases e2
  · cases e
def semSplit : D → D → Option D
  | .str x, .str y => if y.length ≠ 0 ∧ x.length ≤ 1000000 then some (.lst ((Txt.split x y).map D.str)) else none
  | _, _ => none
theorem md_split : MtR X "str.split" (fun x xs H Q => ∃ y, xs = [y] ∧ rD2 X.K g semSplit x y H Q) := by
  intro pins s sg H x xs v us Q I rx rv h
  obtain ⟨y, rfl, F, s0, r, dx, dy, d, R, hx, hy, e, q⟩ := h
  unfold semSplit at e
  split at e
  · split at e
    · next hl =>
      cases e
      cases hx.flat (fun _ => nofun); cases hy.flat (fun _ => nofun)
      have hz : (1000000 : Nat) + 2 ≤ sizeLine := by decide
      exact mt_split pins s sg H _ _ v us Q I rx rv ⟨_, _, rfl, rfl, by simpa using hl.1, by omega, PD.lst R (RDs.strs _) q⟩
    · cases e
  · cases e

/-! ### constants of the module -/
theorem de_glob {x : Str} {d : D} {v : V} {u : Value} (hm : X.mg x = some u) (rv : RelV v u) (hd : ∀ F : Hp, RD X.K F v d) (hg : Gl X x := by rfl) (hdb : (x == ("__debug__" : Str)) = false := by decide) : DE X g (.Name x p) (cD d) :=
  PE.imp (pe_glob hg hm rv hdb) fun s H Q ⟨F, r, R, q⟩ => q F H _ (Same.refl _) R (hd F)
/-- T[e], T a dict of the module with text keys: by a table -/
def tabD (t : List (Str × D)) (p : Opd) : En → Rs D := op1 p fun d => match d with
  | .str x => t.lookup x
  | _ => none
/-- a dict of the written part, whose values are flat -/
structure Tab (K : PySem.W.Frag) (w : World) (d : Addr) (t : List (Str × D)) : Prop where
  val : ∀ x z, t.lookup x = some z → ∃ v, KDct K w d x v ∧ ∀ F : Hp, RD K F v z
theorem de_tab {x : Str} {d : Addr} {t : List (Str × D)} {q : Opd} {np : Pos} (T : Tab X.K X.w d t) (hm : X.mg x = some (.ref d)) (he : DB X g e q) (hg : Gl X x := by rfl) (hdb : (x == ("__debug__" : Str)) = false := by decide) (hs : PlainIx e := by intro _ _; rfl) : DE X g (.Subscript (.Name x np) e pos) (tabD t q) :=
  PE.imp (pe_ix ix_kdict (pe_glob (v := .ref d) hg hm rfl hdb) he hs) fun s H Q h => by
    obtain ⟨F, r, R, q⟩ := tD_op1 h
    refine ⟨F, r, R, post_mono q fun z r1 q F1 H1 v sm R1 hv => ?_⟩
    obtain ⟨F2, s2, r2, dx, dz, R2, hx, e, q⟩ := q F1 H1 v sm R1 hv
    cases dx with
    | str y =>
      obtain ⟨w, k1, k2⟩ := T.val y dz e
      cases hx.flat (fun _ => nofun)
      exact ⟨d, y, w, rfl, rfl, k1, q F2 H1 w (Same.refl _) R2 (k2 F2)⟩
    | _ => cases e
/-- a, b = x, y (both sides written), by data; the values may be owned lists -/
def evo : List (En → Rs OV) → List Nat → En → SRs
  | [], _, r => .nx r
  | _, _, _ => .bad
end

/-! ### the end -/
theorem walkG {l : PySem.W.OpenLaw} {n k : Nat} {q : Program} {loose : List Str} {XP : (Str → Option Value) → Heap → Prop} {YP : World → Heap → Prop} {d : DefRec} {K : Params → PySem.W.Frag} {f : List D → Option OV} {x : Str}
    (hi : PyProof.Rows.importsNone q = true) (hn : l.most = some n) (hn2 : n ≤ sizeLine) (hdf : d.params.defaults = []) (room : Room k callerA) (hY : ∀ (w : World) (h : Heap), YP w h → (K w.params).In h)
    (F : ∀ (w : World) (mg : Str → Option Value) (fa : Addr) (h : Heap), (K w.params).In h → h.Ns mainGlobals mg → mg d.name = some (.ref fa) →
      ∃ fd : FuncData, (∀ (s : Shared) (u : Value), BindsTo s fd ⟨[u], []⟩ [(x, u)]) ∧ ∀ base : Heap, (K w.params).In base → base.Ns mainGlobals mg → SysAt base → FnG l.prog w (K w.params) mg base CX0 k fa fd [x] (spP (K w.params) 1 f))
    (hf : ∀ ns : List Int, ns.length ≤ n → f [.scr ns] = some (.sh (.bl true))) : PySem.W.WalkO q loose XP YP l.row.toRowW d [] (fun f vs => PySem.call f vs) := by
  refine Att.attach_call hn hdf fun w s0 s1 mg mb fa o pm cd doc a vs ns T Y ho hd hcd hmg hobj hnums hlen hg => ?_
  obtain ⟨fd, hb, FF⟩ := F w mg fa _ (hY w _ Y) T.T.g hmg
  refine law_callG (hY w _ Y) T.T.g T.T.b T.T.builtins T.T.nolimit (let ⟨mm, h, _⟩ := (T.T.seer hi).mods; ⟨mm, h⟩) hg hobj hnums (Nat.le_trans hlen hn2) room FF hb fun H only sq => ?_
  refine ⟨H, [.scr ns], .sh (.bl true), Same.refl _, .cons (.scr ns sq) .nil, rfl, hf ns hlen, fun F' H' v _ _ _ _ hv => ?_⟩
  have hv : RD (K w.params) F' v (.bl true) := hv
  cases hv
  rfl
end DL

/-! Data layer, part 10: a, b = x, y. -/
namespace DL
open PySem L2
section
variable {X : Cx} {g : G} {a b c : Expr} {pos pt pt2 px py pz : Pos} {x y z : Str} {kt k2 i j l : Nat}
def par2 (i j : Nat) (f : En → Rs D) (h : En → Rs OV) : En → SRs := fun r => thenS (f r) fun d r1 => thenS (h r1) fun o r2 => .nx ((r2.set i (some (.sh d))).set j (some o))
def par3 (i j l : Nat) (f f2 : En → Rs D) (h : En → Rs OV) : En → SRs := fun r => thenS (f r) fun d r1 => thenS (f2 r1) fun d2 r2 => thenS (h r2) fun o r3 => .nx (((r3.set i (some (.sh d))).set j (some (.sh d2))).set l (some o))
/-- an owned value is nobody's, whatever is stored elsewhere -/
theorem RV.set {K : PySem.W.Frag} {F H : Hp} {s : St} {r : En} {v w : V} {o : OV} {d : D} {i : Nat} (hv : RV K g F H s r v o) : RV K g F H (s.set i (some w)) (r.set i (some (.sh d))) v o := by
  cases o with
  | sh d' => exact hv
  | ow xs =>
    obtain ⟨a, vs, e1, e2, e3, e4, e5, e6, e7⟩ := hv
    refine ⟨a, vs, e1, e2, e3, e4, e5, fun k u ek eo => ?_, e7⟩
    by_cases hk : i = k
    · subst hk
      by_cases hi : i < r.length
      · rw [List.getElem?_set_self hi] at ek; cases ek; cases eo
      · rw [List.getElem?_eq_none (by simpa using hi)] at ek; cases ek
    · rw [List.getElem?_set_ne hk] at ek ⊢
      exact e6 k u ek eo
  | od xs => exact hv.elim
  | oi c xs => exact hv.elim
  | exc c => exact hv.elim
theorem RV.laid {K : PySem.W.Frag} {F H : Hp} {s : St} {r : En} {v : V} {o : OV} {p : Addr} {u : HO} (np : H p = none) (hv : RV K g F H s r v o) : RV K g F (L2.upd H p u) s r v o := by
  cases o with
  | sh d' => exact hv
  | ow xs =>
    obtain ⟨a, vs, e1, e2, e3, e4, e5, e6, e7⟩ := hv
    exact ⟨a, vs, e1, e2, same_upd np _ _ e3, e4, e5, e6, e7⟩
  | od xs => exact hv.elim
  | oi c xs => exact hv.elim
  | exc c => exact hv.elim
theorem ds_par2 {f : En → Rs D} {h : En → Rs OV} (hbi : ∀ p ∈ g.B, p.1 ≠ i) (hbj : ∀ p ∈ g.B, p.1 ≠ j) (hN : X.N.Nodup) (hc : X.calm = true) (hij : i ≠ j) (hf : DE X g a f) (hh : DO X g b h) (hi : X.N[i]? = some x := by rfl) (hj : X.N[j]? = some y := by rfl)
    (hx : X.env.scope.names.lookup x = some .local := by rfl) (hy : X.env.scope.names.lookup y = some .local := by rfl)
    (hw : swappedStores [.Tuple [.Name x px, .Name y py] kt pt] (.Tuple [a, b] k2 pt2) X.env = pure (some [x, y]) := by rfl)
    (hs : swapsWithSole [.Tuple [.Name x px, .Name y py] kt pt] (.Tuple [a, b] k2 pt2) pos.line X.env = pure false := by rfl)
    (h1 : starEach [a, b] X.env = (false, eval a X.env) :: starEach [b] X.env := by rfl) (h2 : starEach [b] X.env = (false, eval b X.env) :: starEach [] X.env := by rfl) :
    DS X g (.Assign [.Tuple [.Name x px, .Name y py] kt pt] (.Tuple [a, b] k2 pt2) pos) (par2 i j f h) :=
  PS.imp (ps_par hc hN hi hj hij hx hy (pa_cons hf (pa_cons hh pa_nil h2) h1) hw hs) fun E s H ⟨F, r, R, q⟩ => ⟨F, r, R, post_mono (post_then q) fun d r1 q F1 H1 v sm R1 hv => ⟨F1, r1, R1, post_mono (post_then q) fun o r2 q F2 H2 w sm2 R2 hw => by
    exact ⟨v, w, rfl, q F2 H2 _ (sm.trans sm2) ((R2.set hbi (o := .sh d) (RD.mono sm2 d hv)).set hbj hw.set)⟩⟩⟩
theorem ds_par3 {f f2 : En → Rs D} {h : En → Rs OV} (hbi : ∀ p ∈ g.B, p.1 ≠ i) (hbj : ∀ p ∈ g.B, p.1 ≠ j) (hbl : ∀ p ∈ g.B, p.1 ≠ l) (hN : X.N.Nodup) (hc : X.calm = true) (hij : i ≠ j) (hil : i ≠ l) (hjl : j ≠ l) (hf : DE X g a f) (hf2 : DE X g b f2) (hh : DO X g c h)
    (hi : X.N[i]? = some x := by rfl) (hj : X.N[j]? = some y := by rfl) (hl : X.N[l]? = some z := by rfl)
    (hx : X.env.scope.names.lookup x = some .local := by rfl) (hy : X.env.scope.names.lookup y = some .local := by rfl) (hz : X.env.scope.names.lookup z = some .local := by rfl)
    (hw : swappedStores [.Tuple [.Name x px, .Name y py, .Name z pz] kt pt] (.Tuple [a, b, c] k2 pt2) X.env = pure (some [x, y, z]) := by rfl)
    (hs : swapsWithSole [.Tuple [.Name x px, .Name y py, .Name z pz] kt pt] (.Tuple [a, b, c] k2 pt2) pos.line X.env = pure false := by rfl)
    (h1 : starEach [a, b, c] X.env = (false, eval a X.env) :: starEach [b, c] X.env := by rfl) (h2 : starEach [b, c] X.env = (false, eval b X.env) :: starEach [c] X.env := by rfl) (h3 : starEach [c] X.env = (false, eval c X.env) :: starEach [] X.env := by rfl) :
    DS X g (.Assign [.Tuple [.Name x px, .Name y py, .Name z pz] kt pt] (.Tuple [a, b, c] k2 pt2) pos) (par3 i j l f f2 h) :=
  PS.imp (ps_par3 hc hN hi hj hl hij hil hjl hx hy hz (pa_cons hf (pa_cons hf2 (pa_cons hh pa_nil h3) h2) h1) hw hs) fun E s H ⟨F, r, R, q⟩ => ⟨F, r, R, post_mono (post_then q) fun d r1 q F1 H1 v sm R1 hv => ⟨F1, r1, R1, post_mono (post_then q) fun d2 r2 q F2 H2 v2 sm2 R2 hv2 => ⟨F2, r2, R2, post_mono (post_then q) fun o r3 q F3 H3 w sm3 R3 hw => by
    exact ⟨v, v2, w, rfl, q F3 H3 _ ((sm.trans sm2).trans sm3) (((R3.set hbi (o := .sh d) (RD.mono (sm2.trans sm3) d hv)).set hbj (o := .sh d2) (RD.mono sm3 d2 hv2)).set hbl (hw.set.set))⟩⟩⟩⟩
/-- the same where a tuple is made and taken apart (a name is a cell, or on another line) -/
theorem ds_tup2 {f : En → Rs D} {h : En → Rs OV} (hbi : ∀ p ∈ g.B, p.1 ≠ i) (hbj : ∀ p ∈ g.B, p.1 ≠ j) (hN : X.N.Nodup) (hc : X.calm = true) (hf : DE X g a f) (hh : DO X g b h) (hi : X.N[i]? = some x := by rfl) (hj : X.N[j]? = some y := by rfl)
    (hx : Loc X.env.scope x := by first | exact Or.inl rfl | exact Or.inr rfl) (hy : Loc X.env.scope y := by first | exact Or.inl rfl | exact Or.inr rfl)
    (hw : swappedStores [.Tuple [.Name x px, .Name y py] kt pt] (.Tuple [a, b] k2 pt2) X.env = pure none := by rfl)
    (hs : swapsWithSole [.Tuple [.Name x px, .Name y py] kt pt] (.Tuple [a, b] k2 pt2) pos.line X.env = pure false := by rfl)
    (h1 : starEach [a, b] X.env = (false, eval a X.env) :: starEach [b] X.env := by rfl) (h2 : starEach [b] X.env = (false, eval b X.env) :: starEach [] X.env := by rfl)
    (hfx : X.fn x = true ∨ X.env.scope.names.lookup x = some .local := by first | exact .inl rfl | exact .inr rfl) (hfy : X.fn y = true ∨ X.env.scope.names.lookup y = some .local := by first | exact .inl rfl | exact .inr rfl)
    (hst : (assignEach [.Name x px, .Name y py] X.env).findIdx? (·.1) = none := by rfl) (hln : (assignEach [.Name x px, .Name y py] X.env).length = 2 := by rfl)
    (ha1 : (assignEach [.Name x px, .Name y py] X.env).map (·.2) = assign (.Name x px) X.env :: (assignEach [.Name y py] X.env).map (·.2) := by rfl) (ha2 : (assignEach [.Name y py] X.env).map (·.2) = assign (.Name y py) X.env :: (assignEach [] X.env).map (·.2) := by rfl)
    (ha0 : (assignEach [.Tuple [.Name x px, .Name y py] kt pt] X.env).map (·.2) = [assign (.Tuple [.Name x px, .Name y py] kt pt) X.env] := by rfl) :
    DS X g (.Assign [.Tuple [.Name x px, .Name y py] kt pt] (.Tuple [a, b] k2 pt2) pos) (par2 i j f h) :=
  PS.imp (ps_asg (pe_tup (pa_cons hf (pa_cons hh pa_nil h2) h1)) (pg_tup hc (pgs_cons (pg_name (i := i) hN hi hx hfx) (pgs_cons (pg_name (i := j) hN hj hy hfy) pgs_nil ha2) ha1) hln hst) hs hw ha0) fun E s H ⟨F, r, R, q⟩ => ⟨F, r, R, post_mono (post_then q) fun d r1 q F1 H1 v sm R1 hv => ⟨F1, r1, R1, post_mono (post_then q) fun o r2 q F2 H2 w sm2 R2 hw => by
    refine ⟨by show 2 ≤ sizeLine; decide, fun p np => ⟨p, [v, w], rfl, .of upd_same, rfl, v, [w], rfl, w, [], rfl, rfl, ?_⟩⟩
    exact q F2 _ _ (sm.trans sm2) (((R2.laid np).set hbi (o := .sh d) (RD.mono sm2 d hv)).set hbj (hw.laid np).set)⟩⟩
theorem ds_tup3 {f f2 : En → Rs D} {h : En → Rs OV} (hbi : ∀ p ∈ g.B, p.1 ≠ i) (hbj : ∀ p ∈ g.B, p.1 ≠ j) (hbl : ∀ p ∈ g.B, p.1 ≠ l) (hN : X.N.Nodup) (hc : X.calm = true) (hf : DE X g a f) (hf2 : DE X g b f2) (hh : DO X g c h) (hi : X.N[i]? = some x := by rfl) (hj : X.N[j]? = some y := by rfl) (hl : X.N[l]? = some z := by rfl)
    (hx : Loc X.env.scope x := by first | exact Or.inl rfl | exact Or.inr rfl) (hy : Loc X.env.scope y := by first | exact Or.inl rfl | exact Or.inr rfl) (hz : Loc X.env.scope z := by first | exact Or.inl rfl | exact Or.inr rfl)
    (hw : swappedStores [.Tuple [.Name x px, .Name y py, .Name z pz] kt pt] (.Tuple [a, b, c] k2 pt2) X.env = pure none := by rfl)
    (hs : swapsWithSole [.Tuple [.Name x px, .Name y py, .Name z pz] kt pt] (.Tuple [a, b, c] k2 pt2) pos.line X.env = pure false := by rfl)
    (h1 : starEach [a, b, c] X.env = (false, eval a X.env) :: starEach [b, c] X.env := by rfl) (h2 : starEach [b, c] X.env = (false, eval b X.env) :: starEach [c] X.env := by rfl) (h3 : starEach [c] X.env = (false, eval c X.env) :: starEach [] X.env := by rfl)
    (hfx : X.fn x = true ∨ X.env.scope.names.lookup x = some .local := by first | exact .inl rfl | exact .inr rfl) (hfy : X.fn y = true ∨ X.env.scope.names.lookup y = some .local := by first | exact .inl rfl | exact .inr rfl) (hfz : X.fn z = true ∨ X.env.scope.names.lookup z = some .local := by first | exact .inl rfl | exact .inr rfl)
    (hst : (assignEach [.Name x px, .Name y py, .Name z pz] X.env).findIdx? (·.1) = none := by rfl) (hln : (assignEach [.Name x px, .Name y py, .Name z pz] X.env).length = 3 := by rfl)
    (ha1 : (assignEach [.Name x px, .Name y py, .Name z pz] X.env).map (·.2) = assign (.Name x px) X.env :: (assignEach [.Name y py, .Name z pz] X.env).map (·.2) := by rfl) (ha2 : (assignEach [.Name y py, .Name z pz] X.env).map (·.2) = assign (.Name y py) X.env :: (assignEach [.Name z pz] X.env).map (·.2) := by rfl)
    (ha3 : (assignEach [.Name z pz] X.env).map (·.2) = assign (.Name z pz) X.env :: (assignEach [] X.env).map (·.2) := by rfl)
    (ha0 : (assignEach [.Tuple [.Name x px, .Name y py, .Name z pz] kt pt] X.env).map (·.2) = [assign (.Tuple [.Name x px, .Name y py, .Name z pz] kt pt) X.env] := by rfl) :
    DS X g (.Assign [.Tuple [.Name x px, .Name y py, .Name z pz] kt pt] (.Tuple [a, b, c] k2 pt2) pos) (par3 i j l f f2 h) :=
  PS.imp (ps_asg (pe_tup (pa_cons hf (pa_cons hf2 (pa_cons hh pa_nil h3) h2) h1)) (pg_tup hc (pgs_cons (pg_name (i := i) hN hi hx hfx) (pgs_cons (pg_name (i := j) hN hj hy hfy) (pgs_cons (pg_name (i := l) hN hl hz hfz) pgs_nil ha3) ha2) ha1) hln hst) hs hw ha0) fun E s H ⟨F, r, R, q⟩ => ⟨F, r, R, post_mono (post_then q) fun d r1 q F1 H1 v sm R1 hv => ⟨F1, r1, R1, post_mono (post_then q) fun d2 r2 q F2 H2 v2 sm2 R2 hv2 => ⟨F2, r2, R2, post_mono (post_then q) fun o r3 q F3 H3 w sm3 R3 hw => by
    refine ⟨by show 3 ≤ sizeLine; decide, fun p np => ⟨p, [v, v2, w], rfl, .of upd_same, rfl, v, [v2, w], rfl, v2, [w], rfl, w, [], rfl, rfl, ?_⟩⟩
    exact q F3 _ _ ((sm.trans sm2).trans sm3) ((((R3.laid np).set hbi (o := .sh d) (RD.mono (sm2.trans sm3) d hv)).set hbj (o := .sh d2) (RD.mono sm3 d2 hv2)).set hbl ((hw.laid np).set.set))⟩⟩⟩
end
end DL

/-! Data layer, part 11: what the printed texts use. -/
namespace DL
open PySem L2
theorem nb {g : G} {bs : List Nat} (h : g.B.map (·.1) = bs) (i : Nat) (hi : i ∉ bs) : ∀ p ∈ g.B, p.1 ≠ i := fun p hp z => hi (by rw [← h]; exact List.mem_map.mpr ⟨p, hp, z⟩)
theorem nb00 {g : G} (h : g.B = []) : g.B.map (·.1) = [] := by rw [h]; rfl
theorem nbs {g : G} {bs vs : List Nat} (h : g.B.map (·.1) = bs) (hv : ∀ i ∈ bs, i ∉ vs) : ∀ p ∈ g.B, p.1 ∉ vs := fun p hp => hv _ (by rw [← h]; exact List.mem_map.mpr ⟨p, hp, rfl⟩)
theorem nbt {g g' : G} {bs : List Nat} (e : Blk g g') (h : g.B.map (·.1) = bs) : g'.B.map (·.1) = bs := by rw [e.B]; exact h
theorem u65 {k : Nat} {A : Around} (r : Room k A) : A.units + 65 < cLine := by have := r.un; omega
def frzD (f : En → Rs OV) : En → Rs D := fun r => (f r).map OV.d
def shD (f : En → Rs D) : En → Rs OV := fun r => (f r).map OV.sh
def yesT : En → Rs Bool := fun r => .ok true r
section
variable {X : Cx} {g : G} {e c : Expr}
theorem DO.fz {f : En → Rs OV} (h : DO X g e f) : DE X g e (frzD f) := h.frz
theorem DE.shd {f : En → Rs D} (h : DE X g e f) : DO X g e (shD f) := h.sh
theorem PTs.imp {ifs : List Expr} {t t' : TT} (h : PTs X ifs t) (i : ∀ s H Q, t' s H Q → t s H Q) : PTs X ifs t' := ⟨fun pins s sg H Q I q => h.run pins s sg H Q I (i sg H Q q)⟩
theorem pts_nilD : PTs X [] (tTD X.K g yesT) := PTs.imp pts_nil fun s H Q ⟨F, r, R, q⟩ => q F H (Same.refl _) R
theorem pts_oneD {f : En → Rs Bool} (h : DT X g c f) : PTs X [c] (tTD X.K g f) := pts_one h
end
/-- a def of the text stands under its name -/
def FnAt (K : PySem.W.Frag) (mg : Str → Option Value) (x : Str) (st : Stmt) : Prop := ∃ f fd, Fun K x x st f fd ∧ mg x = some (.ref f)
/-- a dict of the module with texts as values -/
def TabOk (K : PySem.W.Frag) (d : Addr) : List (Str × Str) → Prop
  | [] => True
  | p :: r => (∃ t, PySem.W.nsIn K d p.1 = some (some (.str p.2 t))) ∧ TabOk K d r
theorem tab_of {K : PySem.W.Frag} {w : World} {d : Addr} {es : Array DictEntry} {n : Nat} (hl : K.lookup d = some ⟨.type "dict", none, .dict es n, #[]⟩) (hk : PySem.W.KeysLit w.params es.toList) (t : List (Str × Str)) (h : TabOk K d t) : Tab K w d (t.map fun p => (p.1, D.str p.2)) := by
  refine ⟨fun x z e => ?_⟩
  induction t with
  | nil => cases e
  | cons p r ih =>
    obtain ⟨⟨tk, h1⟩, h2⟩ := h
    have e : (match x == p.1 with | true => some (D.str p.2) | false => (r.map fun p => (p.1, D.str p.2)).lookup x) = some z := e
    cases hb : x == p.1 with
    | true =>
      rw [hb] at e
      cases e
      have hx : x = p.1 := eq_of_beq hb
      subst hx
      exact ⟨.str p.2, ⟨es, n, _, hl, hk, h1, _, rfl⟩, fun F => .str _⟩
    | false =>
      rw [hb] at e
      exact ih h2 e
end DL

/-! Data layer, part 12: plain lemmas about the functions of the layer. -/
namespace DL
open PySem L2
/-- a comprehension whose turns keep an invariant of the environment -/
theorem lcS_inv {vs : List Nat} {h : D → En → Option En} {t : En → Rs Bool} {elt : En → Rs D} (I : En → Prop) (P : D → Prop) : ∀ (ds : List D), (∀ d ∈ ds, ∀ r, I r → ∃ r1 r2 y r3, h d (wipeE r vs) = some r1 ∧ t r1 = .ok true r2 ∧ elt r2 = .ok y r3 ∧ P y ∧ I (wipeE r3 vs)) →
    ∀ r, I r → ∃ ys r', lcS vs h t elt ds r = .ok ys r' ∧ ys.length = ds.length ∧ (∀ y ∈ ys, P y) ∧ I r'
  | [], _, r, hr => ⟨[], r, rfl, rfl, fun _ z => absurd z List.not_mem_nil, hr⟩
  | d :: ds, st, r, hr => by
    obtain ⟨r1, r2, y, r3, e1, e2, e3, hy, h3⟩ := st d (List.mem_cons_self ..) r hr
    obtain ⟨ys, r', e4, e5, e6, e7⟩ := lcS_inv I P ds (fun d hd => st d (List.mem_cons_of_mem _ hd)) _ h3
    refine ⟨y :: ys, r', ?_, by rw [List.length_cons, List.length_cons, e5], fun z hz => ?_, e7⟩
    · unfold lcS
      rw [e1]
      simp only [e2, Rs.bind, if_true, e3, e4]
    · rcases List.mem_cons.mp hz with rfl | hz
      · exact hy
      · exact e6 z hz
/-- a comprehension that changes nothing -/
theorem lcS_map {vs : List Nat} {h : D → En → Option En} {t : En → Rs Bool} {elt : En → Rs D} (p : D → Bool) (q : D → D) (r : En) : ∀ (ds : List D), (∀ d ∈ ds, ∃ r1 r2, h d (wipeE r vs) = some r1 ∧ t r1 = .ok (p d) r2 ∧ wipeE r2 vs = r ∧ (p d = true → ∃ r3, elt r2 = .ok (q d) r3 ∧ wipeE r3 vs = r)) →
    lcS vs h t elt ds r = .ok ((ds.filter p).map q) r
  | [], _ => rfl
  | d :: ds, st => by
    obtain ⟨r1, r2, e1, e2, e0, e3⟩ := st d (List.mem_cons_self ..)
    have ih := lcS_map p q r ds fun d hd => st d (List.mem_cons_of_mem _ hd)
    unfold lcS
    rw [e1]
    simp only [e2, Rs.bind]
    cases hp : p d with
    | false =>
      rw [List.filter_cons_of_neg (by simp [hp])]
      simp only [Bool.false_eq_true, if_false]
      rw [e0]
      exact ih
    | true =>
      obtain ⟨r3, e4, e5⟩ := e3 hp
      rw [List.filter_cons_of_pos hp]
      simp only [if_true, e4, e5, ih, List.map_cons]
/-- a for whose turns keep an invariant by the number of the turn and go on -/
theorem forS_inv {h : D → En → Option En} {body : En → SRs} (ds : List D) (I : Nat → En → Prop) (st : ∀ (i : Nat) (d : D), ds[i]? = some d → ∀ r, I i r → ∃ r1 r2, h d r = some r1 ∧ body r1 = .nx r2 ∧ I (i + 1) r2) : ∀ r, I 0 r → ∃ r', forS h body ds r = .nx r' ∧ I ds.length r' := by
  have go : ∀ (es : List D) (k : Nat), (∀ (i : Nat) (d : D), es[i]? = some d → ds[k + i]? = some d) → ∀ r, I k r → ∃ r', forS h body es r = .nx r' ∧ I (k + es.length) r' := fun es => by
    induction es with
    | nil => exact fun k _ r hr => ⟨r, rfl, hr⟩
    | cons d es ih =>
      intro k hk r hr
      obtain ⟨r1, r2, e1, e2, h2⟩ := st k d (hk 0 d rfl) r hr
      obtain ⟨r', e3, h3⟩ := ih (k + 1) (fun i d' hd => by rw [show k + 1 + i = k + (i + 1) by omega]; exact hk (i + 1) d' hd) r2 h2
      refine ⟨r', ?_, by rw [List.length_cons, show k + (es.length + 1) = k + 1 + es.length by omega]; exact h3⟩
      unfold forS
      rw [e1]
      simp only [e2, e3]
  intro r hr
  obtain ⟨r', e, h'⟩ := go ds 0 (fun i d hd => by rw [Nat.zero_add]; exact hd) r hr
  rw [Nat.zero_add] at h'
  exact ⟨r', e, h'⟩
theorem rangeD_len (lo : Int) (n : Nat) : (rangeD lo n).length = n := by unfold rangeD; simp
theorem rangeD_mem {lo : Int} {n : Nat} {d : D} (h : d ∈ rangeD lo n) : ∃ k : Nat, k < n ∧ d = .int (lo + k) := by
  unfold rangeD at h
  obtain ⟨k, h1, h2⟩ := List.mem_map.mp h
  exact ⟨k, List.mem_range.mp h1, h2.symm⟩
theorem rangeD_at {lo : Int} {n i : Nat} (h : i < n) : (rangeD lo n)[i]? = some (.int (lo + i)) := by
  unfold rangeD
  rw [List.getElem?_map, List.getElem?_range h]
  rfl
theorem atI_lt {α : Type} {xs : List α} {i : Int} (h0 : 0 ≤ i) (h : i < xs.length) : atI xs i = some (xs[i.toNat]'(by omega)) := by
  unfold atI ixN
  rw [if_pos h0, if_pos h]
  simp only [Option.bind_some]
  exact List.getElem?_eq_getElem _
theorem atI_mem {α : Type} {xs : List α} {i : Int} (h0 : 0 ≤ i) (h : i < xs.length) : ∃ x, atI xs i = some x ∧ x ∈ xs := ⟨_, atI_lt h0 h, List.getElem_mem _⟩
/-- pigeons -/
theorem exists_not_mem {α : Type} [DecidableEq α] : ∀ (l m : List α), l.Nodup → m.length < l.length → ∃ x ∈ l, x ∉ m
  | [], m, _, h => by simp at h
  | x :: l, m, nd, h => by
    by_cases hx : x ∈ m
    · have nd' := (List.nodup_cons.mp nd)
      have hl : (m.erase x).length < l.length := by
        rw [List.length_erase_of_mem hx]
        have : 0 < m.length := List.length_pos_of_mem hx
        rw [List.length_cons] at h
        omega
      obtain ⟨y, hy, hn⟩ := exists_not_mem l (m.erase x) nd'.2 hl
      refine ⟨y, List.mem_cons_of_mem _ hy, fun z => hn ?_⟩
      have hne : y ≠ x := fun e => nd'.1 (e ▸ hy)
      exact (List.mem_erase_of_ne hne).mpr z
    · exact ⟨x, List.mem_cons_self .., hx⟩
/-! texts as lists of codes -/
theorem str_ext {x y : Str} (h : x.cps.toList = y.cps.toList) : x = y := by
  obtain ⟨a⟩ := x
  obtain ⟨b⟩ := y
  have : a = b := Array.toList_inj.mp h
  rw [this]
theorem fit_str {x : Str} (h : ∀ c ∈ x.cps.toList, c < 1114112) : (D.str x).fit = true := by
  unfold D.fit D.pl D.dp
  simp only [Nat.zero_le, decide_true, Bool.and_true]
  rw [← Array.all_toList, List.all_eq_true]
  exact fun c hc => decide_eq_true (h c hc)
theorem pl_of_fit {d : D} (h : d.fit = true) : d.pl = true := (Bool.and_eq_true_iff.mp h).1
theorem dp_of_fit {d : D} (h : d.fit = true) : d.dp ≤ 64 := of_decide_eq_true (Bool.and_eq_true_iff.mp h).2
theorem plAll_of {ds : List D} (h : ∀ d ∈ ds, d.pl = true) : plAll ds = true := by
  induction ds with
  | nil => rfl
  | cons d ds ih =>
    show (d.pl && plAll ds) = true
    rw [h d (List.mem_cons_self ..), ih fun e he => h e (List.mem_cons_of_mem _ he)]; rfl
theorem dpAll_of {ds : List D} {n : Nat} (h : ∀ d ∈ ds, d.dp ≤ n) : dpAll ds ≤ n := by
  induction ds with
  | nil => exact Nat.zero_le _
  | cons d ds ih =>
    show max d.dp (dpAll ds) ≤ n
    exact Nat.max_le.mpr ⟨h d (List.mem_cons_self ..), ih fun e he => h e (List.mem_cons_of_mem _ he)⟩
theorem fit_lst {ds : List D} {n : Nat} (hn : n ≤ 63) (h : ∀ d ∈ ds, d.pl = true ∧ d.dp ≤ n) : (D.lst ds).fit = true := by
  unfold D.fit
  refine Bool.and_eq_true_iff.mpr ⟨plAll_of fun d hd => (h d hd).1, decide_eq_true ?_⟩
  have := dpAll_of fun d hd => (h d hd).2
  show dpAll ds + 1 ≤ 64
  omega
theorem fit_tup {ds : List D} {n : Nat} (hn : n ≤ 63) (h : ∀ d ∈ ds, d.pl = true ∧ d.dp ≤ n) : (D.tup ds).fit = true := by
  unfold D.fit
  refine Bool.and_eq_true_iff.mpr ⟨plAll_of fun d hd => (h d hd).1, decide_eq_true ?_⟩
  have := dpAll_of fun d hd => (h d hd).2
  show dpAll ds + 1 ≤ 64
  omega
end DL

/-! Data layer, part 13: repr. -/
namespace DL
open PySem L2

mutual
def D.wt : D → Nat
  | .non => 4
  | .bl _ => 5
  | .int i => if i.natAbs < 1000000000000000000 then 20 else 1921
  | .str x => 10 * x.length + 2
  | .lst xs => wtAll xs + 3
  | .tup xs => wtAll xs + 3
  | .dic _ => 0
  | .scr _ => 0
  | .obj _ _ => 0
def wtAll : List D → Nat
  | [] => 0
  | d :: ds => d.wt + 2 + wtAll ds
end
mutual
def D.six : D → Bool
  | .int i => decide (i.natAbs.log2 < 1920)
  | .lst xs => sixAll xs
  | .tup xs => sixAll xs
  | _ => true
def sixAll : List D → Bool
  | [] => true
  | d :: ds => d.six && sixAll ds
end
def D.shw (d : D) : Bool := d.fit && d.six && decide (d.wt ≤ 1000000)
/-! with dicts -/
def kpl : Key → Bool
  | .inl i => decide (i.natAbs.log2 < 1920)
  | .inr x => x.cps.all (· < 1114112)
def kwt : Key → Nat
  | .inl i => if i.natAbs < 1000000000000000000 then 20 else 1921
  | .inr x => 10 * x.length + 2
mutual
def D.rp : D → Bool
  | .non => true
  | .bl _ => true
  | .int i => decide (i.natAbs.log2 < 1920)
  | .str x => x.cps.all (· < 1114112)
  | .lst xs => rpAll xs
  | .tup xs => rpAll xs
  | .dic kvs => rpK kvs
  | .scr _ => false
  | .obj _ _ => false
def rpAll : List D → Bool
  | [] => true
  | d :: ds => d.rp && rpAll ds
def rpK : List (Key × D) → Bool
  | [] => true
  | (k, d) :: ds => kpl k && (d.rp && rpK ds)
end
mutual
def D.dq : D → Nat
  | .lst xs => dqAll xs + 1
  | .tup xs => dqAll xs + 1
  | .dic kvs => dqK kvs + 1
  | _ => 0
def dqAll : List D → Nat
  | [] => 0
  | d :: ds => max d.dq (dqAll ds)
def dqK : List (Key × D) → Nat
  | [] => 0
  | (_, d) :: ds => max d.dq (dqK ds)
end
mutual
def D.wq : D → Nat
  | .non => 4
  | .bl _ => 5
  | .int i => if i.natAbs < 1000000000000000000 then 20 else 1921
  | .str x => 10 * x.length + 2
  | .lst xs => wqAll xs + 3
  | .tup xs => wqAll xs + 3
  | .dic kvs => wqK kvs + 2
  | .scr _ => 0
  | .obj _ _ => 0
def wqAll : List D → Nat
  | [] => 0
  | d :: ds => d.wq + 2 + wqAll ds
def wqK : List (Key × D) → Nat
  | [] => 0
  | (k, d) :: ds => kwt k + 2 + d.wq + 2 + wqK ds
end
def D.shx (d : D) : Bool := d.rp && decide (d.dq ≤ 64) && decide (d.wq ≤ 1000000)
def semRepr : List D → Option D
  | [d] => if d.shw then some (.str d.py.shown) else if d.shx then some (.str d.py.shown) else none
  | _ => none
theorem int_text18 {i : Int} (h : i.natAbs < 1000000000000000000) : (Str.ofString (toString i)).length ≤ 20 := by
  have := int_text_length_le10 (a := i) (k := 18) (by decide) (by simpa using h)
  rw [PySem.ofString_length]
  omega
mutual
theorem shown_wt : ∀ d : D, d.pl = true → d.six = true → d.py.shown.length ≤ d.wt
  | .non, _, _ => by decide
  | .bl b, _, _ => by cases b <;> decide
  | .int i, _, h => by
    have h : decide (i.natAbs.log2 < 1920) = true := h
    show (Str.ofString (toString i)).length ≤ if i.natAbs < 1000000000000000000 then 20 else 1921
    split
    · next hl => exact int_text18 hl
    · exact PyProof.Rows.int_text_len_1921 (of_decide_eq_true h)
  | .str x, h, _ => by
    have h : x.cps.all (· < 1114112) = true := h
    refine StrLaws.reprText_len x fun c hc => ?_
    have := Array.all_eq_true_iff_forall_mem.mp h c (by simpa using hc)
    have := of_decide_eq_true this
    omega
  | .lst xs, h, k => by
    have h : plAll xs = true := h
    have k : sixAll xs = true := k
    have e := shownAll_wt xs h k
    have h2 := listText_len_le (PyData.shownAll (pys xs))
    show (listText (PyData.shownAll (pys xs))).length ≤ wtAll xs + 3
    omega
  | .tup xs, h, k => by
    have h : plAll xs = true := h
    have k : sixAll xs = true := k
    have e := shownAll_wt xs h k
    have h2 := tupleText_len_le (PyData.shownAll (pys xs))
    show (tupleText (PyData.shownAll (pys xs))).length ≤ wtAll xs + 3
    omega
  | .dic _, h, _ => by cases h
  | .scr _, h, _ => by cases h
  | .obj _ _, h, _ => by cases h
theorem shownAll_wt : ∀ ds : List D, plAll ds = true → sixAll ds = true → ((PyData.shownAll (pys ds)).map (·.length)).sum + 2 * (PyData.shownAll (pys ds)).length ≤ wtAll ds
  | [], _, _ => by decide
  | d :: ds, h, k => by
    have h : (d.pl && plAll ds) = true := h
    have k : (d.six && sixAll ds) = true := k
    obtain ⟨h1, h2⟩ := Bool.and_eq_true_iff.mp h
    obtain ⟨k1, k2⟩ := Bool.and_eq_true_iff.mp k
    have e1 := shown_wt d h1 k1
    have e2 := shownAll_wt ds h2 k2
    show ((d.py.shown :: PyData.shownAll (pys ds)).map (·.length)).sum + 2 * (d.py.shown :: PyData.shownAll (pys ds)).length ≤ d.wt + 2 + wtAll ds
    simp only [List.map_cons, List.sum_cons, List.length_cons]
    omega
end
mutual
theorem py_showable : ∀ d : D, d.pl = true → d.six = true → d.py.showable = true
  | .non, _, _ => rfl
  | .bl _, _, _ => rfl
  | .int i, _, h => h
  | .str x, h, _ => rfl
  | .lst xs, h, k => by
    have h : plAll xs = true := h
    have k : sixAll xs = true := k
    show PyData.showableAll (pys xs) = true
    exact pys_showable xs h k
  | .tup xs, h, k => by
    have h : plAll xs = true := h
    have k : sixAll xs = true := k
    show PyData.showableAll (pys xs) = true
    exact pys_showable xs h k
  | .dic _, h, _ => by cases h
  | .scr _, h, _ => by cases h
  | .obj _ _, h, _ => by cases h
theorem pys_showable : ∀ ds : List D, plAll ds = true → sixAll ds = true → PyData.showableAll (pys ds) = true
  | [], _, _ => rfl
  | d :: ds, h, k => by
    have h : (d.pl && plAll ds) = true := h
    have k : (d.six && sixAll ds) = true := k
    obtain ⟨h1, h2⟩ := Bool.and_eq_true_iff.mp h
    obtain ⟨k1, k2⟩ := Bool.and_eq_true_iff.mp k
    show (d.py.showable && PyData.showableAll (pys ds)) = true
    rw [py_showable d h1 k1, pys_showable ds h2 k2]; rfl
end
def kPy : Key → PyData
  | .inl i => .int i
  | .inr x => .str x
theorem pyk_cons (k : Key) (d : D) (ds : List (Key × D)) : pyk ((k, d) :: ds) = (kPy k, d.py) :: pyk ds := by cases k <;> rfl
theorem shownKv_cons (k v : PyData) (r : List (PyData × PyData)) : PyData.shownKv ((k, v) :: r) = (k.shown ++ ": " ++ v.shown) :: PyData.shownKv r := rfl
theorem key_wt (k : Key) (h : kpl k = true) : (kPy k).shown.length ≤ kwt k := by
  cases k with
  | inl i => exact shown_wt (.int i) rfl h
  | inr x => exact shown_wt (.str x) h rfl
theorem join_len : ∀ ps : List Str, (Str.join ", " ps).length ≤ (ps.map (·.length)).sum + 2 * ps.length
  | [] => by decide +kernel
  | [p] => by
    show p.length ≤ _
    simp
  | p :: q :: ps => by
    have ih := join_len (q :: ps)
    show (p ++ ", " ++ Str.join ", " (q :: ps)).length ≤ _
    rw [strLen_append, strLen_append]
    have h2 : ((", " : Str)).length = 2 := by decide +kernel
    simp only [List.map_cons, List.sum_cons, List.length_cons] at ih ⊢
    omega
theorem dictText_le (ps : List Str) : (dictText ps).length ≤ (ps.map (·.length)).sum + 2 * ps.length + 2 := by
  have h := join_len ps
  have h1 : (("{" : Str)).length = 1 := by decide +kernel
  have h2 : (("}" : Str)).length = 1 := by decide +kernel
  unfold dictText
  rw [strLen_append, strLen_append, h1, h2]
  omega
mutual
theorem shown_wq : ∀ d : D, d.rp = true → d.py.shown.length ≤ d.wq
  | .non, _ => by decide
  | .bl b, _ => by cases b <;> decide
  | .int i, h => shown_wt (.int i) rfl h
  | .str x, h => shown_wt (.str x) h rfl
  | .lst xs, h => by
    have e := shownAll_wq xs h
    have h2 := listText_len_le (PyData.shownAll (pys xs))
    show (listText (PyData.shownAll (pys xs))).length ≤ wqAll xs + 3
    omega
  | .tup xs, h => by
    have e := shownAll_wq xs h
    have h2 := tupleText_len_le (PyData.shownAll (pys xs))
    show (tupleText (PyData.shownAll (pys xs))).length ≤ wqAll xs + 3
    omega
  | .dic kvs, h => by
    have e := shownK_wq kvs h
    have h2 := dictText_le (PyData.shownKv (pyk kvs))
    show (dictText (PyData.shownKv (pyk kvs))).length ≤ wqK kvs + 2
    omega
  | .scr _, h => by cases h
  | .obj _ _, h => by cases h
theorem shownAll_wq : ∀ ds : List D, rpAll ds = true → ((PyData.shownAll (pys ds)).map (·.length)).sum + 2 * (PyData.shownAll (pys ds)).length ≤ wqAll ds
  | [], _ => by decide
  | d :: ds, h => by
    have h : (d.rp && rpAll ds) = true := h
    obtain ⟨h1, h2⟩ := Bool.and_eq_true_iff.mp h
    have e1 := shown_wq d h1
    have e2 := shownAll_wq ds h2
    show ((d.py.shown :: PyData.shownAll (pys ds)).map (·.length)).sum + 2 * (d.py.shown :: PyData.shownAll (pys ds)).length ≤ d.wq + 2 + wqAll ds
    simp only [List.map_cons, List.sum_cons, List.length_cons]
    omega
theorem shownK_wq : ∀ ds : List (Key × D), rpK ds = true → ((PyData.shownKv (pyk ds)).map (·.length)).sum + 2 * (PyData.shownKv (pyk ds)).length ≤ wqK ds
  | [], _ => by decide
  | (k, d) :: ds, h => by
    have h : (kpl k && (d.rp && rpK ds)) = true := h
    obtain ⟨h0, h⟩ := Bool.and_eq_true_iff.mp h
    obtain ⟨h1, h2⟩ := Bool.and_eq_true_iff.mp h
    have e0 := key_wt k h0
    have e1 := shown_wq d h1
    have e2 := shownK_wq ds h2
    have h3 : ((": " : Str)).length = 2 := by decide +kernel
    rw [pyk_cons, shownKv_cons, show wqK ((k, d) :: ds) = kwt k + 2 + d.wq + 2 + wqK ds from rfl]
    simp only [List.map_cons, List.sum_cons, List.length_cons, strLen_append, h3]
    omega
end
mutual
theorem rp_showable : ∀ d : D, d.rp = true → d.py.showable = true
  | .non, _ => rfl
  | .bl _, _ => rfl
  | .int i, h => h
  | .str x, h => rfl
  | .lst xs, h => rpAll_showable xs h
  | .tup xs, h => rpAll_showable xs h
  | .dic kvs, h => rpK_showable kvs h
  | .scr _, h => by cases h
  | .obj _ _, h => by cases h
theorem rpAll_showable : ∀ ds : List D, rpAll ds = true → PyData.showableAll (pys ds) = true
  | [], _ => rfl
  | d :: ds, h => by
    have h : (d.rp && rpAll ds) = true := h
    obtain ⟨h1, h2⟩ := Bool.and_eq_true_iff.mp h
    show (d.py.showable && PyData.showableAll (pys ds)) = true
    rw [rp_showable d h1, rpAll_showable ds h2]; rfl
theorem rpK_showable : ∀ ds : List (Key × D), rpK ds = true → PyData.showableKv (pyk ds) = true
  | [], _ => rfl
  | (k, d) :: ds, h => by
    have h : (kpl k && (d.rp && rpK ds)) = true := h
    obtain ⟨h0, h⟩ := Bool.and_eq_true_iff.mp h
    obtain ⟨h1, h2⟩ := Bool.and_eq_true_iff.mp h
    rw [pyk_cons]
    show ((kPy k).showable && d.py.showable && PyData.showableKv (pyk ds)) = true
    rw [rp_showable d h1, rpK_showable ds h2]
    cases k with
    | inl i => show (decide (i.natAbs.log2 < 1920) && true && true) = true; rw [show decide (i.natAbs.log2 < 1920) = true from h0]; rfl
    | inr x => rfl
end
mutual
theorem rp_depth : ∀ d : D, d.rp = true → d.py.depth = d.dq
  | .non, _ => rfl
  | .bl _, _ => rfl
  | .int i, h => rfl
  | .str x, h => rfl
  | .lst xs, h => by show PyData.depthAll (pys xs) + 1 = dqAll xs + 1; rw [rpAll_depth xs h]
  | .tup xs, h => by show PyData.depthAll (pys xs) + 1 = dqAll xs + 1; rw [rpAll_depth xs h]
  | .dic kvs, h => by show PyData.depthKv (pyk kvs) + 1 = dqK kvs + 1; rw [rpK_depth kvs h]
  | .scr _, h => by cases h
  | .obj _ _, h => by cases h
theorem rpAll_depth : ∀ ds : List D, rpAll ds = true → PyData.depthAll (pys ds) = dqAll ds
  | [], _ => rfl
  | d :: ds, h => by
    have h : (d.rp && rpAll ds) = true := h
    obtain ⟨h1, h2⟩ := Bool.and_eq_true_iff.mp h
    show max d.py.depth (PyData.depthAll (pys ds)) = max d.dq (dqAll ds)
    rw [rp_depth d h1, rpAll_depth ds h2]
theorem rpK_depth : ∀ ds : List (Key × D), rpK ds = true → PyData.depthKv (pyk ds) = dqK ds
  | [], _ => rfl
  | (k, d) :: ds, h => by
    have h : (kpl k && (d.rp && rpK ds)) = true := h
    obtain ⟨h0, h⟩ := Bool.and_eq_true_iff.mp h
    obtain ⟨h1, h2⟩ := Bool.and_eq_true_iff.mp h
    rw [pyk_cons]
    show max (max (kPy k).depth d.py.depth) (PyData.depthKv (pyk ds)) = max d.dq (dqK ds)
    rw [rp_depth d h1, rpK_depth ds h2]
    cases k <;> simp [PyData.depth, kPy]
end
section
variable {X : Cx} {pins : List (Addr × Obj)} {s : Shared} {H : Hp} {sg : St}
theorem Inv.ne_sys (I : Inv X pins sg H s) (sy : SysAt X.base) {a : Addr} {o : HO} (h : H a = some o) : a ≠ sysModules := fun e => by
  subst e
  obtain ⟨ob, ho⟩ := sy
  rw [(I.bs _ ob ho).2] at h
  cases h
theorem key_reads {h : Heap} {k : Key} {v : Value} (e : keyIs k v = true) : Reads h v (kPy k) [] := by
  rcases keyIs_shape e with ⟨i, t, rfl, rfl⟩ | ⟨x, t, rfl, rfl⟩
  · exact Reads.int i t
  · exact Reads.str x t
mutual
theorem RD.readsX (I : Inv X pins sg H s) (sy : SysAt X.base) : ∀ (d : D) (v : V) (u : Value), d.rp = true → RD X.K H v d → RelV v u → ∃ as, Reads s.heap u d.py as ∧ sysModules ∉ as
  | .non, _, _, _, h, r => by cases h; cases r; exact ⟨_, Reads.none, List.not_mem_nil⟩
  | .bl b, _, _, _, h, r => by cases h; cases r; exact ⟨_, Reads.bool b, List.not_mem_nil⟩
  | .int i, _, _, _, h, r => by cases h; obtain ⟨t, rfl⟩ := r; exact ⟨_, Reads.int i t, List.not_mem_nil⟩
  | .str x, _, _, _, h, r => by cases h; obtain ⟨t, rfl⟩ := r; exact ⟨_, Reads.str x t, List.not_mem_nil⟩
  | .lst ds, _, _, hp, h, r => by
    have hp : rpAll ds = true := hp
    cases h with
    | lst hs ha =>
      cases r
      obtain ⟨its, rv, ⟨o, n, ho, hc, _, hd⟩, _⟩ := I.list (SqL.of hs)
      obtain ⟨as, hr, hn⟩ := RDs.readsX I sy ds _ its hp ha rv
      refine ⟨_, Reads.list ho hc hd hr, fun z => ?_⟩
      rcases List.mem_cons.mp z with z | z
      · exact Inv.ne_sys I sy hs z.symm
      · exact hn z
  | .tup ds, _, _, hp, h, r => by
    have hp : rpAll ds = true := hp
    cases h with
    | tup hs ha =>
      cases r
      obtain ⟨its, rv, ⟨o, ho, hc, n, hd⟩, _⟩ := I.tuple hs
      obtain ⟨as, hr, hn⟩ := RDs.readsX I sy ds _ its hp ha rv
      exact ⟨_, Reads.tuple ho hc hd hr, hn⟩
  | .dic kds, _, _, hp, h, r => by
    have hp : rpK kds = true := hp
    cases h with
    | dic hs ha =>
      cases r
      obtain ⟨_, hne, vs, kv, o, es, ep, ho, hx, hd, _, hpr, _⟩ := dk_rd I.hok hs
      obtain ⟨as, hr1, hr2, hn⟩ := RDk.readsX I sy kds _ _ _ hp ha kv hpr
      have := Reads.dict ho hx.1 hd hr1 hr2
      refine ⟨_, this, fun z => ?_⟩
      rcases List.mem_append.mp z with z | z
      · rcases List.mem_cons.mp z with z | z
        · rw [← z] at hne; exact absurd hne (by decide)
        · cases z
      · exact hn z
  | .scr _, _, _, hp, _, _ => by cases hp
  | .obj _ _, _, _, hp, _, _ => by cases hp
theorem RDs.readsX (I : Inv X pins sg H s) (sy : SysAt X.base) : ∀ (ds : List D) (vs : List V) (us : List Value), rpAll ds = true → RDs X.K H vs ds → Vals vs us → ∃ as, ReadsAll s.heap us (pys ds) as ∧ sysModules ∉ as
  | [], _, _, _, h, r => by cases h; cases r; exact ⟨_, ReadsAll.nil, List.not_mem_nil⟩
  | d :: ds, _, _, hp, h, r => by
    have hp : (d.rp && rpAll ds) = true := hp
    obtain ⟨h1, h2⟩ := Bool.and_eq_true_iff.mp hp
    cases h with
    | cons a1 a2 =>
      cases r with
      | cons r1 r2 =>
        obtain ⟨as, q1, n1⟩ := RD.readsX I sy d _ _ h1 a1 r1
        obtain ⟨bs, q2, n2⟩ := RDs.readsX I sy ds _ _ h2 a2 r2
        exact ⟨_, ReadsAll.cons q1 q2, fun z => (List.mem_append.mp z).elim n1 n2⟩
theorem RDk.readsX (I : Inv X pins sg H s) (sy : SysAt X.base) : ∀ (kds : List (Key × D)) (kvs : List (Key × V)) (vs : List (Key × Value)) (es : List DictEntry), rpK kds = true → RDk X.K H kvs kds → KV kvs vs → PySem.Pairs (mixKind X.prog X.w) es vs → ∃ bs, ReadsAll s.heap (es.map (·.key)) ((pyk kds).map (·.1)) [] ∧ ReadsAll s.heap (es.map (·.val)) ((pyk kds).map (·.2)) bs ∧ sysModules ∉ bs
  | [], _, _, _, _, h, r, p => by cases h; cases r; cases p; exact ⟨_, ReadsAll.nil, ReadsAll.nil, List.not_mem_nil⟩
  | (k, d) :: kds, _, _, _, hp, h, r, p => by
    have hp : (kpl k && (d.rp && rpK kds)) = true := hp
    obtain ⟨_, hp⟩ := Bool.and_eq_true_iff.mp hp
    obtain ⟨h1, h2⟩ := Bool.and_eq_true_iff.mp hp
    cases h with
    | cons a1 a2 =>
      cases r with
      | cons r1 r2 =>
        cases p with
        | cons p1 p2 p3 =>
          obtain ⟨e1, e2⟩ := r1
          obtain ⟨as, q1, n1⟩ := RD.readsX I sy d _ _ h1 a1 e2
          obtain ⟨bs, q2, q3, n2⟩ := RDk.readsX I sy kds _ _ _ h2 a2 r2 p3
          refine ⟨as ++ bs, ?_, ?_, fun z => (List.mem_append.mp z).elim n1 n2⟩
          · have hk : Reads s.heap _ (kPy _) [] := key_reads (h := s.heap) p1
            rw [← e1] at hk
            rw [pyk_cons]
            exact ReadsAll.cons hk q2
          · rw [← p2] at q1
            rw [pyk_cons]
            exact ReadsAll.cons q1 q3
end
end
section
variable {X : Cx} {g : G}
theorem cd_repr {k : Nat} (hgd : X.A.guards = some []) (hr : Room k X.A) (sy : SysAt X.base) : CallR X (.builtin "repr") (rDN X.K g semRepr) := by
  intro pins s sg H xs us Q I rv h
  obtain ⟨F, s0, r, ds, d, R, hx, e, q⟩ := h
  unfold semRepr at e
  split at e
  · next d0 =>
    split at e
    · next hs =>
      cases e
      obtain ⟨hs1, hs2⟩ := Bool.and_eq_true_iff.mp hs
      obtain ⟨hf, h6⟩ := Bool.and_eq_true_iff.mp hs1
      obtain ⟨hp, hd⟩ := Bool.and_eq_true_iff.mp hf
      have hd := of_decide_eq_true hd
      have hw := of_decide_eq_true hs2
      have hsz := Nat.le_trans (shown_wt d0 hp h6) (Nat.le_trans hw mil_line)
      have hsh := py_showable d0 hp h6
      obtain ⟨v, rfl, h1⟩ := hx.one
      obtain ⟨u, rfl, ru⟩ := vals1 rv
      obtain ⟨as, rr⟩ := RD.reads I d0 v u hp (h1.rd R.sub) ru
      have fin := q F H (.str d0.py.shown) (Same.refl _) R (.str _)
      have un := hr.un
      have dep := py_depth d0 hp
      have dep' : X.A.units + (d0.py.depth + 1) < cLine := by omega
      cases d0 with
      | non => cases rr; exact P.repr_of_none ⟨.str _, H, I.tok _, ⟨_, rfl⟩, fin⟩
      | bl b => cases rr; exact P.repr_of_bool ⟨.str _, H, I.tok _, ⟨_, rfl⟩, fin⟩
      | int i => cases rr; exact P.repr_of_int (of_decide_eq_true h6) ⟨.str _, H, I.tok _, ⟨_, rfl⟩, fin⟩
      | str x => cases rr; exact P.repr_of_str (hsz := hsz) ⟨.str _, H, I.tok _, ⟨_, rfl⟩, fin⟩
      | lst xs =>
        have hn := PyData.noDict_hsm (as := as) (PyData.hasDict_of_canLay _ (py_lay _ hp))
        cases rr with
        | list z1 z2 z3 z4 => exact repr_of_reads' (.list z1 z2 z3 z4) hsh hn hgd dep' (fun _ _ e => e) (fun h' u tk hk => ⟨.str _, H, I.kept hk, ⟨_, rfl⟩, fin⟩) hsz
      | tup xs =>
        have hn := PyData.noDict_hsm (as := as) (PyData.hasDict_of_canLay _ (py_lay _ hp))
        cases rr with
        | tuple z1 z2 z3 z4 => exact repr_of_reads' (.tuple z1 z2 z3 z4) hsh hn hgd dep' (fun _ _ e => e) (fun h' u tk hk => ⟨.str _, H, I.kept hk, ⟨_, rfl⟩, fin⟩) hsz
      | dic _ => cases hp
      | scr _ => cases hp
      | obj _ _ => cases hp
    · split at e
      · next hs =>
        cases e
        obtain ⟨hs1, hs2⟩ := Bool.and_eq_true_iff.mp hs
        obtain ⟨hp, hd⟩ := Bool.and_eq_true_iff.mp hs1
        have hd := of_decide_eq_true hd
        have hw := of_decide_eq_true hs2
        have hsz := Nat.le_trans (shown_wq d0 hp) (Nat.le_trans hw mil_line)
        have hsh := rp_showable d0 hp
        obtain ⟨v, rfl, h1⟩ := hx.one
        obtain ⟨u, rfl, ru⟩ := vals1 rv
        obtain ⟨as, rr, hn⟩ := RD.readsX I sy d0 v u hp (h1.rd R.sub) ru
        have fin := q F H (.str d0.py.shown) (Same.refl _) R (.str _)
        have un := hr.un
        have dep := rp_depth d0 hp
        have dep' : X.A.units + (d0.py.depth + 1) < cLine := by omega
        cases d0 with
        | non => cases rr; exact P.repr_of_none ⟨.str _, H, I.tok _, ⟨_, rfl⟩, fin⟩
        | bl b => cases rr; exact P.repr_of_bool ⟨.str _, H, I.tok _, ⟨_, rfl⟩, fin⟩
        | int i => cases rr; exact P.repr_of_int (of_decide_eq_true hp) ⟨.str _, H, I.tok _, ⟨_, rfl⟩, fin⟩
        | str x => cases rr; exact P.repr_of_str (hsz := hsz) ⟨.str _, H, I.tok _, ⟨_, rfl⟩, fin⟩
        | lst xs =>
          cases rr with
          | list z1 z2 z3 z4 => exact repr_of_reads' (.list z1 z2 z3 z4) hsh (fun _ => hn) hgd dep' (fun _ _ e => e) (fun h' u tk hk => ⟨.str _, H, I.kept hk, ⟨_, rfl⟩, fin⟩) hsz
        | tup xs =>
          cases rr with
          | tuple z1 z2 z3 z4 => exact repr_of_reads' (.tuple z1 z2 z3 z4) hsh (fun _ => hn) hgd dep' (fun _ _ e => e) (fun h' u tk hk => ⟨.str _, H, I.kept hk, ⟨_, rfl⟩, fin⟩) hsz
        | dic kvs =>
          cases rr with
          | dict z1 z2 z3 z4 z5 => exact repr_of_reads' (.dict z1 z2 z3 z4 z5) hsh (fun _ => hn) hgd dep' (fun _ _ e => e) (fun h' u tk hk => ⟨.str _, H, I.kept hk, ⟨_, rfl⟩, fin⟩) hsz
        | scr _ => cases hp
        | obj _ _ => cases hp
      · cases e
  · cases e
end
end DL

/-! Data layer, part 14: truth of any data, isinstance, chains of comparisons. -/
namespace DL
open PySem L2

def D.tru : D → Option Bool
  | .non => some false
  | .bl b => some b
  | .int i => some (i != 0)
  | .str x => if x.length ≤ 1000000 then some (x.length != 0) else none
  | .lst xs => some (!xs.isEmpty)
  | .tup xs => some (!xs.isEmpty)
  | _ => none
section
variable {K : PySem.W.Frag} {F H : Hp} {v : V} {d : D}
theorem RDs.isE {vs : List V} {ds : List D} (h : RDs K F vs ds) : vs.isEmpty = ds.isEmpty := by
  cases h <;> rfl
theorem tru_of {k : Bool} (sub : Same F H) (h : RB K F H v d) (e : d.tru = some k) : TruV K v H k := by
  cases d with
  | non => cases h.flat (fun _ => nofun); cases e; rfl
  | bl b => cases h.flat (fun _ => nofun); cases e; rfl
  | int b => cases h.flat (fun _ => nofun); cases e; rfl
  | str x =>
    cases h.flat (fun _ => nofun)
    have e : (if x.length ≤ 1000000 then some (x.length != 0) else none) = some k := e
    by_cases hl : x.length ≤ 1000000
    · rw [if_pos hl] at e
      cases e
      refine ⟨Nat.le_trans hl mil_line, ?_⟩
      cases hx : x.length with
      | zero => rfl
      | succ n => 
        show (n + 1 != 0) = (((n + 1 : Nat) : Int) != 0)
        have h1 : (((n + 1 : Nat) : Int) != 0) = true := by
          rw [bne_iff_ne]; omega
        rw [h1]; rfl
    · rw [if_neg hl] at e; cases e
  | lst xs =>
    obtain ⟨a, vs, rfl, h1, h2⟩ := h.lst sub
    cases e
    exact .inl ⟨vs, .of h1, by rw [h2.isE]⟩
  | tup xs =>
    obtain ⟨a, vs, rfl, h1, _, h2⟩ := h.tup sub
    cases e
    exact .inr (.inl ⟨vs, h1, by rw [h2.isE]⟩)
  | dic _ => cases e
  | scr _ => cases e
  | obj _ _ => cases e
end
def toT (p : Opd) : En → Rs Bool := fun r => (p.run r).bind fun x r1 => ofO ((look r1 x).bind D.tru) r1
def orV (f h : En → Rs D) : En → Rs D := fun r => (f r).bind fun d r1 => (ofO d.tru r1).bind fun c r1 => if c = true then .ok d r1 else h r1
def andV (f h : En → Rs D) : En → Rs D := fun r => (f r).bind fun d r1 => (ofO d.tru r1).bind fun c r1 => if c = true then h r1 else .ok d r1
def notV (p : Opd) : En → Rs D := fun r => (toT p r).map fun c => .bl (!c)
section
variable {X : Cx} {g : G} {e a b c : Expr} {pos : Pos} {p : Opd}
theorem tB_tru {K : PySem.W.Frag} {s : St} {H : Hp} {Q : Bool → Hp → Prop} (h : tTD K g (toT p) s H Q) : tB K g p s H fun x H1 => ∃ k, TruV K x H1 k ∧ Q k H1 := by
  obtain ⟨F, r, R, h⟩ := h
  refine ⟨F, r, R, post_mono (post_bind h) fun z r1 q F1 H1 v sm R1 hv => ?_⟩
  obtain ⟨k, e, q⟩ := post_ofO q
  obtain ⟨d, e1, e2⟩ := Option.bind_eq_some_iff.mp e
  exact ⟨k, tru_of R1.sub (look_ok R1 hv e1) e2, q F1 H1 sm R1⟩
theorem dt_tru (h : DB X g e p) (he : ∀ whole, isTrue e X.env whole = (do let v ← whole; standAt e.pos; holding [v] (truthy v)) := by intro _; rfl) : DT X g e (toT p) :=
  PT.imp (pt_truth h he) fun s H Q h => tB_tru h
theorem de_notV (h : DB X g a p) : DE X g (.UnaryOp .Not a pos) (notV p) :=
  PE.imp (pe_notT h) fun s H Q ⟨F, r, R, h⟩ => tB_tru (Q := fun k H1 => Q (.bl (!k)) H1) ⟨F, r, R, post_mono (post_map h) fun k r1 q F1 H1 sm R1 => q F1 H1 _ sm R1 (.bl _)⟩
theorem de_orV {f h : En → Rs D} {rest : List Expr} (hf : DE X g a f) (hh : DE X g (.BoolOp .Or (b :: rest) pos) h) : DE X g (.BoolOp .Or (a :: b :: rest) pos) (orV f h) :=
  PE.imp (pe_orT hf hh) fun s H Q ⟨F, r, R, q⟩ => ⟨F, r, R, post_mono (post_bind q) fun d r1 q F1 H1 v sm R1 hv => by
    obtain ⟨k, e, q⟩ := post_ofO (post_bind q)
    refine ⟨k, tru_of R1.sub (.inl hv) e, ?_⟩
    cases k with
    | true => exact q F1 H1 v sm R1 hv
    | false => exact ⟨F1, r1, R1, post_mono q fun d2 r2 q F2 H2 v2 s2 R2 hv2 => q F2 H2 v2 (sm.trans s2) R2 hv2⟩⟩
theorem de_andV {f h : En → Rs D} {rest : List Expr} (hf : DE X g a f) (hh : DE X g (.BoolOp .And (b :: rest) pos) h) : DE X g (.BoolOp .And (a :: b :: rest) pos) (andV f h) :=
  PE.imp (pe_andT hf hh) fun s H Q ⟨F, r, R, q⟩ => ⟨F, r, R, post_mono (post_bind q) fun d r1 q F1 H1 v sm R1 hv => by
    obtain ⟨k, e, q⟩ := post_ofO (post_bind q)
    refine ⟨k, tru_of R1.sub (.inl hv) e, ?_⟩
    cases k with
    | false => exact q F1 H1 v sm R1 hv
    | true => exact ⟨F1, r1, R1, post_mono q fun d2 r2 q F2 H2 v2 s2 R2 hv2 => q F2 H2 v2 (sm.trans s2) R2 hv2⟩⟩
/-! ### a < b < c -/
def chD (p q u : Opd) (sem sem' : D → D → Option D) : En → Rs D := fun r => (p.run r).bind fun x r1 => (q.run r1).bind fun y r2 =>
  (ofO (((look r2 x).bind fun dx => (look r2 y).bind fun dy => sem dx dy).bind D.asB) r2).bind fun k r2 => if k = true then (u.run r2).bind fun z r3 => ofO ((look r3 y).bind fun dy => (look r3 z).bind fun dz => sem' dy dz) r3 else .ok (.bl false) r2
theorem chain_ok {K : PySem.W.Frag} {p q u : Opd} {sem sem' : D → D → Option D} {s : St} {H : Hp} {Q : VK} (h : tD K g (chD p q u sem sem') s H Q) : tChain (rD2 K g sem) (rD2 K g sem') (tB K g p) (tB K g q) (tB K g u) s H Q := by
  obtain ⟨F, r, R, h⟩ := h
  refine ⟨F, r, R, post_mono (post_bind h) fun x r1 q1 F1 H1 v sm R1 hv => ⟨F1, r1, R1, post_mono (post_bind q1) fun y r2 q2 F2 H2 w s2 R2 hw => ?_⟩⟩
  obtain ⟨k, e, q2⟩ := post_ofO (post_bind q2)
  obtain ⟨d, e0, ek⟩ := Option.bind_eq_some_iff.mp e
  obtain ⟨dx, e1, e⟩ := Option.bind_eq_some_iff.mp e0
  obtain ⟨dy, e2, e3⟩ := Option.bind_eq_some_iff.mp e
  have ek := asB_some ek
  subst ek
  refine ⟨F2, s, r2, dx, dy, _, R2, look_ok R2 (hv.mono s2) e1, look_ok R2 hw e2, e3, fun F3 H3 v3 s3 R3 h3 => ?_⟩
  cases h3
  refine ⟨k, rfl, ?_⟩
  cases k with
  | false => exact q2 F3 H3 _ ((sm.trans s2).trans s3) R3 (.bl false)
  | true =>
    refine ⟨F3, r2, R3, post_mono (post_bind q2) fun z r4 q4 F4 H4 w4 s4 R4 h4 => ?_⟩
    obtain ⟨d, e, q4⟩ := post_ofO q4
    obtain ⟨dx, f1, e⟩ := Option.bind_eq_some_iff.mp e
    obtain ⟨dy, f2, f3⟩ := Option.bind_eq_some_iff.mp e
    exact ⟨F4, s, r4, dx, dy, d, R4, look_ok R4 ((hw.mono s3).mono s4) f1, look_ok R4 h4 f2, f3, fun F5 H5 v5 s5 R5 h5 => q4 F5 H5 v5 ((((sm.trans s2).trans s3).trans s4).trans s5) R5 h5⟩
theorem de_chain {op op' : CmpOp} {p q u : Opd} {sem sem' : D → D → Option D} (ho : OpR X (compareOp op) (rD2 X.K g sem)) (ho' : OpR X (compareOp op') (rD2 X.K g sem')) (ha : DB X g a p) (hb : DB X g b q) (hc : DB X g c u)
    (hm : lastMarks [op, op'] [b, c] = false := by with_unfolding_all rfl) : DE X g (.Compare a [op, op'] [b, c] pos) (chD p q u sem sem') :=
  PE.imp (pe_chain ho ho' ha hb hc hm) fun s H Q h => chain_ok h
theorem dt_chain {op op' : CmpOp} {p q u : Opd} {sem sem' : D → D → Option D} (ho : OpR X (compareOp op) (rD2 X.K g sem)) (ho' : OpR X (compareOp op') (rD2 X.K g sem')) (ha : DB X g a p) (hb : DB X g b q) (hc : DB X g c u)
    (hm : lastMarks [op, op'] [b, c] = false := by with_unfolding_all rfl) : DT X g (.Compare a [op, op'] [b, c] pos) (toB (chD p q u sem sem')) :=
  PT.imp (pt_chain ho ho' ha hb hc hm) fun s H Q ⟨F, r, R, h⟩ => by
    refine chain_ok ⟨F, r, R, post_mono (post_bind h) fun d r1 q F1 H1 v sm R1 hv => ?_⟩
    obtain ⟨b, e, q⟩ := post_ofO q
    have e := asB_some e
    subst e
    cases hv
    exact ⟨b, rfl, q F1 H1 sm R1⟩
/-! ### isinstance(e, T), isinstance(e, (T, ..)) -/
def D.ty : D → String
  | .non => "NoneType"
  | .bl _ => "bool"
  | .int _ => "int"
  | .str _ => "str"
  | .lst _ => "list"
  | .tup _ => "tuple"
  | .dic _ => "dict"
  | .scr _ => "list"
  | .obj _ _ => "object"
def isTy (t : String) (T : String) : Bool := t == T || (t == "bool" && T == "int")
def D.isi (d : D) (Ts : List String) : Bool := Ts.any (isTy d.ty)
def isiD (p : Opd) (Ts : List String) : En → Rs D := fun r => (p.run r).bind fun x r1 => ofO ((look r1 x).bind fun d => match d with
  | .scr _ => none
  | .obj _ _ => none
  | d => some (.bl (d.isi Ts))) r1
theorem ty_of {K : PySem.W.Frag} {F H : Hp} {v : V} {d : D} (sub : Same F H) (h : RB K F H v d) (h2 : (∀ x, d ≠ .scr x) ∧ ∀ c x, d ≠ .obj c x) : TyX K H v (.type d.ty) := by
  cases d with
  | non => cases h.flat (fun _ => nofun); exact .base .non
  | bl b => cases h.flat (fun _ => nofun); exact .base (.bl _)
  | int b => cases h.flat (fun _ => nofun); exact .base (.int _)
  | str x => cases h.flat (fun _ => nofun); exact .base (.str _)
  | lst xs =>
    obtain ⟨a, vs, rfl, h1, h2⟩ := h.lst sub
    exact .base (.lst h1)
  | tup xs =>
    obtain ⟨a, vs, rfl, h1, _, h2⟩ := h.tup sub
    rcases h1 with (h1 | ⟨o, h1⟩) | ⟨o, its, n, h1, hc, _⟩
    · exact .base (.tup h1)
    · exact .fTuple h1
    · exact .kTuple h1 hc
  | dic x =>
    cases h.flat (fun _ => nofun) with
    | dic h1 h2 =>
      rcases same_rd sub h1 with h1 | ⟨o, h1⟩
      · exact .base (.dK h1)
      · exact .fDict h1
  | scr x => exact absurd rfl (h2.1 x)
  | obj c x => exact absurd rfl (h2.2 c x)
def tyNames : List String := ["int", "str", "bool", "list", "tuple", "dict", "float", "set", "bytes"]
theorem kit_one (K : PySem.W.Frag) (d : D) {T : String} (h : T ∈ tyNames) : PySem.W.kitOne K (.type d.ty) (.type T) = some (isTy d.ty T) := by
  unfold tyNames at h
  simp only [List.mem_cons, List.not_mem_nil, or_false] at h
  rcases h with rfl | rfl | rfl | rfl | rfl | rfl | rfl | rfl | rfl <;> cases d <;> rfl
theorem kit_any (K : PySem.W.Frag) (d : D) : ∀ {Ts : List String}, (∀ T ∈ Ts, T ∈ tyNames) → PySem.W.kitAny K (.type d.ty) (Ts.map Value.type) = some (d.isi Ts)
  | [], _ => rfl
  | T :: Ts, h => by
    have h1 := kit_one K d (h T (List.mem_cons_self ..))
    have h2 := kit_any K d (Ts := Ts) fun T hT => h T (List.mem_cons_of_mem _ hT)
    show (match PySem.W.kitOne K (.type d.ty) (.type T) with | some true => some true | some false => PySem.W.kitAny K (.type d.ty) (Ts.map Value.type) | none => none) = _
    rw [h1, h2]
    show _ = some (isTy d.ty T || d.isi Ts)
    cases isTy d.ty T <;> rfl
theorem isi_some {d x : D} {Ts : List String} (e : (match d with
  | .scr _ => none
  | .obj _ _ => none
  | d => some (.bl (d.isi Ts)) : Option D) = some x) : x = .bl (d.isi Ts) ∧ (∀ x, d ≠ .scr x) ∧ ∀ c x, d ≠ .obj c x := by
  cases d <;> first | (cases e; exact ⟨rfl, fun _ => nofun, fun _ _ => nofun⟩) | cases e
theorem de_isi1 {T : String} {pn pT : Pos} (hT : T ∈ tyNames) (hm : X.mg "isinstance" = none) (hmT : X.mg (T : Str) = none) (hp : DB X g e p) (hg : Gl X "isinstance" := by rfl) (hgT : Gl X (T : Str) := by rfl)
    (hvT : bootBuiltins (T : Str) = some (.type T) := by decide +kernel) (hnT : (T : Str) ≠ "__name__" := by decide) (hdT : ((T : Str) == ("__debug__" : Str)) = false := by decide)
    (h1 : starEach [e, .Name T pT] X.env = (false, eval e X.env) :: starEach [.Name T pT] X.env := by rfl) (h2 : starEach [.Name T pT] X.env = (false, eval (.Name T pT) X.env) :: starEach [] X.env := by rfl)
    (hpl : (backTo pos (starEach [.Name T pT] X.env)).any (·.1) = false := by rfl) : DE X g (.Call (.Name "isinstance" pn) [e, .Name T pT] [] pos) (isiD p [T]) := by
  refine PE.imp (pe_callB call_isi hg hm (by decide +kernel) (pa_cons hp (pa_cons (pe_bltn (v := .ty T) hgT hmT hvT rfl hnT hdT) pa_nil h2) h1) (by decide) (by decide) h1 hpl) fun s H Q ⟨F, r, R, h⟩ => ?_
  refine ⟨F, r, R, post_mono (post_bind h) fun z r1 q F1 H1 v sm R1 hv => ?_⟩
  obtain ⟨x, e, q⟩ := post_ofO q
  obtain ⟨d, e1, e2⟩ := Option.bind_eq_some_iff.mp e
  obtain ⟨rfl, n2⟩ := isi_some e2
  have k := kit_one X.K d hT
  have k2 : d.isi [T] = isTy d.ty T := by show (isTy d.ty T || false) = _; rw [Bool.or_false]
  refine ⟨v, .ty T, .type d.ty, .type T, isTy d.ty T, rfl, .ty _, ty_of R1.sub (look_ok R1 hv e1) n2, k, ?_⟩
  rw [← k2]
  exact q F1 H1 _ sm R1 (.bl _)
/-- a list of names of types -/
def tTys (Ts : List String) : TA := fun _ H Q => Q (Ts.map V.ty) H
theorem pa_ty {T : String} {Ts : List String} {es : List Expr} {pT : Pos} (hmT : X.mg (T : Str) = none) (hs : PA X es (tTys Ts)) (hgT : Gl X (T : Str) := by rfl)
    (hvT : bootBuiltins (T : Str) = some (.type T) := by decide +kernel) (hnT : (T : Str) ≠ "__name__" := by decide) (hdT : ((T : Str) == ("__debug__" : Str)) = false := by decide)
    (h2 : starEach (.Name T pT :: es) X.env = (false, eval (.Name T pT) X.env) :: starEach es X.env := by rfl) : PA X (.Name T pT :: es) (tTys (T :: Ts)) :=
  PA.imp (pa_cons (pe_bltn (v := .ty T) hgT hmT hvT rfl hnT hdT) hs h2) fun s H Q h => h
theorem pa_ty0 : PA X [] (tTys []) := PA.imp pa_nil fun s H Q h => h
theorem paired_cls : ∀ Ts : List String, Paired ClsV (Ts.map V.ty) (Ts.map Value.type)
  | [] => .nil
  | T :: Ts => .cons (.ty T) (paired_cls Ts)
theorem de_isiT {Ts : List String} {es : List Expr} {k : Nat} {pn pT : Pos} (hT : ∀ T ∈ Ts, T ∈ tyNames) (hl : Ts.length ≤ 1000) (hm : X.mg "isinstance" = none) (hp : DB X g e p) (hts : PA X es (tTys Ts)) (hg : Gl X "isinstance" := by rfl)
    (h1 : starEach [e, .Tuple es k pT] X.env = (false, eval e X.env) :: starEach [.Tuple es k pT] X.env := by rfl) (h2 : starEach [.Tuple es k pT] X.env = (false, eval (.Tuple es k pT) X.env) :: starEach [] X.env := by rfl)
    (hpl : (backTo pos (starEach [.Tuple es k pT] X.env)).any (·.1) = false := by rfl) : DE X g (.Call (.Name "isinstance" pn) [e, .Tuple es k pT] [] pos) (isiD p Ts) := by
  refine PE.imp (pe_callB call_isiT hg hm (by decide +kernel) (pa_cons hp (pa_cons (pe_tup hts) pa_nil h2) h1) (by decide) (by decide) h1 hpl) fun s H Q ⟨F, r, R, h⟩ => ?_
  refine ⟨F, r, R, post_mono (post_bind h) fun z r1 q F1 H1 v sm R1 hv => ?_⟩
  obtain ⟨x, e, q⟩ := post_ofO q
  obtain ⟨d, e1, e2⟩ := Option.bind_eq_some_iff.mp e
  obtain ⟨rfl, n2⟩ := isi_some e2
  refine ⟨le_line (by rw [List.length_map]; exact hl), fun a na => ?_⟩
  have R2 := R1.laid (o := .tup (Ts.map V.ty)) na
  exact ⟨v, a, Ts.map V.ty, .type d.ty, Ts.map Value.type, d.isi Ts, rfl, upd_same, paired_cls Ts, ty_of R2.sub (look_ok R2 hv e1) n2, kit_any X.K d hT, q F1 _ _ sm R2 (.bl _)⟩
end
end DL

/-! Data layer, part 15: dicts whose keys are ints and texts. -/
namespace DL
open PySem L2

def D.key : D → Option Key
  | .int i => some (.inl i)
  | .str x => some (.inr x)
  | _ => none
def valD (ds : List (Key × D)) (k : Key) : Option D := (ds.find? fun kv => decide (kv.1 = k)).map (·.2)
def putD (ds : List (Key × D)) (k : Key) (d : D) : List (Key × D) :=
  if (ds.any fun kv => decide (kv.1 = k)) = true then ds.map (fun kv => if kv.1 = k then (kv.1, d) else kv) else ds ++ [(k, d)]
def mergeD (ds more : List (Key × D)) : List (Key × D) := more.foldl (fun acc kv => putD acc kv.1 kv.2) ds
section
variable {K : PySem.W.Frag} {F H : Hp}
theorem key_of {v : V} {d : D} {k : Key} (h : RD K F v d) (e : d.key = some k) : v = kV k := by
  cases d with
  | int i => cases h; cases e; rfl
  | str x => cases h; cases e; rfl
  | _ => cases e
theorem RDk.find {k : Key} : ∀ {vs : List (Key × V)} {ds : List (Key × D)}, RDk K F vs ds → (∀ d, valD ds k = some d → ∃ v, valV vs k = some v ∧ RD K F v d) ∧ (valD ds k = none → valV vs k = none)
  | _, [], h => by cases h; exact ⟨fun d e => (by cases e), fun _ => rfl⟩
  | _, (j, d) :: ds, h => by
    cases h with
    | cons h1 h2 =>
      rename_i v vs
      obtain ⟨i1, i2⟩ := RDk.find (k := k) h2
      by_cases hk : j = k
      · have e1 : valD ((j, d) :: ds) k = some d := by simp [valD, List.find?_cons, hk]
        have e2 : valV ((j, v) :: vs) k = some v := valV_pos (p := (j, v)) hk
        rw [e1, e2]
        exact ⟨fun d' e => (by cases e; exact ⟨v, rfl, h1⟩), fun e => (by cases e)⟩
      · have e1 : valD ((j, d) :: ds) k = valD ds k := by simp [valD, List.find?_cons, hk]
        have e2 : valV ((j, v) :: vs) k = valV vs k := valV_neg (p := (j, v)) hk
        rw [e1, e2]
        exact ⟨i1, i2⟩
theorem RDk.any {k : Key} : ∀ {vs : List (Key × V)} {ds : List (Key × D)}, RDk K F vs ds → (vs.any fun kv => decide (kv.1 = k)) = (ds.any fun kv => decide (kv.1 = k))
  | _, [], h => by cases h; rfl
  | _, (j, d) :: ds, h => by
    cases h with
    | cons h1 h2 => rw [List.any_cons, List.any_cons, RDk.any h2]
theorem RDk.snoc {k : Key} {v : V} {d : D} (r : RD K F v d) : ∀ {vs : List (Key × V)} {ds : List (Key × D)}, RDk K F vs ds → RDk K F (vs ++ [(k, v)]) (ds ++ [(k, d)])
  | _, [], h => by cases h; exact .cons r .nil
  | _, (j, d) :: ds, h => by
    cases h with
    | cons h1 h2 => exact .cons h1 (RDk.snoc r h2)
theorem RDk.mapk {k : Key} {v : V} {d : D} (r : RD K F v d) : ∀ {vs : List (Key × V)} {ds : List (Key × D)}, RDk K F vs ds → RDk K F (vs.map fun kv => if kv.1 = k then (kv.1, v) else kv) (ds.map fun kv => if kv.1 = k then (kv.1, d) else kv)
  | _, [], h => by cases h; exact .nil
  | _, (j, d) :: ds, h => by
    cases h with
    | cons h1 h2 =>
      rw [List.map_cons, List.map_cons]
      by_cases hk : j = k
      · rw [if_pos hk, if_pos hk]; exact .cons r (RDk.mapk r h2)
      · rw [if_neg hk, if_neg hk]; exact .cons h1 (RDk.mapk r h2)
theorem RDk.put {k : Key} {v : V} {d : D} (r : RD K F v d) {vs : List (Key × V)} {ds : List (Key × D)} (h : RDk K F vs ds) : RDk K F (putK vs k v) (putD ds k d) := by
  unfold putK putD
  rw [h.any]
  split
  · exact h.mapk r
  · exact h.snoc r
theorem RDk.merge : ∀ {more : List (Key × D)} {mv : List (Key × V)} {vs : List (Key × V)} {ds : List (Key × D)}, RDk K F vs ds → RDk K F mv more → RDk K F (mergeK vs mv) (mergeD ds more)
  | [], _, _, _, h, h' => by cases h'; exact h
  | (k, d) :: more, _, vs, ds, h, h' => by
    cases h' with
    | cons h1 h2 =>
      show RDk K F (mergeK (putK vs k _) _) (mergeD (putD ds k d) more)
      exact RDk.merge (h.put h1) h2
theorem RDk.length : ∀ {vs : List (Key × V)} {ds : List (Key × D)}, RDk K F vs ds → vs.length = ds.length
  | _, [], h => by cases h; rfl
  | _, (j, d) :: ds, h => by
    cases h with
    | cons h1 h2 => rw [List.length_cons, List.length_cons, RDk.length h2]
theorem RB.dic {v : V} {ds : List (Key × D)} (sub : Same F H) (h : RB K F H v (.dic ds)) : ∃ a vs, v = .ref a ∧ Rd H a (.dK vs) ∧ RDk K F vs ds := by
  cases h.flat (fun _ => nofun) with
  | dic h1 h2 => exact ⟨_, _, rfl, same_rd sub h1, h2⟩
end
/-! ### d[k], k in d -/
def semAt : D → D → Option D
  | .dic ds, y => y.key.bind fun k => valD ds k
  | x, y => semIx x y
def inB2 : D → D → Option Bool
  | x, .dic ds => x.key.map fun k => (valD ds k).isSome
  | x, y => inB x y
def semIn2 (d e : D) : Option D := (inB2 d e).map D.bl
def semNotIn2 (d e : D) : Option D := (inB2 d e).map fun b => D.bl (!b)
section
variable {X : Cx} {g : G}
theorem ixAt (hu : X.A.units + 65 < cLine) : IxR X (rD2 X.K g semAt) := by
  intro value slice pins s sg H x y v u Q I rx ry h hs
  obtain ⟨F, s0, r, dx, dy, d, R, hx, hy, e, q⟩ := h
  unfold semAt at e
  split at e
  · next ds =>
    obtain ⟨k, ek, e⟩ := Option.bind_eq_some_iff.mp e
    obtain ⟨a, vs, rfl, h1, h2⟩ := hx.dic R.sub
    obtain rfl : v = Value.ref a := rx
    have ey : y = kV k := by
      refine key_of (hy.flat fun xs z => ?_) ek
      rw [z] at ek; cases ek
    subst ey
    obtain ⟨w, ew, hw⟩ := h2.find.1 _ e
    have gt : DGet H a (kV k) (some w) := .inl ⟨vs, k, h1, rfl, ew.symm⟩
    exact PyProof.Rows.tail_any (dict_typeIs I gt) PySem.F.slot_dict_getitem.lookup (d_getItem (by omega) I gt ry fun w' s' I' rw' => ⟨w, H, I', rw', q F H w (Same.refl _) R hw⟩) hs
  · exact ixd value slice pins s sg H x y v u Q I rx ry ⟨F, s0, r, dx, dy, d, R, hx, hy, e, q⟩ hs
theorem dget_of {F H : Hp} {s0 : St} {r : En} {y : V} {dy : D} {a : Addr} {vs : List (Key × V)} {ds : List (Key × D)} {k : Key} (R : Rel X.K g F H s0 r) (hy : RB X.K F H y dy) (ek : dy.key = some k) (h1 : Rd H a (.dK vs)) (h2 : RDk X.K F vs ds) : y = kV k ∧ DGet H a y (valV vs k) ∧ (valV vs k).isSome = (valD ds k).isSome := by
  have ey : y = kV k := by
    refine key_of (hy.flat fun xs z => ?_) ek
    rw [z] at ek; cases ek
  subst ey
  refine ⟨rfl, .inl ⟨vs, k, h1, rfl, rfl⟩, ?_⟩
  cases e : valD ds k with
  | none => rw [h2.find.2 e]; rfl
  | some d =>
    obtain ⟨w, ew, _⟩ := h2.find.1 d e
    rw [ew]; rfl
theorem opd_in2 (hu : X.A.units + 65 < cLine) : OpR X (compareOp .In) (rD2 X.K g semIn2) := by
  intro pins s sg H x y v u Q I rx ry h
  obtain ⟨F, s0, r, dx, dy, d, R, hx, hy, e, q⟩ := h
  obtain ⟨b, eb, rfl⟩ := Option.map_eq_some_iff.mp e
  unfold inB2 at eb
  split at eb
  · next x0 ds =>
    obtain ⟨k, ek, rfl⟩ := Option.map_eq_some_iff.mp eb
    obtain ⟨a, vs, rfl, h1, h2⟩ := hy.dic R.sub
    obtain rfl : u = Value.ref a := ry
    obtain ⟨_, gt, eq⟩ := dget_of R hx ek h1 h2
    refine d_in (by omega) I gt rx fun s' I' => ⟨.bl _, H, I', rfl, ?_⟩
    rw [eq]
    exact q F H _ (Same.refl _) R (.bl _)
  · exact opd_in hu pins s sg H x y v u Q I rx ry ⟨F, s0, r, dx, dy, _, R, hx, hy, by unfold semIn; rw [eb]; rfl, q⟩
theorem opd_notIn2 (hu : X.A.units + 65 < cLine) : OpR X (compareOp .NotIn) (rD2 X.K g semNotIn2) := by
  intro pins s sg H x y v u Q I rx ry h
  obtain ⟨F, s0, r, dx, dy, d, R, hx, hy, e, q⟩ := h
  obtain ⟨b, eb, rfl⟩ := Option.map_eq_some_iff.mp e
  unfold inB2 at eb
  split at eb
  · next x0 ds =>
    obtain ⟨k, ek, rfl⟩ := Option.map_eq_some_iff.mp eb
    obtain ⟨a, vs, rfl, h1, h2⟩ := hy.dic R.sub
    obtain rfl : u = Value.ref a := ry
    obtain ⟨_, gt, eq⟩ := dget_of R hx ek h1 h2
    refine d_notIn (by omega) I gt rx fun s' I' => ⟨.bl _, H, I', rfl, ?_⟩
    rw [eq]
    exact q F H _ (Same.refl _) R (.bl _)
  · exact opd_notIn hu pins s sg H x y v u Q I rx ry ⟨F, s0, r, dx, dy, _, R, hx, hy, by unfold semNotIn; rw [eb]; rfl, q⟩
end
/-! ### {k: v, ..} -/
def evPs : List ((En → Rs D) × (En → Rs D)) → En → Rs (List (Key × D))
  | [], r => .ok [] r
  | (f, h) :: fs, r => (f r).bind fun k r1 => (h r1).bind fun d r2 => (ofO k.key r2).bind fun k r2 => (evPs fs r2).bind fun kds r3 => .ok ((k, d) :: kds) r3
def dicD (fs : List ((En → Rs D) × (En → Rs D))) : En → Rs D := fun r => (evPs fs r).noE.bind fun kds r1 => if kds.length ≤ 15 then .ok (.dic (mergeD [] kds)) r1 else .bad
/-- a reading whatever is held still -/
def tDa (K : PySem.W.Frag) (g0 : G) (f : En → Rs D) : TE := fun s H Q => ∃ g : G, Blk g0 g ∧ tD K g f s H Q
def trsD (K : PySem.W.Frag) (g0 : G) (fs : List ((En → Rs D) × (En → Rs D))) : List (TE × TE) := fs.map fun f => (tDa K g0 f.1, tDa K g0 f.2)
def DPs (X : Cx) (g0 : G) (pos : Pos) (ks : List (Option Expr)) (vs : List Expr) (fs : List ((En → Rs D) × (En → Rs D))) : Prop := PPs X pos ks vs (trsD X.K g0 fs)
section
variable {X : Cx} {g : G} {pos : Pos}
theorem dps_nil {g0 : G} : DPs X g0 pos [] [] [] := pps_nil
theorem dps_cons {g0 : G} {k v : Expr} {ks : List (Option Expr)} {vs : List Expr} {f h : En → Rs D} {fs : List ((En → Rs D) × (En → Rs D))} (hk : ∀ g : G, Blk g0 g → DE X g k f) (hv : ∀ g : G, Blk g0 g → DE X g v h) (hr : DPs X g0 pos ks vs fs) :
    DPs X g0 pos (some k :: ks) (v :: vs) ((f, h) :: fs) :=
  pps_cons ⟨fun pins s σ H Q I ⟨g', eg, q⟩ => (hk g' eg).run pins s σ H Q I q⟩ ⟨fun pins s σ H Q I ⟨g', eg, q⟩ => (hv g' eg).run pins s σ H Q I q⟩ hr
theorem pairs_ok {K : PySem.W.Frag} {s : St} {g0 : G} (bk : Blk g0 g) : ∀ (fs : List ((En → Rs D) × (En → Rs D))) {F H : Hp} {r : En} {Q : List (V × V) → Hp → Prop}, Rel K g F H s r →
    post K g (fun kds r' => ∀ F' H' (kvs : List (Key × V)), Same F F' → Rel K g F' H' s r' → RDk K F' kvs kds → Q (kvs.map fun kv => (kV kv.1, kv.2)) H') (evPs fs r) → tPairs (trsD K g0 fs) s H Q
  | [], F, H, r, Q, R, q => q F H [] (Same.refl _) R .nil
  | (f, h) :: fs, F, H, r, Q, R, q => by
    refine ⟨g, bk, F, r, R, post_mono (post_bind q) fun k r1 q F1 H1 v1 sm1 R1 hv1 => ⟨g, bk, F1, r1, R1, post_mono (post_bind q) fun d r2 q F2 H2 v2 sm2 R2 hv2 => ?_⟩⟩
    obtain ⟨k', ek, q⟩ := post_ofO (post_bind q)
    refine pairs_ok bk fs R2 (post_mono (post_bind q) fun kds r3 q F3 H3 kvs sm3 R3 hk3 => ?_)
    have e1 : v1 = kV k' := key_of hv1 ek
    subst e1
    exact q F3 H3 ((k', v2) :: kvs) ((sm1.trans sm2).trans sm3) R3 (.cons (RD.mono sm3 d hv2) hk3)
/-- what is held still is filled and frozen -/
theorem Rel.fill {K : PySem.W.Frag} {F H : Hp} {s : St} {r : En} {A : Addr} {o o' : HO} (R : Rel K (g.more A o) F H s r) (h0 : g.H0 A = none) (hX : ∀ p ∈ g.X, p.1 ≠ A) : Same F (L2.upd F A o') ∧ Rel K g (L2.upd F A o') (L2.upd H A o') s r := by
  obtain ⟨R, h1, h2, h3⟩ := R.less
  have sF : Same F (L2.upd F A o') := same_upd h2
  refine ⟨sF, fun b u e => ?_, R.f0.trans sF, fun b u e e0 => ?_, fun b u e hb => ?_, fun i u e => ?_, R.own, R.dist, R.pin, R.len, fun p hp => ?_⟩
  · by_cases hb : b = A
    · subst hb; rw [upd_same] at e ⊢; exact e
    · rw [upd_ne hb] at e ⊢; exact R.sub b u e
  · by_cases hb : b = A
    · subst hb; exact h0
    · rw [upd_ne hb] at e; exact R.fnew b u e e0
  · rw [upd_ne fun z => by rw [z, h0] at e; cases e]; exact R.keep b u e hb
  · obtain ⟨v, a1, a2⟩ := R.slot i u e
    refine ⟨v, a1, ?_⟩
    cases u with
    | sh d => exact RD.mono sF d a2
    | ow xs =>
      obtain ⟨b, ws, e1, e2, e3, e4⟩ := a2
      have hb : b ≠ A := fun z => h3 i _ e rfl (by rw [a1, e1, z])
      exact ⟨b, ws, e1, by rw [upd_ne hb]; exact e2, by rw [upd_ne hb]; exact e3, RDs.mono sF xs e4⟩
    | od xs =>
      obtain ⟨b, ws, e1, e2, e3, e4⟩ := a2
      have hb : b ≠ A := fun z => h3 i _ e rfl (by rw [a1, e1, z])
      exact ⟨b, ws, e1, by rw [upd_ne hb]; exact e2, by rw [upd_ne hb]; exact e3, RDm.mono sF xs e4⟩
    | oi c xs =>
      obtain ⟨b, ws, e1, e2, e3, e4⟩ := a2
      have hb : b ≠ A := fun z => h3 i _ e rfl (by rw [a1, e1, z])
      exact ⟨b, ws, e1, by rw [upd_ne hb]; exact e2, by rw [upd_ne hb]; exact e3, RDi.mono sF xs e4⟩
    | exc c => exact RE.mono sF a2
  · obtain ⟨x1, x2, x3⟩ := R.ext p hp
    exact ⟨by rw [upd_ne (hX p hp)]; exact x1, by rw [upd_ne (hX p hp)]; exact x2, x3⟩
theorem de_disp {ks : List (Option Expr)} {vs : List Expr} {fs : List ((En → Rs D) × (En → Rs D))} (h : DPs X g pos ks vs fs) (hall : ks.all (·.isSome) = true := by rfl) (hl : ks.length = vs.length := by rfl) (h0 : ks ≠ [] := by exact List.cons_ne_nil _ _) (h15 : ks.length ≤ 15 := by decide) :
    DE X g (.Dict ks vs pos) (dicD fs) :=
  PE.imp (pe_disp h hall hl h0 h15) fun s H Q ⟨F, r, R, q⟩ => fun p np => by
    have R1 : Rel X.K (g.more p (.dK [])) F (L2.upd H p (.dK [])) s r := (R.laid np).more upd_same (R.ff np) fun j o e eo => not_own R np j o e eo
    have hX : ∀ q ∈ g.X, q.1 ≠ p := fun q hq z => by have := (R.ext q hq).1; rw [z, np] at this; cases this
    refine pairs_ok (g := (g.more p (.dK [])).nw) (g0 := g) ⟨rfl, rfl, rfl, rfl⟩ fs R1.nw (post_mono (post_noE (post_bind q)) fun kds r1 q F2 H2 kvs sm R2 hk => ?_)
    have R2 := R2.unw
    obtain ⟨hl, q⟩ := post_if q
    refine ⟨R2.less.2.1, kvs, rfl, by rw [hk.length]; exact hl, ?_⟩
    have m : RDk X.K F2 (mergeK [] kvs) (mergeD [] kds) := RDk.merge .nil hk
    obtain ⟨sF, R3⟩ := R2.fill (o' := .dK (mergeK [] kvs)) (R.live np) hX
    exact q _ _ _ (sm.trans sF) R3 (.dic (.of upd_same) (RDk.mono sF _ m))
/-! ### dict(pairs) -/
def pairD : List D → Option (List (Key × D))
  | [] => some []
  | .tup [k, d] :: ds => k.key.bind fun k => (pairD ds).map fun kds => (k, d) :: kds
  | _ => none
def semDict : List D → Option D
  | [.lst ds] => (pairD ds).map fun kds => .dic (mergeD [] kds)
  | _ => none
theorem pairD_ok {K : PySem.W.Frag} {F H : Hp} (sub : Same F H) : ∀ {ds : List D} {vs : List V} {kds : List (Key × D)}, RDs K F vs ds → pairD ds = some kds → ∃ (ps : List Addr) (kvs : List (Key × V)), vs = ps.map V.ref ∧ Paired (fun p kv => SqT K H p [kV kv.1, kv.2]) ps kvs ∧ RDk K F kvs kds
  | [], _, kds, h, e => by cases h; cases e; exact ⟨[], [], rfl, .nil, .nil⟩
  | d :: ds, _, kds, h, e => by
    cases h with
    | cons h1 h2 =>
      unfold pairD at e
      split at e
      · next e0 => cases e0
      · next k d' ds' e0 =>
        cases e0
        obtain ⟨k', ek, e⟩ := Option.bind_eq_some_iff.mp e
        obtain ⟨kds', e3, rfl⟩ := Option.map_eq_some_iff.mp e
        obtain ⟨ps, kvs, rfl, p2, p3⟩ := pairD_ok sub h2 e3
        cases h1 with
        | tup a1 a2 =>
          cases a2 with
          | cons b1 b2 =>
            cases b2 with
            | cons c1 c2 =>
              cases c2
              have := key_of b1 ek
              subst this
              exact ⟨_ :: ps, (k', _) :: kvs, rfl, .cons (same_sqT sub a1) p2, .cons c1 p3⟩
      · cases e
theorem cd_dict (hc : X.calm = true) : CallR X (.type "dict") (rDN X.K g semDict) := by
  intro pins s sg H xs us Q I rv h
  obtain ⟨F, s0, r, ds, d, R, hx, e, q⟩ := h
  unfold semDict at e
  split at e
  · next ds0 =>
    obtain ⟨kds, e1, rfl⟩ := Option.map_eq_some_iff.mp e
    obtain ⟨v, rfl, h1⟩ := hx.one
    obtain ⟨a, vs, rfl, h2, h3⟩ := h1.lst R.sub
    obtain ⟨ps, kvs, rfl, p2, p3⟩ := pairD_ok R.sub h3 e1
    refine call_dictP hc pins s sg H _ us Q I rv ⟨a, ps, kvs, rfl, .of h2, p2, fun p np => ?_⟩
    have sF := same_upd (o := .dK (mergeK [] kvs)) (R.ff np)
    exact q _ _ _ sF (R.alloc np) (.dic (.of upd_same) (RDk.mono sF _ (RDk.merge .nil p3)))
  · cases e
end
end DL

/-! Data layer, part 16: a name that gets a list and never changes it: frozen at once. -/
namespace DL
open PySem L2
section
variable {X : Cx} {g : G}
theorem Rel.fz {K : PySem.W.Frag} {F H : Hp} {s : St} {r : En} {i : Nat} {xs : List D} (R : Rel K g F H s r) (hb : ∀ p ∈ g.B, p.1 ≠ i) (e : r[i]? = some (some (.ow xs))) : ∃ F', Same F F' ∧ Rel K g F' H s (r.set i (some (.sh (.lst xs)))) := by
  obtain ⟨v, h1, h2⟩ := R.slot i _ e
  obtain ⟨a, vs, rfl, e2, e3, e4⟩ := h2
  have sF : Same F (L2.upd F a (.lst vs)) := same_upd e2
  have hi : i < r.length := (List.getElem?_eq_some_iff.mp e).1
  have ne : ∀ j u, (r.set i (some (.sh (.lst xs))))[j]? = some (some u) → u.own = true → j ≠ i ∧ r[j]? = some (some u) := fun j u z zo => by
    by_cases hj : i = j
    · subst hj
      rw [List.getElem?_set_self hi] at z
      cases z
      cases zo
    · rw [List.getElem?_set_ne hj] at z
      exact ⟨fun z => hj z.symm, z⟩
  have h0 : g.H0 a = none := by
    rcases R.own i _ a e rfl h1 with z | z
    · exact z
    · exact absurd rfl (hb _ z)
  refine ⟨L2.upd F a (.lst vs), sF, ⟨fun b u e => ?_, R.f0.trans sF, fun b u e e0 => ?_, R.keep, fun j u z => ?_, fun j u b z zo => ?_, fun j k u w b hjk z zo y yo => ?_, fun p hp => ?_, ?_, fun p hp => ?_⟩⟩
  · by_cases hb : b = a
    · subst hb; rw [upd_same] at e; cases e; exact e3
    · rw [upd_ne hb] at e; exact R.sub b u e
  · by_cases hb : b = a
    · subst hb; exact h0
    · rw [upd_ne hb] at e; exact R.fnew b u e e0
  · by_cases hj : i = j
    · subst hj
      rw [List.getElem?_set_self hi] at z
      cases z
      exact ⟨_, h1, .lst upd_same (RDs.mono sF xs e4)⟩
    · rw [List.getElem?_set_ne hj] at z
      obtain ⟨w, g1, g2⟩ := R.slot j u z
      refine ⟨w, g1, ?_⟩
      cases u with
      | sh d => exact RD.mono sF d g2
      | ow ys =>
        obtain ⟨b, ws, rfl, f2, f3, f4⟩ := g2
        have hb : b ≠ a := fun zz => R.dist i j _ _ a hj e rfl z rfl h1 (by rw [g1, zz])
        exact ⟨b, ws, rfl, by rw [upd_ne hb]; exact f2, f3, RDs.mono sF ys f4⟩
      | od ys =>
        obtain ⟨b, ws, rfl, f2, f3, f4⟩ := g2
        have hb : b ≠ a := fun zz => R.dist i j _ _ a hj e rfl z rfl h1 (by rw [g1, zz])
        exact ⟨b, ws, rfl, by rw [upd_ne hb]; exact f2, f3, RDm.mono sF ys f4⟩
      | oi c ys =>
        obtain ⟨b, ws, rfl, f2, f3, f4⟩ := g2
        have hb : b ≠ a := fun zz => R.dist i j _ _ a hj e rfl z rfl h1 (by rw [g1, zz])
        exact ⟨b, ws, rfl, by rw [upd_ne hb]; exact f2, f3, RDi.mono sF ys f4⟩
      | exc c => exact RE.mono sF g2
  · obtain ⟨_, z'⟩ := ne j u z zo
    exact R.own j u b z' zo
  · obtain ⟨_, z'⟩ := ne j u z zo
    obtain ⟨_, y'⟩ := ne k w y yo
    exact R.dist j k u w b hjk z' zo y' yo
  · obtain ⟨p1, o, p2, p3⟩ := R.pin p hp
    refine ⟨p1, o, ?_, p3⟩
    rw [List.getElem?_set_ne fun z => hb p hp z.symm]
    exact p2
  · rw [List.length_set]; exact R.len
  · obtain ⟨x1, x2, x3⟩ := R.ext p hp
    refine ⟨x1, ?_, fun j u z zo => x3 j u (ne j u z zo).2 zo⟩
    have hn : p.1 ≠ a := fun zz => x3 i _ e rfl (by rw [h1, zz])
    rw [upd_ne hn]; exact x2
/-- never a dict of the third kind -/
def NoOd (f : En → Rs OV) : Prop := ∀ r o r1, f r = .ok o r1 → (∃ d, o = .sh d) ∨ ∃ xs, o = .ow xs
theorem lc_nod {it : En → Rs (List D)} {vs : List Nat} {h : D → En → Option En} {t : En → Rs Bool} {e : En → Rs D} : NoOd (lcD it vs h t e) := fun r o r1 z => by
  unfold lcD at z
  cases e1 : it r with
  | bad => rw [e1] at z; cases z
  | ex x r2 => rw [e1] at z; cases z
  | ok ds r2 =>
    rw [e1] at z
    simp only [Rs.bind] at z
    split at z
    · cases e2 : lcS vs h t e ds r2 with
      | bad => rw [e2] at z; cases z
      | ex x r3 => rw [e2] at z; cases z
      | ok ys r3 => rw [e2] at z; cases z; exact .inr ⟨ys, rfl⟩
    · cases z
theorem ds_fz {st : Stmt} {i : Nat} {f : En → Rs OV} (hb : ∀ p ∈ g.B, p.1 ≠ i) (hn : NoOd f) (h : DS X g st (setS i f)) : DS X g st (setS i (shD (frzD f))) :=
  PS.imp h fun E s H ⟨F, r, R, q⟩ => by
    refine ⟨F, r, R, ?_⟩
    unfold setS shD frzD at q
    unfold setS
    cases hf : f r with
    | bad => rw [hf] at q; exact q
    | ex x r1 => rw [hf] at q; exact q
    | ok o r1 =>
      rw [hf] at q
      cases o with
      | sh d => exact q
      | ow xs =>
        intro F1 H1 s1 sm R1
        by_cases hi : i < r1.length
        · obtain ⟨F2, s2, R2⟩ := R1.fz hb (List.getElem?_set_self hi)
          rw [List.set_set] at R2
          exact q F2 H1 s1 (sm.trans s2) R2
        · have e1 : r1.set i (some (OV.ow xs)) = r1 := List.set_eq_of_length_le (by omega)
          have e2 : r1.set i (some (OV.sh (.lst xs))) = r1 := List.set_eq_of_length_le (by omega)
          rw [e1] at R1
          exact q F1 H1 s1 sm (by show Rel X.K g F1 H1 s1 (r1.set i (some (OV.sh (.lst xs)))); rw [e2]; exact R1)
      | od xs => rcases hn r _ r1 hf with ⟨_, z⟩ | ⟨_, z⟩ <;> cases z
      | oi c xs => rcases hn r _ r1 hf with ⟨_, z⟩ | ⟨_, z⟩ <;> cases z
      | exc x => rcases hn r _ r1 hf with ⟨_, z⟩ | ⟨_, z⟩ <;> cases z
end
end DL

/-! Data layer, part 17: tools for the plain laws. -/
namespace DL
open PySem L2
noncomputable instance decD : DecidableEq D := fun _ _ => Classical.propDecidable _
/-! ### equality of data -/
mutual
/-- no dict, no script; and no truth (k), or no int (not k) -/
def D.cl (k : Bool) : D → Bool
  | .non => true
  | .bl _ => !k
  | .int _ => k
  | .str _ => true
  | .lst xs => clAll k xs
  | .tup xs => clAll k xs
  | .dic _ => false
  | .scr _ => false
  | .obj _ _ => false
def clAll (k : Bool) : List D → Bool
  | [] => true
  | d :: ds => d.cl k && clAll k ds
end
theorem clAll_iff {k : Bool} {ds : List D} : clAll k ds = true ↔ ∀ d ∈ ds, d.cl k = true := by
  induction ds with
  | nil => simp [clAll]
  | cons d ds ih => simp [clAll, ih]
theorem plAll_iff {ds : List D} : plAll ds = true ↔ ∀ d ∈ ds, d.pl = true := by
  induction ds with
  | nil => simp [plAll]
  | cons d ds ih => simp [plAll, ih]
theorem sixAll_iff {ds : List D} : sixAll ds = true ↔ ∀ d ∈ ds, d.six = true := by
  induction ds with
  | nil => simp [sixAll]
  | cons d ds ih => simp [sixAll, ih]
mutual
theorem eqv_iff (k : Bool) : ∀ d e : D, d.cl k = true → e.cl k = true → (d.eqv e = true ↔ d = e)
  | .non, e, _, he => by cases e <;> simp [D.eqv]
  | .bl a, e, hd, he => by cases e <;> simp_all [D.eqv, D.cl]
  | .int a, e, hd, he => by cases e <;> simp_all [D.eqv, D.cl]
  | .str a, e, _, he => by cases e <;> simp [D.eqv]
  | .lst xs, e, hd, he => by
    cases e with
    | lst ys =>
      have := eqvAll_iff k xs ys hd he
      simp only [D.eqv, this, D.lst.injEq]
    | _ => simp [D.eqv]
  | .tup xs, e, hd, he => by
    cases e with
    | tup ys =>
      have := eqvAll_iff k xs ys hd he
      simp only [D.eqv, this, D.tup.injEq]
    | _ => simp [D.eqv]
  | .dic _, _, h, _ => by cases h
  | .scr _, _, h, _ => by cases h
  | .obj _ _, _, h, _ => by cases h
theorem eqvAll_iff (k : Bool) : ∀ ds es : List D, clAll k ds = true → clAll k es = true → (eqvAll ds es = true ↔ ds = es)
  | [], [], _, _ => by simp [eqvAll]
  | [], _ :: _, _, _ => by simp [eqvAll]
  | _ :: _, [], _, _ => by simp [eqvAll]
  | d :: ds, e :: es, h, h' => by
    simp only [clAll, Bool.and_eq_true] at h h'
    have h1 := eqv_iff k d e h.1 h'.1
    have h2 := eqvAll_iff k ds es h.2 h'.2
    simp only [eqvAll, Bool.and_eq_true, h1, h2, List.cons.injEq]
end
mutual
theorem eqv_self : ∀ d : D, d.pl = true → d.eqv d = true
  | .non, _ => rfl
  | .bl a, _ => by simp [D.eqv]
  | .int a, _ => by simp [D.eqv]
  | .str a, _ => by simp [D.eqv]
  | .lst xs, h => eqvAll_self xs h
  | .tup xs, h => eqvAll_self xs h
  | .dic _, h => by cases h
  | .scr _, h => by cases h
  | .obj _ _, h => by cases h
theorem eqvAll_self : ∀ ds : List D, plAll ds = true → eqvAll ds ds = true
  | [], _ => rfl
  | d :: ds, h => by
    simp only [plAll, Bool.and_eq_true] at h
    simp only [eqvAll, eqv_self d h.1, eqvAll_self ds h.2, Bool.and_self]
end
/-! ### small data: plain, of a depth, of a weight -/
structure Sm (n w : Nat) (d : D) : Prop where
  pl : d.pl = true
  six : d.six = true
  dp : d.dp ≤ n
  wt : d.wt ≤ w
theorem Sm.mono {n w n' w' : Nat} {d : D} (h : Sm n w d) (h1 : n ≤ n') (h2 : w ≤ w') : Sm n' w' d := ⟨h.pl, h.six, Nat.le_trans h.dp h1, Nat.le_trans h.wt h2⟩
theorem Sm.fit {n w : Nat} {d : D} (h : Sm n w d) (hn : n ≤ 64 := by decide) : d.fit = true := by
  unfold D.fit
  rw [h.pl, decide_eq_true (Nat.le_trans h.dp hn)]; rfl
theorem Sm.shw {n w : Nat} {d : D} (h : Sm n w d) (hn : n ≤ 64 := by decide) (hw : w ≤ 1000000 := by decide) : d.shw = true := by
  unfold D.shw
  rw [h.fit hn, h.six, decide_eq_true (Nat.le_trans h.wt hw)]; rfl
theorem dpAll_le {ds : List D} {n : Nat} (h : ∀ d ∈ ds, d.dp ≤ n) : dpAll ds ≤ n := dpAll_of h
theorem wtAll_le {ds : List D} {w m : Nat} (h : ∀ d ∈ ds, d.wt ≤ w) (hm : ds.length ≤ m) : wtAll ds ≤ m * (w + 2) := by
  induction ds generalizing m with
  | nil => exact Nat.zero_le _
  | cons d ds ih =>
    rw [List.length_cons] at hm
    have h1 := h d (List.mem_cons_self ..)
    have h2 := ih (m := m - 1) (fun e he => h e (List.mem_cons_of_mem _ he)) (by omega)
    have e : m * (w + 2) = (m - 1) * (w + 2) + (w + 2) := by
      obtain ⟨k, rfl⟩ : ∃ k, m = k + 1 := ⟨m - 1, by omega⟩
      rw [Nat.add_sub_cancel, Nat.succ_mul]
    unfold wtAll
    omega
theorem Sm.lst {n w m : Nat} {ds : List D} (h : ∀ d ∈ ds, Sm n w d) (hm : ds.length ≤ m) : Sm (n + 1) (m * (w + 2) + 3) (.lst ds) :=
  ⟨plAll_iff.mpr fun d hd => (h d hd).pl, sixAll_iff.mpr fun d hd => (h d hd).six, Nat.succ_le_succ (dpAll_le fun d hd => (h d hd).dp), Nat.add_le_add_right (wtAll_le (fun d hd => (h d hd).wt) hm) 3⟩
theorem Sm.tup {n w m : Nat} {ds : List D} (h : ∀ d ∈ ds, Sm n w d) (hm : ds.length ≤ m) : Sm (n + 1) (m * (w + 2) + 3) (.tup ds) :=
  ⟨plAll_iff.mpr fun d hd => (h d hd).pl, sixAll_iff.mpr fun d hd => (h d hd).six, Nat.succ_le_succ (dpAll_le fun d hd => (h d hd).dp), Nat.add_le_add_right (wtAll_le (fun d hd => (h d hd).wt) hm) 3⟩
theorem Sm.non : Sm 0 4 .non := ⟨rfl, rfl, Nat.zero_le _, Nat.le_refl _⟩
theorem Sm.bl (b : Bool) : Sm 0 5 (.bl b) := ⟨rfl, rfl, Nat.zero_le _, Nat.le_refl _⟩
theorem Sm.int {i : Int} (h : i.natAbs < 1000000000000000000) : Sm 0 20 (.int i) := by
  refine ⟨rfl, decide_eq_true ?_, Nat.zero_le _, ?_⟩
  · have : i.natAbs.log2 < 1920 := by
      by_cases h0 : i.natAbs = 0
      · rw [h0]; decide
      · rw [Nat.log2_lt h0]
        exact Nat.lt_of_lt_of_le h (by decide)
    exact this
  · unfold D.wt; rw [if_pos h]; exact Nat.le_refl _
theorem Sm.int' {i : Int} (h : i.natAbs.log2 < 1920) : Sm 0 1921 (.int i) := ⟨rfl, decide_eq_true h, Nat.zero_le _, by unfold D.wt; split <;> omega⟩
/-! ### ==, in -/
theorem eqB_of (k : Bool) {d e : D} (hd : d.fit = true) (he : e.fit = true) (cd : d.cl k = true) (ce : e.cl k = true) : eqB d e = some (decide (d = e)) := by
  have hv : d.eqv e = decide (d = e) := by
    by_cases h : d = e
    · rw [decide_eq_true h]; exact (eqv_iff k d e cd ce).mpr h
    · rw [decide_eq_false h]
      cases hq : d.eqv e with
      | true => exact absurd ((eqv_iff k d e cd ce).mp hq) h
      | false => rfl
  unfold eqB
  cases hs : D.sc d e with
  | some b =>
    rcases sc_some hs with ⟨i, j, rfl, rfl, rfl⟩ | ⟨i, j, rfl, rfl, rfl⟩ | ⟨i, j, rfl, rfl, rfl⟩ <;> simp
  | none => simp only [hd, he, Bool.and_self, if_true, hv]
theorem eqB_self {d : D} (hd : d.fit = true) : eqB d d = some true := by
  unfold eqB
  cases hs : D.sc d d with
  | some b =>
    rcases sc_some hs with ⟨i, j, rfl, h, rfl⟩ | ⟨i, j, rfl, h, rfl⟩ | ⟨i, j, rfl, h, rfl⟩ <;> cases h <;> simp
  | none => simp only [hd, Bool.and_self, if_true, eqv_self d (pl_of_fit hd)]
theorem semEq_of (k : Bool) {d e : D} (hd : d.fit = true) (he : e.fit = true) (cd : d.cl k = true) (ce : e.cl k = true) : semEq d e = some (.bl (decide (d = e))) := by
  unfold semEq; rw [eqB_of k hd he cd ce]; rfl
theorem semNe_of (k : Bool) {d e : D} (hd : d.fit = true) (he : e.fit = true) (cd : d.cl k = true) (ce : e.cl k = true) : semNe d e = some (.bl (!decide (d = e))) := by
  unfold semNe; rw [eqB_of k hd he cd ce]; rfl
theorem semEq_self {d : D} (hd : d.fit = true) : semEq d d = some (.bl true) := by unfold semEq; rw [eqB_self hd]; rfl
theorem semNe_self {d : D} (hd : d.fit = true) : semNe d d = some (.bl false) := by unfold semNe; rw [eqB_self hd]; rfl
theorem semEq_str (x y : Str) : semEq (.str x) (.str y) = some (.bl (decide (x = y))) := rfl
theorem semNe_str (x y : Str) : semNe (.str x) (.str y) = some (.bl (!decide (x = y))) := rfl
theorem semEq_int (x y : Int) : semEq (.int x) (.int y) = some (.bl (decide (x = y))) := rfl
theorem semNe_int (x y : Int) : semNe (.int x) (.int y) = some (.bl (!decide (x = y))) := rfl
theorem semEq_bl (x y : Bool) : semEq (.bl x) (.bl y) = some (.bl (decide (x = y))) := rfl
theorem semNe_bl (x y : Bool) : semNe (.bl x) (.bl y) = some (.bl (!decide (x = y))) := rfl
theorem any_eqv (k : Bool) {d : D} {ds : List D} (cd : d.cl k = true) (ce : ∀ e ∈ ds, e.cl k = true) : (ds.any fun z => z.eqv d) = decide (d ∈ ds) := by
  induction ds with
  | nil => simp
  | cons e es ih =>
    rw [List.any_cons, ih fun x hx => ce x (List.mem_cons_of_mem _ hx)]
    have := eqv_iff k e d (ce e (List.mem_cons_self ..)) cd
    by_cases h : e = d
    · rw [this.mpr h]; simp [h]
    · have hf : e.eqv d = false := by
        cases hq : e.eqv d with
        | true => exact absurd (this.mp hq) h
        | false => rfl
      rw [hf]
      have hne : ¬ d = e := fun z => h z.symm
      simp [hne]
theorem inB_lst (k : Bool) {d : D} {ds : List D} (hd : d.fit = true) (he : (D.lst ds).fit = true) (cd : d.cl k = true) (ce : ∀ e ∈ ds, e.cl k = true) : inB d (.lst ds) = some (decide (d ∈ ds)) := by
  unfold inB D.seq
  simp only [hd, he, Bool.and_self, if_true, any_eqv k cd ce]
theorem inB_tup (k : Bool) {d : D} {ds : List D} (hd : d.fit = true) (he : (D.tup ds).fit = true) (cd : d.cl k = true) (ce : ∀ e ∈ ds, e.cl k = true) : inB d (.tup ds) = some (decide (d ∈ ds)) := by
  unfold inB D.seq
  simp only [hd, he, Bool.and_self, if_true, any_eqv k cd ce]
theorem inB2_lst (d : D) (ds : List D) : inB2 d (.lst ds) = inB d (.lst ds) := rfl
theorem inB2_tup (d : D) (ds : List D) : inB2 d (.tup ds) = inB d (.tup ds) := rfl
theorem semIn_lst (k : Bool) {d : D} {ds : List D} (hd : d.fit = true) (he : (D.lst ds).fit = true) (cd : d.cl k = true) (ce : ∀ e ∈ ds, e.cl k = true) : semIn2 d (.lst ds) = some (.bl (decide (d ∈ ds))) := by
  unfold semIn2; rw [inB2_lst, inB_lst k hd he cd ce]; rfl
theorem semNotIn_lst (k : Bool) {d : D} {ds : List D} (hd : d.fit = true) (he : (D.lst ds).fit = true) (cd : d.cl k = true) (ce : ∀ e ∈ ds, e.cl k = true) : semNotIn2 d (.lst ds) = some (.bl (!decide (d ∈ ds))) := by
  unfold semNotIn2; rw [inB2_lst, inB_lst k hd he cd ce]; rfl
theorem semIn_tup (k : Bool) {d : D} {ds : List D} (hd : d.fit = true) (he : (D.tup ds).fit = true) (cd : d.cl k = true) (ce : ∀ e ∈ ds, e.cl k = true) : semIn2 d (.tup ds) = some (.bl (decide (d ∈ ds))) := by
  unfold semIn2; rw [inB2_tup, inB_tup k hd he cd ce]; rfl
theorem semNotIn_tup (k : Bool) {d : D} {ds : List D} (hd : d.fit = true) (he : (D.tup ds).fit = true) (cd : d.cl k = true) (ce : ∀ e ∈ ds, e.cl k = true) : semNotIn2 d (.tup ds) = some (.bl (!decide (d ∈ ds))) := by
  unfold semNotIn2; rw [inB2_tup, inB_tup k hd he cd ce]; rfl
theorem Sm.all {n w : Nat} {ds : List D} (h : ∀ d ∈ ds, Sm n w d) (hn : n ≤ 63 := by decide) : (D.lst ds).fit = true ∧ (D.tup ds).fit = true :=
  ⟨fit_lst hn fun d hd => ⟨(h d hd).pl, (h d hd).dp⟩, fit_tup hn fun d hd => ⟨(h d hd).pl, (h d hd).dp⟩⟩
/-! ### stepping -/
theorem op2_ee (f h : En → Rs D) (sem : D → D → Option D) (r : En) : op2 (.ex f) (.ex h) sem r = (f r).bind fun x r1 => (h r1).bind fun y r2 => ofO (sem x y) r2 := by
  cases e1 : f r with
  | bad => simp only [op2, Opd.run, e1, Rs.map, Rs.bind]
  | ex x r1 => simp only [op2, Opd.run, e1, Rs.map, Rs.bind]
  | ok x r1 =>
    cases e2 : h r1 with
    | bad => simp only [op2, Opd.run, e1, e2, Rs.map, Rs.bind]
    | ex y r2 => simp only [op2, Opd.run, e1, e2, Rs.map, Rs.bind]
    | ok y r2 => simp only [op2, Opd.run, e1, e2, Rs.map, Rs.bind, look, Option.bind_some]
theorem seqS_nx {f h : En → SRs} {r r1 : En} (e : f r = .nx r1) : seqS f h r = h r1 := by unfold seqS; rw [e]
theorem forD_of {f : En → Rs (List D)} {h : D → En → Option En} {b : En → SRs} {r r1 : En} {ds : List D} {x : SRs} (e1 : f r = .ok ds r1) (e2 : forS h b ds r1 = x) : forD f h b r = x := by unfold forD; rw [e1]; exact e2
/-- a comprehension that changes nothing but its own names -/
theorem lcD_map {α : Type} {it : En → Rs (List D)} {vs : List Nat} {h : D → En → Option En} {t : En → Rs Bool} {elt : En → Rs D} {r r1 : En} (r2 : En) (xs : List α) (enc : α → D) (p : α → Bool) (q : α → D)
    (hi : it r = .ok (xs.map enc) r1) (hl : xs.length ≤ 1000000) (hw : wipeE r1 vs = r2) (hw2 : wipeE r2 vs = r2)
    (he : ∀ x ∈ xs, ∃ ra rb, h (enc x) r2 = some ra ∧ t ra = .ok (p x) rb ∧ wipeE rb vs = r2 ∧ (p x = true → ∃ rc, elt rb = .ok (q x) rc ∧ wipeE rc vs = r2)) :
    lcD it vs h t elt r = .ok (.ow ((xs.filter p).map q)) r2 := by
  have go : ∀ ys : List α, (∀ x ∈ ys, x ∈ xs) → ∀ r0, wipeE r0 vs = r2 → ∃ r9, lcS vs h t elt (ys.map enc) r0 = .ok ((ys.filter p).map q) r9 ∧ wipeE r9 vs = r2 := by
    intro ys
    induction ys with
    | nil => exact fun _ r0 e0 => ⟨r0, rfl, e0⟩
    | cons y ys ih =>
      intro hm r0 e0
      obtain ⟨ra, rb, e1, e2, e3, e4⟩ := he y (hm y (List.mem_cons_self ..))
      have ih' := ih fun x hx => hm x (List.mem_cons_of_mem _ hx)
      rw [List.map_cons]
      unfold lcS
      rw [e0, e1]
      simp only [e2, Rs.bind]
      cases hp : p y with
      | false =>
        rw [List.filter_cons_of_neg (by simp [hp])]
        simp only [Bool.false_eq_true, if_false, e3]
        exact ih' r2 hw2
      | true =>
        obtain ⟨rc, e5, e6⟩ := e4 hp
        rw [List.filter_cons_of_pos hp]
        simp only [if_true, e5, e6, List.map_cons]
        obtain ⟨r9, e7, e8⟩ := ih' r2 hw2
        exact ⟨r9, by rw [e7], e8⟩
  obtain ⟨r9, e7, e8⟩ := go xs (fun _ h => h) r1 hw
  unfold lcD
  rw [hi]
  simp only [Rs.bind, Rs.noE, List.length_map, hl, if_true, e7, e8]
/-- the same without a test -/
theorem lcD_map1 {α : Type} {it : En → Rs (List D)} {vs : List Nat} {h : D → En → Option En} {elt : En → Rs D} {r r1 : En} (r2 : En) (xs : List α) (enc : α → D) (q : α → D)
    (hi : it r = .ok (xs.map enc) r1) (hl : xs.length ≤ 1000000) (hw : wipeE r1 vs = r2) (hw2 : wipeE r2 vs = r2)
    (he : ∀ x ∈ xs, ∃ ra, h (enc x) r2 = some ra ∧ wipeE ra vs = r2 ∧ ∃ rc, elt ra = .ok (q x) rc ∧ wipeE rc vs = r2) :
    lcD it vs h yesT elt r = .ok (.ow (xs.map q)) r2 := by
  have := lcD_map (t := yesT) (h := h) (elt := elt) r2 xs enc (fun _ => true) q hi hl hw hw2 fun x hx => by
    obtain ⟨ra, e1, e2, rc, e3, e4⟩ := he x hx
    exact ⟨ra, ra, e1, rfl, e2, fun _ => ⟨rc, e3, e4⟩⟩
  rw [List.filter_eq_self.mpr (fun _ _ => rfl)] at this
  exact this
/-- a comprehension whose turns keep an invariant: what it gives, one by one -/
theorem lcD_inv {it : En → Rs (List D)} {vs : List Nat} {h : D → En → Option En} {elt : En → Rs D} {r r1 : En} {ds : List D} (I : En → Prop) (P : D → Prop)
    (hi : it r = .ok ds r1) (hl : ds.length ≤ 1000000) (h0 : I (wipeE r1 vs)) (hI : ∀ r, I r → wipeE r vs = r)
    (he : ∀ d ∈ ds, ∀ r, I r → ∃ ra y rc, h d r = some ra ∧ elt ra = .ok y rc ∧ P y ∧ I (wipeE rc vs)) :
    ∃ ys r', lcD it vs h yesT elt r = .ok (.ow ys) r' ∧ ys.length = ds.length ∧ (∀ y ∈ ys, P y) ∧ I r' := by
  obtain ⟨ys, r', e1, e2, e3, e4⟩ := lcS_inv (vs := vs) (h := h) (t := yesT) (elt := elt) (fun r => I (wipeE r vs)) P ds (fun d hd r hr => by
    obtain ⟨ra, y, rc, a1, a2, a3, a4⟩ := he d hd _ hr
    exact ⟨ra, ra, y, rc, a1, rfl, a2, a3, by rw [hI _ a4]; exact a4⟩) r1 h0
  refine ⟨ys, wipeE r' vs, ?_, e2, e3, e4⟩
  unfold lcD
  rw [hi]
  simp only [Rs.bind, Rs.noE, hl, if_true, e1]
theorem forS_list {α : Type} {h : D → En → Option En} {body : En → SRs} (xs : List α) (enc : α → D) (I : Nat → En → Prop) (st : ∀ (i : Nat) (x : α), xs[i]? = some x → ∀ r, I i r → ∃ r1 r2, h (enc x) r = some r1 ∧ body r1 = .nx r2 ∧ I (i + 1) r2) (r : En) (h0 : I 0 r) : ∃ r', forS h body (xs.map enc) r = .nx r' ∧ I xs.length r' := by
  obtain ⟨r', e, hI⟩ := forS_inv (h := h) (body := body) (xs.map enc) I (fun i d hd r hr => by
    rw [List.getElem?_map] at hd
    obtain ⟨x, hx, rfl⟩ := Option.map_eq_some_iff.mp hd
    exact st i x hx r hr) r h0
  rw [List.length_map] at hI
  exact ⟨r', e, hI⟩
/-- a for that folds: env shows the state, g what is left in the names of the body -/
theorem forS_fold {α σ γ : Type} {h : D → En → Option En} {body : En → SRs} (xs : List α) (enc : α → D) (env : σ → γ → En) (step : σ → α → σ) (Inv : σ → Prop)
    (hs : ∀ s g x, x ∈ xs → Inv s → ∃ r1 g', h (enc x) (env s g) = some r1 ∧ body r1 = .nx (env (step s x) g') ∧ Inv (step s x)) : ∀ s g, Inv s → ∃ g', forS h body (xs.map enc) (env s g) = .nx (env (xs.foldl step s) g') ∧ Inv (xs.foldl step s) := by
  induction xs with
  | nil => exact fun s g hi => ⟨g, rfl, hi⟩
  | cons x xs ih =>
    intro s g hi
    obtain ⟨r1, g1, e1, e2, h2⟩ := hs s g x (List.mem_cons_self ..) hi
    obtain ⟨g2, e3, h3⟩ := ih (fun s g y hy => hs s g y (List.mem_cons_of_mem _ hy)) (step s x) g1 h2
    refine ⟨g2, ?_, h3⟩
    rw [List.map_cons]
    unfold forS
    rw [e1]
    simp only [e2, e3, List.foldl_cons]
/-- a for that ends with a return at the first that is found, or goes through -/
theorem forS_find {α γ : Type} {h : D → En → Option En} {body : En → SRs} (xs : List α) (enc : α → D) (env : γ → En) (p : α → Bool) (o : α → OV)
    (hs : ∀ g x, x ∈ xs → ∃ r1 g', h (enc x) (env g) = some r1 ∧ body r1 = if p x then .rt (o x) (env g') else .nx (env g')) : ∀ g, ∃ g', forS h body (xs.map enc) (env g) = match xs.find? p with
      | some x => .rt (o x) (env g')
      | none => .nx (env g') := by
  induction xs with
  | nil => exact fun g => ⟨g, rfl⟩
  | cons x xs ih =>
    intro g
    obtain ⟨r1, g1, e1, e2⟩ := hs g x (List.mem_cons_self ..)
    obtain ⟨g2, e3⟩ := ih (fun g y hy => hs g y (List.mem_cons_of_mem _ hy)) g1
    rw [List.map_cons]
    unfold forS
    rw [e1, List.find?_cons]
    cases hp : p x with
    | true => rw [hp] at e2; exact ⟨g1, by simp only [e2, if_true]⟩
    | false => rw [hp] at e2; exact ⟨g2, by simp only [e2, Bool.false_eq_true, if_false, e3]⟩
theorem items_lst (ds : List D) : (D.lst ds).items = some ds := rfl
theorem items_tup (ds : List D) : (D.tup ds).items = some ds := rfl
theorem rangeD_eq (n : Nat) : rangeD 0 n = (List.range n).map fun (k : Nat) => D.int (k : Int) := by
  unfold rangeD
  congr 1
  funext k
  rw [Int.zero_add]
theorem strsOf_map : ∀ xs : List Str, strsOf (xs.map D.str) = some xs
  | [] => rfl
  | x :: xs => by
    show (strsOf (xs.map D.str)).map _ = _
    rw [strsOf_map xs]; rfl
theorem cutL_map {α β : Type} (f : α → β) (xs : List α) (lo hi : Option Int) : cutL (xs.map f) lo hi = (cutL xs lo hi).map f := by
  unfold cutL
  rw [List.length_map, List.map_take, List.map_drop]
theorem cutL_len {α : Type} (xs : List α) (lo hi : Option Int) : (cutL xs lo hi).length ≤ xs.length := by
  unfold cutL
  rw [List.length_take, List.length_drop]
  omega
theorem cutL_mem {α : Type} {xs : List α} {lo hi : Option Int} {x : α} (h : x ∈ cutL xs lo hi) : x ∈ xs := List.mem_of_mem_drop (List.mem_of_mem_take h)
theorem bools_map {α : Type} (xs : List α) (p : α → Bool) : bools (xs.map fun x => D.bl (p x)) = some (xs.map p) := by
  induction xs with
  | nil => rfl
  | cons x xs ih =>
    rw [List.map_cons]
    show (bools _).map _ = _
    rw [ih]; rfl
theorem atI0 {α : Type} (x : α) (xs : List α) : atI (x :: xs) 0 = some x := atI_nat (j := 0) rfl
theorem atI1 {α : Type} (x y : α) (xs : List α) : atI (x :: y :: xs) 1 = some y := atI_nat (j := 1) rfl
theorem atI2 {α : Type} (x y z : α) (xs : List α) : atI (x :: y :: z :: xs) 2 = some z := atI_nat (j := 2) rfl
theorem atI3 {α : Type} (x y z u : α) (xs : List α) : atI (x :: y :: z :: u :: xs) 3 = some u := atI_nat (j := 3) rfl
theorem atI4 {α : Type} (x y z u w : α) (xs : List α) : atI (x :: y :: z :: u :: w :: xs) 4 = some w := atI_nat (j := 4) rfl
theorem atI_map {α β : Type} (f : α → β) (xs : List α) (i : Int) : atI (xs.map f) i = (atI xs i).map f := by
  unfold atI
  rw [List.length_map]
  cases ixN xs.length i with
  | none => rfl
  | some j => simp only [Option.bind_some, List.getElem?_map]
/-! ### results by what holds of them -/
def OkS (P : En → Prop) : SRs → Prop
  | .nx r => P r
  | _ => False
theorem OkS_nx {P : En → Prop} {r : En} : OkS P (.nx r) = P r := rfl
theorem OkS.ex {P : En → Prop} {x : SRs} (h : OkS P x) : ∃ r, x = .nx r ∧ P r := by
  cases x with
  | nx r => exact ⟨r, rfl, h⟩
  | _ => exact h.elim
theorem OkS.imp {P Q : En → Prop} {x : SRs} (h : OkS P x) (i : ∀ r, P r → Q r) : OkS Q x := by
  cases x with
  | nx r => exact i r h
  | _ => exact h.elim
theorem OkS_seq {P Q : En → Prop} {f h : En → SRs} {r : En} (h1 : OkS Q (f r)) (h2 : ∀ r', Q r' → OkS P (h r')) : OkS P (seqS f h r) := by
  obtain ⟨r', e, q⟩ := h1.ex
  rw [seqS_nx e]
  exact h2 r' q
theorem forS_ok {h : D → En → Option En} {body : En → SRs} (ds : List D) (I : Nat → En → Prop) (st : ∀ (i : Nat) (d : D), ds[i]? = some d → ∀ r, I i r → ∃ r1, h d r = some r1 ∧ OkS (I (i + 1)) (body r1)) (r : En) (h0 : I 0 r) : OkS (I ds.length) (forS h body ds r) := by
  obtain ⟨r', e, hI⟩ := forS_inv (h := h) (body := body) ds I (fun i d hd r hr => by
    obtain ⟨r1, e1, e2⟩ := st i d hd r hr
    obtain ⟨r2, e3, h3⟩ := e2.ex
    exact ⟨r1, r2, e1, e3, h3⟩) r h0
  rw [e]
  exact hI
theorem forD_ok {f : En → Rs (List D)} {h : D → En → Option En} {body : En → SRs} {r r1 : En} (ds : List D) (I : Nat → En → Prop) (hi : f r = .ok ds r1) (h0 : I 0 r1) (st : ∀ (i : Nat) (d : D), ds[i]? = some d → ∀ r, I i r → ∃ r1, h d r = some r1 ∧ OkS (I (i + 1)) (body r1)) : OkS (I ds.length) (forD f h body r) := by
  rw [forD_of hi rfl]
  exact forS_ok ds I st r1 h0
theorem forD_okL {α : Type} {f : En → Rs (List D)} {h : D → En → Option En} {body : En → SRs} {r r1 : En} (xs : List α) (enc : α → D) (I : Nat → En → Prop) (hi : f r = .ok (xs.map enc) r1) (h0 : I 0 r1) (st : ∀ (i : Nat) (x : α), xs[i]? = some x → ∀ r, I i r → ∃ r1, h (enc x) r = some r1 ∧ OkS (I (i + 1)) (body r1)) : OkS (I xs.length) (forD f h body r) := by
  have := forD_ok (f := f) (h := h) (body := body) (xs.map enc) I hi h0 (fun i d hd r hr => by
    rw [List.getElem?_map] at hd
    obtain ⟨x, hx, rfl⟩ := Option.map_eq_some_iff.mp hd
    exact st i x hx r hr)
  rw [List.length_map] at this
  exact this
/-- a result, no error -/
def pok {α : Type} (P : α → En → Prop) : Rs α → Prop
  | .ok a r => P a r
  | _ => False
theorem post_ex {α : Type} {P : α → En → Prop} {x : Rs α} (h : pok P x) : ∃ a r, x = .ok a r ∧ P a r := by
  cases x with
  | ok a r => exact ⟨a, r, rfl, h⟩
  | bad => exact h.elim
  | ex _ _ => exact h.elim
theorem post_ok {α : Type} {P : α → En → Prop} {a : α} {r : En} : pok P (.ok a r) = P a r := rfl
theorem lcD_ok {it : En → Rs (List D)} {vs : List Nat} {h : D → En → Option En} {elt : En → Rs D} {r r1 : En} {ds : List D} (I : En → Prop) (P : D → Prop)
    (hi : it r = .ok ds r1) (hl : ds.length ≤ 1000000) (h0 : I (wipeE r1 vs)) (hI : ∀ r, I r → wipeE r vs = r)
    (he : ∀ d ∈ ds, ∀ r, I r → ∃ ra, h d r = some ra ∧ pok (fun y rc => P y ∧ I (wipeE rc vs)) (elt ra)) :
    ∃ ys r', lcD it vs h yesT elt r = .ok (.ow ys) r' ∧ ys.length = ds.length ∧ (∀ y ∈ ys, P y) ∧ I r' :=
  lcD_inv I P hi hl h0 hI fun d hd r hr => by
    obtain ⟨ra, e1, e2⟩ := he d hd r hr
    obtain ⟨y, rc, e3, e4, e5⟩ := post_ex e2
    exact ⟨ra, y, rc, e1, e3, e4, e5⟩
theorem lcD_mp {α : Type} {it : En → Rs (List D)} {vs : List Nat} {h : D → En → Option En} {t : En → Rs Bool} {elt : En → Rs D} {r r1 : En} (r2 : En) (xs : List α) (enc : α → D) (p : α → Bool) (q : α → D)
    (hi : it r = .ok (xs.map enc) r1) (hl : xs.length ≤ 1000000) (hw : wipeE r1 vs = r2) (hw2 : wipeE r2 vs = r2)
    (he : ∀ x ∈ xs, ∃ ra, h (enc x) r2 = some ra ∧ pok (fun b rb => b = p x ∧ wipeE rb vs = r2 ∧ (p x = true → pok (fun y rc => y = q x ∧ wipeE rc vs = r2) (elt rb))) (t ra)) :
    lcD it vs h t elt r = .ok (.ow ((xs.filter p).map q)) r2 :=
  lcD_map r2 xs enc p q hi hl hw hw2 fun x hx => by
    obtain ⟨ra, e1, e2⟩ := he x hx
    obtain ⟨b, rb, e3, rfl, e4, e5⟩ := post_ex e2
    refine ⟨ra, rb, e1, e3, e4, fun hp => ?_⟩
    obtain ⟨y, rc, e6, rfl, e7⟩ := post_ex (e5 hp)
    exact ⟨rc, e6, e7⟩
theorem lcD_mp1 {α : Type} {it : En → Rs (List D)} {vs : List Nat} {h : D → En → Option En} {elt : En → Rs D} {r r1 : En} (r2 : En) (xs : List α) (enc : α → D) (q : α → D)
    (hi : it r = .ok (xs.map enc) r1) (hl : xs.length ≤ 1000000) (hw : wipeE r1 vs = r2) (hw2 : wipeE r2 vs = r2)
    (he : ∀ x ∈ xs, ∃ ra, h (enc x) r2 = some ra ∧ wipeE ra vs = r2 ∧ pok (fun y rc => y = q x ∧ wipeE rc vs = r2) (elt ra)) :
    lcD it vs h yesT elt r = .ok (.ow (xs.map q)) r2 :=
  lcD_map1 r2 xs enc q hi hl hw hw2 fun x hx => by
    obtain ⟨ra, e1, e2, e3⟩ := he x hx
    obtain ⟨y, rc, e6, rfl, e7⟩ := post_ex e3
    exact ⟨ra, e1, e2, rc, e6, e7⟩
theorem fnP_rt {n : Nat} {m : En → SRs} {ds : List D} {o : OV} {r : En} (e : m (startE n (ds.map OV.sh)) = .rt o r) : fnP n m ds = some o := by unfold fnP; rw [e]
end DL

/-! Data layer, part 18: methods of lists by data. -/
namespace DL
open PySem L2
mutual
theorem RD.dpA {K : PySem.W.Frag} {H : Hp} : ∀ (d : D) {v : V}, d.pl = true → RD K H v d → L2.Dp K H v d.py
  | .non, _, _, h => by cases h; exact .non
  | .bl b, _, _, h => by cases h; exact .bl b
  | .int i, _, _, h => by cases h; exact .int i
  | .str x, _, _, h => by cases h; exact .str x
  | .lst xs, _, p, h => by
    cases h with
    | lst h1 h2 => exact .lst (.of h1) (RDs.dpA xs p h2)
  | .tup xs, _, p, h => by
    cases h with
    | tup h1 h2 => exact .tup h1 (RDs.dpA xs p h2)
  | .dic _, _, p, _ => by cases p
  | .scr _, _, p, _ => by cases p
  | .obj _ _, _, p, _ => by cases p
theorem RDs.dpA {K : PySem.W.Frag} {H : Hp} : ∀ (ds : List D) {vs : List V}, plAll ds = true → RDs K H vs ds → L2.DpAll K H vs (pys ds)
  | [], _, _, h => by cases h; exact .nil
  | d :: ds, _, p, h => by
    have p' := Bool.and_eq_true_iff.mp p
    cases h with
    | cons h1 h2 => exact .cons (RD.dpA d p'.1 h1) (RDs.dpA ds p'.2 h2)
end
section
variable {X : Cx} {g : G} {o e : Expr} {es : List Expr} {name : Str} {apos cpos : Pos} {id : String} {p : Opd} {ps : List Opd}
/-- o.m(e, ..), o a list -/
def mLD (p : Opd) (qs : List Opd) (sem : D → List D → Option D) : En → Rs D := fun r => (p.run r).bind fun x r1 => match look r1 x with
  | some (.lst _) => (runs qs r1).bind fun zs r2 => ofO ((look r2 x).bind fun d => (looks r2 zs).bind fun ds => sem d ds) r2
  | _ => .bad
def rDM (K : PySem.W.Frag) (g : G) (sem : D → List D → Option D) : V → List V → Hp → VK → Prop := fun x xs H Q => ∃ F s r dx ds d, Rel K g F H s r ∧ RB K F H x dx ∧ RBs K F H xs ds ∧ sem dx ds = some d ∧ PD K g F s Q d r
theorem de_mL {sem : D → List D → Option D} (slot : Slot "list" name id) (hty : typeOf (.builtin id) = pure (.type "method_descriptor")) (hm : MtR X id (rDM X.K g sem)) (ho : DB X g o p) (ha : DBs X g (e :: es) ps)
    (hbase : attributeBase o name X.env (eval o X.env) = eval o X.env := by rfl)
    (hfew : ((backTo cpos (starEach (e :: es) X.env)).all (fun x => !x.1) && (backToKw cpos (keywordEach [] X.env)).all (fun x => x.1.isSome)
      && decide ((e :: es).length + ([] : List Keyword).length + (if ([] : List Keyword).isEmpty then 0 else 1) < 30)) = true := by rfl)
    (hline : (apos.endLine == cpos.line) = true := by rfl) (hs : starEach (e :: es) X.env = (false, eval e X.env) :: starEach es X.env := by rfl) (hplain : (backTo cpos (starEach es X.env)).any (·.1) = false := by rfl) :
    DE X g (.Call (.Attribute o name apos) (e :: es) [] cpos) (mLD p ps sem) :=
  PE.imp (pe_bm PySem.F.plainAttrs_list slot hty hm ho ha hbase hfew hline hs hplain) fun s H Q ⟨F, r, R, h⟩ => ⟨F, r, R, post_mono (post_bind h) fun z r1 q1 F1 H1 v sm R1 hv => by
    revert q1
    cases el : look r1 z with
    | none => exact fun q1 => q1.elim
    | some d =>
      cases d with
      | lst xs =>
        intro q1
        have hb := look_ok R1 hv el
        obtain ⟨a, vs, rfl, ha, _⟩ := hb.lst R1.sub
        refine ⟨.inl ⟨rfl, vs, .of ha⟩, F1, r1, R1, post_mono (post_bind q1) fun zs r2 q2 F2 H2 ws s2 R2 hw => ?_⟩
        obtain ⟨d, e, q2⟩ := post_ofO q2
        obtain ⟨dx, e1, e⟩ := Option.bind_eq_some_iff.mp e
        obtain ⟨ds, e2, e3⟩ := Option.bind_eq_some_iff.mp e
        exact ⟨F2, s, r2, dx, ds, d, R2, look_ok R2 (hv.mono s2) e1, looks_ok R2 hw e2, e3, fun F3 H3 v3 s3 R3 h3 => q2 F3 H3 v3 ((sm.trans s2).trans s3) R3 h3⟩
      | _ => exact fun q1 => q1.elim⟩
/-- the first place of an equal one -/
def semLIndex : D → List D → Option D
  | .lst xs, [d] => if d.fit && (D.lst xs).fit then (xs.findIdx? fun z => z.eqv d).map fun j => .int (j : Nat) else none
  | _, _ => none
theorem pys_get {ds : List D} {j : Nat} : (pys ds)[j]? = (ds[j]?).map D.py := by rw [pys_map, List.getElem?_map]
theorem md_lindex (hu : X.A.units + 65 < cLine) : MtR X "list.index" (rDM X.K g semLIndex) := by
  intro pins s sg H x xs v us Q I rx rxs h
  obtain ⟨F, s0, r, dx, ds, d, R, hx, hxs, e, q⟩ := h
  unfold semLIndex at e
  split at e
  · next zs d0 =>
    obtain ⟨y, rfl, hy⟩ := hxs.one
    split at e
    · next hf =>
      obtain ⟨f1, f2⟩ := Bool.and_eq_true_iff.mp hf
      obtain ⟨j, ej, rfl⟩ := Option.map_eq_some_iff.mp e
      obtain ⟨hj, hj1, hj2⟩ := List.findIdx?_eq_some_iff_getElem.mp ej
      have p1 := pl_of_fit f1
      have p2 := pl_of_fit f2
      have hl := RD.dpA (.lst zs) p2 (hx.rd R.sub)
      obtain ⟨a, vs, rfl, _, _⟩ := hx.lst R.sub
      refine mt_indexD hu pins s sg H _ [y] v us Q I rx rxs ⟨a, y, d0.py, pys zs, j, zs[j].py, rfl, rfl, hl, RD.dpA d0 p1 (hy.rd R.sub), fit_shaped f2, fit_shaped f1, ?_, ?_, fun m z' hm hz' => ?_, q F H _ (Same.refl _) R (.int _)⟩
      · rw [pys_get, List.getElem?_eq_getElem hj]; rfl
      · rw [py_eqv _ _ (plAll_iff.mp p2 _ (List.getElem_mem hj)) p1]; exact hj1
      · have hml : m < zs.length := by omega
        rw [pys_get, List.getElem?_eq_getElem hml] at hz'
        cases hz'
        rw [py_eqv _ _ (plAll_iff.mp p2 _ (List.getElem_mem hml)) p1]
        have := hj2 m hm
        simpa using this
    · cases e
  · cases e
end
end DL

/-! Data layer, part 20: new lists that the taker owns: xs + ys, xs * k, xs[i:j], list(x), list(range(..)). -/
namespace DL
open PySem L2
section
variable {X : Cx} {g : G} {a b c e : Expr} {es : List Expr} {pos p2 : Pos} {p q : Opd} {ps : List Opd}
theorem PO.new {K : PySem.W.Frag} {F H : Hp} {s : St} {r : En} {Q : VK} {ds : List D} {vs : List V} (R : Rel K g F H s r) (hvs : RDs K F vs ds) (q : PO K g F s Q (.ow ds) r) (p : Addr) (np : H p = none) : Q (.ref p) (L2.upd H p (.lst vs)) :=
  q F _ _ (Same.refl _) (R.laid np) (RV.new R np hvs)
def op2O (p q : Opd) (sem : D → D → Option (List D)) : En → Rs OV := fun r => (p.run r).bind fun x r1 => (q.run r1).bind fun y r2 => ofO ((look r2 x).bind fun dx => (look r2 y).bind fun dy => (sem dx dy).map OV.ow) r2
def rO2 (K : PySem.W.Frag) (g : G) (sem : D → D → Option (List D)) : R2 := fun x y H Q => ∃ F s r dx dy xs, Rel K g F H s r ∧ RB K F H x dx ∧ RB K F H y dy ∧ sem dx dy = some xs ∧ PO K g F s Q (.ow xs) r
theorem tO_op2 {K : PySem.W.Frag} {sem : D → D → Option (List D)} {s : St} {H : Hp} {Q : VK} (h : tO K g (op2O p q sem) s H Q) :
    tB K g p s H fun x H1 => tB K g q s H1 fun y H2 => rO2 K g sem x y H2 Q := by
  obtain ⟨F, r, R, h⟩ := h
  refine ⟨F, r, R, post_mono (post_bind h) fun z r1 q1 F1 H1 v sm R1 hv => ⟨F1, r1, R1, post_mono (post_bind q1) fun y r2 q2 F2 H2 w s2 R2 hw => ?_⟩⟩
  obtain ⟨d, e, q2⟩ := post_ofO q2
  obtain ⟨dx, e1, e⟩ := Option.bind_eq_some_iff.mp e
  obtain ⟨dy, e2, e3⟩ := Option.bind_eq_some_iff.mp e
  obtain ⟨xs, e4, rfl⟩ := Option.map_eq_some_iff.mp e3
  exact ⟨F2, s, r2, dx, dy, xs, R2, look_ok R2 (hv.mono s2) e1, look_ok R2 hw e2, e4, fun F3 H3 v3 s3 R3 h3 => q2 F3 H3 v3 ((sm.trans s2).trans s3) R3 h3⟩
theorem do_op {op : Operator} {sem : D → D → Option (List D)} (ho : OpR X (binaryOp op) (rO2 X.K g sem)) (ha : DB X g a p) (hb : DB X g b q) : DO X g (.BinOp a op b pos) (op2O p q sem) :=
  PE.imp (pe_op ho ha hb) fun s H Q h => tO_op2 h
def semAddL : D → D → Option (List D)
  | .lst xs, .lst ys => if xs.length + ys.length ≤ 1000000 then some (xs ++ ys) else none
  | _, _ => none
theorem opo_add : OpR X (binaryOp .Add) (rO2 X.K g semAddL) := by
  intro pins s sg H x y v u Q I rx ry h
  obtain ⟨F, s0, r, dx, dy, d, R, hx, hy, e, q⟩ := h
  unfold semAddL at e
  split at e
  · split at e
    · next hl =>
      cases e
      obtain ⟨a, vs, rfl, h1, h2⟩ := hx.lst R.sub
      obtain ⟨b, ws, rfl, h3, h4⟩ := hy.lst R.sub
      exact op_cat pins s sg H _ _ v u Q I rx ry ⟨a, b, vs, ws, rfl, rfl, h1, h3, by rw [h2.length, h4.length]; exact Nat.le_trans hl mil_line, PO.new R (h2.app h4) q⟩
    · cases e
  · cases e
def semMulL : D → D → Option (List D)
  | .lst xs, .int k => if 0 ≤ k ∧ k ≤ 1000 ∧ xs.length ≤ 1000 then some (List.replicate k.toNat xs).flatten else none
  | _, _ => none
theorem opo_mul : OpR X (binaryOp .Mult) (rO2 X.K g semMulL) := by
  intro pins s sg H x y v u Q I rx ry h
  obtain ⟨F, s0, r, dx, dy, d, R, hx, hy, e, q⟩ := h
  unfold semMulL at e
  split at e
  · split at e
    · next xs k hl =>
      cases e
      obtain ⟨a, vs, rfl, h1, h2⟩ := hx.lst R.sub
      cases hy.flat (fun _ => nofun)
      have rep : ∀ n : Nat, RDs X.K F (List.replicate n vs).flatten (List.replicate n xs).flatten := fun n => by
        induction n with
        | zero => exact .nil
        | succ n ih =>
          rw [List.replicate_succ, List.replicate_succ, List.flatten_cons, List.flatten_cons]
          exact h2.app ih
      refine op_rep pins s sg H _ _ v u Q I rx ry ⟨a, k, vs, rfl, rfl, h1, by omega, by omega, ?_, PO.new R (rep _) q⟩
      rw [h2.length]
      have h5 : k.toNat ≤ 1000 := by omega
      have h6 : xs.length * k.toNat ≤ 1000 * 1000 := Nat.mul_le_mul hl.2.2 h5
      exact Nat.le_trans h6 (by decide)
    · cases e
  · cases e
/-- xs[i:j], a new list -/
def slO (p : Opd) (lo hi : En → Rs (Option Int)) : En → Rs OV := fun r => (p.run r).bind fun x r1 => (lo r1).bind fun l r2 => (hi r2).bind fun h r3 => ofO ((look r3 x).bind fun d => match d with
  | .lst xs => some (.ow (cutL xs l h))
  | _ => none) r3
def rOsl (K : PySem.W.Frag) (g : G) : V → Option Int → Option Int → Hp → VK → Prop := fun x lo hi H Q => ∃ F s r xs, Rel K g F H s r ∧ RB K F H x (.lst xs) ∧ PO K g F s Q (.ow (cutL xs lo hi)) r
theorem slo : SlR X (rOsl X.K g) := by
  intro pins s sg H x v vl vu lo hi sl Q I rx hs pl pu h
  obtain ⟨F, s0, r, xs, R, hx, q⟩ := h
  obtain ⟨a, vs, rfl, h1, h2⟩ := hx.lst R.sub
  exact sl_list pins s sg H _ v vl vu lo hi sl Q I rx hs pl pu ⟨a, vs, rfl, .of h1, PO.new R (h2.cut lo hi) q⟩
theorem do_slice {lo hi : Option Expr} {fl fh : En → Rs (Option Int)} (ha : DB X g a p) (hl : DPo X g lo fl) (hh : DPo X g hi fh) : DO X g (.Subscript a (.Slice lo hi none p2) pos) (slO p fl fh) :=
  PE.imp (pe_slice slo ha hl hh) fun s H Q ⟨F, r, R, q⟩ => by
    refine ⟨F, r, R, post_mono (post_bind q) fun z r1 q1 F1 H1 v sm R1 hv => ⟨F1, r1, R1, post_mono (post_bind q1) fun l r2 q2 F2 H2 s2 R2 => ⟨F2, r2, R2, post_mono (post_bind q2) fun h r3 q3 F3 H3 s3 R3 => ?_⟩⟩⟩
    obtain ⟨o, e, q3⟩ := post_ofO q3
    obtain ⟨dx, e1, e2⟩ := Option.bind_eq_some_iff.mp e
    cases dx with
    | lst xs =>
      cases e2
      exact ⟨F3, s, r3, xs, R3, look_ok R3 ((hv.mono s2).mono s3) e1, fun F4 H4 v4 s4 R4 h4 => q3 F4 H4 v4 (((sm.trans s2).trans s3).trans s4) R4 h4⟩
    | _ => cases e2
/-- built-ins that give a new list -/
def opNO (ps : List Opd) (sem : List D → Option (List D)) : En → Rs OV := fun r => (runs ps r).bind fun xs r1 => ofO ((looks r1 xs).bind fun ds => (sem ds).map OV.ow) r1
def rON (K : PySem.W.Frag) (g : G) (sem : List D → Option (List D)) : List V → Hp → VK → Prop := fun xs H Q => ∃ F s r ds ys, Rel K g F H s r ∧ RBs K F H xs ds ∧ sem ds = some ys ∧ PO K g F s Q (.ow ys) r
theorem tO_opN {K : PySem.W.Frag} {ps : List Opd} {sem : List D → Option (List D)} {s : St} {H : Hp} {Q : VK} (h : tO K g (opNO ps sem) s H Q) : tBs K g ps s H fun xs H1 => rON K g sem xs H1 Q := by
  obtain ⟨F, r, R, h⟩ := h
  refine ⟨F, r, R, post_mono (post_bind h) fun zs r1 q F1 H1 vs sm R1 hv => ?_⟩
  obtain ⟨d, e, q⟩ := post_ofO q
  obtain ⟨ds, e1, e2⟩ := Option.bind_eq_some_iff.mp e
  obtain ⟨ys, e3, rfl⟩ := Option.map_eq_some_iff.mp e2
  exact ⟨F1, s, r1, ds, ys, R1, looks_ok R1 hv e1, e3, fun F2 H2 v2 s2 R2 h2 => q F2 H2 v2 (sm.trans s2) R2 h2⟩
theorem do_callT {x : Str} {pn : Pos} {T : String} {ps : List Opd} {sem : List D → Option (List D)} (hc : CallR X (.type T) (rON X.K g sem)) (hm : X.mg x = none) (ha : DBs X g (e :: es) ps) (hg : Gl X x := by rfl) (hv : bootBuiltins x = some (.type T) := by decide +kernel)
    (hn : x ≠ "__name__" := by decide) (hdb : (x == ("__debug__" : Str)) = false := by decide) (he : starEach (e :: es) X.env = (false, eval e X.env) :: starEach es X.env := by rfl) (hpl : (backTo pos (starEach es X.env)).any (·.1) = false := by rfl) : DO X g (.Call (.Name x pn) (e :: es) [] pos) (opNO ps sem) :=
  PE.imp (pe_callTy hc hg hm hv ha hn hdb he hpl) fun s H Q h => tO_opN h
theorem do_callBi {x : Str} {pn : Pos} {id : String} {ps : List Opd} {sem : List D → Option (List D)} (hc : CallR X (.builtin id) (rON X.K g sem)) (hm : X.mg x = none) (ha : DBs X g (e :: es) ps) (hg : Gl X x := by rfl) (hv : bootBuiltins x = some (.builtin id) := by decide +kernel)
    (hn : x ≠ "__name__" := by decide) (hdb : (x == ("__debug__" : Str)) = false := by decide) (he : starEach (e :: es) X.env = (false, eval e X.env) :: starEach es X.env := by rfl) (hpl : (backTo pos (starEach es X.env)).any (·.1) = false := by rfl) : DO X g (.Call (.Name x pn) (e :: es) [] pos) (opNO ps sem) :=
  PE.imp (pe_callB hc hg hm hv ha hn hdb he hpl) fun s H Q h => tO_opN h
def semListL : List D → Option (List D)
  | [.lst xs] => some xs
  | [.tup xs] => some xs
  | _ => none
theorem co_list : CallR X (.type "list") (rON X.K g semListL) := by
  intro pins s sg H xs us Q I rv h
  obtain ⟨F, s0, r, ds, d, R, hx, e, q⟩ := h
  unfold semListL at e
  split at e
  · cases e
    obtain ⟨v, rfl, h1⟩ := hx.one
    obtain ⟨a, vs, rfl, h2, h3⟩ := h1.lst R.sub
    exact call_list_of pins s sg H _ us Q I rv ⟨a, vs, rfl, .inl (.of h2), PO.new R h3 q⟩
  · cases e
    obtain ⟨v, rfl, h1⟩ := hx.one
    obtain ⟨a, vs, rfl, h2, h2', h3⟩ := h1.tup R.sub
    exact call_list_of pins s sg H _ us Q I rv ⟨a, vs, rfl, .inr h2, PO.new R h3 q⟩
  · cases e
/-- list(range(..)) -/
def lrgO (f : En → Rs (List D)) : En → Rs OV := fun r => (f r).map OV.ow
theorem rgV_rd {K : PySem.W.Frag} {F : Hp} (lo hi : Int) : RDs K F (rgV lo hi) (rangeD lo (hi - lo).toNat) := by
  unfold rgV rangeD
  induction List.range (hi - lo).toNat with
  | nil => exact .nil
  | cons k ks ih => exact .cons (.int _) ih
theorem do_listRg1 {f : En → Rs D} {pl pr lp : Pos} (hc : X.calm = true) (hml : X.mg "list" = none) (hmr : X.mg "range" = none) (h : DE X g a f) (hgl : Gl X "list" := by rfl) (hgr : Gl X "range" := by rfl)
    (na : starEach [a] X.env = (false, eval a X.env) :: starEach [] X.env := by rfl) (nb : starEach [.Call (.Name "range" pr) [a] [] lp] X.env = (false, eval (.Call (.Name "range" pr) [a] [] lp) X.env) :: starEach [] X.env := by rfl) :
    DO X g (.Call (.Name "list" pl) [.Call (.Name "range" pr) [a] [] lp] [] pos) (lrgO (rg1 f)) :=
  PE.imp (pe_listRg hc hgl hml (prg_1 hgr hmr h na) nb) fun s H Q ⟨F, r, R, h0⟩ => ⟨F, r, R, post_mono (post_bind (post_map h0)) fun d r1 q F1 H1 v sm R1 hv => by
    obtain ⟨i, e, q⟩ := post_ofO (post_bind q)
    have e := asI_some e
    subst e
    cases hv
    obtain ⟨hl, q⟩ := post_if q
    refine ⟨i, rfl, ⟨by omega, by omega, by omega, by omega, by omega⟩, fun p np => ?_⟩
    have hr := rgV_rd (K := X.K) (F := F1) 0 i
    rw [Int.sub_zero] at hr
    exact PO.new R1 hr (fun F2 H2 v2 s2 R2 h2 => q F2 H2 v2 (sm.trans s2) R2 h2) p np⟩
end
end DL

/-! Data layer, part 21: f(e, ..) whose arguments are only lent: what comes back holds nothing of them. -/
namespace DL
open PySem L2
def D.flt : D → Bool
  | .non => true
  | .bl _ => true
  | .int _ => true
  | .str _ => true
  | _ => false
def OV.flt : OV → Bool
  | .sh d => d.flt
  | .ow xs => xs.all D.flt
  | .od _ => false
  | .oi _ _ => false
  | .exc _ => false
theorem RD.flt {K : PySem.W.Frag} {F F' : Hp} {v : V} {d : D} (h : RD K F v d) (hd : d.flt = true) : RD K F' v d := by
  cases d with
  | non => cases h; exact .non
  | bl b => cases h; exact .bl b
  | int i => cases h; exact .int i
  | str x => cases h; exact .str x
  | _ => cases hd
theorem RDs.flt {K : PySem.W.Frag} {F F' : Hp} : ∀ {vs : List V} {ds : List D}, RDs K F vs ds → ds.all D.flt = true → RDs K F' vs ds
  | _, [], h, _ => by cases h; exact .nil
  | _, d :: ds, h, hd => by
    rw [List.all_cons, Bool.and_eq_true] at hd
    cases h with
    | cons h1 h2 => exact .cons (h1.flt hd.1) (RDs.flt h2 hd.2)
theorem RBs.rds {K : PySem.W.Frag} {F H : Hp} (sub : Same F H) : ∀ {vs : List V} {ds : List D}, RBs K F H vs ds → RDs K H vs ds
  | _, _, .nil => .nil
  | _, _, .cons h1 h2 => .cons (h1.rd sub) (RBs.rds sub h2)
def callL (n : Nat) (f : List D → Option OV) (ps : List Opd) : En → Rs OV := fun r => (runs ps r).bind fun xs r1 => ofO ((looks r1 xs).bind fun ds => if ds.length = n then (f ds).bind fun o => if o.flt = true then some o else none else none) r1
section
variable {X : Cx} {g : G} {k n : Nat} {x : Str} {p pos : Pos} {e : Expr} {es : List Expr}
theorem do_callL {f : List D → Option OV} {ps : List Opd} (h : HasP X.prog X.w X.K X.mg X.base k x n f) (hgd : X.A.guards = some []) (hr : Room k X.A) (ha : DBs X g (e :: es) ps) (hg : Gl X x := by rfl)
    (hdb : (x == ("__debug__" : Str)) = false := by decide) (he : starEach (e :: es) X.env = (false, eval e X.env) :: starEach es X.env := by rfl) (hpl : (backTo pos (starEach es X.env)).any (·.1) = false := by rfl) : DO X g (.Call (.Name x p) (e :: es) [] pos) (callL n f ps) := by
  obtain ⟨fa, fd, pn, F, h1, h2, h3⟩ := h.ex
  refine PE.imp (pe_callG1 F hgd hr hg h1 h2 h3 pass0 ha hdb he hpl) fun s H Q ⟨Fz, r, R, q⟩ => ⟨Fz, r, R, post_mono (post_bind q) fun zs r1 q F1 H1 vs sm R1 hvs => ?_⟩
  obtain ⟨o, e0, q⟩ := post_ofO q
  obtain ⟨ds, e1, e2⟩ := Option.bind_eq_some_iff.mp e0
  split at e2
  · next hn =>
    obtain ⟨o', ef, e3⟩ := Option.bind_eq_some_iff.mp e2
    split at e3
    · next hfl =>
      cases e3
      have hb := looks_ok R1 hvs e1
      refine ⟨H1, ds, o, Same.refl _, hb.rds R1.sub, hn, ef, fun F' H' v s1 s2 fr s3 hv => ?_⟩
      have R' : Rel X.K g F1 H' s r1 := by
        refine ⟨R1.sub.trans s3, R1.f0, R1.fnew, fun b u e hb => s3 _ _ (R1.keep b u e hb), fun i u e => ?_, R1.own, R1.dist, R1.pin, R1.len, fun q hq => ?_⟩
        · obtain ⟨w, a1, a2⟩ := R1.slot i u e
          exact ⟨w, a1, RO.mono (Same.refl _) (fun a vs ew e2 e3 => ⟨e2, s3 _ _ e3⟩) a2⟩
        · obtain ⟨x1, x2, x3⟩ := R1.ext q hq
          exact ⟨s3 _ _ x1, x2, x3⟩
      refine q F1 H' v sm R' ?_
      cases o with
      | sh d => exact RD.flt hv hfl
      | ow xs =>
        obtain ⟨a, us, z1, z2, z3, z4, z5⟩ := hv
        exact ⟨a, us, z1, R1.ff z5, z3, RDs.flt z4 hfl, R1.live z5, fun j o e eo => not_own R1 z5 j o e eo, fun q hq z => by have := (R1.ext q hq).1; rw [z, z5] at this; cases this⟩
      | od xs => exact hv.elim
      | oi c xs => exact hv.elim
      | exc c => exact hv.elim
    · cases e3
  · cases e2
end
end DL

/-! Data layer, part 22: pop, insert, clear as statements; {}; xs[::-1]; defs that call themselves. -/
namespace DL
open PySem L2
section
variable {P : Program} {w : World} {K : PySem.W.Frag} {mg : Str → Option Value} {base : Heap}
theorem hasP_none {k n : Nat} {x : Str} {st : Stmt} {f : Addr} {fd : FuncData} {ps : List Str} (hm : mg x = some (.ref f)) (hk : PySem.W.keepIn K (.ref f) = true) (hb : Binds K fd ps []) : HasP P w K mg base k x n (fun _ => none) :=
  ⟨f, fd, ps, ⟨fun vs H Q E ⟨_, _, _, _, _, _, e, _⟩ => (by cases e), fun A o s H as us vs Q E _ _ _ _ _ ⟨_, _, _, _, _, _, e, _⟩ => (by cases e)⟩, hm, hk, hb⟩
theorem hasB_none {k n : Nat} {x : Str} {st : Stmt} {f : Addr} {fd : FuncData} {ps : List Str} (hm : mg x = some (.ref f)) (hk : PySem.W.keepIn K (.ref f) = true) (hb : Binds K fd ps []) : HasB P w K mg base k x n (fun _ _ => none) :=
  ⟨f, fd, ps, ⟨fun vs H Q E ⟨_, _, _, _, _, _, _, _, _, _, _, _, _, _, _, e, _⟩ => (by cases e), fun A o s H as us vs Q E _ _ _ _ _ ⟨_, _, _, _, _, _, _, _, _, _, _, _, _, _, _, e, _⟩ => (by cases e)⟩, hm, hk, hb⟩
end
section
variable {X : Cx} {g : G} {x : Str} {p pos apos cpos : Pos} {e e2 : Expr}
/-- {} -/
theorem de_dict0 : DE X g (.Dict [] [] pos) (cD (.dic [])) :=
  PE.imp pe_dnewK fun s H Q ⟨F, r, R, q⟩ => fun p np => q (L2.upd F p (.dK [])) (L2.upd H p (.dK [])) (.ref p) (same_upd (R.ff np)) (R.alloc np) (.dic (.inl upd_same) .nil)
/-- xs.pop(i), the value dropped -/
def popF (k : D) : List D → Option (List D) := fun xs => match k with
  | .int i => if 0 ≤ i ∧ i < 1000000 then (ixN xs.length i).map fun j => xs.eraseIdx j else none
  | _ => none
def popS (i : Nat) (f : En → Rs D) : En → SRs := fun r => thenS (fillW r i) fun _ r => thenS (f r) fun d r1 => chgS i (popF d) r1
theorem RDs.erase {K : PySem.W.Frag} {F : Hp} : ∀ {vs : List V} {ds : List D} (n : Nat), RDs K F vs ds → RDs K F (vs.eraseIdx n) (ds.eraseIdx n)
  | _, [], n, h => by cases h; simp; exact .nil
  | _, d :: ds, 0, h => by
    cases h with
    | cons h1 h2 => exact h2
  | _, d :: ds, n + 1, h => by
    cases h with
    | cons h1 h2 => exact .cons h1 (RDs.erase n h2)
theorem ds_popAt {i : Nat} {f : En → Rs D} (hv : PE X (.Name x p) (tVar i)) (h : DE X g e f) (hst : starEach [e] X.env = [(false, eval e X.env)] := by rfl) (hb : attributeBase (.Name x p) "pop" X.env (eval (.Name x p) X.env) = eval (.Name x p) X.env := by rfl)
    (hline : (apos.endLine == cpos.line) = true := by rfl) (hsw : swapsWith (.Call (.Attribute (.Name x p) "pop" apos) [e] [] cpos) none pos.line X.env = pure false := by rfl)
    (hfew : ((backTo cpos (starEach [e] X.env)).all (fun x => !x.1) && (backToKw cpos (keywordEach [] X.env)).all (fun x => x.1.isSome) && decide ([e].length + ([] : List Keyword).length + (if ([] : List Keyword).isEmpty then 0 else 1) < 30)) = true := by rfl)
    (hpl : (backTo cpos (starEach [] X.env)).any (·.1) = false := by rfl) : DS X g (.Expr (.Call (.Attribute (.Name x p) "pop" apos) [e] [] cpos) pos) (popS i f) :=
  PS.imp (ps_expr (pe_bm PySem.F.plainAttrs_list PySem.F.slot_list_pop PySem.F.type_list_pop mt_popAt hv (pa_cons h pa_nil hst) hb hfew hline hst hpl) hsw) fun E s H ⟨F, r, R, q⟩ => by
    obtain ⟨⟨xs, e0⟩, q⟩ := then_fillW q
    obtain ⟨v, h1, a, vs, rfl, fa, ha, hvs⟩ := R.slot i _ e0
    refine ⟨_, h1, .inl ⟨rfl, vs, .of ha⟩, F, r, R, post_mono (post_then q) fun d r1 q F1 H1 w sm R1 hw => ?_⟩
    obtain ⟨b, ws, zs, ys, g1, g2, g3, g4, g5, g6⟩ := chgS_ok R1 sm q
    rw [h1] at g1
    cases g1
    unfold popF at g5
    split at g5
    · split at g5
      · next hk =>
        obtain ⟨j, ej, rfl⟩ := Option.map_eq_some_iff.mp g5
        cases hw
        obtain ⟨z1, z2, z3, z4⟩ := ixN_seq ej
        rw [← g3.length] at z1 z2
        exact ⟨a, ws, _, j, ws[j], rfl, rfl, g2, by omega, by omega, z1, List.getElem?_eq_getElem z2, g6 _ (g3.erase j)⟩
      · cases g5
    · cases g5
/-- xs.insert(i, e) -/
def insF (k d : D) : List D → Option (List D) := fun xs => match k with
  | .int i => if 0 ≤ i ∧ i < 1000000 ∧ xs.length ≤ 1000000 then some (xs.take i.toNat ++ [d] ++ xs.drop i.toNat) else none
  | _ => none
def insS (i : Nat) (f h : En → Rs D) : En → SRs := fun r => thenS (fillW r i) fun _ r => thenS (f r) fun k r1 => thenS (h r1) fun d r2 => chgS i (insF k d) r2
theorem ds_insert {i : Nat} {f h : En → Rs D} (hv : PE X (.Name x p) (tVar i)) (hf : DE X g e f) (hh : DE X g e2 h) (hst : starEach [e, e2] X.env = (false, eval e X.env) :: starEach [e2] X.env := by rfl) (hst2 : starEach [e2] X.env = [(false, eval e2 X.env)] := by rfl) (hb : attributeBase (.Name x p) "insert" X.env (eval (.Name x p) X.env) = eval (.Name x p) X.env := by rfl)
    (hline : (apos.endLine == cpos.line) = true := by rfl) (hsw : swapsWith (.Call (.Attribute (.Name x p) "insert" apos) [e, e2] [] cpos) none pos.line X.env = pure false := by rfl)
    (hfew : ((backTo cpos (starEach [e, e2] X.env)).all (fun x => !x.1) && (backToKw cpos (keywordEach [] X.env)).all (fun x => x.1.isSome) && decide ([e, e2].length + ([] : List Keyword).length + (if ([] : List Keyword).isEmpty then 0 else 1) < 30)) = true := by rfl)
    (hpl : (backTo cpos (starEach [e2] X.env)).any (·.1) = false := by rfl) : DS X g (.Expr (.Call (.Attribute (.Name x p) "insert" apos) [e, e2] [] cpos) pos) (insS i f h) :=
  PS.imp (ps_expr (pe_bm PySem.F.plainAttrs_list PySem.F.slot_list_insert PySem.F.type_list_insert mt_insert hv (pa_cons hf (pa_cons hh pa_nil hst2) hst) hb hfew hline hst hpl) hsw) fun E s H ⟨F, r, R, q⟩ => by
    obtain ⟨⟨xs, e0⟩, q⟩ := then_fillW q
    obtain ⟨v, h1, a, vs, rfl, fa, ha, hvs⟩ := R.slot i _ e0
    refine ⟨_, h1, .inl ⟨rfl, vs, .of ha⟩, F, r, R, post_mono (post_then q) fun k r1 q F1 H1 w1 sm R1 hw1 => ⟨F1, r1, R1, post_mono (post_then q) fun d r2 q F2 H2 w2 s2 R2 hw2 => ?_⟩⟩
    obtain ⟨b, ws, zs, ys, g1, g2, g3, g4, g5, g6⟩ := chgS_ok R2 (sm.trans s2) q
    rw [h1] at g1
    cases g1
    unfold insF at g5
    split at g5
    · split at g5
      · next hk =>
        cases g5
        cases hw1
        exact ⟨a, ws, _, w2, rfl, rfl, g2, by rw [g3.length]; exact Nat.lt_of_le_of_lt hk.2.2 (by decide), hk.1, by omega, g6 _ (((g3.tk _).app (.cons hw2 .nil)).app (g3.dp _))⟩
      · cases g5
    · cases g5
/-- xs.clear() -/
def clrS (i : Nat) : En → SRs := fun r => thenS (fillW r i) fun _ r => chgS i (fun _ => some []) r
theorem ds_clear {i : Nat} (hv : PE X (.Name x p) (tVar i)) (hb : attributeBase (.Name x p) "clear" X.env (eval (.Name x p) X.env) = eval (.Name x p) X.env := by rfl)
    (hline : (apos.endLine == cpos.line) = true := by rfl) (hsw : swapsWith (.Call (.Attribute (.Name x p) "clear" apos) [] [] cpos) none pos.line X.env = pure false := by rfl) : DS X g (.Expr (.Call (.Attribute (.Name x p) "clear" apos) [] [] cpos) pos) (clrS i) :=
  PS.imp (ps_expr (pe_bm0 PySem.F.plainAttrs_list PySem.F.slot_list_clear PySem.F.type_list_clear mt_clear hv hb hline) hsw) fun E s H ⟨F, r, R, q⟩ => by
    obtain ⟨⟨xs, e0⟩, q⟩ := then_fillW q
    obtain ⟨v, h1, a, vs, rfl, fa, ha, hvs⟩ := R.slot i _ e0
    obtain ⟨b, ws, zs, ys, g1, g2, g3, g4, g5, g6⟩ := chgS_ok R (Same.refl _) q
    rw [h1] at g1
    cases g1
    cases g5
    exact ⟨_, h1, .inl ⟨rfl, vs, .of ha⟩, a, ws, rfl, rfl, g2, g6 _ .nil⟩
end
end DL

/-! Data layer, part 23: t[::-1] of a tuple. -/
namespace DL
open PySem L2 HT PyProof.Rows
section
variable {prog : Program} {w : World} {A : Around} {E : Value → Shared → Prop} {s : Shared}
theorem sliceApplied_rev {sl : Addr} {vl vu vs : Value} {n : Nat} {Q : Int × Int × Nat → Shared → Prop} (hs : s.heap.IsSliceOf sl vl vu vs) (pl : IsPart vl none) (pu : IsPart vu none) (ps : IsPart vs (some (-1)))
    (h : Q ((n : Int) - 1, -1, n) s) : wpAny (model prog w) A (Builtin.Slice.sliceApplied (.ref sl) (pure (n : Int))) Q E s := by
  obtain ⟨os, hos, hcs, hds⟩ := id hs
  unfold Builtin.Slice.sliceApplied Builtin.Slice.sliceFields
  refine wpAny_bind (wpAny_bind (wpAny_field hos hds (x := vl) rfl (wpAny_bind (wpAny_field hos hds (x := vu) rfl (wpAny_bind (wpAny_field hos hds (x := vs) rfl (wpAny_pure ?_)))))))
  refine wpAny_bind (slicePart_ ps ?_)
  show wpAny _ _ (if ((-1 : Int) == 0) = true then _ else _) _ _ s
  rw [if_neg (by decide)]
  refine wpAny_bind (slicePart_ pl (wpAny_bind (slicePart_ pu (wpAny_bind (wpAny_pure ?_)))))
  show wpAny _ _ (pure ((n : Int) - 1, (-1 : Int), Builtin.Slice.slicePlaces ((n : Int) - 1) (-1) (-1))) _ _ s
  have e : Builtin.Slice.slicePlaces ((n : Int) - 1) (-1) (-1) = n := by
    unfold Builtin.Slice.slicePlaces
    rw [if_neg (by decide)]
    split
    · rw [show (-(-1 : Int)) = 1 by decide, Int.ediv_one]; omega
    · omega
  rw [e]
  exact wpAny_pure h
theorem fm_congr {α β : Type} {f h : α → Option β} : ∀ {l : List α}, (∀ a ∈ l, f a = h a) → l.filterMap f = l.filterMap h
  | [], _ => rfl
  | a :: l, e => by
    rw [List.filterMap_cons, List.filterMap_cons, e a (List.mem_cons_self ..), fm_congr (l := l) fun b hb => e b (List.mem_cons_of_mem _ hb)]
theorem pick_rev (xs : Array Value) : ((List.range xs.size).filterMap fun (m : Nat) => xs[(((xs.size : Int) - 1) + (m : Int) * (-1)).toNat]?).toArray = xs.toList.reverse.toArray := by
  congr 1
  have e : ∀ m ∈ List.range xs.size, xs[(((xs.size : Int) - 1) + (m : Int) * (-1)).toNat]? = xs.toList.reverse[m]? := fun m hm => by
    have hm := List.mem_range.mp hm
    rw [List.getElem?_reverse (by simpa using hm)]
    have : (((xs.size : Int) - 1) + (m : Int) * (-1)).toNat = xs.toList.length - 1 - m := by simp; omega
    rw [this]
    simp
  rw [fm_congr e]
  have key : ∀ l : List Value, (List.range l.length).filterMap (fun m => l[m]?) = l := fun l => by
    induction l with
    | nil => rfl
    | cons a l ih =>
      rw [List.length_cons, List.range_succ_eq_map, List.filterMap_cons]
      simp only [List.getElem?_cons_zero, List.filterMap_map]
      congr 1
  have := key xs.toList.reverse
  rw [List.length_reverse, Array.length_toList] at this
  exact this
theorem getItem_tuple_rev {t sl : Addr} {items : Array Value} {vl vu vs : Value} {Q : Value → Shared → Prop} (ht : IsTup s.heap t items) (hs : s.heap.IsSliceOf sl vl vu vs) (pl : IsPart vl none) (pu : IsPart vu none) (ps : IsPart vs (some (-1)))
    (h : Q (.ref s.heap.objs.size) { s with heap := s.heap.push { cls := .type "tuple", data := .seq items.toList.reverse.toArray } })
    (hsz : items.size ≤ sizeLine) : wpAny (model prog w) A (getItem (.ref t) (.ref sl)) Q E s := by
  have htake : sizeOk (.seq items.toList.reverse.toArray) := by
    show items.toList.reverse.toArray.size ≤ sizeLine
    rw [List.size_toArray, List.length_reverse, Array.length_toList]
    exact hsz
  obtain ⟨os, hos, hcs, hds⟩ := id hs
  have hTs : s.TypeIs (.ref sl) "slice" := ⟨os, hos, hcs⟩
  unfold getItem
  try with_reducible refine wpAny_holding ?_
  first | refine wpAny_bind (wpAny_pure ?_) | skip
  refine wpAny_bind (wpAny_sequenceKey ht.typeIs (by decide) ?_)
  refine wpAny_bind (wpAny_callSpecial?_slot (name := Str.ofString "__getitem__") ht.typeIs PyProof.Rows.slot_tuple_getitem
    (wpAny_call_entry PyProof.Rows.slot_tuple_getitem ht.typeIs entry_tuple_getitem ?_ (args_tuple_getitem _ _)))
  show wpAny _ _ (Builtin.Tuple.tupleItemsOf (.ref t) >>= _) _ _ s
  refine wpAny_bind (tupleItemsOf_ ht ?_)
  refine wpAny_bind (wpAny_typeOf hTs ?_)
  rw [if_pos (by decide)]
  refine wpAny_bind (sliceApplied_rev hs pl pu ps ?_)
  have hno : ¬ ((((items.size : Int) - 1) == 0 && (-1 : Int) == 1 && items.size == items.size) = true) := by
    rw [show ((-1 : Int) == 1) = false by decide, Bool.and_false]
    simp
  show wpAny _ _ (if (((items.size : Int) - 1) == 0 && (-1 : Int) == 1 && items.size == items.size) = true then _ else _) _ _ s
  rw [if_neg hno, pick_rev]
  first
    | exact wpAny_bind (m := Builtin.Tuple.tupleExact _) (wpAny_newObj_type (wpAny_pure ⟨_, rfl, wpAny_pure h⟩) htake)
    | exact wpAny_bind (m := Builtin.Tuple.tupleExact _) (wpAny_newObj_type (wpAny_bind (wpAny_pure (wpAny_pure ⟨_, rfl, wpAny_pure h⟩))) htake)
    | exact wpAny_bind (wpAny_bind (m := Builtin.Tuple.tupleExact _) (wpAny_newObj_type (wpAny_pure (wpAny_pure ⟨_, rfl, wpAny_pure h⟩)) htake))
    | exact wpAny_bind (wpAny_bind (m := Builtin.Tuple.tupleExact _) (wpAny_newObj_type (wpAny_pure ⟨_, rfl, wpAny_pure h⟩) htake))
end
section
variable {X : Cx} {g : G} {e : Expr} {pos : Pos}
def tRevA (K : PySem.W.Frag) (te : TE) : TE := fun σ H Q => te σ H fun x H1 => (∃ a xs, x = .ref a ∧ SqL K H1 a xs ∧ ∀ p, H1 p = none → Q (.ref p) (L2.upd H1 p (.lst xs.reverse))) ∨ ∃ a xs, x = .ref a ∧ SqT K H1 a xs ∧ ∀ p, H1 p = none → Q (.ref p) (L2.upd H1 p (.tup xs.reverse))
theorem pe_revA {te : TE} {k : Nat} {p1 p2 p3 : Pos} (he : PE X e te) : PE X (.Subscript e (.Slice none none (some (.UnaryOp .USub (.Constant (.int 1) k p1) p2)) p3) pos) (tRevA X.K te) := by
  refine ⟨fun pins s σ H Q I h => ?_⟩
  refine Subscript_ (thn (he.run pins s σ H _ I h) fun v s1 ⟨x, H1, I1, r1, q1⟩ => ?_)
  have ⟨a, ea⟩ : ∃ a, x = .ref a := by
    rcases q1 with ⟨a, _, h, _⟩ | ⟨a, _, h, _⟩ <;> exact ⟨a, h⟩
  subst ea
  cases r1
  have hst : L2.PO X (some (.UnaryOp .USub (.Constant (.int 1) k p1) p2)) (tPart (tUn (rU fun i => .int (-i)) (tC (.int 1)))) := po_some (pe_un un_neg pe_int)
  refine wpAny_Slice (thn (po_none.run pins s1 σ H1 (fun o H2 => o = none ∧ H2 = H1) I1 ⟨rfl, rfl⟩) fun vl s2 ⟨l, H2, I2, pl, el, e2⟩ => ?_)
  subst el e2
  refine thn (po_none.run pins s2 σ H2 (fun o H3 => o = none ∧ H3 = H2) I2 ⟨rfl, rfl⟩) fun vu s3 ⟨u, H3, I3, pu, eu, e3⟩ => ?_
  subst eu e3
  refine thn (hst.run pins s3 σ H3 (fun o H4 => o = some (-1) ∧ H4 = H3) I3 ⟨1, rfl, -1, rfl, rfl, rfl⟩) fun vs s4 ⟨o, H4, I4, ps, eo, e4⟩ => ?_
  subst eo e4
  have I5 : Inv X pins σ H4 { s4 with heap := s4.heap.push { cls := .type "slice", data := .fields #[vl, vu, vs] } } := I4.kept (t' := s4.toks) fun b ob q => Heap.get?_push_of_some _ q
  show wpAny (model X.prog X.w) X.A (subscriptTail e (.Slice none none (some (.UnaryOp .USub (.Constant (.int 1) k p1) p2)) p3) (.ref a) (.ref s4.heap.objs.size)) (EP X pins σ Q) X.xe { s4 with heap := s4.heap.push { cls := .type "slice", data := .fields #[vl, vu, vs] } }
  rcases q1 with ⟨a', xs, ex, hx, q⟩ | ⟨a', xs, ex, hx, q⟩
  · cases ex
    obtain ⟨its, r, ht, hz⟩ := I5.list hx
    have hlen := r.length
    refine tail_any (ops := [.ref a, .ref s4.heap.objs.size]) ht.isList.typeIs (PySem.slot_list_getitem.lookup) ?_ (by with_unfolding_all rfl)
    refine wpAny_getItem_list_slice ht.isList (Heap.IsSliceOf.new _ vl vu vs) pl pu ps (by decide) ?_ (by rw [List.size_toArray]; omega)
    rw [PySem.W.krv_pick]
    refine ⟨.ref _, _, I5.laid (t' := s4.toks) (o := .lst xs.reverse) (fun b ob q => Heap.get?_push_of_some _ q) (Nat.le_refl _) ?_, rfl, q _ (I5.hok.fresh (Nat.le_refl _))⟩
    exact ⟨by rw [List.length_reverse]; exact hz, _, 0, r.reverse, Heap.get?_push_size _ rfl⟩
  · cases ex
    obtain ⟨its, r, ht, hz⟩ := I5.tuple hx
    have hlen := r.length
    refine tail_any (ops := [.ref a, .ref s4.heap.objs.size]) ht.typeIs (PyProof.Rows.slot_tuple_getitem.lookup) ?_ (by with_unfolding_all rfl)
    refine getItem_tuple_rev ht (Heap.IsSliceOf.new _ vl vu vs) pl pu ps ?_ (by rw [List.size_toArray]; omega)
    refine ⟨.ref _, _, I5.laid (t' := s4.toks) (o := .tup xs.reverse) (fun b ob q => Heap.get?_push_of_some _ q) (Nat.le_refl _) ?_, rfl, q _ (I5.hok.fresh (Nat.le_refl _))⟩
    exact ⟨by rw [List.length_reverse]; exact hz, _, r.reverse, IsTup.new _ _⟩
/-- xs[::-1] -/
def revO (pd : Opd) : En → Rs OV := fun r => (pd.run r).bind fun x r1 => ofO ((look r1 x).bind fun d => match d with
  | .lst xs => some (.ow xs.reverse)
  | .tup xs => some (.sh (.tup xs.reverse))
  | _ => none) r1
theorem RDs.rev {K : PySem.W.Frag} {F : Hp} : ∀ {vs : List V} {ds : List D}, RDs K F vs ds → RDs K F vs.reverse ds.reverse
  | _, [], h => by cases h; exact .nil
  | _, d :: ds, h => by
    cases h with
    | cons h1 h2 =>
      rw [List.reverse_cons, List.reverse_cons]
      exact h2.rev.app (.cons h1 .nil)
theorem do_revL {pd : Opd} {k : Nat} {p1 p2 p3 : Pos} (he : DB X g e pd) : DO X g (.Subscript e (.Slice none none (some (.UnaryOp .USub (.Constant (.int 1) k p1) p2)) p3) pos) (revO pd) :=
  PE.imp (pe_revA he) fun s H Q ⟨F, r, R, h⟩ => ⟨F, r, R, post_mono (post_bind h) fun z r1 q F1 H1 v sm R1 hv => by
    obtain ⟨o, e, q⟩ := post_ofO q
    obtain ⟨d, e1, e2⟩ := Option.bind_eq_some_iff.mp e
    cases d with
    | lst xs =>
      cases e2
      obtain ⟨a, vs, rfl, h1, h2⟩ := (look_ok R1 hv e1).lst R1.sub
      exact .inl ⟨a, vs, rfl, .of h1, fun p np => PO.new R1 h2.rev (fun F2 H2 v2 s2 R2 h3 => q F2 H2 v2 (sm.trans s2) R2 h3) p np⟩
    | tup xs =>
      cases e2
      obtain ⟨a, vs, rfl, h1, _, h2⟩ := (look_ok R1 hv e1).tup R1.sub
      exact .inr ⟨a, vs, rfl, h1, fun p np => PD.tup R1 h2.rev (fun F2 H2 v2 s2 R2 h3 => q F2 H2 v2 (sm.trans s2) R2 h3) p np⟩
    | _ => cases e2⟩
end
end DL

/-! Data layer, part 24: list comprehensions with two fors. -/
namespace DL
open PySem L2
def lc2S (vs : List Nat) (h : D → En → Option En) (t : En → Rs Bool) (f1 : En → Rs (List D)) (vs1 : List Nat) (h1 : D → En → Option En) (t1 : En → Rs Bool) (elt : En → Rs D) : List D → En → Rs (List D)
  | [], r => .ok [] r
  | d :: ds, r =>
    match h d (wipeE r vs) with
    | none => .bad
    | some r1 => (t r1).bind fun b r2 => if b = true then (f1 r2).bind fun ds1 r3 => (lcS vs1 h1 t1 elt ds1 r3).bind fun ys r4 => (lc2S vs h t f1 vs1 h1 t1 elt ds (wipeE r4 vs)).bind fun zs r5 => .ok (ys ++ zs) r5 else lc2S vs h t f1 vs1 h1 t1 elt ds (wipeE r2 vs)
def lc2D (f : En → Rs (List D)) (vs : List Nat) (h : D → En → Option En) (t : En → Rs Bool) (f1 : En → Rs (List D)) (vs1 : List Nat) (h1 : D → En → Option En) (t1 : En → Rs Bool) (elt : En → Rs D) : En → Rs OV := fun r => (f r).bind fun ds r1 => (lc2S vs h t f1 vs1 h1 t1 elt ds r1).noE.bind fun ys r2 => if ys.length ≤ 1000000 then .ok (.ow ys) (wipeE r2 vs) else .bad
/-- between two turns of the inner loop -/
def LcJ (K : PySem.W.Frag) (g : G) (F1 : Hp) (s : St) (A : Addr) (vs1 : List Nat) (h1 : D → En → Option En) (t1 : En → Rs Bool) (fe : En → Rs D) (C : List D → En → Prop) (ds : List D) (i : Nat) (H2 : Hp) : Prop :=
  ∃ F2 r2 acc vacc, Same F1 F2 ∧ Rel K g F2 H2 s r2 ∧ H2 A = some (.lst vacc) ∧ F2 A = none ∧ (∀ (j : Nat) (o : OV), r2[j]? = some (some o) → o.own = true → s[j]? ≠ some (some (.ref A))) ∧ RDs K F2 vacc acc ∧
    post K g.nw (fun ys r3 => C (acc ++ ys) r3) (lcS vs1 h1 t1 fe (ds.drop i) r2)
/-- between two turns of the outer loop -/
def LcK (K : PySem.W.Frag) (g : G) (F1 : Hp) (s : St) (Q : VK) (A : Addr) (vs : List Nat) (h : D → En → Option En) (t : En → Rs Bool) (f1 : En → Rs (List D)) (vs1 : List Nat) (h1 : D → En → Option En) (t1 : En → Rs Bool) (fe : En → Rs D) (ds : List D) (i : Nat) (H2 : Hp) : Prop :=
  ∃ F2 r2 acc vacc, Same F1 F2 ∧ Rel K g F2 H2 s r2 ∧ H2 A = some (.lst vacc) ∧ F2 A = none ∧ (∀ (j : Nat) (o : OV), r2[j]? = some (some o) → o.own = true → s[j]? ≠ some (some (.ref A))) ∧ RDs K F2 vacc acc ∧
    post K g.nw (fun ys r3 => (acc ++ ys).length ≤ 1000000 ∧ PO K g F1 s Q (.ow (acc ++ ys)) (wipeE r3 vs)) (lc2S vs h t f1 vs1 h1 t1 fe (ds.drop i) r2)
section
variable {X : Cx} {g : G} {e a b c tg tg1 : Expr} {pos : Pos}
theorem lc2_imp {K : PySem.W.Frag} {vs ks vs1 ks1 : List Nat} {f f1 : En → Rs (List D)} {h h1 : D → En → Option En} {t t1 : En → Rs Bool} {fe : En → Rs D} {s : St} {H : Hp} {Q : VK} (hb : ∀ p ∈ g.B, p.1 ∉ vs) (hks : ∀ i ∈ ks, i ∈ vs) (hks1 : ∀ i ∈ ks1, i ∈ vs1) (hv1 : ∀ i ∈ vs1, i ∈ vs) (h0 : tO K g (lc2D f vs h t f1 vs1 h1 t1 fe) s H Q) :
    tLc2 (tID K g f) (fun v s H Q => ∃ g' : G, Blk g g' ∧ tGD K g' ks h v s H Q) (fun s H Q => ∃ g' : G, Blk g g' ∧ tTD K g' t s H Q) (fun s H Q => ∃ g' : G, Blk g g' ∧ tID K g' f1 s H Q) (fun v s H Q => ∃ g' : G, Blk g g' ∧ tGD K g' ks1 h1 v s H Q) (fun s H Q => ∃ g' : G, Blk g g' ∧ tTD K g' t1 s H Q) (fun s H Q => ∃ g' : G, Blk g g' ∧ tD K g' fe s H Q) vs vs1 s H Q := by
  have hb1 : ∀ p ∈ g.B, p.1 ∉ vs1 := fun p hp z => hb p hp (hv1 _ z)
  obtain ⟨F, r, R, q⟩ := h0
  refine ⟨F, r, R, post_mono (post_bind q) fun ds r1 q F1 H1 J sm R1 wk => ?_⟩
  have q : post K g.nw _ _ := post_noE (post_bind q)
  intro A nA
  have hA0 : g.H0 A = none := R1.live nA
  have hAX : ∀ p ∈ g.X, p.1 ≠ A := fun p hp z => by have := (R1.ext p hp).1; rw [z, nA] at this; cases this
  refine ⟨fun i m H2 => m = ds.length - i ∧ i ≤ ds.length ∧ LcK K g F1 s Q A vs h t f1 vs1 h1 t1 fe ds i H2, ⟨ds.length, rfl, Nat.zero_le _, F1, r1, [], [], Same.refl _, R1.laid nA, upd_same, R1.ff nA, fun j o e eo => not_own R1 nA j o e eo, .nil, ?_⟩, ?_⟩
  · rw [List.drop_zero]
    refine post_mono q fun ys r3 q => ?_
    obtain ⟨hl, q⟩ := post_if q
    exact ⟨hl, fun F3 H3 v sm3 R3 hv => q F3 H3 v (sm.trans sm3) R3 hv⟩
  rintro i m H2 ⟨rfl, hi2, F2, r2, acc, vacc, sm2, R2, hA, hFA, hAo, hacc, q2⟩
  obtain ⟨w1, w2⟩ := wk g F2 H2 s r2 rfl sm2 R2
  by_cases hlt : i < ds.length
  · have ed : ds[i]? = some ds[i] := List.getElem?_eq_getElem hlt
    obtain ⟨go, yl⟩ := w1 i _ ed
    rw [List.drop_eq_getElem_cons hlt] at q2
    refine .inr ⟨go, fun H3 => LcK K g F1 s Q A vs h t f1 vs1 h1 t1 fe ds (i + 1) H3, fun H3 hh => ⟨ds.length - (i + 1), by omega, rfl, hlt, hh⟩, fun x H3 hy => ?_⟩
    have R2m : Rel K (g.more A (.lst vacc)) F2 H2 s r2 := R2.more hA hFA hAo
    obtain ⟨w1m, _⟩ := wk (g.more A (.lst vacc)) F2 H2 s r2 rfl sm2 R2m
    obtain ⟨F3, sm3, R3, hx⟩ := (w1m i _ ed).2 x H3 hy
    have R3w : Rel K (g.more A (.lst vacc)) F3 H3 (wipe s vs) (wipeE r2 vs) := R3.forget hb (wipe_length _ _) fun i hi => wipe_keep hi
    have q3 : post K g.nw (fun ys r3 => (acc ++ ys).length ≤ 1000000 ∧ PO K g F1 s Q (.ow (acc ++ ys)) (wipeE r3 vs)) (match h ds[i] (wipeE r2 vs) with
      | none => .bad
      | some r1 => (t r1).bind fun b r2 => if b = true then (f1 r2).bind fun ds1 r3 => (lcS vs1 h1 t1 fe ds1 r3).bind fun ys r4 => (lc2S vs h t f1 vs1 h1 t1 fe (ds.drop (i + 1)) (wipeE r4 vs)).bind fun zs r5 => .ok (ys ++ zs) r5 else lc2S vs h t f1 vs1 h1 t1 fe (ds.drop (i + 1)) (wipeE r2 vs)) := q2
    cases eh : h ds[i] (wipeE r2 vs) with
    | none => rw [eh] at q3; exact q3.elim
    | some r3 =>
      rw [eh] at q3
      refine ⟨(g.more A (.lst vacc)).nw, ⟨rfl, rfl, rfl, rfl⟩, F3, _, ds[i], r3, R3w.nw, hx, eh, fun s4 ag R4 => ⟨agr_wipe ag hks, (g.more A (.lst vacc)).nw, ⟨rfl, rfl, rfl, rfl⟩, F3, r3, R4, post_mono (post_w (post_bind q3)) fun b r4 q4 F4 H4 sm4 R4' => ?_⟩⟩
      have wkeep : ∀ i, i ∉ vs → s[i]? = s4[i]? := fun i hi => by rw [ag.2 i fun z => hi (hks i z), wipe_keep hi]
      have hl4 : s.length = s4.length := by rw [ag.1, wipe_length]
      have sm14 : Same F1 F4 := (sm2.trans sm3).trans sm4
      cases b with
      | false =>
        obtain ⟨R5, a1, a2, a3⟩ := R4'.unw.less
        refine ⟨F4, wipeE r4 vs, acc, vacc, sm14, R5.forget hb hl4 wkeep, a1, a2, fun j o e eo => ?_, RDs.mono (sm3.trans sm4) acc hacc, q4⟩
        obtain ⟨e1, e2⟩ := wipeE_some e
        rw [wkeep j e2]
        exact a3 j o e1 eo
      | true =>
        -- the inner loop
        refine ⟨(g.more A (.lst vacc)).nw, ⟨rfl, rfl, rfl, rfl⟩, F4, r4, R4', post_mono (post_w (post_bind q4)) fun ds1 r5 q5 F5 H5 J1 sm5 R5' wk1 => ?_⟩
        obtain ⟨R5, b1, b2, b3⟩ := R5'.unw.less
        have sm15 : Same F1 F5 := sm14.trans sm5
        have hacc5 := RDs.mono ((sm3.trans sm4).trans sm5) acc hacc
        -- behind the inner loop
        have fin : ∀ (H9 : Hp) (F9 : Hp) (r9 : En) (acc9 : List D) (vacc9 : List V), Same F5 F9 → Rel K g F9 H9 s4 r9 → H9 A = some (.lst vacc9) → F9 A = none → (∀ (j : Nat) (o : OV), r9[j]? = some (some o) → o.own = true → s4[j]? ≠ some (some (.ref A))) → RDs K F9 vacc9 acc9 →
            post K g.nw (fun zs r8 => (acc9 ++ zs).length ≤ 1000000 ∧ PO K g F1 s Q (.ow (acc9 ++ zs)) (wipeE r8 vs)) (lc2S vs h t f1 vs1 h1 t1 fe (ds.drop (i + 1)) (wipeE r9 vs)) → LcK K g F1 s Q A vs h t f1 vs1 h1 t1 fe ds (i + 1) H9 := fun H9 F9 r9 acc9 vacc9 sm9 R9 c1 c2 c3 c4 q9 => by
          refine ⟨F9, wipeE r9 vs, acc9, vacc9, sm15.trans sm9, R9.forget hb hl4 wkeep, c1, c2, fun j o e eo => ?_, c4, q9⟩
          obtain ⟨e1, e2⟩ := wipeE_some e
          rw [wkeep j e2]
          exact c3 j o e1 eo
        refine ⟨fun j k H6 => k = ds1.length - j ∧ j ≤ ds1.length ∧ LcJ K g F5 s4 A vs1 h1 t1 fe (fun ys r6 => post K g.nw (fun zs r8 => (ys ++ zs).length ≤ 1000000 ∧ PO K g F1 s Q (.ow (ys ++ zs)) (wipeE r8 vs)) (lc2S vs h t f1 vs1 h1 t1 fe (ds.drop (i + 1)) (wipeE r6 vs))) ds1 j H6, ⟨ds1.length, rfl, Nat.zero_le _, F5, r5, acc, vacc, Same.refl _, R5, b1, b2, b3, hacc5, ?_⟩, ?_⟩
        · rw [List.drop_zero]
          refine post_mono (post_bind q5) fun ys r6 q6 => ?_
          refine post_mono (post_bind q6) fun zs r8 q8 => ?_
          have q8 : (acc ++ (ys ++ zs)).length ≤ 1000000 ∧ PO K g F1 s Q (.ow (acc ++ (ys ++ zs))) (wipeE r8 vs) := q8
          rw [List.append_assoc]
          exact q8
        rintro j k H6 ⟨rfl, hj2, F6, r6, acc6, vacc6, sm6, R6, d1, d2, d3, d4, q6⟩
        have wk1' : Wk K g.B F5 J1 ds1 := wk1
        obtain ⟨v1, v2⟩ := wk1' g F6 H6 s4 r6 rfl sm6 R6
        by_cases hjt : j < ds1.length
        · have ed1 : ds1[j]? = some ds1[j] := List.getElem?_eq_getElem hjt
          obtain ⟨go1, yl1⟩ := v1 j _ ed1
          rw [List.drop_eq_getElem_cons hjt] at q6
          refine .inr ⟨go1, fun H7 => LcJ K g F5 s4 A vs1 h1 t1 fe (fun ys r6 => post K g.nw (fun zs r8 => (ys ++ zs).length ≤ 1000000 ∧ PO K g F1 s Q (.ow (ys ++ zs)) (wipeE r8 vs)) (lc2S vs h t f1 vs1 h1 t1 fe (ds.drop (i + 1)) (wipeE r6 vs))) ds1 (j + 1) H7, fun H7 hh => ⟨ds1.length - (j + 1), by omega, rfl, hjt, hh⟩, fun x1 H7 hy1 => ?_⟩
          have R6m : Rel K (g.more A (.lst vacc6)) F6 H6 s4 r6 := R6.more d1 d2 d3
          obtain ⟨v1m, _⟩ := wk1' (g.more A (.lst vacc6)) F6 H6 s4 r6 rfl sm6 R6m
          obtain ⟨F7, sm7, R7, hx1⟩ := (v1m j _ ed1).2 x1 H7 hy1
          have R7w : Rel K (g.more A (.lst vacc6)) F7 H7 (wipe s4 vs1) (wipeE r6 vs1) := R7.forget hb1 (wipe_length _ _) fun i hi => wipe_keep hi
          have q7 : post K g.nw (fun ys r6 => (fun ys r6 => post K g.nw (fun zs r8 => (ys ++ zs).length ≤ 1000000 ∧ PO K g F1 s Q (.ow (ys ++ zs)) (wipeE r8 vs)) (lc2S vs h t f1 vs1 h1 t1 fe (ds.drop (i + 1)) (wipeE r6 vs))) (acc6 ++ ys) r6) (match h1 ds1[j] (wipeE r6 vs1) with
            | none => .bad
            | some r1 => (t1 r1).bind fun b r2 => if b = true then (fe r2).bind fun y r3 => (lcS vs1 h1 t1 fe (ds1.drop (j + 1)) (wipeE r3 vs1)).bind fun ys r4 => .ok (y :: ys) r4 else lcS vs1 h1 t1 fe (ds1.drop (j + 1)) (wipeE r2 vs1)) := q6
          cases eh1 : h1 ds1[j] (wipeE r6 vs1) with
          | none => rw [eh1] at q7; exact q7.elim
          | some r7 =>
            rw [eh1] at q7
            refine ⟨(g.more A (.lst vacc6)).nw, ⟨rfl, rfl, rfl, rfl⟩, F7, _, ds1[j], r7, R7w.nw, hx1, eh1, fun s8 ag1 R8 => ⟨agr_wipe ag1 hks1, (g.more A (.lst vacc6)).nw, ⟨rfl, rfl, rfl, rfl⟩, F7, r7, R8, post_mono (post_w (post_bind q7)) fun b r8 q8 F8 H8 sm8 R8' => ?_⟩⟩
            have wkeep1 : ∀ i, i ∉ vs1 → s4[i]? = s8[i]? := fun i hi => by rw [ag1.2 i fun z => hi (hks1 i z), wipe_keep hi]
            have hl8 : s4.length = s8.length := by rw [ag1.1, wipe_length]
            cases b with
            | false =>
              obtain ⟨R9, a1, a2, a3⟩ := R8'.unw.less
              refine ⟨F8, wipeE r8 vs1, acc6, vacc6, (sm6.trans sm7).trans sm8, R9.forget hb1 hl8 wkeep1, a1, a2, fun j o e eo => ?_, RDs.mono (sm7.trans sm8) acc6 d4, q8⟩
              obtain ⟨e1, e2⟩ := wipeE_some e
              rw [wkeep1 j e2]
              exact a3 j o e1 eo
            | true =>
              refine ⟨(g.more A (.lst vacc6)).nw, ⟨rfl, rfl, rfl, rfl⟩, F8, r8, R8', post_mono (post_w (post_bind q8)) fun y r9 q9 F9 H9 v sm9 R9' hv => ?_⟩
              have R9' := R9'.unw
              have a1 := R9'.less.2.1
              have a2 := R9'.less.2.2.1
              have a3 := R9'.less.2.2.2
              have hacc9 := RDs.mono ((sm7.trans sm8).trans sm9) acc6 d4
              have q10 : post K g.nw (fun ys r6 => post K g.nw (fun zs r8 => ((acc6 ++ [y] ++ ys) ++ zs).length ≤ 1000000 ∧ PO K g F1 s Q (.ow ((acc6 ++ [y] ++ ys) ++ zs)) (wipeE r8 vs)) (lc2S vs h t f1 vs1 h1 t1 fe (ds.drop (i + 1)) (wipeE r6 vs))) (lcS vs1 h1 t1 fe (ds1.drop (j + 1)) (wipeE r9 vs1)) := by
                refine post_mono (post_bind q9) fun ys r6 q6 => ?_
                have q6 : post K g.nw (fun zs r8 => ((acc6 ++ y :: ys) ++ zs).length ≤ 1000000 ∧ PO K g F1 s Q (.ow ((acc6 ++ y :: ys) ++ zs)) (wipeE r8 vs)) (lc2S vs h t f1 vs1 h1 t1 fe (ds.drop (i + 1)) (wipeE r6 vs)) := q6
                rw [show acc6 ++ [y] ++ ys = acc6 ++ y :: ys by rw [List.append_assoc]; rfl]
                exact q6
              have hlen : acc6.length < 1000000 := by
                revert q10
                cases lcS vs1 h1 t1 fe (ds1.drop (j + 1)) (wipeE r9 vs1) with
                | bad => exact fun z => z.elim
                | ex _ _ => exact fun z => False.elim z
                | ok ys r6 =>
                  intro q10
                  have q10 : post K g.nw (fun zs r8 => ((acc6 ++ [y] ++ ys) ++ zs).length ≤ 1000000 ∧ PO K g F1 s Q (.ow ((acc6 ++ [y] ++ ys) ++ zs)) (wipeE r8 vs)) (lc2S vs h t f1 vs1 h1 t1 fe (ds.drop (i + 1)) (wipeE r6 vs)) := q10
                  revert q10
                  cases lc2S vs h t f1 vs1 h1 t1 fe (ds.drop (i + 1)) (wipeE r6 vs) with
                  | bad => exact fun z => z.elim
                  | ex _ _ => exact fun z => False.elim z
                  | ok zs r8 =>
                    intro q10
                    have := q10.1
                    simp only [List.length_append, List.length_cons, List.length_nil] at this
                    omega
              refine ⟨vacc6, a1, ?_, F9, wipeE r9 vs1, acc6 ++ [y], vacc6 ++ [v], ((sm6.trans sm7).trans sm8).trans sm9, (R9'.grow hA0 hAX).forget hb1 hl8 wkeep1, upd_same, a2, fun j o e eo => ?_, hacc9.app (.cons hv .nil), q10⟩
              · rw [hacc9.length]
                have : (1000000 : Nat) < sizeLine := by decide
                omega
              · obtain ⟨e1, e2⟩ := wipeE_some e
                rw [wkeep1 j e2]
                exact a3 j o e1 eo
        · have hdr : ds1.drop j = [] := List.drop_of_length_le (by omega)
          rw [hdr] at q6
          have q6 : post K g.nw (fun zs r8 => ((acc6 ++ []) ++ zs).length ≤ 1000000 ∧ PO K g F1 s Q (.ow ((acc6 ++ []) ++ zs)) (wipeE r8 vs)) (lc2S vs h t f1 vs1 h1 t1 fe (ds.drop (i + 1)) (wipeE r6 vs)) := q6
          rw [List.append_nil] at q6
          exact .inl ⟨v2 j (by omega), fin H6 F6 r6 acc6 vacc6 sm6 R6 d1 d2 d3 d4 q6⟩
  · rw [List.drop_of_length_le (by omega)] at q2
    have q2 : (acc ++ []).length ≤ 1000000 ∧ PO K g F1 s Q (.ow (acc ++ [])) (wipeE r2 vs) := q2
    rw [List.append_nil] at q2
    refine .inl ⟨w2 i (by omega), q2.2 F2 H2 (.ref A) sm2 (R2.forget hb rfl fun _ _ => rfl) ⟨A, vacc, rfl, hFA, hA, hacc, hA0, fun j o e eo => ?_, hAX⟩⟩
    obtain ⟨e1, e2⟩ := wipeE_some e
    exact hAo j o e1 eo
theorem do_lc2 {elt iter iter1 : Expr} {ifs ifs1 : List Expr} {scope : Scope} {own : List (Str × Nat)} {vs ks vs1 ks1 : List Nat} {f f1 : En → Rs (List D)} {h h1 : D → En → Option En} {t t1 : En → Rs Bool} {fe : En → Rs D} (hc : X.calm = true) (hN : X.N.Nodup) (hi : DI X g tg iter f) (ok : BlkOk X.N X.env.scope scope own)
    (hvs : own.map (·.2) = vs) (hb : ∀ p ∈ g.B, p.1 ∉ vs) (hks : ∀ i ∈ ks, i ∈ vs) (hks1 : ∀ i ∈ ks1, i ∈ vs1) (hv1 : ∀ i ∈ vs1, i ∈ vs)
    (hg : ∀ (s : Shared) (H : Hp) (C : Addr) (cl : List (Str × Addr)) (fp : List Addr) (g' : G), Blk g g' → DG (X.blk s H scope (compEnvC scope cl C X.env) fp) g' tg ks h)
    (ht : ∀ (s : Shared) (H : Hp) (C : Addr) (cl : List (Str × Addr)) (fp : List Addr) (g' : G), Blk g g' → PTs (X.blk s H scope (compEnvC scope cl C X.env) fp) ifs (tTD X.K g' t))
    (hi1 : ∀ (s : Shared) (H : Hp) (C : Addr) (cl : List (Str × Addr)) (fp : List Addr) (g' : G), Blk g g' → DI (X.blk s H scope (compEnvC scope cl C X.env) fp) g' tg1 iter1 f1)
    (hg1 : ∀ (s : Shared) (H : Hp) (C : Addr) (cl : List (Str × Addr)) (fp : List Addr) (g' : G), Blk g g' → DG (X.blk s H scope (compEnvC scope cl C X.env) fp) g' tg1 ks1 h1)
    (ht1 : ∀ (s : Shared) (H : Hp) (C : Addr) (cl : List (Str × Addr)) (fp : List Addr) (g' : G), Blk g g' → PTs (X.blk s H scope (compEnvC scope cl C X.env) fp) ifs1 (tTD X.K g' t1))
    (he : ∀ (s : Shared) (H : Hp) (C : Addr) (cl : List (Str × Addr)) (fp : List Addr) (g' : G), Blk g g' → DE (X.blk s H scope (compEnvC scope cl C X.env) fp) g' elt fe) (hs : ∀ x, foldedSetIterable iter X.env x = pure x := by intro _; rfl) (hs1 : ∀ env x, foldedSetIterable iter1 env x = pure x := by intro _ _; rfl) :
    DO X g (.ListComp elt [⟨tg, iter, ifs, 0⟩, ⟨tg1, iter1, ifs1, 0⟩] scope pos) (lc2D f vs h t f1 vs1 h1 t1 fe) := by
  subst hvs
  exact PE.imp (pe_lc2 hc hN hi ok hv1 (g := fun v s H Q => ∃ g' : G, Blk g g' ∧ tGD X.K g' ks h v s H Q) (tt := fun s H Q => ∃ g' : G, Blk g g' ∧ tTD X.K g' t s H Q) (wi1 := fun s H Q => ∃ g' : G, Blk g g' ∧ tID X.K g' f1 s H Q) (g1 := fun v s H Q => ∃ g' : G, Blk g g' ∧ tGD X.K g' ks1 h1 v s H Q) (tt1 := fun s H Q => ∃ g' : G, Blk g g' ∧ tTD X.K g' t1 s H Q) (te := fun s H Q => ∃ g' : G, Blk g g' ∧ tD X.K g' fe s H Q)
    (fun s H C cl fp => ⟨fun pins s2 σ H2 v u Q I rv ⟨g', eg, q⟩ => (hg s H C cl fp g' eg).run pins s2 σ H2 v u Q I rv q⟩)
    (fun s H C cl fp => ⟨fun pins s2 σ H2 Q I ⟨g', eg, q⟩ => (ht s H C cl fp g' eg).run pins s2 σ H2 Q I q⟩)
    (fun s H C cl fp => ⟨fun pins s2 σ H2 Q I ⟨g', eg, q⟩ => (hi1 s H C cl fp g' eg).run pins s2 σ H2 Q I q⟩)
    (fun s H C cl fp => ⟨fun pins s2 σ H2 v u Q I rv ⟨g', eg, q⟩ => (hg1 s H C cl fp g' eg).run pins s2 σ H2 v u Q I rv q⟩)
    (fun s H C cl fp => ⟨fun pins s2 σ H2 Q I ⟨g', eg, q⟩ => (ht1 s H C cl fp g' eg).run pins s2 σ H2 Q I q⟩)
    (fun s H C cl fp => ⟨fun pins s2 σ H2 Q I ⟨g', eg, q⟩ => (he s H C cl fp g' eg).run pins s2 σ H2 Q I q⟩) hs hs1) fun s H Q h0 => lc2_imp hb hks hks1 hv1 h0
/-- name = [.. for .. for ..] on one line, the name a plain local -/
theorem ds_setLc2 {i : Nat} {y : Str} {py spos : Pos} {elt iter iter1 : Expr} {ifs ifs1 : List Expr} {scope : Scope} {own : List (Str × Nat)} {vs ks vs1 ks1 : List Nat} {f f1 : En → Rs (List D)} {h h1 : D → En → Option En} {t t1 : En → Rs Bool} {fe : En → Rs D} (hbi : ∀ p ∈ g.B, p.1 ≠ i) (hc : X.calm = true) (hN : X.N.Nodup) (hi : DI X g tg iter f) (ok : BlkOk X.N X.env.scope scope own)
    (hvs : own.map (·.2) = vs) (hb : ∀ p ∈ g.B, p.1 ∉ vs) (hks : ∀ i ∈ ks, i ∈ vs) (hks1 : ∀ i ∈ ks1, i ∈ vs1) (hv1 : ∀ i ∈ vs1, i ∈ vs)
    (hg : ∀ (s : Shared) (H : Hp) (C : Addr) (cl : List (Str × Addr)) (fp : List Addr) (g' : G), Blk g g' → DG (X.blk s H scope (compEnvC scope cl C X.env) fp) g' tg ks h)
    (ht : ∀ (s : Shared) (H : Hp) (C : Addr) (cl : List (Str × Addr)) (fp : List Addr) (g' : G), Blk g g' → PTs (X.blk s H scope (compEnvC scope cl C X.env) fp) ifs (tTD X.K g' t))
    (hi1 : ∀ (s : Shared) (H : Hp) (C : Addr) (cl : List (Str × Addr)) (fp : List Addr) (g' : G), Blk g g' → DI (X.blk s H scope (compEnvC scope cl C X.env) fp) g' tg1 iter1 f1)
    (hg1 : ∀ (s : Shared) (H : Hp) (C : Addr) (cl : List (Str × Addr)) (fp : List Addr) (g' : G), Blk g g' → DG (X.blk s H scope (compEnvC scope cl C X.env) fp) g' tg1 ks1 h1)
    (ht1 : ∀ (s : Shared) (H : Hp) (C : Addr) (cl : List (Str × Addr)) (fp : List Addr) (g' : G), Blk g g' → PTs (X.blk s H scope (compEnvC scope cl C X.env) fp) ifs1 (tTD X.K g' t1))
    (he : ∀ (s : Shared) (H : Hp) (C : Addr) (cl : List (Str × Addr)) (fp : List Addr) (g' : G), Blk g g' → DE (X.blk s H scope (compEnvC scope cl C X.env) fp) g' elt fe)
    (hsw : swapsWith (.ListComp elt [⟨tg, iter, ifs, 0⟩, ⟨tg1, iter1, ifs1, 0⟩] scope pos) (some (.Name y py)) spos.line X.env = pure true) (hy : X.N[i]? = some y := by rfl) (hyl : X.env.scope.names.lookup y = some .local := by rfl) (hs : ∀ x, foldedSetIterable iter X.env x = pure x := by intro _; rfl) (hs1 : ∀ env x, foldedSetIterable iter1 env x = pure x := by intro _ _; rfl) :
    DS X g (.Assign [.Name y py] (.ListComp elt [⟨tg, iter, ifs, 0⟩, ⟨tg1, iter1, ifs1, 0⟩] scope pos) spos) (setS i (lc2D f vs h t f1 vs1 h1 t1 fe)) := by
  subst hvs
  refine PS.imp (ps_setLc2 hc hN hy hyl hsw hi ok hv1 (g := fun v s H Q => ∃ g' : G, Blk g g' ∧ tGD X.K g' ks h v s H Q) (tt := fun s H Q => ∃ g' : G, Blk g g' ∧ tTD X.K g' t s H Q) (wi1 := fun s H Q => ∃ g' : G, Blk g g' ∧ tID X.K g' f1 s H Q) (g1 := fun v s H Q => ∃ g' : G, Blk g g' ∧ tGD X.K g' ks1 h1 v s H Q) (tt1 := fun s H Q => ∃ g' : G, Blk g g' ∧ tTD X.K g' t1 s H Q) (te := fun s H Q => ∃ g' : G, Blk g g' ∧ tD X.K g' fe s H Q)
    (fun s H C cl fp => ⟨fun pins s2 σ H2 v u Q I rv ⟨g', eg, q⟩ => (hg s H C cl fp g' eg).run pins s2 σ H2 v u Q I rv q⟩)
    (fun s H C cl fp => ⟨fun pins s2 σ H2 Q I ⟨g', eg, q⟩ => (ht s H C cl fp g' eg).run pins s2 σ H2 Q I q⟩)
    (fun s H C cl fp => ⟨fun pins s2 σ H2 Q I ⟨g', eg, q⟩ => (hi1 s H C cl fp g' eg).run pins s2 σ H2 Q I q⟩)
    (fun s H C cl fp => ⟨fun pins s2 σ H2 v u Q I rv ⟨g', eg, q⟩ => (hg1 s H C cl fp g' eg).run pins s2 σ H2 v u Q I rv q⟩)
    (fun s H C cl fp => ⟨fun pins s2 σ H2 Q I ⟨g', eg, q⟩ => (ht1 s H C cl fp g' eg).run pins s2 σ H2 Q I q⟩)
    (fun s H C cl fp => ⟨fun pins s2 σ H2 Q I ⟨g', eg, q⟩ => (he s H C cl fp g' eg).run pins s2 σ H2 Q I q⟩) hs hs1) fun E s H ⟨F, r, R, q⟩ => ?_
  exact lc2_imp hb hks hks1 hv1 ⟨F, r, R, post_mono (post_then q) fun o r1 q F1 H1 v sm R1 hv => q F1 H1 _ sm (R1.set hbi hv)⟩
end
theorem lc2_nod {f f1 : En → Rs (List D)} {vs vs1 : List Nat} {h h1 : D → En → Option En} {t t1 : En → Rs Bool} {e : En → Rs D} : NoOd (lc2D f vs h t f1 vs1 h1 t1 e) := fun r o r1 z => by
  unfold lc2D at z
  cases e1 : f r with
  | bad => rw [e1] at z; cases z
  | ex x r2 => rw [e1] at z; cases z
  | ok ds r2 =>
    rw [e1] at z
    simp only [Rs.bind] at z
    cases e2 : lc2S vs h t f1 vs1 h1 t1 e ds r2 with
    | bad => rw [e2] at z; cases z
    | ex x r3 => rw [e2] at z; cases z
    | ok ys r3 =>
      rw [e2] at z
      simp only [Rs.noE] at z
      split at z
      · cases z
        exact .inr ⟨_, rfl⟩
      · cases z
end DL

/-! Data layer, part 25: xs[::e]; range with a step; min, max of two. -/
namespace DL
open PySem L2 PyProof.Rows
section
variable {X : Cx} {g : G} {e a b c tg : Expr} {pos : Pos}
theorem pick_fwd (items : Array Value) : slicePick items none none (some 1) = items := by
  unfold slicePick
  have hb : sliceBounds none none (some 1) items.size = (0, (items.size : Int), 1) := rfl
  rw [hb]
  show ((sliceRange 0 (items.size : Int) 1).filterMap (items[·]?)).toArray = items
  have hr : sliceRange 0 (items.size : Int) 1 = List.range items.size := by
    unfold sliceRange
    rw [if_pos (by decide)]
    have hn : (if (0 : Int) < (items.size : Int) then (((items.size : Int) - 0 + 1 - 1) / 1).toNat else 0) = items.size := by
      split
      · rw [Int.ediv_one]; omega
      · omega
    simp only [hn]
    apply List.ext_getElem
    · simp
      split <;> omega
    · intro i h1 h2
      simp
  rw [hr]
  have key : ∀ l : List Value, (List.range l.length).filterMap (fun m => l[m]?) = l := fun l => by
    induction l with
    | nil => rfl
    | cons a l ih =>
      rw [List.length_cons, List.range_succ_eq_map, List.filterMap_cons]
      simp only [List.getElem?_cons_zero, List.filterMap_map]
      congr 1
  have h := key items.toList
  rw [Array.length_toList] at h
  have h2 : (List.range items.size).filterMap (fun m => items[m]?) = items.toList := by
    rw [← h]
    congr 1
    funext m
    simp
  rw [h2]
/-- xs[::e], e one or minus one -/
def stepL {α : Type} (k : Int) (xs : List α) : List α := if k = 1 then xs else xs.reverse
def tStep (K : PySem.W.Frag) (te : TE) (ts : TO) : TE := fun σ H Q => te σ H fun x H1 => ts σ H1 fun o H2 => ∃ (k : Int) (a : Addr) (xs : List V), o = some k ∧ (k = 1 ∨ k = -1) ∧ x = .ref a ∧ SqL K H2 a xs ∧ ∀ p, H2 p = none → Q (.ref p) (L2.upd H2 p (.lst (stepL k xs)))
theorem pe_step {te : TE} {ts : TO} {st : Expr} {p3 : Pos} (he : PE X e te) (hst : L2.PO X (some st) ts) : PE X (.Subscript e (.Slice none none (some st) p3) pos) (tStep X.K te ts) := by
  refine ⟨fun pins s σ H Q I h => ?_⟩
  refine Subscript_ (thn (he.run pins s σ H _ I h) fun v s1 ⟨x, H1, I1, r1, q1⟩ => ?_)
  refine wpAny_Slice (thn (po_none.run pins s1 σ H1 (fun o H2 => o = none ∧ H2 = H1) I1 ⟨rfl, rfl⟩) fun vl s2 ⟨l, H2, I2, pl, el, e2⟩ => ?_)
  subst el e2
  refine thn (po_none.run pins s2 σ H2 (fun o H3 => o = none ∧ H3 = H2) I2 ⟨rfl, rfl⟩) fun vu s3 ⟨u, H3, I3, pu, eu, e3⟩ => ?_
  subst eu e3
  refine thn (hst.run pins s3 σ H3 _ I3 q1) fun vs s4 ⟨o, H4, I4, ps, k, a, xs, eo, hk, ea, hx, q⟩ => ?_
  subst eo ea
  cases r1
  have I5 : Inv X pins σ H4 { s4 with heap := s4.heap.push { cls := .type "slice", data := .fields #[vl, vu, vs] } } := I4.kept (t' := s4.toks) fun b ob q => Heap.get?_push_of_some _ q
  show wpAny (model X.prog X.w) X.A (subscriptTail e (.Slice none none (some st) p3) (.ref a) (.ref s4.heap.objs.size)) (EP X pins σ Q) X.xe { s4 with heap := s4.heap.push { cls := .type "slice", data := .fields #[vl, vu, vs] } }
  obtain ⟨its, r, ht, hz⟩ := I5.list hx
  have hlen := r.length
  refine tail_any (ops := [.ref a, .ref s4.heap.objs.size]) ht.isList.typeIs (PySem.slot_list_getitem.lookup) ?_ (by with_unfolding_all rfl)
  refine wpAny_getItem_list_slice ht.isList (Heap.IsSliceOf.new _ vl vu vs) pl pu ps (by rcases hk with rfl | rfl <;> decide) ?_ (by rw [List.size_toArray]; omega)
  rcases hk with rfl | rfl
  · rw [pick_fwd]
    refine ⟨.ref _, _, I5.laid (t' := s4.toks) (o := .lst (stepL 1 xs)) (fun b ob q => Heap.get?_push_of_some _ q) (Nat.le_refl _) ?_, rfl, q _ (I5.hok.fresh (Nat.le_refl _))⟩
    show ObjOk _ _ _ _ _ (.lst xs)
    exact ⟨hz, _, 0, r, Heap.get?_push_size _ rfl⟩
  · rw [PySem.W.krv_pick]
    refine ⟨.ref _, _, I5.laid (t' := s4.toks) (o := .lst (stepL (-1) xs)) (fun b ob q => Heap.get?_push_of_some _ q) (Nat.le_refl _) ?_, rfl, q _ (I5.hok.fresh (Nat.le_refl _))⟩
    show ObjOk _ _ _ _ _ (.lst xs.reverse)
    exact ⟨by rw [List.length_reverse]; exact hz, _, 0, r.reverse, Heap.get?_push_size _ rfl⟩
def stepO (p : Opd) (f : En → Rs D) : En → Rs OV := fun r => (p.run r).bind fun x r1 => (poS f r1).bind fun o r2 => ofO ((look r2 x).bind fun d => match d, o with
  | .lst xs, some k => if k = 1 ∨ k = -1 then some (.ow (stepL k xs)) else none
  | _, _ => none) r2
theorem RDs.step {K : PySem.W.Frag} {F : Hp} {vs : List V} {ds : List D} (k : Int) (h : RDs K F vs ds) : RDs K F (stepL k vs) (stepL k ds) := by
  unfold stepL
  split
  · exact h
  · exact h.rev
theorem do_step {p : Opd} {f : En → Rs D} {st : Expr} {p3 : Pos} (he : DB X g e p) (hst : DE X g st f) : DO X g (.Subscript e (.Slice none none (some st) p3) pos) (stepO p f) :=
  PE.imp (pe_step he (dpo_some hst)) fun s H Q ⟨F, r, R, h⟩ => ⟨F, r, R, post_mono (post_bind h) fun z r1 q F1 H1 v sm R1 hv => ⟨F1, r1, R1, post_mono (post_bind q) fun o r2 q F2 H2 s2 R2 => by
    obtain ⟨ov, e, q⟩ := post_ofO q
    obtain ⟨d, e1, e2⟩ := Option.bind_eq_some_iff.mp e
    cases d with
    | lst xs =>
      cases o with
      | none => cases e2
      | some k =>
        have e2 : (if k = 1 ∨ k = -1 then some (OV.ow (stepL k xs)) else none) = some ov := e2
        by_cases hk : k = 1 ∨ k = -1
        · rw [if_pos hk] at e2
          cases e2
          obtain ⟨a, vs, rfl, h1, h2⟩ := (look_ok R2 (hv.mono s2) e1).lst R2.sub
          exact ⟨k, a, vs, rfl, hk, rfl, .of h1, fun p np => PO.new R2 (h2.step k) (fun F3 H3 v3 s3 R3 h3 => q F3 H3 v3 ((sm.trans s2).trans s3) R3 h3) p np⟩
        · rw [if_neg hk] at e2; cases e2
    | _ => cases e2⟩⟩
/-! ### range(a, b, c), c positive -/
def rangeC (lo c : Int) (n : Nat) : List D := (List.range n).map fun (k : Nat) => D.int (lo + (k : Int) * c)
def rgn (i j c : Int) : Nat := if i < j then ((j - i - 1) / c + 1).toNat else 0
def rg3 (f h u : En → Rs D) : En → Rs (List D) := fun r => (f r).bind fun d r1 => (h r1).bind fun d' r2 => (u r2).bind fun d'' r3 => (ofO d.asI r3).bind fun i r3 => (ofO d'.asI r3).bind fun j r3 => (ofO d''.asI r3).bind fun k r3 => if ((-1000000 ≤ i ∧ i ≤ 1000000) ∧ -1000000 ≤ j ∧ j ≤ 1000000) ∧ k = 2 then .ok (rangeC i 2 (rgn i j 2)) r3 else .bad
theorem rgC2 {i j : Int} (h1 : -1000000 ≤ i ∧ i ≤ 1000000) (h2 : -1000000 ≤ j ∧ j ≤ 1000000) : RgC i j 2 (rgn i j 2) := by
  have hs : Builtin.Range.rangeSize i j 2 = ((rgn i j 2 : Nat) : Int) := by
    unfold Builtin.Range.rangeSize rgn
    rw [if_pos (by decide)]
    split
    · omega
    · rfl
  refine ⟨by decide, by decide, ?_, hs⟩
  unfold Builtin.Range.small
  have : Builtin.Range.rangeSize i j 2 = if i < j then (j - i - 1) / 2 + 1 else 0 := by
    unfold Builtin.Range.rangeSize
    rw [if_pos (by decide)]
  rw [this]
  simp only [Builtin.Range.rangeFitsLong, Bool.and_eq_true, Bool.or_eq_true, decide_eq_true_eq, beq_iff_eq, show (2 : Int) > 0 by decide, if_true]
  split <;> omega
theorem rangeC_get {lo c : Int} {n i : Nat} {d : D} (h : (rangeC lo c n)[i]? = some d) : i < n ∧ d = .int (lo + i * c) := by
  unfold rangeC at h
  rw [List.getElem?_map] at h
  obtain ⟨k, h1, h2⟩ := Option.map_eq_some_iff.mp h
  obtain ⟨h3, h4⟩ := List.getElem?_eq_some_iff.mp h1
  rw [List.length_range] at h3
  rw [List.getElem_range] at h4
  exact ⟨h3, by rw [← h2, ← h4]⟩
theorem wk_rangeC {K : PySem.W.Frag} {B : List (Nat × Addr)} {F : Hp} {lo c : Int} {n : Nat} : Wk K B F (Itc lo c n) (rangeC lo c n) := fun g F1 H1 s r _ sm R => by
  refine ⟨fun i d e => ?_, fun i hi => ?_⟩
  · obtain ⟨h1, rfl⟩ := rangeC_get e
    refine ⟨h1, fun x H2 ⟨eh, ex⟩ => ?_⟩
    subst eh ex
    exact ⟨F1, Same.refl _, R, .int _⟩
  · unfold rangeC at hi
    rw [List.length_map, List.length_range] at hi
    exact hi
theorem di_range3 {f h u : En → Rs D} {p : Pos} (hg : Gl X "range") (hm : X.mg "range" = none) (hf : DE X g a f) (hh : DE X g b h) (hu : DE X g c u) (hs2 : starEach [b, c] X.env = (false, eval b X.env) :: starEach [c] X.env := by rfl) (hs3 : starEach [c] X.env = [(false, eval c X.env)] := by rfl)
    (hs : starEach [a, b, c] X.env = (false, eval a X.env) :: starEach [b, c] X.env := by rfl) (hpl : (backTo pos (starEach [b, c] X.env)).any (·.1) = false := by rfl) : DI X g tg (.Call (.Name "range" p) [a, b, c] [] pos) (rg3 f h u) :=
  PI.imp (pi_range3 hg hm (pa_cons hf (pa_cons hh (pa_cons hu pa_nil hs3) hs2) hs) hs hpl) fun s H Q ⟨F, r, R, q⟩ => ⟨F, r, R, post_mono (post_bind q) fun d r1 q F1 H1 v sm R1 hv => ⟨F1, r1, R1, post_mono (post_bind q) fun d' r2 q F2 H2 v' sm' R2 hv' => ⟨F2, r2, R2, post_mono (post_bind q) fun d'' r3 q F3 H3 v'' sm'' R3 hv'' => by
    obtain ⟨i, ed, q1⟩ := post_ofO (post_bind q)
    obtain ⟨j, ed', q2⟩ := post_ofO (post_bind q1)
    obtain ⟨k, ed'', q3⟩ := post_ofO (post_bind q2)
    obtain ⟨hi, q4⟩ := post_if q3
    have ed := asI_some ed
    have ed' := asI_some ed'
    have ed'' := asI_some ed''
    subst ed ed' ed''
    cases hv
    cases hv'
    cases hv''
    obtain ⟨⟨hi1, hi2⟩, rfl⟩ := hi
    exact ⟨i, j, 2, _, rfl, rgC2 hi1 hi2, q4 F3 H3 _ ((sm.trans sm').trans sm'') R3 wk_rangeC⟩⟩⟩⟩
/-! ### min, max of two ints -/
def semMin : List D → Option D
  | [.int i, .int j] => some (.int (if j < i then j else i))
  | _ => none
def semMax : List D → Option D
  | [.int i, .int j] => some (.int (if j > i then j else i))
  | _ => none
theorem cd_min (hc : X.calm = true) : CallR X (.builtin "min") (rDN X.K g semMin) := by
  intro pins s sg H xs us Q I r h
  obtain ⟨F, s0, r0, ds, d, R, hx, e, q⟩ := h
  unfold semMin at e
  split at e
  · cases e
    obtain ⟨v, w, rfl, h1, h2⟩ := hx.two
    cases h1.flat (fun _ => nofun); cases h2.flat (fun _ => nofun)
    exact call_min2 hc pins s sg H _ us Q I r ⟨_, _, rfl, q F H _ (Same.refl _) R (.int _)⟩
  · cases e
theorem cd_max (hc : X.calm = true) : CallR X (.builtin "max") (rDN X.K g semMax) := by
  intro pins s sg H xs us Q I r h
  obtain ⟨F, s0, r0, ds, d, R, hx, e, q⟩ := h
  unfold semMax at e
  split at e
  · cases e
    obtain ⟨v, w, rfl, h1, h2⟩ := hx.two
    cases h1.flat (fun _ => nofun); cases h2.flat (fun _ => nofun)
    exact call_max2 hc pins s sg H _ us Q I r ⟨_, _, rfl, q F H _ (Same.refl _) R (.int _)⟩
  · cases e
end
end DL

/-! Data layer, part 26: sets of texts; sorted of them. -/
namespace DL
open PySem L2 PyProof.Rows PySem.Froz
/-- one text more -/
def insT (l : List Str) (k : Str) : List Str := if k ∈ l then l else k :: l
def addT (l : List Str) (ts : List Str) : List Str := ts.foldl insT l
theorem insT_mem {l : List Str} {k j : Str} : j ∈ insT l k ↔ j ∈ l ∨ j = k := by
  unfold insT
  split
  · next h => exact ⟨.inl, fun z => z.elim id fun e => e ▸ h⟩
  · rw [List.mem_cons]; exact Or.comm
theorem insT_nodup {l : List Str} {k : Str} (h : l.Nodup) : (insT l k).Nodup := by
  unfold insT
  split
  · exact h
  · next q => exact List.nodup_cons.mpr ⟨q, h⟩
theorem insT_len (l : List Str) (k : Str) : (insT l k).length ≤ l.length + 1 := by
  unfold insT
  split
  · omega
  · simp
theorem addT_mem : ∀ (ts l : List Str) (j : Str), j ∈ addT l ts ↔ j ∈ l ∨ j ∈ ts
  | [], l, j => by simp [addT]
  | t :: ts, l, j => by
    show j ∈ addT (insT l t) ts ↔ _
    rw [addT_mem ts, insT_mem, List.mem_cons, or_assoc]
theorem addT_nodup : ∀ (ts : List Str) {l : List Str}, l.Nodup → (addT l ts).Nodup
  | [], _, h => h
  | t :: ts, _, h => addT_nodup ts (insT_nodup h)
theorem addT_len : ∀ (ts l : List Str), (addT l ts).length ≤ l.length + ts.length
  | [], l => by simp [addT]
  | t :: ts, l => by
    have h := addT_len ts (insT l t)
    have h2 := insT_len l t
    show (addT (insT l t) ts).length ≤ _
    rw [List.length_cons]
    omega
theorem addT_snoc (l ts : List Str) (t : Str) : addT l (ts ++ [t]) = insT (addT l ts) t := by
  unfold addT
  rw [List.foldl_append]
  rfl
/-- the set of texts at a -/
def SetX (P : Program) (w : World) (h : Heap) (a : Addr) (l : List Str) : Prop := ∃ Z : SD, h.get? a = some (sObj "set" Z) ∧ TxOk P w Z l ∧ l.Nodup ∧ Ris Z.2.2.place.toList ∧ (w.params.followText "set-order" = true ∨ Z.2.2.led = true)
section
variable {P : Program} {w : World} {A : Around} {E : Value → Shared → Prop} {s : Shared} {a : Addr} {l : List Str}
theorem SetX.at {h h' : Heap} (R : SetX P w h a l) (k : ∀ o, h.get? a = some o → h'.get? a = some o) : SetX P w h' a l := by
  obtain ⟨Z, ho, r⟩ := R
  exact ⟨Z, k _ ho, r⟩
theorem SetX.ob {h : Heap} (R : SetX P w h a l) : ∃ o, h.get? a = some o := by
  obtain ⟨Z, ho, r⟩ := R
  exact ⟨_, ho⟩
theorem tailTx_ris {ep : Nat} {es : Array (Int × Value)} {t : SetTable} {b : Bool} (h : Ris t.place.toList) : Ris (tailTx ep es t b).2.2.place.toList := by
  unfold tailTx
  split
  · exact relayAll_ris _ _ _
  · exact h
theorem tailTx_led {ep : Nat} {es : Array (Int × Value)} {t : SetTable} {b : Bool} : (tailTx ep es t b).2.2.led = t.led := by
  unfold tailTx
  split
  · exact relayAll_led _ _ _
  · rfl
theorem addTx_ris {h : Int} {v : Value} {Z : SD} (r : Ris Z.2.2.place.toList) : Ris (addTx h v Z).2.2.place.toList := by
  unfold addTx
  refine tailTx_ris ?_
  have q := layNew_ris Z.2.2 Z.1 h v r
  split <;> exact q
theorem addTx_led {h : Int} {v : Value} {Z : SD} : (addTx h v Z).2.2.led = Z.2.2.led := by
  unfold addTx
  rw [tailTx_led]
  have q := layNew_led Z.2.2 Z.1 h v
  split <;> exact q
theorem setX_add {k : Str} {u : Tok} {Q : Bool → Shared → Prop} (R : SetX P w s.heap a l) (room : l.length + 1 < scanBound)
    (hQ : ∀ b h', Heap.SameBut a s.heap h' → SetX P w h' a (insT l k) → Q b { s with heap := h' }) : wpAny (model P w) A (setAddHashed a (.str k u) (hashStr w k)) Q E s := by
  obtain ⟨Z, ho, T, nd, hr, hl⟩ := R
  by_cases hk : k ∈ l
  · have e : insT l k = l := if_pos hk
    obtain ⟨es, ep, t⟩ := Z
    have hd : (sObj "set" (es, ep, t)).data = .set es ep t := rfl
    have hf : t.fits es.size = true := T.fit
    have hel : ElemsOf (strKind P w) es.toList := T.el
    have hsz : es.size = l.length := T.sz
    have hb0 : es.size < scanBound := by omega
    have hkey : (strKind P w).is k (.str k u) = true := is_str k u
    obtain ⟨x, hx, hxk⟩ := (T.mem k).mp hk
    unfold setAddHashed setAddHashedIn
    refine wpAny_holding (wpAny_bind (wpAny_setState_of ho hd hf ?_))
    dsimp only
    rw [byScan_of rfl hb0 hel]
    simp only [↓reduceIte]
    unfold setAddByScan
    refine wpAny_bind ?_
    refine wpAny_bind (wpAny_rule ?_)
    refine wpAny_bind (wpAny_setScan_of (knd := strKind P w) (k := k) hkey ho hd hf hel ?_)
    cases hr2 : List.findIdx? (fun e => (strKind P w).is k e.2) es.toList with
    | none =>
      have := List.findIdx?_eq_none_iff.mp hr2 x hx
      rw [hxk] at this
      cases this
    | some j =>
      dsimp only
      refine wpAny_pure (wpAny_pure ?_)
      have q := hQ false s.heap (Heap.SameBut.refl a s.heap) (by rw [e]; exact ⟨(es, ep, t), ho, T, nd, hr, hl⟩)
      exact q
  · have e : insT l k = k :: l := if_neg hk
    refine add_x ho T hk room ?_
    refine hQ true _ (Heap.SameBut.update s.heap a _) ?_
    rw [e]
    exact ⟨_, get_upd _ ho rfl, add_ok u T, List.nodup_cons.mpr ⟨hk, nd⟩, addTx_ris hr, hl.imp id fun z => by rw [addTx_led]; exact z⟩
theorem setX_fresh {h : Heap} (ho : h.get? a = some { cls := .type "set", dict := none, data := .set #[] 0 (.fresh 0 0 (!w.params.followText "set-order")) }) : SetX P w h a [] :=
  ⟨(#[], 0, _), ho, TxOk.nil rfl, List.nodup_nil, List.Pairwise.nil, by
    show _ ∨ (!w.params.followText "set-order") = true
    cases w.params.followText "set-order"
    · exact .inr rfl
    · exact .inl rfl⟩
theorem setX_update {I : Addr} {fp wr : List Addr} {G : Array GenState → Array GenState → Prop} {n : Nat} {Pv : Nat → Value → Prop} {St : Nat → Shared → Prop} {R : Result → Shared → Prop}
    (W : WalksS P w A.in1 I fp wr G n Pv St) (S : Addr) (hSf : S ∉ fp) (ts : List Str) (hn : n = ts.length) (hb : ts.length + 1 < scanBound) (hval : ∀ i v, Pv i v → ∃ k t, ts[i]? = some k ∧ v = .str k t) :
    ∀ (k i : Nat) (s : Shared), n - i = k → i ≤ n → St i s → SetX P w s.heap S (addT [] (ts.take i)) →
      (∀ s', Moved (S :: wr) G s s' → SetX P w s'.heap S (addT [] ts) → R (.ok (.ret .none)) s') →
      codeAny (model P w) A (.builtin "set.update.loop" ⟨[.ref S, .ref I], []⟩) R s := by
  have hSw : S ∉ wr := fun h => hSf (W.sub _ h)
  have hsub : ∀ b ∈ wr, b ∈ S :: wr := fun b hb => List.mem_cons_of_mem _ hb
  intro k
  induction k with
  | zero =>
    intro i s hk' hi hst hS hR
    have hin : i = n := by omega
    subst hin
    refine codeAny_builtin F.entry_set_update_loop ?_
    rw [Around.under_plainId F.plain_set_update_loop _]
    show wpAny _ A.in1 (pyNext (.ref I) >>= _) _ _ s
    refine wpAny_bind (W.done s _ _ hst fun s' hm => ?_)
    show wpAny _ A.in1 (ret Value.none) _ _ s'
    rw [List.take_of_length_le (by omega)] at hS
    exact wpAny_pure (hR s' (hm.mono hsub) (hS.at fun o e => hm.heap S o hSw e))
  | succ k ih =>
    intro i s hk' hi hst hS hR
    have hlt : i < n := by omega
    refine codeAny_builtin F.entry_set_update_loop ?_
    rw [Around.under_plainId F.plain_set_update_loop _]
    show wpAny _ A.in1 (pyNext (.ref I) >>= _) _ _ s
    refine wpAny_bind (W.item i s _ _ hlt hst fun v s' hP hst' hm => ?_)
    obtain ⟨z, t, hz, rfl⟩ := hval i v hP
    have hS' := hS.at fun o e => hm.heap S o hSw e
    show wpAny _ A.in1 (holding [Value.str z t] (setAdd S (.str z t)) >>= _) _ _ s'
    refine wpAny_bind (wpAny_holding ?_)
    unfold setAdd
    refine wpAny_holding ?_
    refine wpAny_bind ((strKind P w).pyHash (k := z) (is_str _ _) ?_)
    have hlen := addT_len (ts.take i) []
    have htl : (ts.take i).length ≤ i := List.length_take_le _ _
    refine setX_add (s := { s' with toks := s'.toks + 1 }) hS' (by simp only [List.length_nil] at hlen; omega) fun b h' hsb hS2 => ?_
    have hS3 : SetX P w h' S (addT [] (ts.take (i + 1))) := by
      rw [List.take_add_one, hz]
      show SetX P w h' S (addT [] (ts.take i ++ [z]))
      rw [addT_snoc]
      exact hS2
    refine wpAny_pure ⟨plainId_quiet F.plain_set_update_loop _, ih (i + 1) _ (by omega) hlt (W.frame _ s' _ _ hst' (Nat.le_succ _) fun b hb o e => ?_) hS3 fun s'' hm'' hS'' => ?_⟩
    · rw [hsb.2 b (fun h : b = S => hSf (by rw [← h]; exact hb))]; exact e
    · refine hR s'' (Moved.trans W.gtrans ((hm.mono hsub).then_heap (Nat.le_succ _) fun b o hb e => ?_) hm'') hS''
      rw [hsb.2 b (fun h : b = S => hb (by rw [h]; exact List.mem_cons_self))]; exact e
end
/-- the empty set that set(..) lays -/
def set0 (w : World) : Obj := { cls := .type "set", dict := none, data := .set #[] 0 (.fresh 0 0 (!w.params.followText "set-order")) }
section
variable {P : Program} {w : World} {A : Around} {E : Value → Shared → Prop} {s : Shared}
theorem call_setX {l : Addr} {items : Array Value} (ts : List Str) {Q : Value → Shared → Prop} (hh : A.handled = none) (hl : s.heap.IsList l items) (hisz : items.size = ts.length) (hval : ∀ (i : Nat) (v : Value), items[i]? = some v → ∃ k t, ts[i]? = some k ∧ v = .str k t) (hb : ts.length + 1 < scanBound)
    (h : ∀ (h' : Heap) (tk : Nat), SetX P w h' s.heap.objs.size (addT [] ts) → (∀ b o, s.heap.get? b = some o → h'.get? b = some o) → Q (.ref s.heap.objs.size) { s with heap := h', toks := tk }) :
    wpAny (model P w) A (call (.type "set") [.ref l]) Q E s := by
  obtain ⟨c, tl, hmro⟩ := F.called_set.mro
  have hmade := F.called_set.made
  have hsub := F.called_set.sub
  refine wpAny_call (codeAny_of_tree ?_)
  show wpAny _ _ (callAny (.type "set") _) _ _ _
  refine wpAny_pure ⟨Code.quiet_builtin _ (by decide +kernel), codeAny_builtin F.entry_type_call ?_⟩
  rw [Around.under_plain (weight_type_call_type "set" [.ref l] []) rfl]
  have h1 := F.called_set.notType
  have h2 := F.called_set.canCreate
  have hct := F.typeCall_set_1 (.ref l)
  repeat (any_goals (first | assumption | wp_step))
  refine codeAny_mono (code_set_led1 (.ref l) (E := E) (Q₁ := fun obj s₁ => obj = .ref s.heap.objs.size ∧ s₁ = { s with heap := s.heap.push (set0 w) }) ⟨rfl, rfl⟩) fun r s₁ hr => ?_
  cases r with
  | error e => exact hr
  | ok fl =>
    cases fl with
    | ret obj =>
      obtain ⟨rfl, rfl⟩ := hr
      have hS : (s.heap.push (set0 w)).get? s.heap.objs.size = some (set0 w) := Heap.get?_push_size _ rfl
      have hT : Shared.TypeIs { s with heap := s.heap.push (set0 w) } (.ref s.heap.objs.size) "set" := ⟨_, hS, rfl⟩
      have hli := F.called_set.init.lookup
      have hbi := F.called_set.init.bind (.ref s.heap.objs.size)
      repeat (any_goals (first | assumption | wp_step))
      refine codeAny_mono (codeAny_call_builtin (R := wants (fun r s₂ => r = .none ∧ ∃ h' tk, s₂ = { s with heap := h', toks := tk } ∧ SetX P w h' s.heap.objs.size (addT [] ts) ∧ (∀ b o, s.heap.get? b = some o → h'.get? b = some o)) E) F.called_set.init.plain F.entry_set_init (check_set_init_1 hT ?_)) fun r₂ s₂ hr₂ => ?_
      · obtain ⟨ol, hol, hcl, nl, hdl⟩ := hl
        obtain ⟨ocls, odict, odata, oslots⟩ := ol
        simp only at hcl hdl
        subst hcl; subst hdl
        have hol' : (s.heap.push (set0 w)).get? l = some { cls := .type "list", dict := odict, data := .seq items nl, slots := oslots } := Heap.get?_push_of_some _ hol
        have hsls := F.sub_list_set
        have hslf := F.sub_list_frozenset
        have hne : (Value.type "list" == Value.type "dict") = false := by decide
        have hl1 : (s.heap.push (set0 w)).IsList l items := ⟨_, hol', rfl, nl, rfl⟩
        unfold Builtin.«set.__init__» noKeywords Builtin.Frozenset.updateFrom
        generalize hPI : pyIter = PI
        wp_walk
        subst hPI
        refine wpAny_pyIter_list hl1 ?_
        refine wpAny_bind (wpAny_runValue ?_)
        have hlS : l < s.heap.objs.size := Heap.lt_size hol
        have hh3 : A.in1.in1.in1.handled = none := by simp [hh]
        have hneI : l ≠ (s.heap.push (set0 w)).objs.size := by
          rw [Heap.size_push]; exact Nat.ne_of_lt (Nat.lt_succ_of_lt hlS)
        have hSf : s.heap.objs.size ∉ [(s.heap.push (set0 w)).objs.size, l] := by
          rw [Heap.size_push]; simp only [List.mem_cons, List.mem_singleton, List.not_mem_nil, or_false, not_or]
          exact ⟨Nat.ne_of_lt (Nat.lt_succ_self _), Nat.ne_of_gt hlS⟩
        refine setX_update ((Walks.list hh3 _ l hneI items).toS) s.heap.objs.size
          hSf ts hisz hb hval (items.size - 0) 0 _ (by omega) (Nat.zero_le _)
          ⟨⟨_, Heap.get?_push_size _ rfl, rfl, rfl⟩, (hl1.push _)⟩ ?hS0 ?hR
        case hS0 => exact setX_fresh (Heap.get?_push_of_some _ hS)
        case hR =>
          intro s' hm hS'
          obtain ⟨h', g2, d', tk', os'⟩ := s'
          have eg : g2 = s.gens := hm.gens
          have ed : d' = s.drawn := hm.drawn
          have eo : os' = s.os := hm.os
          subst eg; subst ed; subst eo
          show wpAny _ _ _ _ _ _
          refine wpAny_pure ?_
          show wpAny _ _ (ret Value.none) _ _ _
          refine wpAny_pure ⟨rfl, h', tk', rfl, hS', fun b o e => ?_⟩
          have hb0 : b < s.heap.objs.size := Heap.lt_size e
          have hb1 : b ≠ s.heap.objs.size := Nat.ne_of_lt hb0
          have hb2 : b ≠ (s.heap.push (set0 w)).objs.size := by
            rw [Heap.size_push]; exact Nat.ne_of_lt (Nat.lt_succ_of_lt hb0)
          exact hm.heap b o (by simp only [List.mem_cons, List.mem_singleton, List.not_mem_nil, or_false, not_or]; exact ⟨hb1, hb2⟩) (Heap.get?_push_of_some _ (Heap.get?_push_of_some _ e))
      · cases r₂ with
        | error e => exact hr₂
        | ok fl₂ =>
          cases fl₂ with
          | ret r =>
            obtain ⟨rfl, h', tk, rfl, hS', hk'⟩ := hr₂
            repeat (any_goals (first | assumption | wp_step))
            exact h _ _ hS' hk'
          | _ => exact hr₂.elim
    | _ => exact hr.elim
end
end DL

/-! Data layer, part 27: sorted of a set of texts; sorted of lists. -/
namespace DL
open PySem L2 PyProof.Rows PySem.Froz
/-- texts in order -/
def leT (a b : Str) : Bool := decide (a.cps.toList ≤ b.cps.toList)
theorem leT_trans (a b c : Str) (h1 : leT a b = true) (h2 : leT b c = true) : leT a c = true :=
  decide_eq_true (List.le_trans (of_decide_eq_true h1) (of_decide_eq_true h2))
theorem leT_total (a b : Str) : (leT a b || leT b a) = true := by
  rw [Bool.or_eq_true]
  rcases List.le_total a.cps.toList b.cps.toList with h | h
  · exact .inl (decide_eq_true h)
  · exact .inr (decide_eq_true h)
theorem leT_anti {a b : Str} (h1 : leT a b = true) (h2 : leT b a = true) : a = b :=
  PySem.W.str_of_cps (List.le_antisymm (of_decide_eq_true h1) (of_decide_eq_true h2))
/-- sorted(set(ts)) -/
def srtT (ts : List Str) : List Str := (addT [] ts).mergeSort leT
theorem srtT_mem (ts : List Str) (k : Str) : k ∈ srtT ts ↔ k ∈ ts := by
  unfold srtT
  rw [List.mem_mergeSort, addT_mem]
  simp
theorem srtT_nodup (ts : List Str) : (srtT ts).Nodup := (List.mergeSort_perm _ _).nodup_iff.mpr (addT_nodup ts List.nodup_nil)
theorem srtT_le (ts : List Str) : (srtT ts).Pairwise fun a b => leT a b = true := List.pairwise_mergeSort leT_trans leT_total _
theorem srtT_of {zs l : List Str} (p : zs.Perm l) (h : zs.Pairwise fun a b => leT a b = true) : zs = l.mergeSort leT :=
  List.Perm.eq_of_pairwise (le := fun a b => leT a b = true) (fun a b _ _ h1 h2 => leT_anti h1 h2) h (List.pairwise_mergeSort leT_trans leT_total _) (p.trans (List.mergeSort_perm _ _).symm)
/-- what has the same members, ascending, each once, is it -/
theorem srtT_uniq {zs ts : List Str} (nd : zs.Nodup) (h : zs.Pairwise fun a b => leT a b = true) (m : ∀ k, k ∈ zs ↔ k ∈ ts) : zs = srtT ts := by
  refine srtT_of ?_ h
  refine (List.perm_ext_iff_of_nodup nd (addT_nodup ts List.nodup_nil)).mpr fun k => ?_
  rw [m, addT_mem]
  simp
def tvS : Value → Str
  | .str x _ => x
  | _ => ""
theorem vals_tv : ∀ (vs : List Value), (∀ v ∈ vs, ∃ k t, v = Value.str k t) → PySem.W.EachIs (fun v b => ∃ t, v = Value.str b t) vs (vs.map tvS)
  | [], _ => .nil
  | v :: vs, h => by
    obtain ⟨k, t, rfl⟩ := h v List.mem_cons_self
    exact .cons ⟨t, rfl⟩ (vals_tv vs fun u hu => h u (List.mem_cons_of_mem _ hu))
theorem perm_of_sub : ∀ {l m : List Str}, l.Nodup → m.length = l.length → (∀ k, k ∈ l → k ∈ m) → m.Perm l
  | [], m, _, h, _ => by
    have : m = [] := List.eq_nil_of_length_eq_zero (by simpa using h)
    rw [this]
  | x :: l, m, nd, h, sub => by
    obtain ⟨h1, h2⟩ := List.nodup_cons.mp nd
    have hx := sub x List.mem_cons_self
    have p := List.perm_cons_erase hx
    have hl : (m.erase x).length = l.length := by
      have := p.length_eq
      rw [List.length_cons] at this h
      omega
    refine p.trans ((perm_of_sub h2 hl fun k hk => ?_).cons x)
    have hne : k ≠ x := fun e => h1 (e ▸ hk)
    exact (List.mem_erase_of_ne hne).mpr (sub k (List.mem_cons_of_mem _ hk))
section
variable {P : Program} {w : World} {A : Around} {E : Value → Shared → Prop} {s : Shared}
theorem sortedX {a : Addr} {l : List Str} {Q : Value → Shared → Prop} (R : SetX P w s.heap a l) (hh : A.handled = none) (hlen : l.length < scanBound) (hu : A.units + 100 < cLine)
    (hQ : ∀ s' p (out : List Value) (c : Nat), (∀ b o, s.heap.get? b = some o → s'.heap.get? b = some o) → s'.gens = s.gens → s'.os = s.os → s.heap.objs.size ≤ p →
      s'.heap.get? p = some (seqObj "list" out.toArray c) → PySem.W.EachIs (fun v b => ∃ t, v = Value.str b t) out (l.mergeSort leT) → Q (.ref p) s') :
    wpAny (model P w) A (call (.builtin "sorted") [.ref a]) Q E s := by
  obtain ⟨⟨es, ep, t⟩, ho, T, nd, hr, hl⟩ := R
  have hsz : es.size = l.length := T.sz
  refine Calls.call_function_entry kind_sorted plain_sorted entry_sorted (args_sorted1 _) ?_
  unfold Builtin.«sorted»
  refine wpAny_bind (m := checkCount "sorted" 1 1 _) (wpAny_pure ?_)
  refine wpAny_bind (collect_set (A := A.in1) hh ⟨_, ho, rfl, rfl⟩ T.fit (by rw [hsz]; exact hlen) hr hl fun s1 vs k1 hz g1 o1 pm => ?_)
  have hst : ∀ v ∈ vs, ∃ k t, v = Value.str k t := fun v hv => by
    obtain ⟨e, he, q⟩ := List.mem_map.mp (pm.mem_iff.mp hv)
    obtain ⟨⟨k, hk, _⟩, _⟩ := T.el e he
    obtain ⟨u, hu⟩ := Value.isStrOf_shape hk
    exact ⟨k, u, q.symm.trans hu⟩
  have hvl : vs.length = l.length := by rw [pm.length_eq, List.length_map, Array.length_toList]; exact hsz
  have hmem : ∀ k, k ∈ l → k ∈ vs.map tvS := fun k hk => by
    obtain ⟨e, he, q⟩ := (T.mem k).mp hk
    obtain ⟨u, hu⟩ := Value.isStrOf_shape q
    exact List.mem_map.mpr ⟨e.2, pm.mem_iff.mpr (List.mem_map.mpr ⟨e, he, rfl⟩), by rw [hu]; rfl⟩
  have hperm : (vs.map tvS).Perm l := perm_of_sub nd (by rw [List.length_map]; exact hvl) hmem
  have hvz : vs.length ≤ sizeLine := by rw [hvl]; exact fits_of_scanBound hlen
  refine wpAny_bind (wpAny_newList ?_ hvz)
  have hoL : (s1.heap.push (seqObj "list" vs.toArray 0)).get? s1.heap.objs.size = some (seqObj "list" vs.toArray 0) := Heap.get?_push_size _ rfl
  have eV := vals_tv vs hst
  refine wpAny_bind (wpAny_holding (PySem.W.list_sort_data (enc := fun b : Str => PyData.str b) hoL eV (eV.mono fun v b ⟨t, q⟩ => ⟨[], by rw [q]; exact Reads.str _ _, by simp⟩)
    (PySem.W.AllAlike.of fun b b' => by simp [PySem.W.alike]) (PySem.W.Sortable.others fun b => ⟨nofun, fun xs => nofun⟩) (by rw [List.length_map]; exact hvz) (fun b _ => ?_) fun out ho2 eo => ?_))
  · have e1 : A.in1.units = A.units ∨ True := .inr trivial
    have : (PyData.str b).depth = 0 := rfl
    rw [this]
    have hin : A.in1.units ≤ A.units + 1 := by
      first | exact Nat.le_refl _ | exact Nat.le_succ _
    omega
  · obtain ⟨c, hc⟩ := sortedHeap_at (vs := vs) (out := out.toArray) hoL
    refine wpAny_pure ⟨_, rfl, hQ _ s1.heap.objs.size out c (fun b u e => ?_) g1 o1 hz hc ?_⟩
    · have q := k1 b u e
      have hlt := Heap.lt_size q
      show (sortedHeap (s1.heap.push (seqObj "list" vs.toArray 0)) s1.heap.objs.size vs out.toArray).get? b = some u
      rw [sortedHeap_old (Nat.ne_of_lt hlt) (by rw [size_push']; exact Nat.lt_succ_of_lt hlt)]
      exact Heap.get?_push_of_some _ q
    · have e1 : (vs.map tvS).mergeSort (PySem.W.dataLe false fun b : Str => PyData.str b) = l.mergeSort leT := by
        have e2 : (PySem.W.dataLe false fun b : Str => PyData.str b) = leT := PySem.W.dataLe_str (fun b : Str => b)
        rw [e2]
        exact srtT_of ((List.mergeSort_perm _ _).trans hperm) (List.pairwise_mergeSort leT_trans leT_total _)
      rw [e1] at eo
      exact eo
end
end DL

/-! Data layer, part 28: sorted(set(e)) of texts, sorted(e) of alike data. -/
namespace DL
open PySem L2 PyProof.Rows PySem.Froz
def SetXO (P : Program) (w : World) (a : Addr) (l : List Str) : HO := .ext fun h => SetX P w h a l
theorem setXO_new {w : World} {P : Program} {H : Hp} {h : Heap} {a : Addr} {l : List Str} (R : SetX P w h a l) : ObjOk P w H h a (SetXO P w a l) := by
  exact ⟨R, R.ob, fun h1 h2 p k => SetX.at p k⟩
theorem Vals.strs_at {its : List Value} : ∀ {ts : List Str}, Vals (ts.map V.str) its → ∀ (i : Nat) (v : Value), its[i]? = some v → ∃ k t, ts[i]? = some k ∧ v = .str k t := by
  intro ts
  induction ts generalizing its with
  | nil => intro h i v e; cases h; simp at e
  | cons x ts ih =>
    intro h i v e
    cases h with
    | cons r t =>
      obtain ⟨tk, rfl⟩ := r
      cases i with
      | zero => exact ⟨x, tk, rfl, (Option.some.inj e).symm⟩
      | succ i => exact ih t i v e
theorem each_vals : ∀ {out : List Value} {zs : List Str}, PySem.W.EachIs (fun v b => ∃ t, v = Value.str b t) out zs → Vals (zs.map V.str) out
  | _, _, .nil => .nil
  | _, _, .cons h t => .cons h (each_vals t)
section
variable {X : Cx} {g : G} {e : Expr} {pos : Pos}
def rSetT (X : Cx) : List V → Hp → VK → Prop := fun vs H Q => ∃ (a : Addr) (ts : List Str), vs = [V.ref a] ∧ SqL X.K H a (ts.map V.str) ∧ ts.length ≤ 4000 ∧ ∀ b, H b = none → Q (.ref b) (L2.upd H b (SetXO X.prog X.w b (addT [] ts)))
theorem cr_setT (hc : X.calm = true) : CallR X (.type "set") (rSetT X) := by
  intro pins s σ H vs us Q I r h
  obtain ⟨a, ts, rfl, hs, hl, q⟩ := h
  obtain ⟨its, rv, hli, hz⟩ := I.list hs
  rw [Vals.ref1 r]
  have hlen : its.length = ts.length := by
    have := rv.length
    rw [List.length_map] at this
    exact this.symm
  refine call_setX ts (I.ok.hd hc) hli.isList (by rw [List.size_toArray]; exact hlen) (fun i v hv => Vals.strs_at rv i v (by simpa using hv)) (by unfold scanBound; omega) fun h' tk R k => ?_
  exact ⟨.ref _, _, I.laid (t' := tk) k (Nat.le_refl _) (setXO_new R), rfl, q _ (I.hok.fresh (Nat.le_refl _))⟩
def rSrtX (X : Cx) : List V → Hp → VK → Prop := fun vs H Q => ∃ (a : Addr) (l : List Str), vs = [V.ref a] ∧ H a = some (SetXO X.prog X.w a l) ∧ l.length ≤ 4000 ∧ ∀ p, H p = none → Q (.ref p) (L2.upd H p (.lst ((l.mergeSort leT).map V.str)))
theorem cr_srtX {k : Nat} (hr : Room k X.A) : CallR X (.builtin "sorted") (rSrtX X) := by
  intro pins s σ H vs us Q I r h
  obtain ⟨a, l, rfl, ha, hl, q⟩ := h
  have R : SetX X.prog X.w s.heap a l := (I.hok a _ ha).1
  rw [Vals.ref1 r]
  refine sortedX R hr.hd (by unfold scanBound; omega) (by have := hr.un; omega) fun s' p out c kk hg ho hp hpo eo => ?_
  have hv := each_vals eo
  have hz : ((l.mergeSort leT).map V.str).length ≤ sizeLine := by
    rw [List.length_map, List.length_mergeSort]
    exact fits_of_scanBound (by unfold scanBound; omega)
  have new : ObjOk X.prog X.w (L2.upd H p (.lst ((l.mergeSort leT).map V.str))) s'.heap p (.lst ((l.mergeSort leT).map V.str)) := ⟨hz, out, c, hv, hpo⟩
  exact ⟨.ref p, _, I.call' (ch := []) ho (Un.laid kk hp (I.hok.fresh hp)) (I.hok.laid kk hp new) (by rw [hg]; exact I.bare) (fun _ z => nomatch z), rfl, q p (I.hok.fresh hp)⟩
theorem tBs_mono {K : PySem.W.Frag} {ps : List Opd} {s : L2.St} {H : Hp} {Q Q' : List V → Hp → Prop} (h : tBs K g ps s H Q) (i : ∀ vs H, Q vs H → Q' vs H) : tBs K g ps s H Q' := by
  obtain ⟨F, r, R, h⟩ := h
  exact ⟨F, r, R, post_mono h fun zs r1 q F1 H1 vs sm R1 hv => i _ _ (q F1 H1 vs sm R1 hv)⟩
def semSrtSet : List D → Option (List D)
  | [.lst ds] => (strsOf ds).bind fun ts => if ts.length ≤ 4000 then some ((srtT ts).map D.str) else none
  | _ => none
theorem semSrtSet_of (ts : List Str) (h : ts.length ≤ 4000) : semSrtSet [.lst (ts.map D.str)] = some ((srtT ts).map D.str) := by
  have e : strsOf (ts.map D.str) = some ts := by
    induction ts with
    | nil => rfl
    | cons t ts ih =>
      show (strsOf (ts.map D.str)).map _ = _
      rw [ih (by simp at h; omega)]
      rfl
  unfold semSrtSet
  simp only [e, Option.bind_some, if_pos h]
theorem do_srtSet {k : Nat} {ps : List Opd} {p1 p2 p3 : Pos} (hc : X.calm = true) (hr : Room k X.A) (hm1 : X.mg "sorted" = none) (hm2 : X.mg "set" = none) (ha : DBs X g [e] ps) (hg1 : Gl X "sorted" := by rfl) (hg2 : Gl X "set" := by rfl)
    (he : starEach [e] X.env = (false, eval e X.env) :: starEach [] X.env := by rfl) (he2 : starEach [.Call (.Name "set" p2) [e] [] p3] X.env = (false, eval (.Call (.Name "set" p2) [e] [] p3) X.env) :: starEach [] X.env := by rfl) :
    DO X g (.Call (.Name "sorted" p1) [.Call (.Name "set" p2) [e] [] p3] [] pos) (opNO ps semSrtSet) := by
  refine PE.imp (pe_callB (cr_srtX hr) hg1 hm1 (by decide +kernel) (pa_cons (pe_callTy (cr_setT hc) hg2 hm2 (by decide +kernel) ha (he := he)) pa_nil he2) (he := he2)) fun s H Q h => ?_
  refine tBs_mono (g := g) (tO_opN h) fun xs H1 h => ?_
  obtain ⟨F, s0, r, ds, ys, R, hx, e, q⟩ := h
  unfold semSrtSet at e
  split at e
  · next ds0 =>
    obtain ⟨ts, e1, e2⟩ := Option.bind_eq_some_iff.mp e
    split at e2
    · next hl =>
      cases e2
      obtain ⟨v, rfl, h1⟩ := hx.one
      obtain ⟨a, vs, rfl, h2, h3⟩ := h1.lst R.sub
      have ev := strs_vs h3 e1
      subst ev
      refine ⟨a, ts, rfl, .of h2, hl, fun b nb => ?_⟩
      show rSrtX X [V.ref b] _ Q
      have hal : (addT [] ts).length ≤ 4000 := by
        have := addT_len ts []
        simp at this
        omega
      refine ⟨b, addT [] ts, rfl, upd_same, hal, fun p np => ?_⟩
      have R2 : Rel X.K g F (L2.upd H1 b (SetXO X.prog X.w b (addT [] ts))) s0 r := R.laid nb
      exact PO.new R2 (RDs.strs _) q p np
    · cases e2
  · cases e
/-! sorted(e) -/
def alikeB (ds : List D) : Bool := ds.all fun d => ds.all fun d' => PySem.W.alike d.py d'.py
def isTupP : D → Bool
  | .tup (_ :: _) => true
  | _ => false
def noTup : D → Bool
  | .non => false
  | .tup _ => false
  | .obj _ _ => false
  | _ => true
def srtOk (ds : List D) : Bool := plAll ds && decide (dpAll ds ≤ 40) && alikeB ds && (ds.all isTupP || ds.all noTup)
def semSorted : List D → Option (List D)
  | [.lst ds] => if srtOk ds = true then some (ds.mergeSort (PySem.W.dataLe false D.py)) else none
  | _ => none
theorem each_rd {K : PySem.W.Frag} {F : Hp} : ∀ {out : List Value} {ds : List D}, PySem.W.EachIs (fun v d => ∃ x, RelV x v ∧ RD K F x d) out ds → ∃ xs, Vals xs out ∧ RDs K F xs ds
  | _, _, .nil => ⟨[], .nil, .nil⟩
  | _, _, .cons h t => by
    obtain ⟨x, h1, h2⟩ := h
    obtain ⟨xs, h3, h4⟩ := each_rd t
    exact ⟨x :: xs, .cons h1 h3, .cons h2 h4⟩
theorem rd_each {K : PySem.W.Frag} {F : Hp} {R : Value → D → Prop} : ∀ {ds : List D} {xs : List V} {us : List Value}, RDs K F xs ds → Vals xs us → (∀ x u d, d ∈ ds → RD K F x d → RelV x u → R u d) → PySem.W.EachIs R us ds
  | [], _, _, h, hv, _ => by cases h; cases hv; exact .nil
  | d :: ds, _, _, h, hv, k => by
    cases h with
    | cons h1 h2 =>
      cases hv with
      | cons r t => exact .cons (k _ _ d List.mem_cons_self h1 r) (rd_each h2 t fun x u d' hd => k x u d' (List.mem_cons_of_mem _ hd))
theorem plAll_mem : ∀ {ds : List D}, plAll ds = true → ∀ d ∈ ds, d.pl = true
  | d :: ds, h, x, hx => by
    have h : (d.pl && plAll ds) = true := h
    obtain ⟨h1, h2⟩ := Bool.and_eq_true_iff.mp h
    rcases List.mem_cons.mp hx with rfl | hx
    · exact h1
    · exact plAll_mem h2 x hx
theorem dpAll_mem : ∀ {ds : List D}, ∀ d ∈ ds, d.dp ≤ dpAll ds
  | d :: ds, x, hx => by
    show x.dp ≤ max d.dp (dpAll ds)
    rcases List.mem_cons.mp hx with rfl | hx
    · omega
    · have := dpAll_mem x hx
      omega
theorem co_sorted {k : Nat} (hr : Room k X.A) : CallR X (.builtin "sorted") (rON X.K g semSorted) := by
  intro pins s sg H xs us Q I rv h
  obtain ⟨F, s0, r, ds, d, R, hx, e, q⟩ := h
  unfold semSorted at e
  split at e
  · next ds0 =>
    split at e
    · next hok =>
      cases e
      unfold srtOk at hok
      simp only [Bool.and_eq_true] at hok
      obtain ⟨⟨⟨hp, hd⟩, hal⟩, hso⟩ := hok
      have hd := of_decide_eq_true hd
      obtain ⟨v, rfl, h1⟩ := hx.one
      obtain ⟨a, vs, rfl, h2, h3⟩ := h1.lst R.sub
      rw [Vals.ref1 rv]
      obtain ⟨its, rvs, hli, hz⟩ := I.list (show SqL X.K H a vs from .of h2)
      have e1 : PySem.W.EachIs (fun v d => ∃ x, RelV x v ∧ RD X.K F x d) its ds0 := rd_each h3 rvs fun x u d _ h r => ⟨x, r, h⟩
      have e2 : PySem.W.EachIs (fun v b => ∃ as, Reads s.heap v (D.py b) as) its ds0 := rd_each h3 rvs fun x u d hm h r => RD.reads I d x u (plAll_mem hp d hm) (h.mono R.sub) r
      have hun := hr.un
      refine PySem.W.sorted_data hli.isList e1 e2 ?_ ?_ (by rw [← RDs.length h3]; exact hz) (fun b hb => ?_) fun out ho eo => ?_
      · intro d1 h1 d2 h2
        obtain ⟨b1, m1, rfl⟩ := List.mem_map.mp h1
        obtain ⟨b2, m2, rfl⟩ := List.mem_map.mp h2
        exact List.all_eq_true.mp (List.all_eq_true.mp hal b1 m1) b2 m2
      · rcases Bool.or_eq_true_iff.mp hso with z | z
        · refine .inl fun d hd => ?_
          obtain ⟨b, m, rfl⟩ := List.mem_map.mp hd
          have := List.all_eq_true.mp z b m
          unfold isTupP at this
          split at this
          · exact ⟨_, _, rfl⟩
          · cases this
        · refine .inr fun d hd => ?_
          obtain ⟨b, m, rfl⟩ := List.mem_map.mp hd
          have := List.all_eq_true.mp z b m
          cases b <;> first | (simp [noTup] at this; done) | (simp [D.py]; done)
      · have := py_depth b (plAll_mem hp b hb)
        have := dpAll_mem b hb
        omega
      · obtain ⟨xs, v1, v2⟩ := each_rd eo
        obtain ⟨ep, he'⟩ := PyProof.Rows.sortedAll_at s.heap its out.toArray
        have hlen : xs.length ≤ sizeLine := by
          rw [RDs.length v2, List.length_mergeSort, ← RDs.length h3]; exact hz
        exact ⟨.ref _, L2.upd H (s.heap.objs.size + 1) (.lst xs), I.laid (t' := s.toks) (fun _ _ => PyProof.Rows.sortedAll_old) (Nat.le_succ _) ⟨hlen, out, ep, v1, he'⟩, rfl, PO.new R v2 q _ (I.hok.fresh (Nat.le_succ _))⟩
    · cases e
  · cases e
end
end DL

/-! Data layer, part 29: sum(lists, []). -/
namespace DL
open PySem L2 PyProof.Rows
/-- a list object -/
abbrev lob (vs : Array Value) (c : Nat) : Obj := { cls := .type "list", dict := none, data := .seq vs c, slots := #[] }
def preL (cat : Nat → List Value) (i : Nat) : List Value := ((List.range i).map cat).flatten
theorem preL_succ (cat : Nat → List Value) (i : Nat) : preL cat (i + 1) = preL cat i ++ cat i := by
  unfold preL
  rw [List.range_succ, List.map_append, List.flatten_append]
  simp
theorem preL_le (cat : Nat → List Value) {i n : Nat} (h : i ≤ n) : (preL cat i).length ≤ (preL cat n).length := by
  induction n with
  | zero =>
    have : i = 0 := by omega
    subst this
    exact Nat.le_refl _
  | succ n ih =>
    by_cases e : i = n + 1
    · subst e; exact Nat.le_refl _
    · have := ih (by omega)
      rw [preL_succ, List.length_append]
      omega
section
variable {P : Program} {w : World} {A : Around} {R : Result → Shared → Prop} {I : Addr} {fp wr : List Addr} {G : Array GenState → Array GenState → Prop} {n : Nat} {Pv : Nat → Value → Prop} {St : Nat → Shared → Prop}
theorem sum_loopL (W : WalksS P w A.in1 I fp wr G n Pv St) (h0 : Heap) (cat : Nat → List Value) (hval : ∀ i v, Pv i v → ∃ a m, v = .ref a ∧ h0.get? a = some (lob (cat i).toArray m)) (S : Addr) (hSf : ∀ b ∈ fp, b < S) (hS0 : ∀ b o, h0.get? b = some o → b ∉ wr ∧ b ≠ S) (hz : (preL cat n).length ≤ sizeLine) :
    ∀ (k i : Nat) (s : Shared) (T : Addr) (c m : Nat), n - i = k → i ≤ n → St i s → (∀ b o, h0.get? b = some o → s.heap.get? b = some o) → s.heap.get? S = some (lob #[.ref T] c) → s.heap.get? T = some (lob (preL cat i).toArray m) → T ≠ S → T ∉ wr →
      (∀ s' T' m', Moved (S :: wr) G s s' → s'.heap.get? T' = some (lob (preL cat n).toArray m') → ((i = n ∧ T' = T) ∨ S < T') → R (.ok (.ret (.ref T'))) s') →
      codeAny (model P w) A (.builtin "sum.loop" ⟨[.ref I, .ref S, rawInt 2, rawInt 0], []⟩) R s := by
  have hSfp : S ∉ fp := fun h => Nat.lt_irrefl _ (hSf S h)
  have hSw : S ∉ wr := fun h => hSfp (W.sub _ h)
  have hsub : ∀ b ∈ wr, b ∈ S :: wr := fun b hb => List.mem_cons_of_mem _ hb
  intro k
  induction k with
  | zero =>
    intro i s T c m hk hi hst h0k hS hT hne hTw hR
    have hin : i = n := by omega
    subst hin
    refine codeAny_builtin PySem.F.entry_sum_loop ?_
    rw [Around.under_plainId PySem.F.plain_sum_loop _]
    show wpAny _ A.in1 (seqItems? (.ref S) >>= _) _ _ s
    refine wpAny_bind (wpAny_seqItems hS rfl ?_)
    show wpAny _ A.in1 (tryCatch (pyNext (.ref I)) _ >>= _) _ _ s
    refine wpAny_bind (wpAny_tryCatch (W.done s _ _ hst fun s' hm => ?_))
    exact wpAny_pure (hR s' T m (hm.mono hsub) (hm.heap T _ hTw hT) (.inl ⟨rfl, rfl⟩))
  | succ k ih =>
    intro i s T c m hk hi hst h0k hS hT hne hTw hR
    have hlt : i < n := by omega
    refine codeAny_builtin PySem.F.entry_sum_loop ?_
    rw [Around.under_plainId PySem.F.plain_sum_loop _]
    show wpAny _ A.in1 (seqItems? (.ref S) >>= _) _ _ s
    refine wpAny_bind (wpAny_seqItems hS rfl ?_)
    show wpAny _ A.in1 (tryCatch (pyNext (.ref I)) _ >>= _) _ _ s
    refine wpAny_bind (wpAny_tryCatch (W.item i s _ _ hlt hst fun v s' hP hst' hm => ?_))
    obtain ⟨a, ma, rfl, ha0⟩ := hval i v hP
    have hS' := hm.heap S _ hSw hS
    have hT' := hm.heap T _ hTw hT
    have h0k' : ∀ b o, h0.get? b = some o → s'.heap.get? b = some o := fun b o e => hm.heap b o (hS0 b o e).1 (h0k b o e)
    have ha := h0k' a _ ha0
    show wpAny _ A.in1 ((holding [Value.ref a] (binaryOp .Add (.ref T) (.ref a))).attempt >>= _) _ _ _
    have hle : (preL cat (i + 1)).length ≤ (preL cat n).length := preL_le cat hlt
    rw [preL_succ, List.length_append] at hle
    refine wpAny_bind (wpAny_attempt (wpAny_holding (PySem.P.add_list (n := m) (n2 := ma) hT' ha ?_ (by rw [List.size_toArray, List.size_toArray]; omega))))
    have eA : (preL cat i).toArray ++ (cat i).toArray = (preL cat (i + 1)).toArray := by rw [preL_succ]; simp
    rw [eA]
    show wpAny _ A.in1 (updateSeq S (fun _ => #[Value.ref s'.heap.objs.size]) >>= _) _ _ _
    have hSlt : S < s'.heap.objs.size := Heap.lt_size hS'
    have hS1 : (s'.heap.push (lob (preL cat (i + 1)).toArray 0)).get? S = some (lob #[.ref T] c) := Heap.get?_push_of_some _ hS'
    refine wpAny_bind (wpAny_updateSeq hS1 rfl ?_)
    have hS₂ := Heap.get?_update_self (Obj.mapSeq fun _ => #[Value.ref s'.heap.objs.size]) hS1 rfl
    refine wpAny_bind (wpAny_letGo ?_)
    have oth : ∀ b o, b ≠ S → s'.heap.get? b = some o → (((s'.heap.push (lob (preL cat (i + 1)).toArray 0)).update S (Obj.mapSeq fun _ => #[Value.ref s'.heap.objs.size])).update S (Obj.mapSeq fun _ => #[Value.ref s'.heap.objs.size])).get? b = some o := fun b o hb e =>
      (Heap.get?_update_other _ _ (Ne.symm hb)).trans ((Heap.get?_update_other _ _ (Ne.symm hb)).trans (Heap.get?_push_of_some _ e))
    have hnew : (((s'.heap.push (lob (preL cat (i + 1)).toArray 0)).update S (Obj.mapSeq fun _ => #[Value.ref s'.heap.objs.size])).update S (Obj.mapSeq fun _ => #[Value.ref s'.heap.objs.size])).get? s'.heap.objs.size = some (lob (preL cat (i + 1)).toArray 0) :=
      (Heap.get?_update_other _ _ (Nat.ne_of_lt hSlt)).trans ((Heap.get?_update_other _ _ (Nat.ne_of_lt hSlt)).trans (Heap.get?_push_size _ rfl))
    refine wpAny_bind (wpAny_updateSeq hS₂ rfl (wpAny_pure ⟨plainId_quiet PySem.F.plain_sum_loop _, ih (i + 1) _ s'.heap.objs.size _ 0 (by omega) hlt (W.frame _ s' _ _ hst' (by first | exact Nat.le_refl _ | exact Nat.le_succ _ | omega) fun b hb o e => ?_) (fun b o e => oth b o (hS0 b o e).2 (h0k' b o e)) (Heap.get?_update_self _ hS₂ rfl) hnew (Nat.ne_of_gt hSlt) (fun z => ?_) fun s'' T'' m'' hm'' hT'' hor => ?_⟩))
    · exact oth b o (fun h : b = S => hSfp (by rw [← h]; exact hb)) e
    · exact Nat.lt_irrefl _ (Nat.lt_trans hSlt (hSf _ (W.sub _ z)))
    · refine hR s'' T'' m'' (Moved.trans W.gtrans ((hm.mono hsub).then_heap (by first | exact Nat.le_refl _ | exact Nat.le_succ _ | omega) fun b o hb e => ?_) hm'') hT'' ?_
      · exact oth b o (fun h : b = S => hb (by rw [h]; exact List.mem_cons_self)) e
      · rcases hor with ⟨_, q⟩ | q
        · exact .inr (by rw [q]; exact hSlt)
        · exact .inr q
end
namespace Sm
theorem args2 (a b : Value) : argsOk "sum" ({ pos := [a, b], kw := [] } : Args) := by unfold argsOk; kernel_rfl
theorem sub_bytearray : isSubtype (.type "list") (.type "bytearray") = pure false := by rw [isSubtype_type]; kernel_rfl
end Sm
section
variable {P : Program} {w : World} {A : Around} {E : Value → Shared → Prop} {s : Shared}
theorem call_sumL {l b : Addr} {its : List Value} {vss : List (List Value)} {c0 : Nat} {Q : Value → Shared → Prop} (hh : A.handled = none) (hl : s.heap.IsList l its.toArray) (hb : s.heap.get? b = some (lob (#[] : Array Value) c0)) (hlen : its.length = vss.length)
    (hval : ∀ (i : Nat) (v : Value), its[i]? = some v → ∃ a m, v = Value.ref a ∧ s.heap.get? a = some (lob (vss[i]?.getD []).toArray m)) (hz : vss.flatten.length ≤ sizeLine)
    (h : ∀ (s' : Shared) (T m : Nat), (∀ b o, s.heap.get? b = some o → s'.heap.get? b = some o) → s'.gens = s.gens → s'.os = s.os → s'.heap.get? T = some (lob vss.flatten.toArray m) → ((vss = [] ∧ T = b) ∨ s.heap.objs.size ≤ T) → Q (.ref T) s') :
    wpAny (model P w) A (call (.builtin "sum") [.ref l, .ref b]) Q E s := by
  refine call_function_tree PySem.F.kind_sum PySem.F.plain_sum PySem.F.entry_sum (Sm.args2 _ _) ?_
  unfold Builtin.«sum»
  simp only [List.length_cons, List.length_nil]
  rw [if_neg (by decide)]
  refine wpAny_bind (wpAny_of_eq (show Builtin.Builtins.bindParams "sum" ["start"] 0 ⟨[.ref b], []⟩ = pure [some (.ref b)] from rfl) ?_)
  refine wpAny_bind (wpAny_pyIter_list hl ?_)
  refine wpAny_bind (wpAny_pure ?_)
  have hb1 : (s.heap.push { cls := .type "list_iterator", data := .fields #[.ref l, .int 0 0] }).get? b = some (lob #[] c0) := Heap.get?_push_of_some _ hb
  have hTb : Shared.TypeIs { s with heap := s.heap.push { cls := .type "list_iterator", data := .fields #[.ref l, .int 0 0] } } (.ref b) "list" := ⟨_, hb1, rfl⟩
  simp only [List.forIn_cons, List.forIn_nil]
  refine wpAny_bind (wpAny_bind (wpAny_bind (wpAny_isInstance (T := "list") (b := false) hTb PySem.F.sub_list_str ?_)))
  simp only [Bool.false_eq_true, if_false]
  refine wpAny_pure (wpAny_bind (wpAny_bind (wpAny_isInstance (T := "list") (b := false) hTb PySem.F.sub_list_bytes ?_)))
  simp only [Bool.false_eq_true, if_false]
  refine wpAny_pure (wpAny_bind (wpAny_bind (wpAny_isInstance (T := "list") (b := false) hTb Sm.sub_bytearray ?_)))
  simp only [Bool.false_eq_true, if_false]
  refine wpAny_pure (wpAny_pure ?_)
  refine wpAny_bind (wpAny_newObj_type ?_)
  have hlo : l < s.heap.objs.size := by
    obtain ⟨o, ho, _⟩ := hl
    exact Heap.lt_size ho
  have hz1 : (s.heap.push { cls := .type "list_iterator", data := .fields #[.ref l, .int 0 0] }).objs.size = s.heap.objs.size + 1 := size_push' _ _
  have hblt : b < s.heap.objs.size := Heap.lt_size hb
  have epre : ∀ n, n ≤ vss.length → preL (fun i => vss[i]?.getD []) n = (vss.take n).flatten := fun n hn => by
    induction n with
    | zero => simp [preL]
    | succ n ih =>
      rw [preL_succ, ih (by omega), List.take_add_one, List.flatten_append]
      have : n < vss.length := by omega
      simp [List.getElem?_eq_getElem this]
  have epn : preL (fun i => vss[i]?.getD []) its.toArray.size = vss.flatten := by
    rw [List.size_toArray, hlen, epre _ (Nat.le_refl _), List.take_length]
  have hneI : l ≠ s.heap.objs.size := Nat.ne_of_lt hlo
  refine wpAny_pure ⟨plainId_quiet PySem.F.plain_sum_loop _, sum_loopL ((Walks.list (A := A.in1) (by simp [hh]) s.heap.objs.size l hneI its.toArray).toS) s.heap (fun i => vss[i]?.getD []) (fun i v hv => ?_) _ (fun x hx => ?_) (fun x o e => ?_) (by rw [epn]; exact hz) its.toArray.size 0 _ b 0 c0 (by omega) (Nat.zero_le _) ?_ (fun x o e => ?_) (Heap.get?_push_size _ rfl) ?_ ?_ ?_ fun s' T m hm hT hor => ?_⟩
  · exact hval i v (by simpa using hv)
  · show x < (s.heap.push _).objs.size
    rw [hz1]
    rcases List.mem_cons.mp hx with rfl | hx
    · exact Nat.lt_succ_self _
    · rw [List.mem_singleton.mp hx]; exact Nat.lt_succ_of_lt hlo
  · have hx := Heap.lt_size e
    refine ⟨fun z => ?_, fun z => ?_⟩
    · rw [List.mem_singleton.mp z] at hx
      exact Nat.lt_irrefl _ hx
    · have z : x = (s.heap.push _).objs.size := z
      rw [hz1] at z
      rw [z] at hx
      exact absurd hx (Nat.not_lt_of_le (Nat.le_succ _))
  · exact ⟨⟨_, Heap.get?_push_of_some _ (Heap.get?_push_size _ rfl), rfl, rfl⟩, (hl.push _).push _⟩
  · exact Heap.get?_push_of_some _ (Heap.get?_push_of_some _ e)
  · exact Heap.get?_push_of_some _ (by simpa [preL] using hb1)
  · intro z
    have z : b = (s.heap.push _).objs.size := z
    rw [hz1] at z
    rw [z] at hblt
    exact absurd hblt (Nat.not_lt_of_le (Nat.le_succ _))
  · intro z
    have e := List.mem_singleton.mp z
    rw [e] at hblt
    exact Nat.lt_irrefl _ hblt
  · rw [epn] at hT
    refine h s' T m (fun x o e => ?_) hm.gens hm.os hT ?_
    · have hx := Heap.lt_size e
      refine hm.heap x o (fun z => ?_) (Heap.get?_push_of_some _ (Heap.get?_push_of_some _ e))
      rcases List.mem_cons.mp z with z | z
      · have z : x = (s.heap.push _).objs.size := z
        rw [hz1] at z
        rw [z] at hx
        exact absurd hx (Nat.not_lt_of_le (Nat.le_succ _))
      · have e := List.mem_singleton.mp z
        rw [e] at hx
        exact Nat.lt_irrefl _ hx
    · rcases hor with ⟨q1, q2⟩ | q
      · refine .inl ⟨List.eq_nil_of_length_eq_zero ?_, q2⟩
        rw [← hlen, ← List.size_toArray]
        exact q1.symm
      · refine .inr ?_
        have q : (s.heap.push _).objs.size < T := q
        rw [hz1] at q
        exact Nat.le_of_lt (Nat.lt_of_succ_lt q)
end
def lstsOf : List D → Option (List (List D))
  | [] => some []
  | .lst xs :: ds => (lstsOf ds).map fun xss => xs :: xss
  | _ :: _ => none
theorem lstsOf_map : ∀ xss : List (List D), lstsOf (xss.map D.lst) = some xss
  | [] => rfl
  | xs :: xss => by
    show (lstsOf (xss.map D.lst)).map _ = _
    rw [lstsOf_map xss]
    rfl
def semSumL : D → Option (List D)
  | .lst ds => (lstsOf ds).bind fun xss => if xss.flatten.length ≤ 100000 then some xss.flatten else none
  | _ => none
theorem vals_app {xs ys : List V} {us vs : List Value} (h1 : Vals xs us) (h2 : Vals ys vs) : Vals (xs ++ ys) (us ++ vs) := h1.append h2
section
variable {X : Cx} {g : G} {pins : List (Addr × Obj)} {s : Shared} {F H : Hp} {sg : L2.St}
theorem lists_vals (I : L2.Inv X pins sg H s) (sub : Same F H) : ∀ {ds : List D} {vs : List V} {its : List Value} {xss : List (List D)}, RDs X.K F vs ds → Vals vs its → lstsOf ds = some xss →
    ∃ (vss : List (List Value)) (ws : List V), its.length = vss.length ∧ (∀ (i : Nat) (v : Value), its[i]? = some v → ∃ a m, v = Value.ref a ∧ s.heap.get? a = some (lob (vss[i]?.getD []).toArray m)) ∧ Vals ws vss.flatten ∧ RDs X.K F ws xss.flatten
  | [], _, _, _, h, hv, e => by
    cases h; cases hv; cases e
    exact ⟨[], [], rfl, fun i v q => by simp at q, .nil, .nil⟩
  | d :: ds, _, _, _, h, hv, e => by
    cases h with
    | cons h1 h2 =>
      cases hv with
      | cons r t =>
        cases d with
        | lst xs =>
          obtain ⟨xss', e1, rfl⟩ := Option.map_eq_some_iff.mp e
          obtain ⟨vss, ws, a1, a2, a3, a4⟩ := lists_vals I sub h2 t e1
          cases h1 with
          | lst b1 b2 =>
            cases r
            obtain ⟨z, its1, n, rv, hl, e2⟩ := I.lstM (sub _ _ b1)
            refine ⟨its1 :: vss, _ ++ ws, by rw [List.length_cons, List.length_cons, a1], fun i v q => ?_, vals_app rv a3, RDs.app b2 a4⟩
            cases i with
            | zero =>
              cases q
              exact ⟨_, n, rfl, e2⟩
            | succ i => exact a2 i v q
        | _ => cases e
def rSm (K : PySem.W.Frag) (g : G) : List V → Hp → VK → Prop := fun xs H Q => ∃ F s r x p d0 ys H1, xs = [x, .ref p] ∧ H = L2.upd H1 p (.lst []) ∧ H1 p = none ∧ Rel K g F H1 s r ∧ RB K F H1 x d0 ∧ semSumL d0 = some ys ∧ PO K g F s Q (.ow ys) r
theorem cr_sumL (hc : X.calm = true) : CallR X (.builtin "sum") (rSm X.K g) := by
  intro pins s sg H xs us Q I rv h
  obtain ⟨F, s0, r, x, p, d0, ys, H1, rfl, rfl, np, R, hx, e, q⟩ := h
  unfold semSumL at e
  split at e
  · next ds0 =>
    obtain ⟨xss, e1, e2⟩ := Option.bind_eq_some_iff.mp e
    split at e2
    · next hl =>
      cases e2
      obtain ⟨a, vs, rfl, k1, k2⟩ := hx.lst R.sub
      obtain ⟨u1, u2, rfl, r1, r2⟩ := vals2 rv
      cases r1
      cases r2
      have R2 : Rel X.K g F (L2.upd H1 p (.lst [])) s0 r := R.laid np
      have k1' : (L2.upd H1 p (.lst [])) a = some (.lst vs) := by
        rw [upd_ne (fun z => by rw [z, np] at k1; cases k1)]
        exact k1
      obtain ⟨its, rvs, hli, hz⟩ := I.list (show SqL X.K _ a vs from .of k1')
      obtain ⟨z, itb, nb, rb, hlb, eb⟩ := I.lstM (upd_same (H := H1) (a := p) (o := .lst []))
      cases rb
      obtain ⟨vss, ws, c1, c2, c3, c4⟩ := lists_vals I R2.sub k2 rvs e1
      have hfl : vss.flatten.length = xss.flatten.length := by rw [← c3.length, RDs.length c4]
      have hsz : vss.flatten.length ≤ sizeLine := by rw [hfl, sizeLine_eq]; omega
      refine call_sumL (I.ok.hd hc) hli.isList eb c1 c2 hsz fun s' T m kk hg ho hT hor => ?_
      have hlen : ws.length ≤ sizeLine := by rw [c3.length]; exact hsz
      rcases hor with ⟨q1, q2⟩ | hp
      · subst q1
        subst q2
        have ex : xss.flatten = [] := List.eq_nil_of_length_eq_zero (by rw [← hfl]; rfl)
        rw [ex] at q
        exact ⟨.ref T, _, I.call' (ch := []) ho (Un.kept kk) (I.hok.kept kk) (by rw [hg]; exact I.bare) (fun _ z => nomatch z), rfl, PO.new R .nil q T np⟩
      · have new : ObjOk X.prog X.w (L2.upd (L2.upd H1 p (.lst [])) T (.lst ws)) s'.heap T (.lst ws) := ⟨hlen, vss.flatten, m, c3, hT⟩
        exact ⟨.ref T, _, I.call' (ch := []) ho (Un.laid kk hp (I.hok.fresh hp)) (I.hok.laid kk hp new) (by rw [hg]; exact I.bare) (fun _ z => nomatch z), rfl, PO.new R2 c4 q T (I.hok.fresh hp)⟩
    · cases e2
  · cases e
def sumO (p : Opd) : En → Rs OV := fun r => (p.run r).bind fun x r1 => ofO ((look r1 x).bind fun d => (semSumL d).map OV.ow) r1
theorem do_sumL {e : Expr} {p : Opd} {pn pl pos : Pos} (hc : X.calm = true) (hm : X.mg "sum" = none) (ha : DB X g e p) (hg : Gl X "sum" := by rfl)
    (he : starEach [e, .List [] pl] X.env = (false, eval e X.env) :: starEach [.List [] pl] X.env := by rfl) (he2 : starEach [.List [] pl] X.env = (false, eval (.List [] pl) X.env) :: starEach [] X.env := by rfl) (hpl : (backTo pos (starEach [.List [] pl] X.env)).any (·.1) = false := by rfl) :
    DO X g (.Call (.Name "sum" pn) [e, .List [] pl] [] pos) (sumO p) := by
  refine PE.imp (pe_callB (cr_sumL (g := g) hc) hg hm (by decide +kernel) (pa_cons ha (pa_cons (pe_lst pa_nil) pa_nil he2) he) (he := he) (hpl := hpl)) fun s H Q h => ?_
  obtain ⟨F, r, R, h⟩ := h
  refine ⟨F, r, R, post_mono (post_bind h) fun z r1 q F1 H1 v sm R1 hv => ?_⟩
  obtain ⟨o, e, q⟩ := post_ofO q
  obtain ⟨dx, e1, e2⟩ := Option.bind_eq_some_iff.mp e
  obtain ⟨ys, e3, rfl⟩ := Option.map_eq_some_iff.mp e2
  refine ⟨Nat.zero_le _, fun p np => ?_⟩
  exact ⟨F1, s, r1, v, p, dx, ys, H1, rfl, rfl, np, R1, look_ok R1 hv e1, e3, fun F2 H2 v2 s2 R2 h2 => q F2 H2 v2 (sm.trans s2) R2 h2⟩
end
end DL

/-! Data layer, part 30: list(text). -/
namespace DL
open PySem L2
def semListS : List D → Option (List D)
  | [.str x] => if x.length ≤ 1000000 then some (signs x) else none
  | _ => none
theorem signs_vals {x : Str} {acc : Array Value} (h : ItemsOf (SignAt x) acc x.cps.size) : Vals (x.cps.toList.map fun c => V.str ⟨#[c]⟩) acc.toList := by
  obtain ⟨h1, h2⟩ := h
  have key : ∀ (cs : List Nat) (us : List Value), us.length = cs.length → (∀ (j : Nat) (v : Value), us[j]? = some v → ∃ c t, cs[j]? = some c ∧ v = .str ⟨#[c]⟩ t) → Vals (cs.map fun c => V.str ⟨#[c]⟩) us := by
    intro cs
    induction cs with
    | nil =>
      intro us e _
      have : us = [] := List.eq_nil_of_length_eq_zero (by simpa using e)
      rw [this]
      exact .nil
    | cons c cs ih =>
      intro us e k
      cases us with
      | nil => simp at e
      | cons u us =>
        obtain ⟨c', t, e1, rfl⟩ := k 0 u rfl
        cases e1
        exact .cons ⟨t, rfl⟩ (ih us (by simpa using e) fun j v q => k (j + 1) v q)
  refine key _ _ (by rw [Array.length_toList, h1, Array.length_toList]) fun j v q => ?_
  obtain ⟨c, t, e1, e2⟩ := h2 j v (by simpa using q)
  exact ⟨c, t, by simpa using e1, e2⟩
section
variable {X : Cx} {g : G}
theorem signs_rd {K : PySem.W.Frag} {F : Hp} (x : Str) : RDs K F (x.cps.toList.map fun c => V.str ⟨#[c]⟩) (signs x) := by
  unfold signs
  induction x.cps.toList with
  | nil => exact .nil
  | cons c cs ih => exact .cons (.str _) ih
theorem co_listS (hc : X.calm = true) : CallR X (.type "list") (rON X.K g semListS) := by
  intro pins s sg H xs us Q I rv h
  obtain ⟨F, s0, r, ds, d, R, hx, e, q⟩ := h
  unfold semListS at e
  split at e
  · next x =>
    split at e
    · next hl =>
      cases e
      obtain ⟨v, rfl, h1⟩ := hx.one
      cases h1.flat (fun _ => nofun)
      obtain ⟨u, rfl, ru⟩ := vals1 rv
      obtain ⟨t, rfl⟩ := ru
      have hz : x.cps.size ≤ sizeLine := Nat.le_trans hl mil_line
      refine call_list_str (I.ok.hd hc) x t (hn := hz) fun h' tk acc c' hk hS hacc => ?_
      have hv := signs_vals hacc
      have new : ObjOk X.prog X.w (L2.upd H s.heap.objs.size (.lst (x.cps.toList.map fun c => V.str ⟨#[c]⟩))) h' s.heap.objs.size (.lst (x.cps.toList.map fun c => V.str ⟨#[c]⟩)) := ⟨by rw [List.length_map, Array.length_toList]; exact hz, acc.toList, c', hv, by simpa using hS⟩
      exact ⟨.ref _, _, I.laid (t' := tk) hk (Nat.le_refl _) new, rfl, PO.new R (signs_rd x) q _ (I.hok.fresh (Nat.le_refl _))⟩
    · cases e
  · cases e
end
end DL

/-! Data layer, part 31: dicts that a name owns, with tuples as keys. -/
namespace DL
open PySem L2
theorem od_ok {P : Program} {w : World} {H : Hp} {h : Heap} {a : Addr} {xs : List (NestedKey × Addr × V)} {us : List Value} {ep : Nat} (h1 : (a == sysModules) = false) (h2 : (xs.map (·.1)).Nodup) (h3 : Vals (xs.map (·.2.2)) us)
    (h4 : h.get? a = some { cls := .type "dict", data := .dict (List.zipWith (fun (x : NestedKey × Addr × V) (u : Value) => (⟨x.1.hash w, .ref x.2.1, u⟩ : DictEntry)) xs us).toArray ep }) : ObjOk P w H h a (OdO w a xs) :=
  ⟨⟨h1, h2, us, ep, h3, h4⟩, ⟨_, h4⟩, fun _ _ ⟨a1, a2, us, ep, a3, a4⟩ k => ⟨a1, a2, us, ep, a3, k _ a4⟩⟩
section
variable {X : Cx} {g : G} {pos : Pos}
theorem pe_od0 : PE X (.Dict [] [] pos) (fun _ H Q => ∀ p, H p = none → Q (.ref p) (L2.upd H p (OdO X.w p []))) := ⟨fun pins s σ H Q I h =>
  wpAny_Dict_empty ⟨.ref s.heap.objs.size, _, I.laid (a := s.heap.objs.size) (o := OdO X.w s.heap.objs.size []) (t' := s.toks) (fun _ _ q => Heap.get?_push_of_some _ q) (Nat.le_refl _)
    (od_ok (us := []) (ep := 0) (beq_eq_false_iff_ne.mpr (Ne.symm (Nat.ne_of_lt I.big))) List.nodup_nil .nil (Heap.get?_push_size _ rfl)), rfl, h _ (I.hok.fresh (Nat.le_refl _))⟩⟩
/-- a slot gets a new dict -/
theorem Rel.setOd {K : PySem.W.Frag} {F H : Hp} {s : St} {r : En} {i : Nat} {p : Addr} (R : Rel K g F H s r) (hb : ∀ p ∈ g.B, p.1 ≠ i) (np : H p = none) : Rel K g F (L2.upd H p (OdO g.w p [])) (s.set i (some (.ref p))) (r.set i (some (.od []))) := by
  have R1 : Rel K g F (L2.upd H p (OdO g.w p [])) s r := R.laid np
  have hl := R.len
  have hF := R.ff np
  have no := not_own R np
  have hX : ∀ q ∈ g.X, q.1 ≠ p := fun q hq z => by have := (R.ext q hq).1; rw [z, np] at this; cases this
  have cs : ∀ (j : Nat) (u : OV), (r.set i (some (.od [])))[j]? = some (some u) → (j = i ∧ u = .od [] ∧ (s.set i (some (V.ref p)))[j]? = some (some (.ref p))) ∨ (j ≠ i ∧ r[j]? = some (some u) ∧ (s.set i (some (V.ref p)))[j]? = s[j]?) := fun j u z => by
    by_cases hj : i = j
    · subst hj
      have hi : i < r.length := by
        have := (List.getElem?_eq_some_iff.mp z).1
        rw [List.length_set] at this
        exact this
      rw [List.getElem?_set_self hi] at z
      cases z
      exact .inl ⟨rfl, rfl, List.getElem?_set_self (by rw [← hl]; exact hi)⟩
    · rw [List.getElem?_set_ne hj] at z
      exact .inr ⟨fun z => hj z.symm, z, List.getElem?_set_ne hj⟩
  refine ⟨R1.sub, R1.f0, R1.fnew, R1.keep, fun j u z => ?_, fun j u a z zo za => ?_, fun j k u w a hjk z zo y yo za ya => ?_, fun q hq => ?_, by rw [List.length_set, List.length_set]; exact hl, fun q hq => ?_⟩
  · rcases cs j u z with ⟨rfl, rfl, e⟩ | ⟨hj, z', e⟩
    · exact ⟨.ref p, e, p, [], rfl, hF, upd_same, .nil⟩
    · rw [e]; exact R1.slot j u z'
  · rcases cs j u z with ⟨rfl, rfl, e⟩ | ⟨hj, z', e⟩
    · rw [e] at za
      cases za
      exact .inl (R.live np)
    · rw [e] at za; exact R1.own j u a z' zo za
  · rcases cs j u z with ⟨ej, eu, e⟩ | ⟨hj, z', e⟩
    · rcases cs k w y with ⟨ek, _, _⟩ | ⟨hk, y', e'⟩
      · exact hjk (ej.trans ek.symm)
      · rw [e] at za
        rw [e'] at ya
        cases za
        exact no k w y' yo ya
    · rcases cs k w y with ⟨ek, ew, e'⟩ | ⟨hk, y', e'⟩
      · rw [e'] at ya
        rw [e] at za
        cases ya
        exact no j u z' zo za
      · rw [e] at za
        rw [e'] at ya
        exact R1.dist j k u w a hjk z' zo y' yo za ya
  · obtain ⟨p1, u, p2, p3⟩ := R1.pin q hq
    have h := hb q hq
    exact ⟨by rw [List.getElem?_set_ne fun z => h z.symm]; exact p1, u, by rw [List.getElem?_set_ne fun z => h z.symm]; exact p2, p3⟩
  · obtain ⟨x1, x2, x3⟩ := R1.ext q hq
    refine ⟨x1, x2, fun j u z zo za => ?_⟩
    rcases cs j u z with ⟨rfl, rfl, e⟩ | ⟨hj, z', e⟩
    · rw [e] at za
      cases za
      exact hX q hq rfl
    · rw [e] at za; exact x3 j u z' zo za
/-- x, y = {}, [] -/
def parOd (i j : Nat) : En → SRs := fun r => .nx ((r.set i (some (.od []))).set j (some (.ow [])))
variable {pt pt2 px py pd pl : Pos} {x y : Str} {kt k2 i j : Nat}
theorem ds_parOd (hW : g.w = X.w) (hbi : ∀ p ∈ g.B, p.1 ≠ i) (hbj : ∀ p ∈ g.B, p.1 ≠ j) (hN : X.N.Nodup) (hc : X.calm = true) (hij : i ≠ j) (hi : X.N[i]? = some x := by rfl) (hj : X.N[j]? = some y := by rfl)
    (hx : X.env.scope.names.lookup x = some .local := by rfl) (hy : X.env.scope.names.lookup y = some .local := by rfl)
    (hw : swappedStores [.Tuple [.Name x px, .Name y py] kt pt] (.Tuple [.Dict [] [] pd, .List [] pl] k2 pt2) X.env = pure (some [x, y]) := by rfl)
    (hs : swapsWithSole [.Tuple [.Name x px, .Name y py] kt pt] (.Tuple [.Dict [] [] pd, .List [] pl] k2 pt2) pos.line X.env = pure false := by rfl)
    (h1 : starEach [.Dict [] [] pd, .List [] pl] X.env = (false, eval (.Dict [] [] pd) X.env) :: starEach [.List [] pl] X.env := by rfl) (h2 : starEach [.List [] pl] X.env = (false, eval (.List [] pl) X.env) :: starEach [] X.env := by rfl) :
    DS X g (.Assign [.Tuple [.Name x px, .Name y py] kt pt] (.Tuple [.Dict [] [] pd, .List [] pl] k2 pt2) pos) (parOd i j) :=
  PS.imp (ps_par hc hN hi hj hij hx hy (pa_cons pe_od0 (pa_cons (pe_lst pa_nil) pa_nil h2) h1) hw hs) fun E s H ⟨F, r, R, q⟩ => fun p np => ⟨Nat.zero_le _, fun p2 np2 => ⟨_, _, rfl, by
    rw [← hW] at np2 ⊢
    have R1 := R.setOd hbi np
    exact q F _ _ (Same.refl _) ((R1.laid np2).set hbj (RV.new R1 np2 .nil))⟩⟩
/-! keys -/
mutual
theorem RD.nested {pins : List (Addr × Obj)} {s : Shared} {H : Hp} {sg : L2.St} (I : L2.Inv X pins sg H s) : ∀ (d : D) (v : V) (u : Value) (k : NestedKey), d.nk = some k → RD X.K H v d → RelV v u → NestedIs s.heap k u
  | .non, _, _, _, e, h, r => by cases h; cases e; cases r; exact .none
  | .bl b, _, _, _, e, h, r => by cases h; cases e; cases r; exact .bool rfl
  | .int i, _, _, _, e, h, r => by cases h; cases e; obtain ⟨t, rfl⟩ := r; exact .int i t
  | .str x, _, _, _, e, h, r => by cases h; cases e; obtain ⟨t, rfl⟩ := r; exact .text x t
  | .tup ds, _, _, _, e, h, r => by
    have e : (nks ds).map NestedKey.tup = some _ := e
    obtain ⟨ks, e1, rfl⟩ := Option.map_eq_some_iff.mp e
    cases h with
    | tup h1 h2 =>
      cases r
      obtain ⟨its, rv, ⟨o, ho, hc, n, hd⟩, _⟩ := I.tuple h1
      refine .tup ho hc hd ?_
      have := RDs.nested I ds _ its ks e1 h2 rv
      simpa using this
  | .lst ds, _, _, _, e, _, _ => by cases e
  | .dic ds, _, _, _, e, _, _ => by cases e
  | .scr ns, _, _, _, e, _, _ => by cases e
  | .obj _ _, _, _, _, e, _, _ => by cases e
theorem RDs.nested {pins : List (Addr × Obj)} {s : Shared} {H : Hp} {sg : L2.St} (I : L2.Inv X pins sg H s) : ∀ (ds : List D) (vs : List V) (us : List Value) (ks : List NestedKey), nks ds = some ks → RDs X.K H vs ds → Vals vs us → NestedAll s.heap ks us
  | [], _, _, _, e, h, r => by cases h; cases e; cases r; exact .nil
  | d :: ds, _, _, _, e, h, r => by
    have e : (d.nk.bind fun k => (nks ds).map fun ks => k :: ks) = some _ := e
    obtain ⟨k, e1, e2⟩ := Option.bind_eq_some_iff.mp e
    obtain ⟨ks, e3, rfl⟩ := Option.map_eq_some_iff.mp e2
    cases h with
    | cons h1 h2 =>
      cases r with
      | cons r1 r2 => exact .cons (RD.nested I d _ _ k e1 h1 r1) (RDs.nested I ds _ _ ks e3 h2 r2)
end
def KeyAt (K : PySem.W.Frag) (H : Hp) (k : NestedKey) (b : Addr) : Prop := ∃ kd : D, RD K H (.ref b) kd ∧ kd.nk = some k ∧ k.depth ≤ 8
theorem KeyAt.is {pins : List (Addr × Obj)} {s : Shared} {H : Hp} {sg : L2.St} (I : L2.Inv X pins sg H s) {k : NestedKey} {b : Addr} (h : KeyAt X.K H k b) : (nestedKind X.prog X.w).is s.heap k b := by
  obtain ⟨kd, h1, h2, h3⟩ := h
  exact ⟨RD.nested I kd _ _ k h2 h1 rfl, h3⟩
def entsOf (xs : List (NestedKey × Addr × V)) (us : List Value) : List (NestedKey × Addr × Value) := List.zipWith (fun x u => (x.1, x.2.1, u)) xs us
theorem ents_keys : ∀ {xs : List (NestedKey × Addr × V)} {us : List Value}, xs.length = us.length → (entsOf xs us).map (·.1) = xs.map (·.1)
  | [], [], _ => rfl
  | x :: xs, u :: us, h => by
    show x.1 :: (entsOf xs us).map (·.1) = x.1 :: xs.map (·.1)
    rw [ents_keys (by simpa using h)]
  | [], _ :: _, h => by simp at h
  | _ :: _, [], h => by simp at h
theorem ents_any : ∀ {xs : List (NestedKey × Addr × V)} {us : List Value} (k : NestedKey), xs.length = us.length → (atKey (entsOf xs us) k).isSome = xs.any fun x => decide (x.1 = k)
  | [], [], _, _ => rfl
  | x :: xs, u :: us, k, h => by
    have ih := ents_any (xs := xs) (us := us) k (by simpa using h)
    unfold atKey at ih ⊢
    show (((((x.1, x.2.1, u) : NestedKey × Addr × Value) :: entsOf xs us).find? fun x => decide (x.1 = k)).map (·.2)).isSome = (decide (x.1 = k) || xs.any fun x => decide (x.1 = k))
    rw [List.find?_cons]
    cases hd : decide (x.1 = k) with
    | true => simp
    | false => simp only [Bool.false_or]; exact ih
  | [], _ :: _, _, h => by simp at h
  | _ :: _, [], _, h => by simp at h
theorem ents_mem : ∀ {xs : List (NestedKey × Addr × V)} {us : List Value} {q : NestedKey × Addr × Value}, q ∈ entsOf xs us → ∃ x ∈ xs, x.1 = q.1 ∧ x.2.1 = q.2.1
  | [], _, _, h => by simp [entsOf] at h
  | _ :: _, [], _, h => by simp [entsOf] at h
  | x :: xs, u :: us, q, h => by
    rcases List.mem_cons.mp (show q ∈ (x.1, x.2.1, u) :: entsOf xs us from h) with rfl | h
    · exact ⟨x, List.mem_cons_self, rfl, rfl⟩
    · obtain ⟨y, h1, h2⟩ := ents_mem h
      exact ⟨y, List.mem_cons_of_mem _ h1, h2⟩
theorem od_dict {pins : List (Addr × Obj)} {s : Shared} {H : Hp} {sg : L2.St} {a : Addr} {xs : List (NestedKey × Addr × V)} (I : L2.Inv X pins sg H s) (ha : H a = some (OdO X.w a xs)) (hk : ∀ q ∈ xs, KeyAt X.K H q.1 q.2.1) :
    (a == sysModules) = false ∧ (xs.map (·.1)).Nodup ∧ ∃ us, Vals (xs.map (·.2.2)) us ∧ xs.length = us.length ∧ s.heap.DictOfH (nestedKind X.prog X.w) a (entsOf xs us) := by
  obtain ⟨h1, h2, us, ep, h3, h4⟩ := (I.hok a _ ha).1
  have hl : xs.length = us.length := by have := h3.length; rw [List.length_map] at this; exact this
  refine ⟨h1, h2, us, h3, hl, _, _, ep, h4, ⟨rfl, rfl, rfl⟩, rfl, ?_, fun q hq => ?_, by rw [ents_keys hl]; exact h2⟩
  · show List.zipWith _ xs us = (entsOf xs us).map (entryOfKey (nestedKind X.prog X.w))
    unfold entsOf
    rw [List.map_zipWith]
    rfl
  · obtain ⟨x, hx, e1, e2⟩ := ents_mem hq
    rw [← e1, ← e2]
    exact (hk x hx).is I
/-- k in d, k not in d -/
def rOd (X : Cx) (f : Bool → Bool) : R2 := fun x y H Q => ∃ b a k xs, x = .ref b ∧ y = .ref a ∧ H a = some (OdO X.w a xs) ∧ (∀ q ∈ xs, KeyAt X.K H q.1 q.2.1) ∧ KeyAt X.K H k b ∧ Q (.bl (f (xs.any fun x => decide (x.1 = k)))) H
theorem op_odNotIn {k : Nat} (hr : Room k X.A) : OpR X (compareOp .NotIn) (rOd X fun b => !b) := by
  intro pins s σ H x y v u Q I rx ry h
  obtain ⟨b, a, k, xs, rfl, rfl, ha, hk, hb, q⟩ := h
  cases rx
  cases ry
  obtain ⟨h1, h2, us, h3, hl, h4⟩ := od_dict I ha hk
  have hu := hr.un
  refine PyProof.Rows.wpAny_notIn_heap (knd := nestedKind X.prog X.w) (show X.A.in1.units + 8 < cLine from by show X.A.units + 1 + 8 < cLine; omega) (hb.is I) h1 h4 ?_
  rw [ents_any k hl]
  exact ⟨.bl _, H, I.tok _, rfl, q⟩
theorem op_odIn {k : Nat} (hr : Room k X.A) : OpR X (compareOp .In) (rOd X fun b => b) := by
  intro pins s σ H x y v u Q I rx ry h
  obtain ⟨b, a, k, xs, rfl, rfl, ha, hk, hb, q⟩ := h
  cases rx
  cases ry
  obtain ⟨h1, h2, us, h3, hl, h4⟩ := od_dict I ha hk
  have hu := hr.un
  refine wpAny_in_heap (knd := nestedKind X.prog X.w) (show X.A.in1.units + 8 < cLine from by show X.A.units + 1 + 8 < cLine; omega) (hb.is I) h1 h4 ?_
  rw [ents_any k hl]
  exact ⟨.bl _, H, I.tok _, rfl, q⟩
/-- d[k] = z, k not there yet -/
def tOdSet (X : Cx) : TSet := fun o i z H Q => ∃ b a k xs, i = .ref b ∧ o = .ref a ∧ H a = some (OdO X.w a xs) ∧ (∀ q ∈ xs, KeyAt X.K H q.1 q.2.1) ∧ KeyAt X.K H k b ∧ (xs.any fun x => decide (x.1 = k)) = false ∧ xs.length ≤ 1000000 ∧ Q (L2.upd H a (OdO X.w a (xs ++ [(k, b, z)])))
theorem set_od {k : Nat} (hr : Room k X.A) : PSet X (tOdSet X) := by
  intro pins s σ H o i v ov iv u Q I ro ri rv h
  obtain ⟨b, a, k, xs, rfl, rfl, ha, hk, hb, hno, hz, q⟩ := h
  cases ro
  cases ri
  obtain ⟨h1, h2, us, h3, hl, h4⟩ := od_dict I ha hk
  have hu := hr.un
  have hlen : (entsOf xs us).length = xs.length := by unfold entsOf; rw [List.length_zipWith]; omega
  have hnone : atKey (entsOf xs us) k = none := by
    have := ents_any k hl
    rw [hno] at this
    cases hq : atKey (entsOf xs us) k with
    | none => rfl
    | some z => rw [hq] at this; cases this
  refine wpAny_setItem_heap (knd := nestedKind X.prog X.w) (show X.A.in1.units + 8 < cLine from by show X.A.units + 1 + 8 < cLine; omega) (hb.is I) h4 (fun h' hm hs => ?_) (hsz := by rw [hlen, sizeLine_eq]; omega)
  rw [storedH_new hnone] at hm
  obtain ⟨o, es, ep, ho, hex, hd, he, _, hn⟩ := hm
  have hob : o = { cls := .type "dict", data := .dict es ep } := by
    obtain ⟨c, dd, dt, sl⟩ := o
    obtain ⟨e1, e2, e3⟩ := hex
    cases e1; cases e2; cases e3; cases hd
    rfl
  subst hob
  have hes : es = (List.zipWith (fun (x : NestedKey × Addr × V) (u : Value) => (⟨x.1.hash X.w, .ref x.2.1, u⟩ : DictEntry)) (xs ++ [(k, b, v)]) (us ++ [u])).toArray := by
    apply Array.ext'
    rw [he, List.map_append, List.zipWith_append hl]
    unfold entsOf
    rw [List.map_zipWith]
    rfl
  rw [hes] at ho
  have hn2 : ((xs ++ [(k, b, v)]).map (·.1)).Nodup := by
    rw [List.map_append] at hn ⊢
    rw [ents_keys hl] at hn
    exact hn
  have hv2 : Vals ((xs ++ [(k, b, v)]).map (·.2.2)) (us ++ [u]) := by
    rw [List.map_append]
    exact h3.append (.cons rv .nil)
  exact ⟨_, I.write (e := a) (t' := s.toks + (nestedKind X.prog X.w).draws k) (by rw [ha]; trivial) (.inl rfl) (fun c u hc hu => (hs.2 c hc).trans hu) ⟨_, ho⟩ (od_ok h1 hn2 hv2 ho), q⟩
/-! by data -/
def D.key8 : D → Option NestedKey
  | .tup ds => (nks ds).bind fun ks => if (NestedKey.tup ks).depth ≤ 8 then some (.tup ks) else none
  | _ => none
theorem key8_at {K : PySem.W.Frag} {F H : Hp} {v : V} {d : D} {k : NestedKey} (sub : Same F H) (h : RD K F v d) (e : d.key8 = some k) : ∃ b, v = .ref b ∧ KeyAt K H k b ∧ RD K F (.ref b) d ∧ d.nk = some k ∧ k.depth ≤ 8 := by
  cases d with
  | tup ds =>
    obtain ⟨ks, e1, e2⟩ := Option.bind_eq_some_iff.mp (show ((nks ds).bind fun ks => if (NestedKey.tup ks).depth ≤ 8 then some (NestedKey.tup ks) else none) = some k from e)
    split at e2
    · next hd =>
      cases e2
      have hn : (D.tup ds).nk = some (.tup ks) := by show (nks ds).map NestedKey.tup = _; rw [e1]; rfl
      have h0 := h
      cases h with
      | tup h1 h2 => exact ⟨_, rfl, ⟨.tup ds, RD.mono sub _ h0, hn, hd⟩, h0, hn, hd⟩
    · cases e2
  | _ => cases e
theorem RDm.keys {K : PySem.W.Frag} {F H : Hp} (sub : Same F H) : ∀ {kvs : List (D × D)} {xs : List (NestedKey × Addr × V)}, RDm K F xs kvs → ∀ q ∈ xs, KeyAt K H q.1 q.2.1
  | [], _, h, q, hq => by cases h; cases hq
  | (kd, d) :: kvs, _, h, q, hq => by
    cases h with
    | cons h1 h2 h3 h4 =>
      rcases List.mem_cons.mp hq with rfl | hq
      · exact ⟨kd, RD.mono sub _ h1, h2.1, h2.2⟩
      · exact RDm.keys sub h4 q hq
def odHas (kvs : List (D × D)) (k : NestedKey) : Bool := kvs.any fun p => decide (p.1.nk = some k)
theorem RDm.has {K : PySem.W.Frag} {F : Hp} (k : NestedKey) : ∀ {kvs : List (D × D)} {xs : List (NestedKey × Addr × V)}, RDm K F xs kvs → (xs.any fun x => decide (x.1 = k)) = odHas kvs k
  | [], _, h => by cases h; rfl
  | (kd, d) :: kvs, _, h => by
    cases h with
    | cons h1 h2 h3 h4 =>
      unfold odHas
      rw [List.any_cons, List.any_cons, RDm.has k h4]
      unfold odHas
      congr 1
      rw [h2.1]
      exact decide_eq_decide.mpr ⟨fun e => congrArg some e, fun e => Option.some.inj e⟩
theorem RDm.len {K : PySem.W.Frag} {F : Hp} : ∀ {kvs : List (D × D)} {xs : List (NestedKey × Addr × V)}, RDm K F xs kvs → xs.length = kvs.length
  | [], _, h => by cases h; rfl
  | (kd, d) :: kvs, _, h => by
    cases h with
    | cons h1 h2 h3 h4 => rw [List.length_cons, List.length_cons, RDm.len h4]
theorem RDm.snoc {K : PySem.W.Frag} {F : Hp} {k : NestedKey} {b : Addr} {v : V} {kd d : D} (a1 : RD K F (.ref b) kd) (a2 : kd.nk = some k ∧ k.depth ≤ 8) (a3 : RD K F v d) : ∀ {kvs : List (D × D)} {xs : List (NestedKey × Addr × V)}, RDm K F xs kvs → RDm K F (xs ++ [(k, b, v)]) (kvs ++ [(kd, d)])
  | [], _, h => by cases h; exact .cons a1 a2 a3 .nil
  | (_, _) :: kvs, _, h => by
    cases h with
    | cons h1 h2 h3 h4 => exact .cons h1 h2 h3 (RDm.snoc a1 a2 a3 h4)
/-- e not in d, e in d -/
def inOd (n : Bool → Bool) (i : Nat) (f : En → Rs D) : En → Rs Bool := fun r => (f r).bind fun d r1 =>
  match r1[i]? with
  | some (some (.od kvs)) => ofO (d.key8.map fun k => n (odHas kvs k)) r1
  | _ => .bad
variable {a : Expr} {px : Pos} {x : Str} {i : Nat}
theorem dt_od {op : CmpOp} {n : Bool → Bool} {f : En → Rs D} (hW : g.w = X.w) (ho : OpR X (compareOp op) (rOd X n)) (ha : DE X g a f) (hv : PE X (.Name x px) (tVar i)) (hm : behindInMarks op (.Name x px) = false := by rfl) : DT X g (.Compare a [op] [.Name x px] pos) (inOd n i f) :=
  PT.imp (pt_cmpR ho ha hv hm) fun s H Q ⟨F, r, R, h⟩ => ⟨F, r, R, post_mono (post_bind h) fun d r1 q F1 H1 v sm R1 hvd => by
    cases e : r1[i]? with
    | none => rw [e] at q; exact q.elim
    | some w =>
      cases w with
      | none => rw [e] at q; exact q.elim
      | some o =>
        cases o with
        | sh _ => rw [e] at q; exact q.elim
        | ow _ => rw [e] at q; exact q.elim
        | oi _ _ => rw [e] at q; exact q.elim
        | exc _ => rw [e] at q; exact q.elim
        | od kvs =>
          rw [e] at q
          obtain ⟨b, e1, q⟩ := post_ofO q
          obtain ⟨k, e2, rfl⟩ := Option.map_eq_some_iff.mp e1
          obtain ⟨v', h1, a', xs, rfl, fa, ha', hm'⟩ := R1.slot i _ e
          obtain ⟨b', rfl, k1, _⟩ := key8_at R1.sub hvd e2
          refine ⟨_, h1, b', a', k, xs, rfl, rfl, by rw [← hW]; exact ha', hm'.keys R1.sub, k1, _, rfl, ?_⟩
          rw [hm'.has k]
          exact q F1 H1 sm R1⟩
/-- a slot's dict is changed -/
theorem Rel.chgOd {K : PySem.W.Frag} {F H : Hp} {s : St} {r : En} {i : Nat} {kvs kvs' : List (D × D)} {a : Addr} {xs xs' : List (NestedKey × Addr × V)} (R : Rel K g F H s r) (e : r[i]? = some (some (.od kvs))) (hs : s[i]? = some (some (.ref a))) (fa : F a = none) (ha : H a = some (OdO g.w a xs)) (hv : RDm K F xs' kvs') :
    Rel K g F (L2.upd H a (OdO g.w a xs')) s (r.set i (some (.od kvs'))) := by
  have hi : i < r.length := (List.getElem?_eq_some_iff.mp e).1
  have cs : ∀ (j : Nat) (u : OV), (r.set i (some (.od kvs')))[j]? = some (some u) → (j = i ∧ u = .od kvs') ∨ (j ≠ i ∧ r[j]? = some (some u)) := fun j u z => by
    by_cases hj : i = j
    · subst hj
      rw [List.getElem?_set_self hi] at z
      cases z
      exact .inl ⟨rfl, rfl⟩
    · rw [List.getElem?_set_ne hj] at z
      exact .inr ⟨fun z => hj z.symm, z⟩
  have ow1 : ∀ (j : Nat) (u : OV), (r.set i (some (.od kvs')))[j]? = some (some u) → u.own = true → ∃ u', r[j]? = some (some u') ∧ u'.own = true := fun j u z zo => by
    rcases cs j u z with ⟨rfl, rfl⟩ | ⟨_, z'⟩
    · exact ⟨_, e, rfl⟩
    · exact ⟨u, z', zo⟩
  refine ⟨fun b u eb => ?_, R.f0, R.fnew, fun b u eb hb => ?_, fun j u ej => ?_, fun j u b ej eo es => ?_, fun j k u w b hjk ej eo ek ek' => ?_, fun p hp => ?_, by rw [List.length_set]; exact R.len, fun p hp => ?_⟩
  · rw [upd_ne fun z => by rw [z, fa] at eb; cases eb]; exact R.sub b u eb
  · rw [upd_ne fun z => ?_]
    · exact R.keep b u eb hb
    · subst z
      rcases R.own i _ b e rfl hs with q | q
      · rw [q] at eb; cases eb
      · exact hb _ q rfl
  · rcases cs j u ej with ⟨rfl, rfl⟩ | ⟨hj, ej⟩
    · exact ⟨_, hs, a, xs', rfl, fa, upd_same, hv⟩
    · obtain ⟨v, h1, h2⟩ := R.slot j u ej
      refine ⟨v, h1, ?_⟩
      cases u with
      | sh d => exact h2
      | ow ys =>
        obtain ⟨b, ws, rfl, b2, b3, b4⟩ := h2
        exact ⟨b, ws, rfl, b2, by rw [upd_ne fun z => R.dist j i _ _ a hj ej rfl e rfl (by rw [h1, z]) hs]; exact b3, b4⟩
      | od ys =>
        obtain ⟨b, ws, rfl, b2, b3, b4⟩ := h2
        exact ⟨b, ws, rfl, b2, by rw [upd_ne fun z => R.dist j i _ _ a hj ej rfl e rfl (by rw [h1, z]) hs]; exact b3, b4⟩
      | oi c ys =>
        obtain ⟨b, ws, rfl, b2, b3, b4⟩ := h2
        exact ⟨b, ws, rfl, b2, by rw [upd_ne fun z => R.dist j i _ _ a hj ej rfl e rfl (by rw [h1, z]) hs]; exact b3, b4⟩
      | exc c => exact h2
  · obtain ⟨u', e1, e2⟩ := ow1 j u ej eo
    exact R.own j u' b e1 e2 es
  · obtain ⟨u', e1, e2⟩ := ow1 j u ej eo
    obtain ⟨w', e3, e4⟩ := ow1 k w ek ek'
    exact R.dist j k u' w' b hjk e1 e2 e3 e4
  · obtain ⟨p1, u, p2, p3⟩ := R.pin p hp
    refine ⟨p1, ?_⟩
    by_cases hj : i = p.1
    · exact ⟨.od kvs', by rw [← hj]; exact List.getElem?_set_self hi, rfl⟩
    · exact ⟨u, by rw [List.getElem?_set_ne hj]; exact p2, p3⟩
  · obtain ⟨x1, x2, x3⟩ := R.ext p hp
    refine ⟨by rw [upd_ne fun z => x3 i _ e rfl (by rw [hs, z])]; exact x1, x2, fun j u ej eo => ?_⟩
    obtain ⟨u', e1, e2⟩ := ow1 j u ej eo
    exact x3 j u' e1 e2
/-- d[e] = f, a new key -/
def putOd (i : Nat) (fi f : En → Rs D) : En → SRs := fun r => thenS (f r) fun d r1 => thenS (fill r1 i) fun _ r1 => thenS (fi r1) fun kd r2 =>
  match r2[i]? with
  | some (some (.od kvs)) => match kd.key8 with
    | some k => if odHas kvs k = false ∧ kvs.length ≤ 1000000 then .nx (r2.set i (some (.od (kvs ++ [(kd, d)])))) else .bad
    | none => .bad
  | _ => .bad
variable {ei e : Expr} {p : Pos}
theorem ds_putOd {k : Nat} {fi f : En → Rs D} {sp : Pos} (hW : g.w = X.w) (hr : Room k X.A) (hv : PE X (.Name x p) (tVar i)) (hi : DE X g ei fi) (h : DE X g e f) (hs : swapsWithSole [.Subscript (.Name x p) ei sp] e pos.line X.env = pure false := by rfl) (hw : swappedStores [.Subscript (.Name x p) ei sp] e X.env = pure none := by rfl)
    (h1 : (assignEach [.Subscript (.Name x p) ei sp] X.env).map (·.2) = [assign (.Subscript (.Name x p) ei sp) X.env] := by rfl)
    (ha : ∀ v, assign (.Subscript (.Name x p) ei sp) X.env v = (do
      let ov ← holding [v] (eval (.Name x p) X.env)
      let iv ← holding [v, ov] (eval ei X.env)
      standAt sp
      holding [v, ov, iv] (setItem ov iv v)
      release [v, ov, iv] []) := by intro _; rfl) : DS X g (.Assign [.Subscript (.Name x p) ei sp] e pos) (putOd i fi f) :=
  PS.imp (ps_asg h (pg_sub hv hi (set_od hr) ha) hs hw h1) fun E s H ⟨F, r, R, q⟩ => ⟨F, r, R, post_mono (post_then q) fun d r1 q F1 H1 w sm R1 hw => by
    obtain ⟨⟨o, e0⟩, q⟩ := post_fill (post_then q)
    obtain ⟨v, h1, _⟩ := R1.slot i o e0
    refine ⟨v, h1, F1, r1, R1, post_mono (post_then q) fun kd r2 q F2 H2 vk sm2 R2 hk => ?_⟩
    cases e2 : r2[i]? with
    | none => rw [e2] at q; exact q.elim
    | some w2 =>
      cases w2 with
      | none => rw [e2] at q; exact q.elim
      | some o2 =>
        cases o2 with
        | sh _ => rw [e2] at q; exact q.elim
        | ow _ => rw [e2] at q; exact q.elim
        | oi _ _ => rw [e2] at q; exact q.elim
        | exc _ => rw [e2] at q; exact q.elim
        | od kvs =>
          rw [e2] at q
          cases e3 : kd.key8 with
          | none => simp only [e3] at q; exact q.elim
          | some k =>
            simp only [e3] at q
            by_cases hc : odHas kvs k = false ∧ kvs.length ≤ 1000000
            · rw [if_pos hc] at q
              obtain ⟨v', g1, a', xs, rfl, fa, ha', hm'⟩ := R2.slot i _ e2
              rw [h1] at g1
              cases g1
              obtain ⟨b', rfl, k1, k2, k3⟩ := key8_at R2.sub hk e3
              refine ⟨b', a', k, xs, rfl, rfl, by rw [← hW]; exact ha', hm'.keys R2.sub, k1, by rw [hm'.has k]; exact hc.1, by rw [hm'.len]; exact hc.2, ?_⟩
              rw [← hW]
              exact q F2 _ s (sm.trans sm2) (R2.chgOd e2 h1 fa ha' (hm'.snoc k2 k3 (RD.mono sm2 d hw)))
            · rw [if_neg hc] at q
              exact q.elim⟩
end
end DL

/-! Data layer, part 32: comprehensions with any number of fors, lists and sets. -/
namespace DL
open PySem L2 PySem.Spec
/-- a list's comprehension, a set's -/
def cEx (b : Bool) (elt : Expr) (gs : List Comprehension) (scope : Scope) (pos : Pos) : Expr :=
  match b with
  | true => .SetComp elt gs scope pos
  | false => .ListComp elt gs scope pos
/-- what is done at each innermost turn -/
def cEm (b : Bool) (elt : Expr) (acc : Value) (env : Env) : Sem Unit :=
  match b with
  | true => do let v ← eval elt env; standAt elt.pos; let _ ← call (.builtin "set.add") [acc, v]
  | false => do let _ ← call (.builtin "list.append") [acc, ← eval elt env]
/-- behind the tests of a clause: the next clause, or what is done -/
def cIn (b : Bool) (elt : Expr) (gs : List Comprehension) (scope : Scope) (pos : Pos) (depth : Nat) (acc : Value) (env : Env) : Sem Unit :=
  match gs[depth + 1]? with
  | some g' => do
    let x ← eval g'.iter env
    standAt g'.iter.pos
    let x ← foldedSetIterable g'.iter env x
    let _ ← runOwn (.compStart (cEx b elt gs scope pos) (depth + 1) (← holding [x] (pyIter x)) acc env) env
  | none => cEm b elt acc env
theorem turn_n {b : Bool} {elt : Expr} {gs : List Comprehension} {scope : Scope} {pos : Pos} {depth : Nat} {it acc : Value} {env : Env} {g : Comprehension} (hg : gs[depth]? = some g) (hz : ∀ g ∈ gs, g.is_async = 0) :
    compTurn (cEx b elt gs scope pos) depth it acc env = (do
      standAt g.iter.pos
      match ← pyNext it with
      | none => pure (.done .next)
      | some v =>
        letOwnedTupleGo g.target it v
        assign g.target env v
        let mut ok := true
        for c in g.ifs do
          if ok then ok ← isTrue c env (eval c env)
        if ok then
          cIn b elt gs scope pos depth acc env
        again (.compLoop (cEx b elt gs scope pos) depth it acc env)) := by
  have h0 : (g.is_async != 0) = false := by rw [hz g (List.mem_of_getElem? hg)]; rfl
  cases hn : gs[depth + 1]? with
  | none =>
    cases b
    · unfold compTurn cEx cIn cEm
      simp only [hg, h0, hn, Bool.false_eq_true, if_false]
      rfl
    · unfold compTurn cEx cIn cEm
      simp only [hg, h0, hn, Bool.false_eq_true, if_false]
      rfl
  | some g' =>
    have h1 : (g'.is_async != 0) = false := by rw [hz g' (List.mem_of_getElem? hn)]; rfl
    cases b
    · unfold compTurn cEx cIn
      simp only [hg, h0, hn, h1, Bool.false_eq_true, if_false, bind_assoc, pure_bind]
      rfl
    · unfold compTurn cEx cIn
      simp only [hg, h0, hn, h1, Bool.false_eq_true, if_false, bind_assoc, pure_bind]
      rfl
abbrev FF : Value → Shared → Prop := fun _ _ => False
section
variable {prog : Program} {w : World} {A : Around} {R : Result → Shared → Prop} {s : Shared} {b : Bool} {elt : Expr} {gs : List Comprehension} {scope : Scope} {pos : Pos} {depth : Nat} {it acc : Value} {env : Env} {g : Comprehension}
/-- one clause's loop -/
theorem loop_n (hg : gs[depth]? = some g) (hz : ∀ g ∈ gs, g.is_async = 0) (I : Nat → Shared → Prop)
    (turn : ∀ n s, I n s → wpAny (model prog w) A (pyNext it) (fun r s1 => match r with
      | none => R (.ok .next) s1
      | some v => wpAny (model prog w) A (letOwnedTupleGo g.target it v) (fun _ s2 => wpAny (model prog w) A (assign g.target env v) (fun _ s3 =>
          wpAny (model prog w) A (forIn g.ifs true fun c r => if r = true then do let ok ← isTrue c env (eval c env); pure (ForInStep.yield ok) else pure (ForInStep.yield r)) (fun ok s4 =>
            if ok = true then wpAny (model prog w) A (cIn b elt gs scope pos depth acc env) (fun _ s5 => ∃ m, m < n ∧ I m s5) FF s4 else ∃ m, m < n ∧ I m s4) FF s3) FF s2) FF s1) FF s)
    (n : Nat) (h : I n s) : codeAny (model prog w) A (.compLoop (cEx b elt gs scope pos) depth it acc env) R s := by
  have main : ∀ n s, I n s → ∀ {E : Value → Shared → Prop} {Q : PySem.Fin → Shared → Prop}, (∀ s', R (.ok .next) s' → Q (.done .next) s') → (∀ m s', m < n → I m s' → wpAny (model prog w) A (again (.compLoop (cEx b elt gs scope pos) depth it acc env)) Q E s') →
      wpAny (model prog w) A (compTurn (cEx b elt gs scope pos) depth it acc env) Q E s := by
    intro n s hI E Q hd ha
    rw [turn_n hg hz]
    refine wpAny_bind (wpAny_standAt (wpAny_bind (thnF (turn n s hI) fun r s1 h1 => ?_)))
    cases r with
    | none => exact wpAny_pure (hd _ h1)
    | some v =>
      refine wpAny_bind (thnF h1 fun _ s2 h2 => wpAny_bind (thnF h2 fun _ s3 h3 => wpAny_bind (thnF h3 fun ok s4 h4 => ?_)))
      cases ok with
      | false =>
        obtain ⟨m, hm, hi⟩ := h4
        exact ha m s4 hm hi
      | true =>
        refine wpAny_bind (thnF (show wpAny (model prog w) A (cIn b elt gs scope pos depth acc env) _ FF s4 from h4) fun _ s5 h5 => ?_)
        obtain ⟨m, hm, hi⟩ := h5
        exact ha m s5 hm hi
  have fin : ∀ k s, I k s → wpAny (model prog w) A (compTurn (cEx b elt gs scope pos) depth it acc env) (fun fin s' => match fin with | .done f => R (.ok f) s' | .again c' => c' = .compLoop (cEx b elt gs scope pos) depth it acc env ∧ ∃ m, m < k ∧ I m s') (notedBy (model prog w) A env fun e s' => R (.error e) s') s :=
    fun k s hI => main k s hI (fun s' q => q) fun m s' hm hi => wpAny_pure ⟨rfl, m, hm, hi⟩
  cases b with
  | true => exact codeAny_loop rfl I (fun k s hI => wpAny_noted (fin k s hI)) n h
  | false => exact codeAny_loop rfl I (fun k s hI => wpAny_noted (fin k s hI)) n h
/-- one clause's start -/
theorem start_n (hg : gs[depth]? = some g) (hz : ∀ g ∈ gs, g.is_async = 0) (h0 : codeAny (model prog w) A (.compLoop (cEx b elt gs scope pos) depth it acc env) R s)
    (h : ∀ {E : Value → Shared → Prop}, wpAny (model prog w) A (pyIter it) (fun it' s' => codeAny (model prog w) A (.compLoop (cEx b elt gs scope pos) depth it' acc env) R s') E s) :
    codeAny (model prog w) A (.compStart (cEx b elt gs scope pos) depth it acc env) R s := by
  have hc : clausesOf (cEx b elt gs scope pos) = gs := by cases b <;> rfl
  have h1 : (g.is_async != 0) = false := by rw [hz g (List.mem_of_getElem? hg)]; rfl
  have main : ∀ {E : Value → Shared → Prop}, wpAny (model prog w) A (compStart (cEx b elt gs scope pos) depth it acc env) (fun fin s' => match fin with | .done f => R (.ok f) s' | .again c => c.quiet = true ∧ codeAny (model prog w) A c R s') E s := by
    intro E
    have hq : ∀ it', (Code.compLoop (cEx b elt gs scope pos) depth it' acc env).quiet = true := fun it' => by cases b <;> rfl
    unfold compStart
    simp only [hc, hg, Option.elim_some, h1, Bool.false_eq_true, if_false]
    refine wpAny_bind (wpAny_askSetting (wpAny_ite ?_))
    split
    · exact wpAny_pure ⟨hq _, h0⟩
    · exact wpAny_bind (wpAny_rule (wpAny_bind (wpAny_standAt (wpAny_bind (wpAny_mono (h (E := E)) (fun it' s' h' => wpAny_pure ⟨hq _, h'⟩) fun _ _ x => x)))))
  cases b with
  | true => exact codeAny_of_tree (wpAny_notedAt main)
  | false => exact codeAny_of_tree (wpAny_notedAt main)
end
end DL

/-! Data layer, part 33: the clauses of a comprehension, one behind the other. -/
namespace DL
open PySem L2 PySem.Spec
abbrev GRd := TI × TG × TT × List Nat
abbrev TM := L2.St → Hp → (Hp → Prop) → Prop
/-- the loops of the clauses, from the first one's source on -/
def tGs (tm : TM) : List GRd → TM
  | [], σ, H, Q => tm σ H Q
  | (wi, g, tt, vs) :: rest, σ, H, Q => wi σ H fun J H1 => ∃ W : Nat → Nat → Hp → Prop, (∃ m, W 0 m H1) ∧ ∀ i m H, W i m H →
      (J.stop i H ∧ Q H) ∨ (J.go i H ∧ ∃ Nx : Hp → Prop, (∀ H', Nx H' → ∃ m', m' < m ∧ W (i + 1) m' H') ∧ ∀ x H', J.yld i H x H' → g x (wipe σ vs) H' fun σ2 H2 => wipe σ2 vs = wipe σ vs ∧ tt σ2 H2 fun bb H3 =>
        if bb = true then tGs tm rest σ2 H3 Nx else Nx H3)
/-- what is done at each innermost turn, by its reading -/
def PM (Y : Cx) (b : Bool) (elt : Expr) (acc : Value) (tm : TM) : Prop :=
  ∀ (pins : List (Addr × Obj)) (s : Shared) (σ : L2.St) (H : Hp) (Q : Hp → Prop), L2.Inv Y pins σ H s → tm σ H Q → wpAny (model Y.prog Y.w) Y.A (cEm b elt acc Y.env) (fun _ s' => ∃ H', L2.Inv Y pins σ H' s' ∧ Q H') FF s
/-- the clauses from one on have these readings -/
def Al (Y : Cx) (gs : List Comprehension) : Nat → List GRd → List Nat → Prop
  | k, [], _ => gs[k]? = none
  | k, (wi, g, tt, vs) :: rest, vp => ∃ cl, gs[k]? = some cl ∧ PI Y cl.target cl.iter wi ∧ PG Y cl.target g ∧ PTs Y cl.ifs tt ∧ (∀ x, foldedSetIterable cl.iter Y.env x = pure x) ∧ (∀ i ∈ vs, i ∈ vp) ∧ Al Y gs (k + 1) rest vs
theorem weakW {Y : Cx} {pins : List (Addr × Obj)} {σ : L2.St} {H : Hp} {s : Shared} (I : L2.Inv Y pins σ H s) (vs : List Nat) : L2.Inv Y pins (wipe σ vs) H s := I.weak (wipe_length _ _) fun j v e => (wipe_some e).1
theorem weakWW {Y : Cx} {pins : List (Addr × Obj)} {σ : L2.St} {H : Hp} {s : Shared} {vs vp : List Nat} (I : L2.Inv Y pins (wipe σ vs) H s) (h : ∀ i ∈ vs, i ∈ vp) : L2.Inv Y pins (wipe σ vp) H s :=
  I.weak (by rw [wipe_length, wipe_length]) fun j v e => by
    obtain ⟨e1, e2⟩ := wipe_some e
    rw [wipe_out fun z => e2 (h j z)]
    exact e1
theorem in_ok {Y : Cx} {b : Bool} {elt : Expr} {gs : List Comprehension} {scope : Scope} {pos : Pos} {acc : Value} {tm : TM} (hxe : Y.xe = FF) (hc : Y.calm = true) (hz : ∀ g ∈ gs, g.is_async = 0) (hm : PM Y b elt acc tm) :
    ∀ (rs : List GRd) (depth : Nat) (vp : List Nat), Al Y gs (depth + 1) rs vp → ∀ (pins : List (Addr × Obj)) (s : Shared) (σ : L2.St) (H : Hp) (Q : Hp → Prop), L2.Inv Y pins σ H s → tGs tm rs σ H Q →
      wpAny (model Y.prog Y.w) Y.A (cIn b elt gs scope pos depth acc Y.env) (fun _ s' => ∃ H', L2.Inv Y pins (wipe σ vp) H' s' ∧ Q H') FF s := by
  intro rs
  induction rs with
  | nil =>
    intro depth vp al pins s σ H Q I h
    have al : gs[depth + 1]? = none := al
    unfold cIn
    rw [al]
    exact thnF (hm pins s σ H Q I h) fun _ s' ⟨H', I', q⟩ => ⟨H', weakW I' vp, q⟩
  | cons rd rest ih =>
    obtain ⟨wi, g, tt, vs⟩ := rd
    intro depth vp al pins s σ H Q I h
    obtain ⟨cl, hcl, pi, pg, pt, hfs, hsub, al2⟩ := al
    unfold cIn
    rw [hcl]
    have run := pi.run pins s σ H _ I h
    rw [hxe] at run
    refine wpAny_bind (thnF run fun xv s1 hx => wpAny_bind (wpAny_standAt (wpAny_bind (wpAny_of_eq (hfs xv) (wpAny_bind (wpAny_holding (thnF hx fun itv s2 h2 => ?_)))))))
    obtain ⟨it, fp, tn, J, H2, e, I2, T, st2, f2, W, ⟨m0, w0⟩, turn⟩ := h2
    subst e
    refine wpAny_bind (wpAny_runOwn ?_)
    rw [Around.mark_none]
    have stat : ∀ {H' : Hp}, (∀ c ∈ fp, H' c = none) → ∀ c ∈ fp, FpOk Y pins H' c := fun hn c hb => ⟨hn c hb, (f2 c hb).2⟩
    have loop : codeAny (model Y.prog Y.w) Y.A (.compLoop (cEx b elt gs scope pos) (depth + 1) (.ref it) acc Y.env) (fun r s' => match r with
        | .ok _ => ∃ H', L2.Inv Y pins (wipe σ vp) H' s' ∧ Q H'
        | .error _ => False) s2 := by
      refine loop_n hcl hz (fun n s' => ∃ i H', L2.Inv Y pins (wipe σ vs) H' s' ∧ tn i s'.heap ∧ (∀ c ∈ fp, H' c = none) ∧ W i n H') ?_ m0 ⟨0, H2, weakW I2 vs, st2, fun c hb => (f2 c hb).1, w0⟩
      rintro n s5 ⟨i, H5, I5, st5, n5, w5⟩
      rcases turn i n H5 w5 with ⟨stop, qq⟩ | ⟨go, Nx, hNx, step⟩
      · refine thnF (T.done Y rfl rfl rfl hc i pins s5 _ H5 FF I5 (stat n5) st5 stop) fun r s6 ⟨hr, I6⟩ => ?_
        subst hr
        exact ⟨H5, weakWW I6 hsub, qq⟩
      · refine thnF (T.item Y rfl rfl rfl hc i pins s5 _ H5 FF I5 (stat n5) st5 go) fun r s6 ⟨u, hr, h6⟩ => ?_
        subst hr
        refine thnF h6 fun _ s7 ⟨x, H7, I7, r7, y7, st7, n7⟩ => ?_
        have I7' := I7.pinned (stat n7) (T.obj _ _ st7)
        have rg := pg.run _ s7 _ H7 x u _ I7' r7 (step x H7 y7)
        rw [hxe] at rg
        refine thnF rg fun _ s8 ⟨σ8, H8, I8, hw8, q8⟩ => ?_
        have rt := pt.run _ s8 σ8 H8 _ I8 q8
        rw [hxe] at rt
        refine thnF rt fun bb s9 ⟨H9, I9, q9⟩ => ?_
        have fin : ∀ {s' : Shared} {H' : Hp}, L2.Inv Y (pins ++ pinsAt fp s7.heap) (wipe σ8 vs) H' s' → Nx H' → ∃ m, m < n ∧ ∃ i H', L2.Inv Y pins (wipe σ vs) H' s' ∧ tn i s'.heap ∧ (∀ c ∈ fp, H' c = none) ∧ W i m H' := fun {s' H'} I' nx => by
          obtain ⟨m', hm', w'⟩ := hNx H' nx
          have pin' : ∀ c ∈ fp, ∀ o, s7.heap.get? c = some o → s'.heap.get? c = some o ∧ H' c = none := fun c hb o e =>
            let z := I'.pin (c, o) (List.mem_append_right _ (List.mem_append_right _ (mem_pinsAt hb e)))
            ⟨z.1, z.2.1⟩
          rw [hw8] at I'
          refine ⟨m', hm', i + 1, H', I'.unpinned, T.keep _ _ _ st7 fun c hb o e => (pin' c hb o e).1, fun c hb => ?_, w'⟩
          obtain ⟨o, e, _⟩ := T.obj _ _ st7 c hb
          exact (pin' c hb o e).2
        cases bb with
        | false =>
          simp only [Bool.false_eq_true, if_false] at q9 ⊢
          exact fin (weakW I9 vs) q9
        | true =>
          simp only [if_true] at q9 ⊢
          exact thnF (ih (depth + 1) vs al2 _ s9 σ8 H9 Nx I9 q9) fun _ s10 ⟨H10, I10, q10⟩ => fin I10 q10
    refine codeAny_mono (start_n hcl hz loop (T.self Y.A 0 _ _ _ st2 loop)) fun r s' hr => ?_
    cases r with
    | ok f => exact wpAny_pure hr
    | error e => exact hr.elim
end DL

/-! Data layer, part 34: the comprehension as a value. -/
namespace DL
open PySem L2 PySem.Spec PyProof.Rows
/-- the reading: acc0: what is laid first; tm: what each innermost turn does -/
def tCn (acc0 : Addr → HO) (tm : Addr → TM) (wi : TI) (g : TG) (tt : TT) (vs : List Nat) (rest : List GRd) : TE := fun σ H Q => wi σ H fun J H1 => ∀ D, H1 D = none → ∃ W : Nat → Nat → Hp → Prop, (∃ m, W 0 m (L2.upd H1 D (acc0 D))) ∧ ∀ i m H, W i m H →
  (J.stop i H ∧ Q (.ref D) H) ∨ (J.go i H ∧ ∃ Nx : Hp → Prop, (∀ H', Nx H' → ∃ m', m' < m ∧ W (i + 1) m' H') ∧ ∀ x H', J.yld i H x H' → g x (wipe σ vs) H' fun σ2 H2 => wipe σ2 vs = wipe σ vs ∧ tt σ2 H2 fun bb H3 =>
    if bb = true then tGs (tm D) rest σ2 H3 Nx else Nx H3)
section
variable {X : Cx}
theorem comp_core {pins : List (Addr × Obj)} {s : Shared} {σ : L2.St} {H : Hp} {Q : VK} {b : Bool} {elt tg iter : Expr} {ifs : List Expr} {gs : List Comprehension} {scope : Scope} {own : List (PySem.Str × Nat)} {pos pos' : Pos} {wi : TI} {g : TG} {tt : TT} {rest : List GRd} {acc0 : Addr → HO} {tm : Addr → TM} {o0 : Obj} {nw : Sem Value}
    (hnw : ∀ {s : Shared} {Q : Value → Shared → Prop}, Q (.ref s.heap.objs.size) { s with heap := s.heap.push o0 } → wpAny (model X.prog X.w) X.A nw Q X.xe s) (h0 : ∀ (H : Hp) (h : Heap), ObjOk X.prog X.w H (h.push o0) h.objs.size (acc0 h.objs.size))
    (hc : X.calm = true) (hN : X.N.Nodup) (I : L2.Inv X pins σ H s) (hi : PI X tg iter wi) (ok : BlkOk X.N X.env.scope scope own) (hz : ∀ g ∈ gs, g.is_async = 0)
    (hg : ∀ (s : Shared) (H : Hp) (C : Addr) (cl : List (PySem.Str × Addr)) (fp : List Addr), PG (X.blk s H scope (compEnvC scope cl C X.env) fp) tg g) (ht : ∀ (s : Shared) (H : Hp) (C : Addr) (cl : List (PySem.Str × Addr)) (fp : List Addr), PTs (X.blk s H scope (compEnvC scope cl C X.env) fp) ifs tt)
    (hm : ∀ (s : Shared) (H : Hp) (C : Addr) (cl : List (PySem.Str × Addr)) (fp : List Addr) (D : Addr), PM (X.blk s H scope (compEnvC scope cl C X.env) fp) b elt (.ref D) (tm D))
    (hal : ∀ (s : Shared) (H : Hp) (C : Addr) (cl : List (PySem.Str × Addr)) (fp : List Addr), Al (X.blk s H scope (compEnvC scope cl C X.env) fp) (⟨tg, iter, ifs, 0⟩ :: gs) 1 rest (own.map (·.2)))
    (hs : ∀ x, foldedSetIterable iter X.env x = pure x) (h : tCn acc0 tm wi g tt (own.map (·.2)) rest σ H Q) :
    wpAny (model X.prog X.w) X.A (comprehension (cEx b elt (⟨tg, iter, ifs, 0⟩ :: gs) scope pos) scope X.env pos' nw false (eval iter X.env) none) (EP X pins σ Q) X.xe s := by
  have hfree : ∀ y ∈ scope.names, y.2 = .free → ∃ c, X.env.cells.lookup y.1 = some c := fun y hy e => by
    rcases ok.free y hy e with k | k
    · exact I.ok.has _ (.inl k)
    · exact I.ok.has _ (.inr k)
  have hcl : clausesOf (cEx b elt (⟨tg, iter, ifs, 0⟩ :: gs) scope pos) = ⟨tg, iter, ifs, 0⟩ :: gs := by cases b <;> rfl
  have hz2 : ∀ g ∈ (⟨tg, iter, ifs, 0⟩ :: gs : List Comprehension), g.is_async = 0 := fun g hg => (List.mem_cons.mp hg).elim (fun e => by rw [e]) (hz g)
  refine wpAny_comprehension_free (use := none) hcl hs (closure_ok hfree) ok.kind (fun y hy e => by rw [ok.uniq y hy, e]) (thn (hi.run pins s σ H _ I h) fun xv s1 hx => thn hx fun itv s2 h2 => ?_)
  obtain ⟨it, fp, tn, J, H2, e, I2, T, st2, f2, q⟩ := h2
  subst e
  refine hnw (newEnv_comp ?_)
  generalize hD : s2.heap.objs.size = D
  have hDn : H2 D = none := I2.hok.fresh (Nat.le_of_eq hD)
  obtain ⟨W, ⟨m0, w0⟩, turn⟩ := q D hDn
  generalize hs3 : ({ s2 with heap := s2.heap.push o0 } : Shared) = s3
  have I3 : L2.Inv X pins σ (L2.upd H2 D (acc0 D)) s3 := by
    rw [← hs3]
    refine I2.laid (t' := s2.toks) (fun b o e => Heap.get?_push_of_some _ e) (Nat.le_of_eq hD) ?_
    rw [← hD]
    exact h0 _ _
  have h3 : s3.heap = s2.heap.push o0 := by rw [← hs3]
  have f3 : ∀ c ∈ fp, FpOk X pins (L2.upd H2 D (acc0 D)) c ∧ c < s3.heap.objs.size := fun c hb => by
    obtain ⟨o, e, _⟩ := T.obj _ _ st2 c hb
    have hlt := Heap.lt_size e
    refine ⟨⟨?_, (f2 c hb).2⟩, by rw [h3, Heap.size_push]; exact Nat.lt_succ_of_lt hlt⟩
    rw [upd_ne (by rw [← hD]; exact Nat.ne_of_lt hlt)]
    exact (f2 c hb).1
  have st3 : tn 0 s3.heap := T.keep _ _ _ st2 fun c _ o e => by rw [h3]; exact Heap.get?_push_of_some _ e
  have I4 := block_start I3 ok hN f3
  have pg := hg s3 (L2.upd H2 D (acc0 D)) s3.heap.objs.size (cellsFrom (s3.heap.objs.size + 1) scope.names (cloFrom X.env.cells scope.names [])) fp
  have pt := ht s3 (L2.upd H2 D (acc0 D)) s3.heap.objs.size (cellsFrom (s3.heap.objs.size + 1) scope.names (cloFrom X.env.cells scope.names [])) fp
  have pm := hm s3 (L2.upd H2 D (acc0 D)) s3.heap.objs.size (cellsFrom (s3.heap.objs.size + 1) scope.names (cloFrom X.env.cells scope.names [])) fp D
  have pa := hal s3 (L2.upd H2 D (acc0 D)) s3.heap.objs.size (cellsFrom (s3.heap.objs.size + 1) scope.names (cloFrom X.env.cells scope.names [])) fp
  have nfp : ∀ c ∈ fp, (L2.upd H2 D (acc0 D)) c = none := fun c hb => (f3 c hb).1.1
  show codeAny _ _ (.compStart (cEx b elt (⟨tg, iter, ifs, 0⟩ :: gs) scope pos) 0 (.ref it) (.ref D) (compEnvC scope (cellsFrom (s3.heap.objs.size + 1) scope.names (cloFrom X.env.cells scope.names [])) s3.heap.objs.size X.env)) (compPost (model X.prog X.w) X.A X.xe none (EP X pins σ Q) (.ref D) s3.heap.objs.size) { s3 with heap := pushCells (s3.heap.push { cls := .type "dict", data := .dict #[] }) scope.names }
  generalize hce : compEnvC scope (cellsFrom (s3.heap.objs.size + 1) scope.names (cloFrom X.env.cells scope.names [])) s3.heap.objs.size X.env = ce at I4 pg pt pm pa ⊢
  have cL : ce.locals = s3.heap.objs.size := by subst hce; rfl
  generalize hH3 : L2.upd H2 D (acc0 D) = H3 at I3 I4 pg pt pm pa w0 nfp f3
  generalize hs4 : ({ s3 with heap := pushCells (s3.heap.push { cls := .type "dict", data := .dict #[] }) scope.names } : Shared) = s4 at I4 ⊢
  have st4 : tn 0 s4.heap := T.keep _ _ _ st3 fun c _ o e => by rw [← hs4]; exact pushCells_keeps _ _ _ _ (Heap.get?_push_of_some _ e)
  have stat : ∀ {σ' : L2.St} {H' : Hp} {s' : Shared}, L2.Inv (X.blk s3 H3 scope ce fp) [] σ' H' s' → (∀ c ∈ fp, H' c = none) → ∀ c ∈ fp, FpOk (X.blk s3 H3 scope ce fp) [] H' c := fun {σ' H' s'} I' hn c hb =>
    ⟨hn c hb, (I'.ok.exf c hb).1, I'.ok.exfs c hb, .inl hb, fun x d e => (I'.ok.exf c hb).2 x d e, fun p hp => absurd (show p ∈ ([] : List (Addr × Obj)) ++ [] from hp) (by simp)⟩
  have loop : codeAny (model X.prog X.w) X.A (.compLoop (cEx b elt (⟨tg, iter, ifs, 0⟩ :: gs) scope pos) 0 (.ref it) (.ref D) ce) (compPost (model X.prog X.w) X.A X.xe none (EP X pins σ Q) (.ref D) s3.heap.objs.size) s4 := by
    refine loop_n (g := ⟨tg, iter, ifs, 0⟩) rfl hz2 (fun n s' => ∃ i H', L2.Inv (X.blk s3 H3 scope ce fp) [] (wipe σ (own.map (·.2))) H' s' ∧ tn i s'.heap ∧ (∀ c ∈ fp, H' c = none) ∧ W i n H') ?_ m0 ⟨0, H3, I4, st4, nfp, w0⟩
    rintro n s5 ⟨i, H5, I5, st5, n5, w5⟩
    rcases turn i n H5 w5 with ⟨stop, qq⟩ | ⟨go, Nx, hNx, step⟩
    · refine thnF (T.done (X.blk s3 H3 scope ce fp) rfl rfl rfl hc i [] s5 _ H5 FF I5 (stat I5 n5) st5 stop) fun r s6 ⟨hr, I6⟩ => ?_
      subst hr
      have I7 : L2.Inv X pins σ H5 s6 := I3.call' (ch := fp) I6.os I6.base I6.hok I6.bare fun c hb => ⟨(f3 c hb).1.2.2.2.1, (f3 c hb).1.2.1, (f3 c hb).1.2.2.2.2.1, (f3 c hb).1.2.2.2.2.2⟩
      have nC : H5 s3.heap.objs.size = none := by
        have z : H5 ce.locals = none := I6.free
        rw [cL] at z
        exact z
      obtain ⟨m, hn, _⟩ := I6.loc
      have hn : s6.heap.Ns ce.locals m := hn
      rw [cL] at hn
      obtain ⟨f0, f1, f2, f3, f4, f5⟩ := I3.fpOk (H' := H5) (Nat.le_refl s3.heap.objs.size) nC
      exact ⟨m, hn, fun h'' sb => ⟨.ref D, H5, I7.turned (t' := s6.toks) (fun c o hb e => (sb.2 c hb).trans e) f0 f1 f3 f4 f5, rfl, qq⟩⟩
    · refine thnF (T.item (X.blk s3 H3 scope ce fp) rfl rfl rfl hc i [] s5 _ H5 FF I5 (stat I5 n5) st5 go) fun r s6 ⟨u, hr, h6⟩ => ?_
      subst hr
      refine thnF h6 fun _ s7 ⟨x, H7, I7, r7, y7, st7, n7⟩ => ?_
      have I7' := I7.pinned (stat I7 n7) (T.obj _ _ st7)
      refine thnF (pg.run _ s7 _ H7 x u _ I7' r7 (step x H7 y7)) fun _ s8 ⟨σ8, H8, I8, hw8, q8⟩ => ?_
      refine thnF (pt.run _ s8 σ8 H8 _ I8 q8) fun bb s9 ⟨H9, I9, q9⟩ => ?_
      have fin : ∀ {s' : Shared} {H' : Hp}, L2.Inv (X.blk s3 H3 scope ce fp) ([] ++ pinsAt fp s7.heap) (wipe σ8 (own.map (·.2))) H' s' → Nx H' → ∃ m, m < n ∧ ∃ i H', L2.Inv (X.blk s3 H3 scope ce fp) [] (wipe σ (own.map (·.2))) H' s' ∧ tn i s'.heap ∧ (∀ c ∈ fp, H' c = none) ∧ W i m H' := fun {s' H'} I' nx => by
        obtain ⟨m', hm', w'⟩ := hNx H' nx
        have pin' : ∀ c ∈ fp, ∀ o, s7.heap.get? c = some o → s'.heap.get? c = some o ∧ H' c = none := fun c hb o e =>
          let z := I'.pin (c, o) (List.mem_append_right _ (List.mem_append_right _ (mem_pinsAt hb e)))
          ⟨z.1, z.2.1⟩
        rw [hw8] at I'
        refine ⟨m', hm', i + 1, H', I'.unpinned (pins := []), T.keep _ _ _ st7 fun c hb o e => (pin' c hb o e).1, fun c hb => ?_, w'⟩
        obtain ⟨o, e, _⟩ := T.obj _ _ st7 c hb
        exact (pin' c hb o e).2
      cases bb with
      | false =>
        simp only [Bool.false_eq_true, if_false] at q9 ⊢
        exact fin (weakW I9 _) q9
      | true =>
        simp only [if_true] at q9 ⊢
        exact thnF (in_ok (Y := X.blk s3 H3 scope ce fp) rfl hc hz2 pm rest 0 (own.map (·.2)) pa _ s9 σ8 H9 Nx I9 q9) fun _ s10 ⟨H10, I10, q10⟩ => fin I10 q10
  exact start_n (g := ⟨tg, iter, ifs, 0⟩) rfl hz2 loop (T.self X.A 0 _ _ _ st4 loop)
end
end DL

/-! Data layer, part 35: lists, sets of texts. -/
namespace DL
open PySem L2 PySem.Spec PyProof.Rows PySem.Froz
section
variable {P : Program} {w : World} {A : Around} {E : Value → Shared → Prop} {s : Shared} {a : Addr} {l : List Str}
theorem setX_call {k : Str} {u : Tok} {Q : Value → Shared → Prop} (R : SetX P w s.heap a l) (room : l.length + 1 < scanBound)
    (hQ : ∀ h', Heap.SameBut a s.heap h' → SetX P w h' a (insT l k) → Q .none { s with heap := h', toks := s.toks + 1 }) : wpAny (model P w) A (call (.builtin "set.add") [.ref a, .str k u]) Q E s := by
  have hT : s.TypeIs (.ref a) "set" := by
    obtain ⟨Z, ho, _⟩ := R
    exact ⟨_, ho, rfl⟩
  refine wpAny_call_entry PySem.F.slot_set_add hT PySem.F.entry_set_add ?_ (PySem.F.args_set_add_2 _ _)
  unfold Builtin.«set.add» Builtin.Frozenset.oneOther
  simp only [List.isEmpty_nil, bind_assoc]
  unfold Builtin.Frozenset.addrOf setAdd
  refine wpAny_bind (wpAny_pure ?_)
  try dsimp only
  refine wpAny_bind (wpAny_pure ?_)
  try dsimp only
  refine wpAny_bind (wpAny_holding (wpAny_bind ((strKind P w).pyHash (is_str k u) ?_)))
  refine setX_add (s := { s with toks := s.toks + 1 }) R room fun _ h' sb r => ?_
  show wpAny _ _ (ret Value.none) _ _ _
  exact wpAny_pure ⟨_, rfl, hQ h' sb r⟩
end
section
variable {Y : Cx} {elt : Expr} {te : TE} {D : Addr}
/-- at each innermost turn: the element goes to the list's end; into the set -/
def tmL (te : TE) (D : Addr) : TM := fun σ H Q => te σ H fun y H4 => ∃ acc, H4 D = some (.lst acc) ∧ acc.length < sizeLine ∧ Q (L2.upd H4 D (.lst (acc ++ [y])))
def tmS (P : Program) (w : World) (te : TE) (D : Addr) : TM := fun σ H Q => te σ H fun y H4 => ∃ t l, y = .str t ∧ H4 D = some (SetXO P w D l) ∧ l.length ≤ 4000 ∧ Q (L2.upd H4 D (SetXO P w D (insT l t)))
theorem pm_list (hxe : Y.xe = FF) (he : PE Y elt te) : PM Y false elt (.ref D) (tmL te D) := by
  intro pins s σ H Q I h
  have run := he.run pins s σ H _ I h
  rw [hxe] at run
  show wpAny _ _ (eval elt Y.env >>= fun x => call (.builtin "list.append") [.ref D, x] >>= fun _ => pure ()) _ _ s
  refine wpAny_bind (thnF run fun z s1 ⟨y, H1, I1, r1, acc, hD, hz, q⟩ => wpAny_bind (app_ok I1 hD hz r1 fun s2 I2 => wpAny_pure ⟨_, I2, q⟩))
theorem pm_set (hxe : Y.xe = FF) (he : PE Y elt te) : PM Y true elt (.ref D) (tmS Y.prog Y.w te D) := by
  intro pins s σ H Q I h
  have run := he.run pins s σ H _ I h
  rw [hxe] at run
  show wpAny _ _ (eval elt Y.env >>= fun x => standAt elt.pos >>= fun _ => call (.builtin "set.add") [.ref D, x] >>= fun _ => pure ()) _ _ s
  refine wpAny_bind (thnF run fun z s1 ⟨y, H1, I1, r1, t, l, ey, hD, hz, q⟩ => ?_)
  subst ey
  obtain ⟨u, rfl⟩ := r1
  refine wpAny_bind (wpAny_standAt (wpAny_bind ?_))
  have R : SetX Y.prog Y.w s1.heap D l := (I1.hok D _ hD).1
  refine setX_call R (by unfold scanBound; omega) fun h' sb new => ?_
  refine wpAny_pure ⟨_, I1.write (e := D) (t' := s1.toks + 1) (by rw [hD]; trivial) (.inl rfl) (fun b u hb hu => (sb.2 b hb).trans hu) new.ob (setXO_new new), q⟩
end
section
variable {X : Cx} {elt tg iter : Expr} {ifs : List Expr} {gs : List Comprehension} {scope : Scope} {own : List (PySem.Str × Nat)} {pos : Pos} {wi : TI} {g : TG} {tt : TT} {te : TE} {rest : List GRd}
theorem pe_lcN (hc : X.calm = true) (hN : X.N.Nodup) (hi : PI X tg iter wi) (ok : BlkOk X.N X.env.scope scope own) (hz : ∀ g ∈ gs, g.is_async = 0)
    (hg : ∀ (s : Shared) (H : Hp) (C : Addr) (cl : List (PySem.Str × Addr)) (fp : List Addr), PG (X.blk s H scope (compEnvC scope cl C X.env) fp) tg g) (ht : ∀ (s : Shared) (H : Hp) (C : Addr) (cl : List (PySem.Str × Addr)) (fp : List Addr), PTs (X.blk s H scope (compEnvC scope cl C X.env) fp) ifs tt)
    (hal : ∀ (s : Shared) (H : Hp) (C : Addr) (cl : List (PySem.Str × Addr)) (fp : List Addr), Al (X.blk s H scope (compEnvC scope cl C X.env) fp) (⟨tg, iter, ifs, 0⟩ :: gs) 1 rest (own.map (·.2)))
    (he : ∀ (s : Shared) (H : Hp) (C : Addr) (cl : List (PySem.Str × Addr)) (fp : List Addr), PE (X.blk s H scope (compEnvC scope cl C X.env) fp) elt te) (hs : ∀ x, foldedSetIterable iter X.env x = pure x := by intro _; rfl) :
    PE X (.ListComp elt (⟨tg, iter, ifs, 0⟩ :: gs) scope pos) (tCn (fun _ => .lst []) (tmL te) wi g tt (own.map (·.2)) rest) := by
  refine ⟨fun pins s σ H Q I h => ?_⟩
  rw [eval_ListComp]
  exact comp_core (b := false) (acc0 := fun _ => .lst []) (o0 := { cls := .type "list", data := .seq ([] : List Value).toArray }) (fun {s Q} q => wpAny_newObj_type q (by show 0 ≤ sizeLine; decide)) (fun H h => ⟨Nat.zero_le _, [], 0, .nil, Heap.get?_push_size _ rfl⟩) hc hN I hi ok hz hg ht (fun s H C cl fp D => pm_list rfl (he s H C cl fp)) hal hs h
theorem pe_scN (hc : X.calm = true) (hN : X.N.Nodup) (hi : PI X tg iter wi) (ok : BlkOk X.N X.env.scope scope own) (hz : ∀ g ∈ gs, g.is_async = 0)
    (hg : ∀ (s : Shared) (H : Hp) (C : Addr) (cl : List (PySem.Str × Addr)) (fp : List Addr), PG (X.blk s H scope (compEnvC scope cl C X.env) fp) tg g) (ht : ∀ (s : Shared) (H : Hp) (C : Addr) (cl : List (PySem.Str × Addr)) (fp : List Addr), PTs (X.blk s H scope (compEnvC scope cl C X.env) fp) ifs tt)
    (hal : ∀ (s : Shared) (H : Hp) (C : Addr) (cl : List (PySem.Str × Addr)) (fp : List Addr), Al (X.blk s H scope (compEnvC scope cl C X.env) fp) (⟨tg, iter, ifs, 0⟩ :: gs) 1 rest (own.map (·.2)))
    (he : ∀ (s : Shared) (H : Hp) (C : Addr) (cl : List (PySem.Str × Addr)) (fp : List Addr), PE (X.blk s H scope (compEnvC scope cl C X.env) fp) elt te) (hs : ∀ x, foldedSetIterable iter X.env x = pure x := by intro _; rfl) :
    PE X (.SetComp elt (⟨tg, iter, ifs, 0⟩ :: gs) scope pos) (tCn (fun D => SetXO X.prog X.w D []) (tmS X.prog X.w te) wi g tt (own.map (·.2)) rest) := by
  refine ⟨fun pins s σ H Q I h => ?_⟩
  rw [PpSet.eval_SetComp]
  exact comp_core (b := true) (acc0 := fun D => SetXO X.prog X.w D []) (o0 := set0 X.w) (fun {s Q} q => PpSet.newSet_ok q) (fun H h => setXO_new (setX_fresh (Heap.get?_push_size _ rfl))) hc hN I hi ok hz hg ht (fun s H C cl fp D => pm_set rfl (he s H C cl fp)) hal hs h
end
end DL

/-! Data layer, part 36: comprehensions with any number of fors, by data. -/
namespace DL
open PySem L2
/-- a clause: its source, its store, its test, the slots of its and later targets, its target's slots -/
structure GDt where
  f : En → Rs (List D)
  h : D → En → Option En
  t : En → Rs Bool
  vs : List Nat
  ks : List Nat
def lcT (k : List D → En → Rs (List D)) (h : D → En → Option En) (t : En → Rs Bool) (vs : List Nat) : List D → List D → En → Rs (List D)
  | [], acc, r => .ok acc (wipeE r vs)
  | d :: ds, acc, r =>
    match h d (wipeE r vs) with
    | none => .bad
    | some r1 => (t r1).bind fun b r2 => if b = true then (k acc r2).bind fun acc' r3 => lcT k h t vs ds acc' (wipeE r3 vs) else lcT k h t vs ds acc (wipeE r2 vs)
def lcA (ok : List D → D → Bool) (fe : En → Rs D) : List GDt → List D → En → Rs (List D)
  | [], acc, r => (fe r).bind fun y r1 => if ok acc y = true then .ok (acc ++ [y]) r1 else .bad
  | c :: cs, acc, r => (c.f r).bind fun ds r1 => lcT (lcA ok fe cs) c.h c.t c.vs ds acc r1
/-- the reading of a clause -/
def rdC (K : PySem.W.Frag) (g : G) (c : GDt) : GRd := (fun s H Q => ∃ g' : G, Blk g g' ∧ tID K g' c.f s H Q, fun v s H Q => ∃ g' : G, Blk g g' ∧ tGD K g' c.ks c.h v s H Q, fun s H Q => ∃ g' : G, Blk g g' ∧ tTD K g' c.t s H Q, c.vs)
def tmG (te : TE) (Em : V → HO → HO → Prop) (A : Addr) : TM := fun σ H Q => te σ H fun y H4 => ∃ o o', H4 A = some o ∧ Em y o o' ∧ Q (L2.upd H4 A o')
section
variable {g : G} {K : PySem.W.Frag} {A : Addr} {AR : Hp → List D → HO → Prop} {Em : V → HO → HO → Prop} {ok : List D → D → Bool} {fe : En → Rs D}
theorem gs_imp (hA0 : g.H0 A = none) (hAX : ∀ p ∈ g.X, p.1 ≠ A) (mono : ∀ {F F' acc o}, Same F F' → AR F acc o → AR F' acc o) (em : ∀ {F acc o v y}, AR F acc o → RD K F v y → ok acc y = true → ∃ o', Em v o o' ∧ AR F (acc ++ [y]) o') :
    ∀ (cs : List GDt), (∀ c ∈ cs, (∀ p ∈ g.B, p.1 ∉ c.vs) ∧ ∀ i ∈ c.ks, i ∈ c.vs) → ∀ (σ : L2.St) (H F : Hp) (r : En) (acc : List D) (o : HO) (C : List D → En → Prop) (Q : Hp → Prop), Rel K g F H σ r → H A = some o → F A = none → (∀ (j : Nat) (u : OV), r[j]? = some (some u) → u.own = true → σ[j]? ≠ some (some (.ref A))) → AR F acc o →
      post K g.nw C (lcA ok fe cs acc r) → (∀ F' r' acc' o' H', Same F F' → Rel K g F' H' σ r' → H' A = some o' → F' A = none → (∀ (j : Nat) (u : OV), r'[j]? = some (some u) → u.own = true → σ[j]? ≠ some (some (.ref A))) → AR F' acc' o' → C acc' r' → Q H') →
      tGs (tmG (fun s H Q => ∃ g' : G, Blk g g' ∧ tD K g' fe s H Q) Em A) (cs.map (rdC K g)) σ H Q := by
  intro cs
  induction cs with
  | nil =>
    intro _ σ H F r acc o C Q R hA hF hno har q hQ
    refine ⟨(g.more A o).nw, ⟨rfl, rfl, rfl, rfl⟩, F, r, (R.more hA hF hno).nw, post_mono (post_w (post_bind q)) fun y r1 q1 F1 H1 v sm R1' hv => ?_⟩
    obtain ⟨hok, q1⟩ := post_if q1
    have R1' := R1'.unw
    have a1 := R1'.less.2.1
    have a2 := R1'.less.2.2.1
    have a3 := R1'.less.2.2.2
    obtain ⟨o', e1, e2⟩ := em (mono sm har) hv hok
    exact ⟨o, o', a1, e1, hQ F1 r1 (acc ++ [y]) o' _ sm (R1'.grow hA0 hAX) upd_same a2 a3 e2 q1⟩
  | cons c cs ih =>
    intro hall σ H F r acc o C Q R hA hF hno har q hQ
    obtain ⟨hb, hks⟩ := hall c List.mem_cons_self
    have hall2 : ∀ c ∈ cs, (∀ p ∈ g.B, p.1 ∉ c.vs) ∧ ∀ i ∈ c.ks, i ∈ c.vs := fun c hc => hall c (List.mem_cons_of_mem _ hc)
    have ih := ih hall2
    obtain ⟨f, h, t, vs, ks⟩ := c
    refine ⟨(g.more A o).nw, ⟨rfl, rfl, rfl, rfl⟩, F, r, (R.more hA hF hno).nw, post_mono (post_w (post_bind q)) fun ds r1 q1 F1 H1 J sm R1' wk => ?_⟩
    obtain ⟨R1, a1, a2, a3⟩ := R1'.unw.less
    have wk' : Wk K g.B F1 J ds := wk
    refine ⟨fun i m H2 => m = ds.length - i ∧ i ≤ ds.length ∧ ∃ F2 r2 acc2 o2, Same F1 F2 ∧ Rel K g F2 H2 σ r2 ∧ H2 A = some o2 ∧ F2 A = none ∧ (∀ (j : Nat) (u : OV), r2[j]? = some (some u) → u.own = true → σ[j]? ≠ some (some (.ref A))) ∧ AR F2 acc2 o2 ∧ post K g.nw C (lcT (lcA ok fe cs) h t vs (ds.drop i) acc2 r2), ⟨ds.length, rfl, Nat.zero_le _, F1, r1, acc, o, Same.refl _, R1, a1, a2, a3, mono sm har, by rw [List.drop_zero]; exact q1⟩, ?_⟩
    rintro i m H2 ⟨rfl, hi2, F2, r2, acc2, o2, sm2, R2, b1, b2, b3, b4, q2⟩
    obtain ⟨w1, w2⟩ := wk' g F2 H2 σ r2 rfl sm2 R2
    by_cases hlt : i < ds.length
    · have ed : ds[i]? = some ds[i] := List.getElem?_eq_getElem hlt
      obtain ⟨go, yl⟩ := w1 i _ ed
      rw [List.drop_eq_getElem_cons hlt] at q2
      refine .inr ⟨go, fun H3 => ∃ F2 r2 acc2 o2, Same F1 F2 ∧ Rel K g F2 H3 σ r2 ∧ H3 A = some o2 ∧ F2 A = none ∧ (∀ (j : Nat) (u : OV), r2[j]? = some (some u) → u.own = true → σ[j]? ≠ some (some (.ref A))) ∧ AR F2 acc2 o2 ∧ post K g.nw C (lcT (lcA ok fe cs) h t vs (ds.drop (i + 1)) acc2 r2), fun H3 hh => ⟨ds.length - (i + 1), by omega, rfl, hlt, hh⟩, fun x H3 hy => ?_⟩
      have R2m : Rel K (g.more A o2) F2 H2 σ r2 := R2.more b1 b2 b3
      obtain ⟨w1m, _⟩ := wk' (g.more A o2) F2 H2 σ r2 rfl sm2 R2m
      obtain ⟨F3, sm3, R3, hx⟩ := (w1m i _ ed).2 x H3 hy
      have R3w : Rel K (g.more A o2) F3 H3 (wipe σ vs) (wipeE r2 vs) := R3.forget hb (wipe_length _ _) fun i hi => wipe_keep hi
      have q3 : post K g.nw C (match h ds[i] (wipeE r2 vs) with
        | none => .bad
        | some r1 => (t r1).bind fun b r2 => if b = true then (lcA ok fe cs acc2 r2).bind fun acc' r3 => lcT (lcA ok fe cs) h t vs (ds.drop (i + 1)) acc' (wipeE r3 vs) else lcT (lcA ok fe cs) h t vs (ds.drop (i + 1)) acc2 (wipeE r2 vs)) := q2
      cases eh : h ds[i] (wipeE r2 vs) with
      | none => rw [eh] at q3; exact q3.elim
      | some r3 =>
        rw [eh] at q3
        refine ⟨(g.more A o2).nw, ⟨rfl, rfl, rfl, rfl⟩, F3, _, ds[i], r3, R3w.nw, hx, eh, fun s4 ag R4 => ⟨agr_wipe ag hks, (g.more A o2).nw, ⟨rfl, rfl, rfl, rfl⟩, F3, r3, R4, post_mono (post_w (post_bind q3)) fun b r4 q4 F4 H4 sm4 R4' => ?_⟩⟩
        have wkeep : ∀ i, i ∉ vs → σ[i]? = s4[i]? := fun i hi => by rw [ag.2 i fun z => hi (hks i z), wipe_keep hi]
        have hl4 : σ.length = s4.length := by rw [ag.1, wipe_length]
        have sm14 : Same F1 F4 := (sm2.trans sm3).trans sm4
        obtain ⟨R5, c1, c2, c3⟩ := R4'.unw.less
        have har4 : AR F4 acc2 o2 := mono (sm3.trans sm4) b4
        cases b with
        | false =>
          refine ⟨F4, wipeE r4 vs, acc2, o2, sm14, R5.forget hb hl4 wkeep, c1, c2, fun j u e eo => ?_, har4, q4⟩
          obtain ⟨e1, e2⟩ := wipeE_some e
          rw [wkeep j e2]
          exact c3 j u e1 eo
        | true =>
          refine ih s4 H4 F4 r4 acc2 o2 (fun acc' r5 => post K g.nw C (lcT (lcA ok fe cs) h t vs (ds.drop (i + 1)) acc' (wipeE r5 vs))) _ R5 c1 c2 c3 har4 (post_bind q4) fun F' r' acc' o' H' s' R' d1 d2 d3 d4 qc => ?_
          refine ⟨F', wipeE r' vs, acc', o', sm14.trans s', R'.forget hb hl4 wkeep, d1, d2, fun j u e eo => ?_, d4, qc⟩
          obtain ⟨e1, e2⟩ := wipeE_some e
          rw [wkeep j e2]
          exact d3 j u e1 eo
    · have e : i = ds.length := by omega
      subst e
      rw [List.drop_length] at q2
      refine .inl ⟨w2 _ (Nat.le_refl _), hQ F2 (wipeE r2 vs) acc2 o2 H2 (sm.trans sm2) (R2.forget hb rfl fun _ _ => rfl) b1 b2 (fun j u e eo => ?_) b4 q2⟩
      obtain ⟨e1, e2⟩ := wipeE_some e
      exact b3 j u e1 eo
end
end DL

/-! Data layer, part 37: [.. for .. for ..], sorted({.. for .. for ..}). -/
namespace DL
open PySem L2 PySem.Froz
section
variable {X : Cx} {g : G}
/-- the later clauses have these functions -/
def AlD (X : Cx) (g : G) (scope : Scope) : List Comprehension → List GDt → List Nat → Prop
  | [], [], _ => True
  | cl :: cls, c :: cs, vp => (∀ (s : Shared) (H : Hp) (C : Addr) (cx : List (Str × Addr)) (fp : List Addr) (g' : G), Blk g g' → DI (X.blk s H scope (compEnvC scope cx C X.env) fp) g' cl.target cl.iter c.f) ∧
      (∀ (s : Shared) (H : Hp) (C : Addr) (cx : List (Str × Addr)) (fp : List Addr) (g' : G), Blk g g' → DG (X.blk s H scope (compEnvC scope cx C X.env) fp) g' cl.target c.ks c.h) ∧
      (∀ (s : Shared) (H : Hp) (C : Addr) (cx : List (Str × Addr)) (fp : List Addr) (g' : G), Blk g g' → PTs (X.blk s H scope (compEnvC scope cx C X.env) fp) cl.ifs (tTD X.K g' c.t)) ∧
      (∀ env x, foldedSetIterable cl.iter env x = pure x) ∧ (∀ i ∈ c.vs, i ∈ vp) ∧ (∀ p ∈ g.B, p.1 ∉ c.vs) ∧ (∀ i ∈ c.ks, i ∈ c.vs) ∧ cl.is_async = 0 ∧ AlD X g scope cls cs c.vs
  | _, _, _ => False
theorem AlD.al {scope : Scope} : ∀ (gs : List Comprehension) (cs : List GDt) (vp : List Nat), AlD X g scope gs cs vp → ∀ (pre : List Comprehension) (s : Shared) (H : Hp) (C : Addr) (cx : List (Str × Addr)) (fp : List Addr),
    Al (X.blk s H scope (compEnvC scope cx C X.env) fp) (pre ++ gs) pre.length (cs.map (rdC X.K g)) vp
  | [], [], vp, _, pre, s, H, C, cx, fp => by
    show (pre ++ [])[pre.length]? = none
    simp
  | cl :: cls, c :: cs, vp, h, pre, s, H, C, cx, fp => by
    obtain ⟨h1, h2, h3, h4, h5, h6, h7, h8, h9⟩ := h
    have rec1 := AlD.al cls cs c.vs h9 (pre ++ [cl]) s H C cx fp
    rw [List.append_assoc, List.length_append] at rec1
    refine ⟨cl, by simp, ⟨fun pins s2 σ H2 Q I ⟨g', eg, q⟩ => (h1 s H C cx fp g' eg).run pins s2 σ H2 Q I q⟩, ⟨fun pins s2 σ H2 v u Q I rv ⟨g', eg, q⟩ => (h2 s H C cx fp g' eg).run pins s2 σ H2 v u Q I rv q⟩, ⟨fun pins s2 σ H2 Q I ⟨g', eg, q⟩ => (h3 s H C cx fp g' eg).run pins s2 σ H2 Q I q⟩, h4 _, h5, rec1⟩
  | [], _ :: _, _, h, _, _, _, _, _, _ => h.elim
  | _ :: _, [], _, h, _, _, _, _, _, _ => h.elim
theorem AlD.z {scope : Scope} : ∀ (gs : List Comprehension) (cs : List GDt) (vp : List Nat), AlD X g scope gs cs vp → ∀ c ∈ gs, c.is_async = 0
  | [], _, _, _, c, hc => by cases hc
  | cl :: cls, c :: cs, vp, h, d, hd => by
    obtain ⟨_, _, _, _, _, _, _, h8, h9⟩ := h
    rcases List.mem_cons.mp hd with rfl | hd
    · exact h8
    · exact AlD.z cls cs c.vs h9 d hd
  | _ :: _, [], _, h, _, _ => h.elim
theorem AlD.bk {scope : Scope} : ∀ (gs : List Comprehension) (cs : List GDt) (vp : List Nat), AlD X g scope gs cs vp → ∀ c ∈ cs, (∀ p ∈ g.B, p.1 ∉ c.vs) ∧ ∀ i ∈ c.ks, i ∈ c.vs
  | _, [], _, _, c, hc => by cases hc
  | cl :: cls, c :: cs, vp, h, d, hd => by
    obtain ⟨_, _, _, _, _, h6, h7, _, h9⟩ := h
    rcases List.mem_cons.mp hd with rfl | hd
    · exact ⟨h6, h7⟩
    · exact AlD.bk cls cs c.vs h9 d hd
  | [], _ :: _, _, h, _, _ => h.elim
end
section
variable {g : G} {K : PySem.W.Frag} {AR : Addr → Hp → List D → HO → Prop} {Em : Addr → V → HO → HO → Prop} {ok : List D → D → Bool} {fe : En → Rs D} {acc0 : Addr → HO}
/-- the first clause: the new object is laid behind its source -/
theorem top_imp (mono : ∀ {A F F' acc o}, Same F F' → AR A F acc o → AR A F' acc o) (em : ∀ {A F acc o v y}, AR A F acc o → RD K F v y → ok acc y = true → ∃ o', Em A v o o' ∧ AR A F (acc ++ [y]) o') (h0 : ∀ A F, AR A F [] (acc0 A))
    (c : GDt) (cs : List GDt) (hb : ∀ p ∈ g.B, p.1 ∉ c.vs) (hks : ∀ i ∈ c.ks, i ∈ c.vs) (hall : ∀ c ∈ cs, (∀ p ∈ g.B, p.1 ∉ c.vs) ∧ ∀ i ∈ c.ks, i ∈ c.vs) (σ : L2.St) (H F : Hp) (r : En) (C : List D → En → Prop) (Q : VK) (R : Rel K g F H σ r) (q : post K g.nw C (lcA ok fe (c :: cs) [] r))
    (hQ : ∀ A F' r' acc' o' H', Same F F' → Rel K g F' H' σ r' → H' A = some o' → F' A = none → g.H0 A = none → (∀ p ∈ g.X, p.1 ≠ A) → (∀ (j : Nat) (u : OV), r'[j]? = some (some u) → u.own = true → σ[j]? ≠ some (some (.ref A))) → AR A F' acc' o' → C acc' r' → Q (.ref A) H') :
    tCn acc0 (fun A => tmG (fun s H Q => ∃ g' : G, Blk g g' ∧ tD K g' fe s H Q) (Em A) A) (tID K g c.f) (fun v s H Q => ∃ g' : G, Blk g g' ∧ tGD K g' c.ks c.h v s H Q) (fun s H Q => ∃ g' : G, Blk g g' ∧ tTD K g' c.t s H Q) c.vs (cs.map (rdC K g)) σ H Q := by
  obtain ⟨f, h, t, vs, ks⟩ := c
  refine ⟨F, r, R, post_mono (post_w (post_bind q)) fun ds r1 q1 F1 H1 J sm R1 wk => ?_⟩
  intro A nA
  have hA0 : g.H0 A = none := R1.live nA
  have hAX : ∀ p ∈ g.X, p.1 ≠ A := fun p hp z => by have := (R1.ext p hp).1; rw [z, nA] at this; cases this
  refine ⟨fun i m H2 => m = ds.length - i ∧ i ≤ ds.length ∧ ∃ F2 r2 acc2 o2, Same F1 F2 ∧ Rel K g F2 H2 σ r2 ∧ H2 A = some o2 ∧ F2 A = none ∧ (∀ (j : Nat) (u : OV), r2[j]? = some (some u) → u.own = true → σ[j]? ≠ some (some (.ref A))) ∧ AR A F2 acc2 o2 ∧ post K g.nw C (lcT (lcA ok fe cs) h t vs (ds.drop i) acc2 r2),
    ⟨ds.length, rfl, Nat.zero_le _, F1, r1, [], acc0 A, Same.refl _, R1.laid nA, upd_same, R1.ff nA, fun j u e eo => not_own R1 nA j u e eo, h0 A F1, by rw [List.drop_zero]; exact q1⟩, ?_⟩
  rintro i m H2 ⟨rfl, hi2, F2, r2, acc2, o2, sm2, R2, b1, b2, b3, b4, q2⟩
  obtain ⟨w1, w2⟩ := wk g F2 H2 σ r2 rfl sm2 R2
  by_cases hlt : i < ds.length
  · have ed : ds[i]? = some ds[i] := List.getElem?_eq_getElem hlt
    obtain ⟨go, yl⟩ := w1 i _ ed
    rw [List.drop_eq_getElem_cons hlt] at q2
    refine .inr ⟨go, fun H3 => ∃ F2 r2 acc2 o2, Same F1 F2 ∧ Rel K g F2 H3 σ r2 ∧ H3 A = some o2 ∧ F2 A = none ∧ (∀ (j : Nat) (u : OV), r2[j]? = some (some u) → u.own = true → σ[j]? ≠ some (some (.ref A))) ∧ AR A F2 acc2 o2 ∧ post K g.nw C (lcT (lcA ok fe cs) h t vs (ds.drop (i + 1)) acc2 r2), fun H3 hh => ⟨ds.length - (i + 1), by omega, rfl, hlt, hh⟩, fun x H3 hy => ?_⟩
    have R2m : Rel K (g.more A o2) F2 H2 σ r2 := R2.more b1 b2 b3
    obtain ⟨w1m, _⟩ := wk (g.more A o2) F2 H2 σ r2 rfl sm2 R2m
    obtain ⟨F3, sm3, R3, hx⟩ := (w1m i _ ed).2 x H3 hy
    have R3w : Rel K (g.more A o2) F3 H3 (wipe σ vs) (wipeE r2 vs) := R3.forget hb (wipe_length _ _) fun i hi => wipe_keep hi
    have q3 : post K g.nw C (match h ds[i] (wipeE r2 vs) with
      | none => .bad
      | some r1 => (t r1).bind fun b r2 => if b = true then (lcA ok fe cs acc2 r2).bind fun acc' r3 => lcT (lcA ok fe cs) h t vs (ds.drop (i + 1)) acc' (wipeE r3 vs) else lcT (lcA ok fe cs) h t vs (ds.drop (i + 1)) acc2 (wipeE r2 vs)) := q2
    cases eh : h ds[i] (wipeE r2 vs) with
    | none => rw [eh] at q3; exact q3.elim
    | some r3 =>
      rw [eh] at q3
      refine ⟨(g.more A o2).nw, ⟨rfl, rfl, rfl, rfl⟩, F3, _, ds[i], r3, R3w.nw, hx, eh, fun s4 ag R4 => ⟨agr_wipe ag hks, (g.more A o2).nw, ⟨rfl, rfl, rfl, rfl⟩, F3, r3, R4, post_mono (post_w (post_bind q3)) fun b r4 q4 F4 H4 sm4 R4' => ?_⟩⟩
      have wkeep : ∀ i, i ∉ vs → σ[i]? = s4[i]? := fun i hi => by rw [ag.2 i fun z => hi (hks i z), wipe_keep hi]
      have hl4 : σ.length = s4.length := by rw [ag.1, wipe_length]
      have sm14 : Same F1 F4 := (sm2.trans sm3).trans sm4
      obtain ⟨R5, c1, c2, c3⟩ := R4'.unw.less
      have har4 : AR A F4 acc2 o2 := mono (sm3.trans sm4) b4
      cases b with
      | false =>
        refine ⟨F4, wipeE r4 vs, acc2, o2, sm14, R5.forget hb hl4 wkeep, c1, c2, fun j u e eo => ?_, har4, q4⟩
        obtain ⟨e1, e2⟩ := wipeE_some e
        rw [wkeep j e2]
        exact c3 j u e1 eo
      | true =>
        refine gs_imp (A := A) (AR := AR A) (Em := Em A) hA0 hAX mono em cs hall s4 H4 F4 r4 acc2 o2 (fun acc' r5 => post K g.nw C (lcT (lcA ok fe cs) h t vs (ds.drop (i + 1)) acc' (wipeE r5 vs))) _ R5 c1 c2 c3 har4 (post_bind q4) fun F' r' acc' o' H' s' R' d1 d2 d3 d4 qc => ?_
        refine ⟨F', wipeE r' vs, acc', o', sm14.trans s', R'.forget hb hl4 wkeep, d1, d2, fun j u e eo => ?_, d4, qc⟩
        obtain ⟨e1, e2⟩ := wipeE_some e
        rw [wkeep j e2]
        exact d3 j u e1 eo
  · have e : i = ds.length := by omega
    subst e
    rw [List.drop_length] at q2
    refine .inl ⟨w2 _ (Nat.le_refl _), hQ A F2 (wipeE r2 vs) acc2 o2 H2 (sm.trans sm2) (R2.forget hb rfl fun _ _ => rfl) b1 b2 hA0 hAX (fun j u e eo => ?_) b4 q2⟩
    obtain ⟨e1, e2⟩ := wipeE_some e
    exact b3 j u e1 eo
end
end DL

/-! Data layer, part 38: the rules. -/
namespace DL
open PySem L2 PySem.Froz
def EmL : Addr → V → HO → HO → Prop := fun _ v o o' => ∃ vacc, o = .lst vacc ∧ vacc.length < sizeLine ∧ o' = .lst (vacc ++ [v])
def EmS (P : Program) (w : World) : Addr → V → HO → HO → Prop := fun A v o o' => ∃ t l, v = .str t ∧ o = SetXO P w A l ∧ l.length ≤ 4000 ∧ o' = SetXO P w A (insT l t)
section
variable {Y : Cx} {elt : Expr} {te : TE} {D : Addr}
theorem pmG_list (hxe : Y.xe = FF) (he : PE Y elt te) : PM Y false elt (.ref D) (tmG te (EmL D) D) := by
  intro pins s σ H Q I h
  have run := he.run pins s σ H _ I h
  rw [hxe] at run
  show wpAny _ _ (eval elt Y.env >>= fun x => call (.builtin "list.append") [.ref D, x] >>= fun _ => pure ()) _ _ s
  refine wpAny_bind (thnF run fun z s1 ⟨y, H1, I1, r1, o, o', hD, ⟨acc, e1, hz, e2⟩, q⟩ => ?_)
  subst e1 e2
  exact wpAny_bind (app_ok I1 hD hz r1 fun s2 I2 => wpAny_pure ⟨_, I2, q⟩)
theorem pmG_set (hxe : Y.xe = FF) (he : PE Y elt te) : PM Y true elt (.ref D) (tmG te (EmS Y.prog Y.w D) D) := by
  intro pins s σ H Q I h
  have run := he.run pins s σ H _ I h
  rw [hxe] at run
  show wpAny _ _ (eval elt Y.env >>= fun x => standAt elt.pos >>= fun _ => call (.builtin "set.add") [.ref D, x] >>= fun _ => pure ()) _ _ s
  refine wpAny_bind (thnF run fun z s1 ⟨y, H1, I1, r1, o, o', hD, ⟨t, l, ey, e1, hz, e2⟩, q⟩ => ?_)
  subst ey e1 e2
  obtain ⟨u, rfl⟩ := r1
  refine wpAny_bind (wpAny_standAt (wpAny_bind ?_))
  have R : SetX Y.prog Y.w s1.heap D l := (I1.hok D _ hD).1
  refine setX_call R (by unfold scanBound; omega) fun h' sb new => ?_
  exact wpAny_pure ⟨_, I1.write (e := D) (t' := s1.toks + 1) (by rw [hD]; trivial) (.inl rfl) (fun b u hb hu => (sb.2 b hb).trans hu) new.ob (setXO_new new), q⟩
end
/-- what a list holds; what a set does -/
def okL : List D → D → Bool := fun acc _ => decide (acc.length < 1000000)
def isT : D → Bool
  | .str _ => true
  | _ => false
def okS : List D → D → Bool := fun acc y => isT y && decide (acc.length < 4000)
def ARL (K : PySem.W.Frag) : Addr → Hp → List D → HO → Prop := fun _ F acc o => ∃ vacc, o = .lst vacc ∧ RDs K F vacc acc
def ARS (P : Program) (w : World) : Addr → Hp → List D → HO → Prop := fun A _ acc o => ∃ ts, acc = ts.map D.str ∧ o = SetXO P w A (addT [] ts) ∧ ts.length ≤ 4000
section
variable {X : Cx} {g : G} {elt tg iter : Expr} {ifs : List Expr} {gs : List Comprehension} {scope : Scope} {own : List (PySem.Str × Nat)} {pos : Pos} {c : GDt} {cs : List GDt} {fe : En → Rs D}
/-- [elt for .. for ..] -/
def lcND (cs : List GDt) (fe : En → Rs D) : En → Rs OV := fun r => (lcA okL fe cs [] r).noE.map OV.ow
theorem do_lcN (hc : X.calm = true) (hN : X.N.Nodup) (hi : DI X g tg iter c.f) (ok : BlkOk X.N X.env.scope scope own) (hvs : own.map (·.2) = c.vs) (hb : ∀ p ∈ g.B, p.1 ∉ c.vs) (hks : ∀ i ∈ c.ks, i ∈ c.vs)
    (hg : ∀ (s : Shared) (H : Hp) (C : Addr) (cx : List (PySem.Str × Addr)) (fp : List Addr) (g' : G), Blk g g' → DG (X.blk s H scope (compEnvC scope cx C X.env) fp) g' tg c.ks c.h)
    (ht : ∀ (s : Shared) (H : Hp) (C : Addr) (cx : List (PySem.Str × Addr)) (fp : List Addr) (g' : G), Blk g g' → PTs (X.blk s H scope (compEnvC scope cx C X.env) fp) ifs (tTD X.K g' c.t))
    (hal : AlD X g scope gs cs c.vs)
    (he : ∀ (s : Shared) (H : Hp) (C : Addr) (cx : List (PySem.Str × Addr)) (fp : List Addr) (g' : G), Blk g g' → DE (X.blk s H scope (compEnvC scope cx C X.env) fp) g' elt fe) (hs : ∀ x, foldedSetIterable iter X.env x = pure x := by intro _; rfl) :
    DO X g (.ListComp elt (⟨tg, iter, ifs, 0⟩ :: gs) scope pos) (lcND (c :: cs) fe) := by
  have pe : PE X (.ListComp elt (⟨tg, iter, ifs, 0⟩ :: gs) scope pos) (tCn (fun _ => .lst []) (fun A => tmG (fun s H Q => ∃ g' : G, Blk g g' ∧ tD X.K g' fe s H Q) (EmL A) A) (tID X.K g c.f) (fun v s H Q => ∃ g' : G, Blk g g' ∧ tGD X.K g' c.ks c.h v s H Q) (fun s H Q => ∃ g' : G, Blk g g' ∧ tTD X.K g' c.t s H Q) c.vs (cs.map (rdC X.K g))) := by
    rw [← hvs] at hal ⊢
    refine ⟨fun pins s σ H Q I h => ?_⟩
    rw [eval_ListComp]
    exact comp_core (b := false) (acc0 := fun _ => .lst []) (o0 := { cls := .type "list", data := .seq ([] : List Value).toArray }) (fun {s Q} q => wpAny_newObj_type q (by show 0 ≤ sizeLine; decide)) (fun H h => ⟨Nat.zero_le _, [], 0, .nil, Heap.get?_push_size _ rfl⟩) hc hN I hi ok (AlD.z gs cs _ hal)
      (fun s H C cx fp => ⟨fun pins s2 σ H2 v u Q I rv ⟨g', eg, q⟩ => (hg s H C cx fp g' eg).run pins s2 σ H2 v u Q I rv q⟩)
      (fun s H C cx fp => ⟨fun pins s2 σ H2 Q I ⟨g', eg, q⟩ => (ht s H C cx fp g' eg).run pins s2 σ H2 Q I q⟩)
      (fun s H C cx fp D => pmG_list rfl ⟨fun pins s2 σ H2 Q I ⟨g', eg, q⟩ => (he s H C cx fp g' eg).run pins s2 σ H2 Q I q⟩)
      (fun s H C cx fp => AlD.al gs cs _ hal [⟨tg, iter, ifs, 0⟩] s H C cx fp) hs h
  refine PE.imp pe fun s H Q ⟨F, r, R, q⟩ => ?_
  refine top_imp (AR := ARL X.K) (ok := okL) (fun sm ⟨vacc, e, h⟩ => ⟨vacc, e, RDs.mono sm _ h⟩) (fun {A F acc o v y} ⟨vacc, e, h⟩ hv hok => ?_) (fun A F => ⟨[], rfl, .nil⟩) c cs hb hks (AlD.bk gs cs _ hal) s H F r _ Q R (post_noE (post_map q)) fun A F' r' acc' o' H' sm R' h1 h2 h3 h4 h5 ⟨vacc, e, h6⟩ qc => ?_
  · subst e
    have hl : acc.length < 1000000 := of_decide_eq_true hok
    exact ⟨_, ⟨vacc, rfl, by rw [h.length]; exact Nat.lt_of_lt_of_le hl mil_line, rfl⟩, vacc ++ [v], rfl, h.app (.cons hv .nil)⟩
  · subst e
    exact qc F' H' (.ref A) sm R' ⟨A, vacc, rfl, h2, h1, h6, h3, h5, h4⟩
/-- sorted({elt for .. for ..}), texts -/
def scND (cs : List GDt) (fe : En → Rs D) : En → Rs OV := fun r => (lcA okS fe cs [] r).noE.bind fun ys r1 => ofO ((strsOf ys).map fun ts => OV.ow ((srtT ts).map D.str)) r1
theorem strsOf_strs (ts : List Str) : strsOf (ts.map D.str) = some ts := by
  induction ts with
  | nil => rfl
  | cons t ts ih =>
    show (strsOf (ts.map D.str)).map _ = _
    rw [ih]
    rfl
theorem do_srtSc {k : Nat} {p1 p2 : Pos} (hr : Room k X.A) (hm : X.mg "sorted" = none) (hc : X.calm = true) (hN : X.N.Nodup) (hi : DI X g tg iter c.f) (ok : BlkOk X.N X.env.scope scope own) (hvs : own.map (·.2) = c.vs) (hb : ∀ p ∈ g.B, p.1 ∉ c.vs) (hks : ∀ i ∈ c.ks, i ∈ c.vs)
    (hg : ∀ (s : Shared) (H : Hp) (C : Addr) (cx : List (PySem.Str × Addr)) (fp : List Addr) (g' : G), Blk g g' → DG (X.blk s H scope (compEnvC scope cx C X.env) fp) g' tg c.ks c.h)
    (ht : ∀ (s : Shared) (H : Hp) (C : Addr) (cx : List (PySem.Str × Addr)) (fp : List Addr) (g' : G), Blk g g' → PTs (X.blk s H scope (compEnvC scope cx C X.env) fp) ifs (tTD X.K g' c.t))
    (hal : AlD X g scope gs cs c.vs)
    (he : ∀ (s : Shared) (H : Hp) (C : Addr) (cx : List (PySem.Str × Addr)) (fp : List Addr) (g' : G), Blk g g' → DE (X.blk s H scope (compEnvC scope cx C X.env) fp) g' elt fe) (hs : ∀ x, foldedSetIterable iter X.env x = pure x := by intro _; rfl)
    (hgl : Gl X "sorted" := by rfl) (hst : starEach [.SetComp elt (⟨tg, iter, ifs, 0⟩ :: gs) scope pos] X.env = (false, eval (.SetComp elt (⟨tg, iter, ifs, 0⟩ :: gs) scope pos) X.env) :: starEach [] X.env := by rfl) :
    DO X g (.Call (.Name "sorted" p1) [.SetComp elt (⟨tg, iter, ifs, 0⟩ :: gs) scope pos] [] p2) (scND (c :: cs) fe) := by
  have pe : PE X (.SetComp elt (⟨tg, iter, ifs, 0⟩ :: gs) scope pos) (tCn (fun D => SetXO X.prog X.w D []) (fun A => tmG (fun s H Q => ∃ g' : G, Blk g g' ∧ tD X.K g' fe s H Q) (EmS X.prog X.w A) A) (tID X.K g c.f) (fun v s H Q => ∃ g' : G, Blk g g' ∧ tGD X.K g' c.ks c.h v s H Q) (fun s H Q => ∃ g' : G, Blk g g' ∧ tTD X.K g' c.t s H Q) c.vs (cs.map (rdC X.K g))) := by
    rw [← hvs] at hal ⊢
    refine ⟨fun pins s σ H Q I h => ?_⟩
    rw [PpSet.eval_SetComp]
    exact comp_core (b := true) (acc0 := fun D => SetXO X.prog X.w D []) (o0 := set0 X.w) (fun {s Q} q => PpSet.newSet_ok q) (fun H h => setXO_new (setX_fresh (Heap.get?_push_size _ rfl))) hc hN I hi ok (AlD.z gs cs _ hal)
      (fun s H C cx fp => ⟨fun pins s2 σ H2 v u Q I rv ⟨g', eg, q⟩ => (hg s H C cx fp g' eg).run pins s2 σ H2 v u Q I rv q⟩)
      (fun s H C cx fp => ⟨fun pins s2 σ H2 Q I ⟨g', eg, q⟩ => (ht s H C cx fp g' eg).run pins s2 σ H2 Q I q⟩)
      (fun s H C cx fp D => pmG_set (Y := X.blk s H scope (compEnvC scope cx C X.env) fp) rfl ⟨fun pins s2 σ H2 Q I ⟨g', eg, q⟩ => (he s H C cx fp g' eg).run pins s2 σ H2 Q I q⟩)
      (fun s H C cx fp => AlD.al gs cs _ hal [⟨tg, iter, ifs, 0⟩] s H C cx fp) hs h
  refine PE.imp (pe_callB (cr_srtX hr) hgl hm (by decide +kernel) (pa_cons pe pa_nil hst) (he := hst)) fun s H Q ⟨F, r, R, q⟩ => ?_
  unfold tCB tCons tNil
  refine top_imp (AR := ARS X.prog X.w) (Em := EmS X.prog X.w) (acc0 := fun D => SetXO X.prog X.w D []) (ok := okS) (fun sm h => h) (fun {A F acc o v y} ⟨ts, e1, e2, hl⟩ hv hok => ?_) (fun A F => ⟨[], rfl, rfl, Nat.zero_le _⟩) c cs hb hks (AlD.bk gs cs _ hal) s H F r _ _ R (post_noE (post_bind q)) fun A F' r' acc' o' H' sm R' h1 h2 h3 h4 h5 ⟨ts, e1, e2, hl⟩ qc => ?_
  · subst e1 e2
    obtain ⟨k1, k2⟩ := Bool.and_eq_true_iff.mp (show (isT y && decide ((ts.map D.str).length < 4000)) = true from hok)
    have k2 := of_decide_eq_true k2
    rw [List.length_map] at k2
    cases y with
    | str t =>
      cases hv
      have hal2 := addT_len ts []
      simp only [List.length_nil] at hal2
      exact ⟨_, ⟨t, addT [] ts, rfl, rfl, by omega, rfl⟩, ts ++ [t], by rw [List.map_append]; rfl, by rw [addT_snoc], by rw [List.length_append]; exact k2⟩
    | _ => cases k1
  · subst e1 e2
    have qc := qc
    rw [strsOf_strs] at qc
    have hal2 := addT_len ts []
    simp only [List.length_nil] at hal2
    show rSrtX X [V.ref A] H' Q
    refine ⟨A, addT [] ts, rfl, h1, by omega, fun p np => ?_⟩
    exact PO.new R' (RDs.strs _) (fun F2 H2 v s2 R2 h2 => qc F2 H2 v (sm.trans s2) R2 h2) p np
end
end DL

/-! Data layer, part 39: [*xs, e, ..]. -/
namespace DL
open PySem L2
def stL (f : En → Rs D) (fs : List (En → Rs D)) : En → Rs OV := fun r => (f r).bind fun d r1 =>
  match d with
  | .lst xs => (evs fs r1).bind fun ds r2 => if (xs ++ ds).length ≤ 1000 then .ok (.ow (xs ++ ds)) r2 else .bad
  | _ => .bad
section
variable {X : Cx} {g : G} {e : Expr} {es : List Expr} {f : En → Rs D} {fs : List (En → Rs D)} {p pos : Pos}
theorem do_star (h : DE X g e f) (hs : DA X g es fs) (hst : starEach (.Starred e p :: es) X.env = (true, eval e X.env) :: starEach es X.env := by rfl) : DO X g (.List (.Starred e p :: es) pos) (stL f fs) :=
  PE.imp (pe_lst (StX.pa_star h hs hst)) fun s H Q ⟨F, r, R, q⟩ => ⟨F, r, R, post_mono (post_bind q) fun d r1 q F1 H1 v sm R1 hv => by
    cases d with
    | lst xs =>
      cases hv with
      | lst h1 h2 =>
        refine ⟨_, _, rfl, .inr (.of (R1.sub _ _ h1)), F1, r1, R1, post_mono (post_bind q) fun ds r2 q F2 H2 vs s2 R2 hvs => ?_⟩
        obtain ⟨hl, q⟩ := post_if q
        have hall := RDs.app (RDs.mono s2 xs h2) hvs
        refine ⟨le_line (by rw [hall.length]; exact hl), fun p np => ?_⟩
        exact q _ _ _ (sm.trans s2) (R2.laid np) (RV.new R2 np hall)
    | _ => exact q.elim⟩
end
end DL

/-! Data layer, part 40: a, b = x, y where both names own what they get. -/
namespace DL
open PySem L2
section
variable {X : Cx} {g : G} {a b : Expr} {pos pt pt2 px py : Pos} {x y : Str} {kt k2 i j : Nat}
def par2o (i j : Nat) (f h : En → Rs OV) : En → SRs := fun r => thenS (f r) fun o r1 => thenS (h r1).noE fun o2 r2 => .nx ((r2.set i (some o)).set j (some o2))
/-- an owned value w that is not a, where slot i gets the list at a -/
theorem RV.setOw {K : PySem.W.Frag} {F H : Hp} {s : St} {r : En} {w : V} {o : OV} {p : Addr} {q : HO} {xs : List D} {i : Nat} (hw : RV K (g.more p q) F H s r w o) : RV K g F H (s.set i (some (.ref p))) (r.set i (some (.ow xs))) w o := by
  cases o with
  | sh d' => exact hw
  | ow ys =>
    obtain ⟨a, vs, e1, e2, e3, e4, e5, e6, e7⟩ := hw
    have hpa : p ≠ a := e7 (p, q) (List.mem_cons_self ..)
    refine ⟨a, vs, e1, e2, e3, e4, e5, fun k u ek eo => ?_, fun z hz => e7 z (List.mem_cons_of_mem _ hz)⟩
    by_cases hk : i = k
    · subst hk
      by_cases hi : i < s.length
      · rw [List.getElem?_set_self hi]
        intro z
        cases z
        exact hpa rfl
      · rw [List.getElem?_eq_none (by simpa using hi)]
        intro z
        cases z
    · rw [List.getElem?_set_ne hk] at ek ⊢
      exact e6 k u ek eo
  | od ys => exact hw.elim
  | oi c ys => exact hw.elim
  | exc c => exact hw.elim
theorem ds_par2o {f h : En → Rs OV} (hbi : ∀ p ∈ g.B, p.1 ≠ i) (hbj : ∀ p ∈ g.B, p.1 ≠ j) (hN : X.N.Nodup) (hc : X.calm = true) (hij : i ≠ j) (hf : DO X g a f) (hh : ∀ g' : G, Blk g g' → DO X g' b h) (hi : X.N[i]? = some x := by rfl) (hj : X.N[j]? = some y := by rfl)
    (hx : X.env.scope.names.lookup x = some .local := by rfl) (hy : X.env.scope.names.lookup y = some .local := by rfl)
    (hw : swappedStores [.Tuple [.Name x px, .Name y py] kt pt] (.Tuple [a, b] k2 pt2) X.env = pure (some [x, y]) := by rfl)
    (hs : swapsWithSole [.Tuple [.Name x px, .Name y py] kt pt] (.Tuple [a, b] k2 pt2) pos.line X.env = pure false := by rfl)
    (h1 : starEach [a, b] X.env = (false, eval a X.env) :: starEach [b] X.env := by rfl) (h2 : starEach [b] X.env = (false, eval b X.env) :: starEach [] X.env := by rfl) :
    DS X g (.Assign [.Tuple [.Name x px, .Name y py] kt pt] (.Tuple [a, b] k2 pt2) pos) (par2o i j f h) := by
  have hb : PE X b (fun s H Q => ∃ g' : G, Blk g g' ∧ tO X.K g' h s H Q) := ⟨fun pins s σ H Q I ⟨g', eg, q⟩ => (hh g' eg).run pins s σ H Q I q⟩
  refine PS.imp (ps_par hc hN hi hj hij hx hy (pa_cons hf (pa_cons hb pa_nil h2) h1) hw hs) fun E s H ⟨F, r, R, q⟩ => ⟨F, r, R, post_mono (post_then q) fun o r1 q F1 H1 v sm R1 hv => ?_⟩
  cases o with
  | sh d =>
    refine ⟨g.nw, ⟨rfl, rfl, rfl, rfl⟩, F1, r1, R1.nw, post_mono (post_noE (post_then q)) fun o2 r2 q F2 H2 w sm2 R2 hw => ?_⟩
    have R2 := R2.unw
    have hw : RV X.K g F2 H2 s r2 w o2 := by cases o2 <;> exact hw
    have hv : RD X.K F1 v d := hv
    exact ⟨v, w, rfl, q F2 H2 _ (sm.trans sm2) ((R2.set hbi (o := .sh d) (RD.mono sm2 d hv)).set hbj hw.set)⟩
  | ow xs =>
    obtain ⟨p, vs, rfl, e2, e3, e4, e5, e6, e7⟩ := hv
    refine ⟨(g.more p (.lst vs)).nw, ⟨rfl, rfl, rfl, rfl⟩, F1, r1, (R1.more e3 e2 e6).nw, post_mono (post_noE (post_then q)) fun o2 r2 q F2 H2 w sm2 R2 hw => ?_⟩
    have hw : RV X.K (g.more p (.lst vs)) F2 H2 s r2 w o2 := by cases o2 <;> exact hw
    obtain ⟨R2', f1, f2, f3⟩ := R2.unw.less
    have hv2 : RV X.K g F2 H2 s r2 (.ref p) (.ow xs) := ⟨p, vs, rfl, f2, f1, RDs.mono sm2 xs e4, e5, f3, e7⟩
    exact ⟨.ref p, w, rfl, q F2 H2 _ (sm.trans sm2) ((R2'.set hbi hv2).set hbj hw.setOw)⟩
  | od xs => exact hv.elim
  | oi c xs => exact hv.elim
  | exc c => exact hv.elim
end
end DL

/-! Data layer, part 41: defs that may raise, their calls. -/
namespace DL
open PySem L2
/-- what a def that may raise gives -/
inductive FR where
  | ok (o : OV)
  | ex (x : Exn)
  | bad
/-- what is wished of errors is taken -/
def TkG (X : Cx) (g : G) : Prop := ∀ W, g.W = some W → Takes X W
theorem TkG.none {X : Cx} {g : G} (h : g.W = none) : TkG X g := fun W e => by rw [h] at e; cases e
/-- the wish at the slots σ -/
def WG (g : G) (σ : St) : XK := fun cls d H => match g.W with
  | none => False
  | some W => W cls d σ H
theorem passG {X : Cx} {g : G} (tk : TkG X g) (σ : St) : PassesAt (L2.CX X.prog X.w) X σ (WG g σ) := by
  cases e : g.W with
  | none =>
    intro pins H s er s' I h
    obtain ⟨_, _, _, _, _, _, _, _, _, _, _, _, z⟩ := h
    unfold WG at z
    rw [e] at z
    exact z.elim
  | some W =>
    have h := passAt (tk W e) σ
    intro pins H s er s' I hc
    refine h pins H s er s' I ?_
    obtain ⟨a, B, H', cls, d, h1, h2, h3, h4, h5, h6, h7, h8⟩ := hc
    refine ⟨a, B, H', cls, d, h1, h2, h3, h4, h5, h6, h7, ?_⟩
    unfold WG at h8
    rw [e] at h8
    exact h8
def fnX (n : Nat) (m : En → SRs) : List D → FR := fun ds => match m (startE n (ds.map OV.sh)) with
  | .nx _ => .ok (.sh .non)
  | .rt o _ => .ok o
  | .ex x _ => .ex x
  | _ => .bad
/-- what is wanted of a def's result -/
def QX (K : PySem.W.Frag) (F H : Hp) (Q : VK) (E : XK) : FR → Prop
  | .ok o => ∀ F' H' v, Same F F' → Same F' H' → Fresh F F' H → Same H H' → RVf K F' H' H v o → Q v H'
  | .ex x => ∀ F' H' cls d, Same F F' → Same F' H' → Fresh F F' H → Same H H' → RX K F' cls d x → E cls d H'
  | .bad => False
def spX (K : PySem.W.Frag) (n : Nat) (f : List D → FR) : Sp := fun vs H Q E => ∃ F ds, Same F H ∧ RDs K F vs ds ∧ ds.length = n ∧ QX K F H Q E (f ds)
section
variable {P : Program} {w : World} {K : PySem.W.Frag} {mg : Str → Option Value} {base : Heap}
theorem fnX_ok {x qual : Str} {st : Stmt} {f : Addr} {fd : FuncData} {N ps : List Str} {k n np : Nat} {m : En → SRs} (F : Fun K x qual st f fd) (S : FnScope N ps (defScope st)) (en : N.length = n) (ep : ps.length = np)
    (hbody : ∀ (cdv : Value) (A : Around) (outer : List Env) (s : Shared) (H : Hp) (E : XK) (g : G), A.guards = some [] → Room k (A.deeper (PyProof.Rows.envOfC qual (defScope st) s.heap.objs.size f cdv)) → g.B = [] → g.w = w → g.xc = none →
      TkG (cxOf (L2.CX P w) P w K mg base N qual (defScope st) f cdv A outer s H E) g → PassesOwn (model P w) (cxOf (L2.CX P w) P w K mg base N qual (defScope st) f cdv A outer s H E).A (cxOf (L2.CX P w) P w K mg base N qual (defScope st) f cdv A outer s H E).env (cxOf (L2.CX P w) P w K mg base N qual (defScope st) f cdv A outer s H E).xe →
      DSs (cxOf (L2.CX P w) P w K mg base N qual (defScope st) f cdv A outer s H E) g (defBody st) m) : FnG P w K mg base (L2.CX P w) (k + 1) f fd ps (spX K np (fnX n m)) := by
  subst en ep
  refine fnG_of F S (fun vs H Q E ⟨F, ds, _, h, hl, _⟩ => by rw [h.length]; exact hl) fun cdv A outer s H vs Q E hg hr hsp => ?_
  obtain ⟨Fz, ds, sub, h, hl, q⟩ := hsp
  have tk : Takes (cxOf (L2.CX P w) P w K mg base N qual (defScope st) f cdv A outer s H E) (fun cls d _ H => E cls d H) := takes_of rfl rfl rfl rfl
  refine ⟨_, hbody cdv A outer s H E ⟨Fz, H, [], [], w, some (fun cls d _ H => E cls d H), none⟩ hg hr rfl rfl rfl (fun W e => by cases e; exact tk) (passes_of rfl), Fz, startE N.length (ds.map OV.sh), Rel.unw (g := ⟨Fz, H, [], [], w, some (fun cls d _ H => E cls d H), none⟩) (relP sub h), ?_⟩
  unfold fnX at q
  revert q
  cases m (startE N.length (ds.map OV.sh)) with
  | nx r' =>
    intro q F' H' s' sm R'
    exact q F' H' .non sm R'.sub (fun b o e e0 => R'.fnew b o e e0) (fun b o e => R'.keep b o e fun p hp => by cases hp) .non
  | rt o r' =>
    intro q F' H' s' v sm R' hv
    refine q F' H' v sm R'.sub (fun b o e e0 => R'.fnew b o e e0) (fun b o e => R'.keep b o e fun p hp => by cases hp) ?_
    cases o with
    | sh d => exact hv
    | ow xs =>
      obtain ⟨a, vs, e1, e2, e3, e4, e5, _⟩ := hv
      exact ⟨a, vs, e1, e2, e3, e4, e5⟩
    | od xs => exact hv.elim
    | oi c xs => exact hv.elim
    | exc c => exact hv.elim
  | bk r' => exact fun q => q.elim
  | ct r' => exact fun q => q.elim
  | bad => exact fun q => q.elim
  | ex x r' =>
    intro q
    show exW K ⟨Fz, H, [], [], w, some (fun cls d _ H => E cls d H), none⟩ x r'
    intro F' H' s' cls d R' hx
    exact q F' H' cls d R'.f0 R'.sub (fun b o e e0 => R'.fnew b o e e0) (fun b o e => R'.keep b o e fun p hp => by cases hp) hx
end
structure HasX (P : Program) (w : World) (K : PySem.W.Frag) (mg : Str → Option Value) (base : Heap) (k : Nat) (x : Str) (n : Nat) (f : List D → FR) : Prop where
  ex : ∃ fa fd ps, FnG P w K mg base (L2.CX P w) k fa fd ps (spX K n f) ∧ mg x = some (.ref fa) ∧ PySem.W.keepIn K (.ref fa) = true ∧ Binds K fd ps []
/-- a result handed on -/
def frR (z : FR) (r : En) : Rs OV := match z with
  | .ok o => .ok o r
  | .ex x => .ex x r
  | .bad => .bad
def callX (n : Nat) (f : List D → FR) (fs : List (En → Rs D)) : En → Rs OV := fun r => (evs fs r).bind fun ds r1 => if ds.length = n then frR (f ds) r1 else .bad
/-- behind a call that changed nothing that was there -/
theorem Rel.after {K : PySem.W.Frag} {g : G} {F1 H1 F' H' : Hp} {s : St} {r1 : En} (R1 : Rel K g F1 H1 s r1) (s1 : Same F1 F') (s2 : Same F' H') (fr : Fresh F1 F' H1) (s3 : Same H1 H') : Rel K g F' H' s r1 := by
  have fn : ∀ {a : Addr} {u : HO}, F1 a = none → H1 a = some u → F' a = none := fun {a u} z1 z2 => by
    cases z : F' a with
    | none => rfl
    | some o' => rw [fr a o' z z1] at z2; cases z2
  refine ⟨s2, R1.f0.trans s1, fun b u e e0 => ?_, fun b u e hb => s3 _ _ (R1.keep b u e hb), fun i u e => ?_, R1.own, R1.dist, R1.pin, R1.len, fun q hq => ?_⟩
  · cases z : F1 b with
    | some u' => exact R1.fnew b u' z e0
    | none => exact R1.live (fr b u e z)
  · obtain ⟨w, a1, a2⟩ := R1.slot i u e
    exact ⟨w, a1, RO.mono s1 (fun a vs ew e2 e3 => ⟨fn e2 e3, s3 _ _ e3⟩) a2⟩
  · obtain ⟨x1, x2, x3⟩ := R1.ext q hq
    exact ⟨s3 _ _ x1, fn x2 x1, x3⟩
theorem RVf.rv {K : PySem.W.Frag} {g : G} {F1 H1 F' H' : Hp} {s : St} {r1 : En} {v : V} {o : OV} (R1 : Rel K g F1 H1 s r1) (hv : RVf K F' H' H1 v o) : RV K g F' H' s r1 v o := by
  cases o with
  | sh d => exact hv
  | ow xs =>
    obtain ⟨a, us, e1, e2, e3, e4, e5⟩ := hv
    exact ⟨a, us, e1, e2, e3, e4, R1.live e5, fun j o e eo => not_own R1 e5 j o e eo, fun q hq z => by have := (R1.ext q hq).1; rw [z, e5] at this; cases this⟩
  | od xs => exact hv.elim
  | oi c xs => exact hv.elim
  | exc c => exact hv.elim
/-- the promise of a callee, by what is wanted of the call -/
theorem QX.of {K : PySem.W.Frag} {g : G} {F F1 H1 : Hp} {s : St} {r1 : En} {Q : VK} {z : FR} (R1 : Rel K g F1 H1 s r1) (sm : Same F F1) (q : post K g (PO K g F s Q) (frR z r1)) : QX K F1 H1 Q (WG g s) z := by
  cases z with
  | ok o => exact fun F' H' v s1 s2 fr s3 hv => q F' H' v (sm.trans s1) (R1.after s1 s2 fr s3) (hv.rv R1)
  | ex x =>
    intro F' H' cls d s1 s2 fr s3 hx
    have q : exW K g x r1 := q
    unfold exW at q
    unfold WG
    revert q
    cases g.W with
    | none => exact fun q => q
    | some W => exact fun q => q F' H' s cls d (R1.after s1 s2 fr s3) hx
  | bad => exact q
section
variable {X : Cx} {CX : CXT} {k : Nat} {f : Addr} {fd : FuncData} {ps : List Str} {sp : Sp} {E : St → XK} {x : Str} {p pos : Pos} {e : Expr} {es : List Expr} {t : TA}
theorem runGS {pins : List (Addr × Obj)} {σ : St} {H : Hp} {s : Shared} {Q : VK} {us : List Value} {vs : List V} (F : FnG X.prog X.w X.K X.mg X.base CX k f fd ps sp) (hgd : X.A.guards = some []) (hr : Room k X.A) (hb : Binds X.K fd ps []) (hx : PassesAt CX X σ (E σ))
    (I : Inv X pins σ H s) (r : Vals vs us) (h : sp vs H Q (E σ)) : wpAny (model X.prog X.w) X.A (call (.ref f) us) (EP X pins σ Q) X.xe s := by
  have bl := hb s us I.kIn (by rw [List.append_nil, ← r.length]; exact F.len _ _ _ _ h)
  rw [List.append_nil] at bl
  refine wpAny_call (codeAny_mono (F.run X.A X.stack s H ⟨us, []⟩ us vs Q (E σ) hgd hr I.env0 bl r h) ?_)
  intro res s2 hq
  cases res with
  | error er => exact hx pins H s er s2 I hq
  | ok fl =>
    cases fl with
    | ret u => exact I.after hq
    | next => cases hq
    | brk => cases hq
    | cont => cases hq
theorem pe_callGS (F : FnG X.prog X.w X.K X.mg X.base CX k f fd ps sp) (hgd : X.A.guards = some []) (hr : Room k X.A) (hg : Gl X x) (hm : X.mg x = some (.ref f)) (hk : PySem.W.keepIn X.K (.ref f) = true) (hb : Binds X.K fd ps []) (hx : ∀ σ, PassesAt CX X σ (E σ))
    (ha : PA X (e :: es) t) (hdb : (x == ("__debug__" : Str)) = false := by decide) (he : starEach (e :: es) X.env = (false, eval e X.env) :: starEach es X.env := by rfl) (hpl : (backTo pos (starEach es X.env)).any (·.1) = false := by rfl) :
    PE X (.Call (.Name x p) (e :: es) [] pos) (fun σ H Q => t σ H fun vs H1 => sp vs H1 Q (E σ)) := by
  constructor
  intro pins s σ H Q I h
  refine PySem.wpAny_Call_Name_kw (ld_glob I hg hm ?_ hdb)
  refine PySem.W.callWith_K (h₀ := X.base) I.ok.mod.kin hk (thn (ha.run pos pins s σ H _ I h) ?_) he hpl
  rintro us s1 ⟨vs, H1, I1, rv, q⟩
  exact ⟨I1.kIn, runGS F hgd hr hb (hx σ) I1 rv q⟩
end
section
variable {X : Cx} {g : G} {k n : Nat} {x : Str} {p pos : Pos} {e : Expr} {es : List Expr}
theorem do_callX {f : List D → FR} {fs : List (En → Rs D)} (h : HasX X.prog X.w X.K X.mg X.base k x n f) (hgd : X.A.guards = some []) (hr : Room k X.A) (tk : TkG X g) (ha : DA X g (e :: es) fs) (hg : Gl X x := by rfl)
    (hdb : (x == ("__debug__" : Str)) = false := by decide) (he : starEach (e :: es) X.env = (false, eval e X.env) :: starEach es X.env := by rfl) (hpl : (backTo pos (starEach es X.env)).any (·.1) = false := by rfl) : DO X g (.Call (.Name x p) (e :: es) [] pos) (callX n f fs) := by
  obtain ⟨fa, fd, ps, F, h1, h2, h3⟩ := h.ex
  refine PE.imp (pe_callGS (E := WG g) F hgd hr hg h1 h2 h3 (passG tk) ha hdb he hpl) fun s H Q ⟨Fz, r, R, q⟩ => ⟨Fz, r, R, post_mono (post_bind q) fun ds r1 q F1 H1 vs sm R1 hvs => ?_⟩
  obtain ⟨hn, q⟩ := post_if q
  exact ⟨F1, ds, R1.sub, hvs, hn, QX.of R1 sm q⟩
end
end DL

/-! Data layer, part 42: raise C(e), C an error class whose __init__ stores its one argument. -/
namespace DL
open PySem L2
/-- __init__(self, p): self.f = p -/
def spEI (K : PySem.W.Frag) (f : Str) : Sp := fun vs H Q _ => ∃ (a C : Addr) (y : V), vs = [.ref a, y] ∧ OexC K C ∧ PySem.W.findIn K (.ref C) f = some none ∧ H a = some (exo a C none) ∧ ∀ dx, H dx = none → dx ≠ a → Q .non (L2.upd (L2.upd H dx (exd dx [(f, y)])) a (exo a C (some dx)))
section
variable {P : Program} {w : World} {K : PySem.W.Frag} {mg : Str → Option Value} {base : Heap}
theorem errInit_ok {x qual par fld : Str} {st : Stmt} {f : Addr} {fd : FuncData} {p1 p2 p3 pos : Pos} (F : Fun K x qual st f fd) (S : FnScope ["self", par] ["self", par] (defScope st)) (hb : defBody st = [.Assign [.Attribute (.Name "self" p1) fld p2] (.Name par p3) pos])
    (hv0 : ∀ (cdv : Value) (A : Around) (outer : List Env) (s : Shared) (H : Hp) (E : XK), PE (cxOf CX0 P w K mg base ["self", par] qual (defScope st) f cdv A outer s H E).nox (.Name "self" p1) (tVar 0)) (hv1 : ∀ (cdv : Value) (A : Around) (outer : List Env) (s : Shared) (H : Hp) (E : XK), PE (cxOf CX0 P w K mg base ["self", par] qual (defScope st) f cdv A outer s H E).nox (.Name par p3) (tVar 1))
    (hs : ∀ (cdv : Value) (A : Around) (outer : List Env) (s : Shared) (H : Hp) (E : XK), swapsWith (.Name par p3) (some (.Attribute (.Name "self" p1) fld p2)) pos.line (cxOf CX0 P w K mg base ["self", par] qual (defScope st) f cdv A outer s H E).nox.env = pure false) : FnOk P w K mg base CX0 1 f fd ["self", par] (spEI K fld) := by
  refine F.ok S (fun vs H Q E ⟨a, C, y, e, _⟩ => by rw [e]; rfl) fun cdv A outer s H vs Q E hr h => ?_
  obtain ⟨a, C, y, rfl, T, hno, ha, q⟩ := h
  rw [hb]
  exact ⟨_, pss_one (ps_ost (hv0 cdv A outer s H E) (hv1 cdv A outer s H E) (hs cdv A outer s H E)), _, rfl, _, rfl, a, C, rfl, T, hno, .inl ⟨ha, q⟩⟩
end
/-- the error class c with its one attribute f -/
structure HasE (P : Program) (w : World) (K : PySem.W.Frag) (mg : Str → Option Value) (base : Heap) (c f : Str) : Prop where
  ex : ∃ C fI fd ps, mg c = some (.ref C) ∧ ClsAt K c C ∧ OexC K C ∧ PySem.W.findIn K (.ref C) f = some none ∧ PySem.W.findIn K (.ref C) "__init__" = some (some (.ref fI)) ∧ PySem.W.typeIn K (.ref fI) = some (.type "function") ∧ FnOk P w K mg base CX0 1 fI fd ps (spEI K f) ∧ Binds K fd ps []
def raiseS (c f : Str) (fe : En → Rs D) : En → SRs := fun r => thenS (fe r) fun d r1 => .ex ⟨c, [(f, d)]⟩ r1
section
variable {X : Cx} {g : G} {e : Expr} {p pos pos2 : Pos} {c f : Str}
theorem ds_raise {k : Nat} {fe : En → Rs D} (h : HasE X.prog X.w X.K X.mg X.base c f) (hc : X.calm = true) (hr : Room k X.A) (hk : 2 ≤ k) (tk : TkG X g) (he : DE X g e fe) (hg : Gl X c := by rfl) (hdb : (c == ("__debug__" : Str)) = false := by decide)
    (hst : starEach [e] X.env = (false, eval e X.env) :: starEach [] X.env := by rfl) (hpl : (backTo pos (starEach [] X.env)).any (·.1) = false := by rfl) : DS X g (.Raise (some (.Call (.Name c p) [e] [] pos)) none pos2) (raiseS c f fe) := by
  obtain ⟨C, fI, fd, ps, hm, hcl, T, hno, iC, tI, F1, hb⟩ := h.ex
  have hr2 : Room (1 + 1) X.A := hr.mono hk
  have main : ∀ W : WX, Takes X W → (∀ r x, exW X.K g x r → ∀ F' H' s' cls d, Rel X.K g F' H' s' r → RX X.K F' cls d x → W cls d s' H') → DS X g (.Raise (some (.Call (.Name c p) [e] [] pos)) none pos2) (raiseS c f fe) := by
    intro W tW hW
    refine PS.imp (ps_raise hc tW (pmk_oex (dvs := []) (ds := []) T iC tI F1 hr2 hb .nil pass0 hg hm (pa_cons he pa_nil hst) hdb hst hpl)) fun E s H ⟨Fz, r, R, q⟩ => ⟨Fz, r, R, post_mono (post_then q) fun d r1 q F1 H1 v sm R1 hv => ?_⟩
    refine ⟨by show 1 ≤ 1000; decide, fun a na => ⟨a, C, v, rfl, T, hno, upd_same, fun dx ndx hne => ?_⟩⟩
    rw [upd_ne hne] at ndx
    refine ⟨rfl, dx, [(f, v)], upd_same, by rw [upd_ne hne, upd_same], ndx, ?_⟩
    have eH : L2.upd (del (L2.upd (L2.upd (L2.upd H1 a (exo a C none)) dx (exd dx [(f, v)])) a (exo a C (some dx))) a) dx (.xd [(f, v)]) = L2.upd H1 dx (.xd [(f, v)]) := by
      funext b
      by_cases hb : b = dx
      · rw [hb, upd_same, upd_same]
      · rw [upd_ne hb, upd_ne hb]
        by_cases ha : b = a
        · rw [ha, del_same, na]
        · rw [del_ne ha, upd_ne ha, upd_ne hb, upd_ne ha]
    rw [eH]
    have sF : Same F1 (L2.upd F1 dx (.xd [(f, v)])) := same_upd (R1.ff ndx)
    exact hW r1 _ q _ _ s (.ref C) (some dx) (R1.alloc ndx) ⟨C, rfl, hcl, .inr ⟨dx, [(f, v)], rfl, upd_same, .cons (RD.mono sF d hv) .nil⟩⟩
  cases eW : g.W with
  | none => exact main (fun _ _ _ _ => False) takes0 fun r x z => by unfold exW at z; rw [eW] at z; exact z.elim
  | some W => exact main W (tk W eW) fun r x z F' H' s' cls d R' hx => by unfold exW at z; rw [eW] at z; exact z F' H' s' cls d R' hx
end
end DL

/-! Data layer, part 43: try .. except C as n; isinstance(n, C), n.f in its suite. -/
namespace DL
open PySem L2
/-- no slot holds an error -/
def noX (r : En) : Bool := r.all fun o => match o with
  | some (.exc _) => false
  | _ => true
theorem noX_of {r : En} (h : noX r = true) {i : Nat} {x : Exn} (e : r[i]? = some (some (.exc x))) : False := by
  have := List.all_eq_true.mp h _ (List.mem_of_getElem? e)
  cases this
def tryS (ct : Str → Option Bool) (i : Nat) (fb fs : En → SRs) : En → SRs := fun r => match fb r with
  | .ex x r1 => match ct x.c with
    | some true => match fs (r1.set i (some (.exc x))) with
      | .nx r2 => if noX (r2.set i none) = true then .nx (r2.set i none) else .bad
      | .rt o r2 => if noX (r2.set i none) = true then .rt o (r2.set i none) else .bad
      | .bk r2 => if noX (r2.set i none) = true then .bk (r2.set i none) else .bad
      | .ct r2 => if noX (r2.set i none) = true then .ct (r2.set i none) else .bad
      | .ex _ _ => .bad
      | .bad => .bad
    | some false => .ex x r1
    | none => .bad
  | y => y
structure Tri (g g' : G) : Prop where
  B : g'.B = g.B
  w : g'.w = g.w
  xc : g'.xc = g.xc
structure Sui (g g' : G) (a : Addr) (cls : Value) (d : Option Addr) : Prop where
  B : g'.B = g.B
  w : g'.w = g.w
  W : g'.W = none
  xc : g'.xc = some (a, cls, d)
/-- with the error that is handled -/
def G.hnd (g : G) (a : Addr) (cls : Value) (d : Option Addr) : G := { g with W := none, xc := some (a, cls, d) }
section
variable {K : PySem.W.Frag} {g : G} {F H : Hp} {s : St} {r : En} {i : Nat} {a : Addr} {cls : Value} {d : Option Addr} {x : Exn}
theorem Rel.setX (R : Rel K g F H s r) (hxc : g.xc = none) (hb : ∀ p ∈ g.B, p.1 ≠ i) (hx : RX K F cls d x) : Rel K (g.hnd a cls d) F H (s.set i (some (.ref a))) (r.set i (some (.exc x))) := by
  have hl := R.len
  have cs : ∀ (j : Nat) (u : OV), (r.set i (some (.exc x)))[j]? = some (some u) → (j = i ∧ u = .exc x ∧ (s.set i (some (.ref a)))[j]? = some (some (.ref a))) ∨ (j ≠ i ∧ r[j]? = some (some u) ∧ (s.set i (some (V.ref a)))[j]? = s[j]?) := fun j u z => by
    by_cases hj : i = j
    · subst hj
      have hi : i < r.length := by
        have := (List.getElem?_eq_some_iff.mp z).1
        rw [List.length_set] at this
        exact this
      rw [List.getElem?_set_self hi] at z
      cases z
      exact .inl ⟨rfl, rfl, List.getElem?_set_self (by rw [← hl]; exact hi)⟩
    · rw [List.getElem?_set_ne hj] at z
      exact .inr ⟨fun z => hj z.symm, z, List.getElem?_set_ne hj⟩
  have ow : ∀ (j : Nat) (u : OV), (r.set i (some (.exc x)))[j]? = some (some u) → u.own = true → r[j]? = some (some u) ∧ (s.set i (some (V.ref a)))[j]? = s[j]? := fun j u z zo => by
    rcases cs j u z with ⟨rfl, rfl, _⟩ | ⟨_, h1, h2⟩
    · cases zo
    · exact ⟨h1, h2⟩
  refine ⟨R.sub, R.f0, R.fnew, R.keep, fun j u z => ?_, fun j u b z zo za => ?_, fun j k u w b hjk z zo y yo za ya => ?_, fun p hp => ?_, by rw [List.length_set, List.length_set]; exact hl, fun p hp => ?_⟩
  · rcases cs j u z with ⟨rfl, rfl, e⟩ | ⟨hj, z', e⟩
    · exact ⟨_, e, a, cls, d, rfl, rfl, hx⟩
    · obtain ⟨v, h1, h2⟩ := R.slot j u z'
      refine ⟨v, by rw [e]; exact h1, ?_⟩
      cases u with
      | sh d => exact h2
      | ow xs => exact h2
      | od xs => exact h2
      | oi c xs => exact h2
      | exc y =>
        obtain ⟨_, _, _, _, z, _⟩ := h2
        rw [hxc] at z
        cases z
  · obtain ⟨h1, h2⟩ := ow j u z zo
    rw [h2] at za
    exact R.own j u b h1 zo za
  · obtain ⟨h1, h2⟩ := ow j u z zo
    obtain ⟨h3, h4⟩ := ow k w y yo
    rw [h2] at za
    rw [h4] at ya
    exact R.dist j k u w b hjk h1 zo h3 yo za ya
  · obtain ⟨p1, u, p2, p3⟩ := R.pin p hp
    have h := hb p hp
    exact ⟨by rw [List.getElem?_set_ne fun z => h z.symm]; exact p1, u, by rw [List.getElem?_set_ne fun z => h z.symm]; exact p2, p3⟩
  · obtain ⟨x1, x2, x3⟩ := R.ext p hp
    refine ⟨x1, x2, fun j u z zo => ?_⟩
    obtain ⟨h1, h2⟩ := ow j u z zo
    rw [h2]
    exact x3 j u h1 zo
theorem Rel.unX {s2 : St} (R : Rel K (g.hnd a cls d) F H s r) (hb : ∀ p ∈ g.B, p.1 ≠ i) (hn : noX (r.set i none) = true) (hl : s2.length = s.length) (hs : ∀ j, j ≠ i → s2[j]? = s[j]?) : Rel K g F H s2 (r.set i none) := by
  have R1 : Rel K (g.hnd a cls d) F H s2 (r.set i none) := R.forget (vs := [i]) (fun p hp z => hb p hp (List.mem_singleton.mp z)) hl fun j hj => hs j fun z => hj (List.mem_singleton.mpr z)
  refine ⟨R1.sub, R1.f0, R1.fnew, R1.keep, fun j u z => ?_, R1.own, R1.dist, R1.pin, R1.len, R1.ext⟩
  obtain ⟨v, h1, h2⟩ := R1.slot j u z
  refine ⟨v, h1, ?_⟩
  cases u with
  | sh d => exact h2
  | ow xs => exact h2
  | od xs => exact h2
  | oi c xs => exact h2
  | exc y => exact (noX_of hn z).elim
end
section
variable {X : Cx} {g : G} {xn n : Str} {cv : Value} {i : Nat} {body suite : List Stmt} {b₀ : Stmt} {np pos pos' : Pos} {fb fs : En → SRs} {ct : Str → Option Bool}
theorem ds_try (hs : X.stack = X.env :: X.outer) (hf : X.env.frame = some X.env.locals) (hN : X.N.Nodup) (hi : X.N[i]? = some n) (hln : X.env.kindOf n = some .local) (hc : Names X xn cv) (tk : TkG X g) (hxc : g.xc = none) (hbi : ∀ p ∈ g.B, p.1 ≠ i)
    (hct : ∀ m b C, ct m = some b → ClsAt X.K m C → PySem.W.exmOne X.K (.ref C) cv = some b)
    (hb : ∀ (pn : List (Addr × Obj)) (xe : Value → Shared → Prop) (g' : G), Tri g g' → TkG (X.tr pn xe) g' → PassesOwn (model X.prog X.w) X.A X.env xe → DSs (X.tr pn xe) g' body fb)
    (hsu : ∀ (a : Addr) (oe : Obj) (cls : Value) (d : Option Addr) (pn : List (Addr × Obj)) (g' : G), Sui g g' a cls d → Zc cls d oe → (∃ vs, oe.data = .fields vs) → DSs (X.suite a ((a, oe) :: pn)) g' (b₀ :: suite) fs) :
    DS X g (.Try body [.ExceptHandler (some (.Name xn np)) (some n) (b₀ :: suite) pos'] [] [] pos) (tryS ct i fb fs) := by
  have main : ∀ Wout : WX, Takes X Wout → (∀ x r F' H' s' cls d, exW X.K g x r → Rel X.K g F' H' s' r → RX X.K F' cls d x → Wout cls d s' H') → DS X g (.Try body [.ExceptHandler (some (.Name xn np)) (some n) (b₀ :: suite) pos'] [] [] pos) (tryS ct i fb fs) := by
    intro Wout tkO hW
    refine PS.imp (ps_try_as (tb := fun W D σ H => ∃ g' : G, Tri g g' ∧ g'.W = some W ∧ tSD X.K g' fb D σ H) (ts := fun a cls d D σ H => ∃ g' : G, Sui g g' a cls d ∧ tSD X.K g' fs D σ H) hs hf hN hi hln hc tkO
      (fun W pn xe tkW po => ⟨fun pins s σ H D I ⟨g', t1, t2, h⟩ => (hb pn xe g' t1 (fun W' e => by rw [t2] at e; cases e; exact tkW) po).run pins s σ H D I h⟩)
      (fun a oe cls d pn hz hv => ⟨fun pins s σ H D I ⟨g', t1, h⟩ => (hsu a oe cls d pn g' t1 hz hv).run pins s σ H D I h⟩)) fun E s H ⟨F, r, R, q⟩ => ?_
    refine ⟨{ g with F0 := F, W := some (wAs X.K cv i (fun a cls d D σ H => ∃ g' : G, Sui g g' a cls d ∧ tSD X.K g' fs D σ H) Wout E) }, ⟨rfl, rfl, rfl⟩, rfl, F, r, ⟨R.sub, Same.refl _, fun b o e e0 => ?_, R.keep, R.slot, R.own, R.dist, R.pin, R.len, R.ext⟩, ?_⟩
    · have e0 : F b = none := e0
      rw [e0] at e
      cases e
    have up : ∀ {F' H' : Hp} {s' : St} {r' : En} {W' : Option WX}, Rel X.K { g with F0 := F, W := W' } F' H' s' r' → Rel X.K g F' H' s' r' ∧ Same F F' := fun {F' H' s' r' W'} R' => by
      refine ⟨⟨R'.sub, R.f0.trans R'.f0, fun b o e e0 => ?_, R'.keep, R'.slot, R'.own, R'.dist, R'.pin, R'.len, R'.ext⟩, R'.f0⟩
      cases z : F b with
      | some u => exact R.fnew b u z e0
      | none => exact R'.fnew b o e z
    unfold tryS at q
    revert q
    cases fb r with
    | nx r' => exact fun q F' H' s' sm R' => q F' H' s' sm (up R').1
    | rt o r' =>
      intro q F' H' s' v sm R' hv
      refine q F' H' s' v sm (up R').1 ?_
      cases o <;> exact hv
    | bk r' => exact fun q F' H' s' sm R' => q F' H' s' sm (up R').1
    | ct r' => exact fun q F' H' s' sm R' => q F' H' s' sm (up R').1
    | bad => exact fun q => q
    | ex x r1 =>
      intro q
      suffices hh : exW X.K { g with F0 := F, W := some (wAs X.K cv i (fun a cls d D σ H => ∃ g' : G, Sui g g' a cls d ∧ tSD X.K g' fs D σ H) Wout E) } x r1 from hh
      intro F' H' s' cls d R' hx
      obtain ⟨Rg, sm⟩ := up R'
      obtain ⟨C, rfl, hcl, hd⟩ := id hx
      cases ect : ct x.c with
      | none =>
        simp only [ect] at q
        exact q.elim
      | some b =>
        refine ⟨b, hct _ _ _ ect hcl, fun hb1 a na => ?_, fun hb1 => ?_⟩
        · subst hb1
          simp only [ect] at q
          refine ⟨g.hnd a (.ref C) d, ⟨rfl, rfl, rfl, rfl⟩, F', r1.set i (some (.exc x)), Rg.setX hxc hbi hx, ?_⟩
          have len1 : ∀ (s2 : St), (s2.set i none).length = s2.length := fun s2 => List.length_set ..
          have ne1 : ∀ (s2 : St) (j : Nat), j ≠ i → (s2.set i none)[j]? = s2[j]? := fun s2 j hj => List.getElem?_set_ne fun z => hj z.symm
          revert q
          cases fs (r1.set i (some (.exc x))) with
          | nx r2 =>
            intro q F2 H2 s2 sm2 R2
            by_cases hn : noX (r2.set i none) = true
            · simp only [if_pos hn] at q
              exact q F2 H2 _ (sm.trans sm2) (R2.unX hbi hn (len1 s2) (ne1 s2))
            · simp only [if_neg hn] at q
              exact q.elim
          | bk r2 =>
            intro q F2 H2 s2 sm2 R2
            by_cases hn : noX (r2.set i none) = true
            · simp only [if_pos hn] at q
              exact q F2 H2 _ (sm.trans sm2) (R2.unX hbi hn (len1 s2) (ne1 s2))
            · simp only [if_neg hn] at q
              exact q.elim
          | ct r2 =>
            intro q F2 H2 s2 sm2 R2
            by_cases hn : noX (r2.set i none) = true
            · simp only [if_pos hn] at q
              exact q F2 H2 _ (sm.trans sm2) (R2.unX hbi hn (len1 s2) (ne1 s2))
            · simp only [if_neg hn] at q
              exact q.elim
          | rt o r2 =>
            intro q F2 H2 s2 v sm2 R2 hv
            by_cases hn : noX (r2.set i none) = true
            · simp only [if_pos hn] at q
              refine q F2 H2 s2 v (sm.trans sm2) (R2.unX hbi hn rfl fun _ _ => rfl) ?_
              cases o with
              | sh d => exact hv
              | ow xs =>
                obtain ⟨b, vs, e1, e2, e3, e4, e5, e6, e7⟩ := hv
                exact ⟨b, vs, e1, e2, e3, e4, e5, fun j u ej eo => e6 j u (wipeE_some (vs := [i]) ej).1 eo, e7⟩
              | od xs => exact hv.elim
              | oi c xs => exact hv.elim
              | exc c => exact hv.elim
            · simp only [if_neg hn] at q
              exact q.elim
          | bad => exact fun q => q.elim
          | ex y r2 => exact fun q => q.elim
        · subst hb1
          simp only [ect] at q
          exact hW x r1 F' H' s' _ d q Rg hx
  cases eW : g.W with
  | none => exact main (fun _ _ _ _ => False) takes0 fun x r F' H' s' cls d z => by unfold exW at z; rw [eW] at z; exact z.elim
  | some W => exact main W (tk W eW) fun x r F' H' s' cls d z R' hx => by unfold exW at z; rw [eW] at z; exact z F' H' s' cls d R' hx
/-! ### in the suite -/
def xfD (i : Nat) (f : Str) : En → Rs D := fun r => match r[i]? with
  | some (some (.exc x)) => ofO (x.fs.lookup f) r
  | _ => .bad
def isxD (i : Nat) (t : Str → Option Bool) : En → Rs D := fun r => match r[i]? with
  | some (some (.exc x)) => ofO ((t x.c).map D.bl) r
  | _ => .bad
theorem RDf.look {K : PySem.W.Frag} {F : Hp} {f : Str} {d : D} : ∀ {vs : List (Str × V)} {ds : List (Str × D)}, RDf K F vs ds → ds.lookup f = some d → ∃ v, vs.lookup f = some v ∧ RD K F v d
  | _, [], h, e => by cases e
  | _, (k, d') :: ds, h, e => by
    cases h with
    | cons h1 h2 =>
      rw [List.lookup_cons] at e
      rw [List.lookup_cons]
      cases hk : f == k with
      | true =>
        simp only [hk] at e
        cases e
        exact ⟨_, rfl, h1⟩
      | false =>
        simp only [hk] at e
        exact RDf.look h2 e
variable {a : Addr} {oe : Obj} {cls : Value} {d : Option Addr} {pn : List (Addr × Obj)} {g' : G} {p : Pos}
/-- the error classes c: the attribute f can be read -/
def XfT (K : PySem.W.Frag) (f : Str) (cs : List Str) : Prop := ∀ c ∈ cs, ∀ C, ClsAt K c C → XfC K C ∧ PySem.W.findIn K (.ref C) f = some none
def xfD' (i : Nat) (f : Str) (cs : List Str) : En → Rs D := fun r => match r[i]? with
  | some (some (.exc x)) => if x.c ∈ cs then ofO (x.fs.lookup f) r else .bad
  | _ => .bad
theorem exc_slot {K : PySem.W.Frag} {F H : Hp} {s : St} {r : En} {x : Exn} (R : Rel K g' F H s r) (hx : g'.xc = some (a, cls, d)) (e : r[i]? = some (some (.exc x))) : s[i]? = some (some (.ref a)) ∧ RX K F cls d x := by
  obtain ⟨v, h1, a', cls', d', rfl, h2, h3⟩ := R.slot i _ e
  rw [hx] at h2
  cases h2
  exact ⟨h1, h3⟩
theorem de_xf {f : Str} {cs : List Str} (hT : XfT X.K f cs) (hz : Zc cls d oe) (hf : ∃ vs, oe.data = .fields vs) (hx : g'.xc = some (a, cls, d)) (hv : PE (X.suite a ((a, oe) :: pn)) (.Name n np) (tVar i)) (hb : attributeBase (.Name n np) f X.env (eval (.Name n np) X.env) = eval (.Name n np) X.env := by rfl) :
    DE (X.suite a ((a, oe) :: pn)) g' (.Attribute (.Name n np) f p) (xfD' i f cs) := by
  refine ⟨fun pins s σ H Q I ⟨F, r, R, q⟩ => ?_⟩
  unfold xfD' at q
  revert q
  split
  · next x e =>
    obtain ⟨h1, C, rfl, h3, h4⟩ := exc_slot R hx e
    split
    · next hm =>
      intro q
      obtain ⟨dd, e2, q⟩ := post_ofO q
      obtain ⟨T, hno⟩ := hT _ hm C h3
      refine (pe_xf (C := C) T hno hz hf hv hb).run pins s σ H Q I ⟨_, h1, rfl, rfl, ?_⟩
      rcases h4 with ⟨rfl, h5⟩ | ⟨ad, vs, rfl, h5, h6⟩
      · rw [h5] at e2
        cases e2
      · obtain ⟨v, h7, h8⟩ := RDf.look h6 e2
        exact ⟨ad, vs, v, rfl, R.sub _ _ h5, h7, q F H v (Same.refl _) R h8⟩
    · exact fun q => q.elim
  · exact fun q => q.elim
/-- what a class says so that isinstance asks its instances rightly: ExcC; the answers -/
def IsT (K : PySem.W.Frag) (cv : Value) (t : Str → Option Bool) : Prop := ∀ c b, t c = some b → ∀ C, ClsAt K c C → ExcC K C ∧ PySem.W.kitOne K (.ref C) cv = some b
theorem de_isx {T : Str} {t : Str → Option Bool} {pT pn' : Pos} {u : Value} {v : V} (hT : IsT X.K u t) (hz : Zc cls d oe) (hf : ∃ vs, oe.data = .fields vs) (hx : g'.xc = some (a, cls, d)) (hm : X.mg "isinstance" = none) (hv : PE (X.suite a ((a, oe) :: pn)) (.Name n np) (tVar i)) (hmT : X.mg T = some u) (hu : RelV v u) (hvu : ∀ u', RelV v u' → u' = u)
    (hg : Gl X "isinstance" := by rfl) (hgT : Gl X T := by rfl) (hdT : (T == ("__debug__" : Str)) = false := by decide)
    (h1 : starEach [.Name n np, .Name T pT] X.env = (false, eval (.Name n np) X.env) :: starEach [.Name T pT] X.env := by rfl) (h2 : starEach [.Name T pT] X.env = (false, eval (.Name T pT) X.env) :: starEach [] X.env := by rfl)
    (hpl : (backTo p (starEach [.Name T pT] X.env)).any (·.1) = false := by rfl) : DE (X.suite a ((a, oe) :: pn)) g' (.Call (.Name "isinstance" pn') [.Name n np, .Name T pT] [] p) (isxD i t) := by
  refine ⟨fun pins s σ H Q I ⟨F, r, R, q⟩ => ?_⟩
  unfold isxD at q
  revert q
  split
  · next x e =>
    intro q
    obtain ⟨b, e2, q⟩ := post_ofO q
    obtain ⟨b', e3, rfl⟩ := Option.map_eq_some_iff.mp e2
    obtain ⟨hs1, C, rfl, h3, h4⟩ := exc_slot R hx e
    obtain ⟨EC, hk⟩ := hT _ _ e3 C h3
    have od : ∃ od, ∀ (s1 : Shared) (σ1 : St) (H1 : Hp) (pins1 : List (Addr × Obj)), Inv (X.suite a ((a, oe) :: pn)) pins1 σ1 H1 s1 → True := ⟨(), fun _ _ _ _ _ => trivial⟩
    have cr : CallR (X.suite a ((a, oe) :: pn)) (.builtin "isinstance") (fun xs H Q => xs = [.ref a, v] ∧ (∀ dd, d = some dd → ∃ vs, H dd = some (.xd vs)) ∧ Q (.bl b') H) := by
      intro pins s σ H xs us Q I rr h
      obtain ⟨rfl, hd, q⟩ := h
      cases rr with
      | cons rx rr =>
        cases rr with
        | cons rt rr =>
          cases rr
          cases rx
          have ec := hvu _ rt
          subst ec
          obtain ⟨hget, _⟩ := I.pin (a, oe) (List.mem_append.mpr (.inl List.mem_cons_self))
          obtain ⟨vs, hvs⟩ := hf
          have J : ∃ od, PySem.W.InstAt s.heap a oe C od := by
            obtain ⟨oc, odd, oda, osl⟩ := oe
            obtain ⟨h1, h2⟩ := hz
            dsimp only at h1 h2 hvs
            subst h1 h2 hvs
            cases odd with
            | none => exact ⟨none, hget, rfl, rfl, trivial⟩
            | some dd =>
              obtain ⟨vs, hh⟩ := hd dd rfl
              obtain ⟨mA, ⟨od, es, ep, e1, e2⟩, hr⟩ := I.hok dd _ hh
              exact ⟨some od, hget, rfl, rfl, e1⟩
          obtain ⟨od, J⟩ := J
          have hcl : (PySem.W.clsIn X.K C).isSome = true := by
            obtain ⟨cd, hc, _⟩ := PySem.W.any_some EC.hd
            rw [hc]
            rfl
          exact PySem.W.kia_one (PySem.W.kitx_exc hcl EC.hg EC.hk EC.hs EC.ha EC.hn EC.ht EC.hm) I.kIn J hk (fun z => nomatch z) fun tk => ⟨.bl b', H, I.kept (t' := tk) fun _ _ z => z, rfl, q⟩
    refine (pe_callB cr hg hm (by decide +kernel) (pa_cons hv (pa_cons (pe_glob (v := v) hgT hmT hu hdT) pa_nil h2) h1) (by decide) (by decide) h1 hpl).run pins s σ H Q I ⟨_, hs1, rfl, fun dd ed => ?_, q F H _ (Same.refl _) R (.bl b')⟩
    rcases h4 with ⟨rfl, h5⟩ | ⟨ad, vs, rfl, h5, h6⟩
    · cases ed
    · cases ed
      exact ⟨vs, R.sub _ _ h5⟩
  · exact fun q => q.elim
end
end DL

/-! Data layer, part 44: instances: __init__, C(e, ..), self.f = e, o.f. -/
namespace DL
open PySem L2
theorem ClsAt.inj {K : PySem.W.Frag} {c : Str} {C C' : Addr} (h : ClsAt K c C) (h' : ClsAt K c C') : C = C' := by
  unfold ClsAt at h h'
  rw [h] at h'
  cases h'
  rfl
/-- the attribute f of instances of c is read and stored plainly -/
def FldOk (K : PySem.W.Frag) (c f : Str) : Prop := ∀ C, ClsAt K c C → Cls K C ∧ NoAttr K C f
theorem FldOk.of {K : PySem.W.Frag} {c f : Str} {C : Addr} (h : ClsAt K c C) (h1 : Cls K C) (h2 : NoAttr K C f) : FldOk K c f := fun C' h' => by
  cases h.inj h'
  exact ⟨h1, h2⟩
/-! ### __init__ -/
inductive FI where
  | ok (fs : List (Str × D))
  | ex (x : Exn)
  | bad
def oiAt (c : Str) (r : En) : FI := match r[0]? with
  | some (some (OV.oi c' fs)) => if c' = c then .ok fs else .bad
  | _ => .bad
def fnI (n : Nat) (c : Str) (m : En → SRs) : List D → FI := fun ds => match m (startE n (.oi c [] :: ds.map OV.sh)) with
  | .nx r => oiAt c r
  | .ex x _ => .ex x
  | _ => .bad
def QI (K : PySem.W.Frag) (c : Str) (F H : Hp) (a : Addr) (Q : VK) (E : XK) : FI → Prop
  | .ok fs => ∀ F' H' C dx vs, Same F F' → Same F' H' → Fresh F F' H → (∀ b o, H b = some o → b ≠ a → H' b = some o) → F' a = none → H' a = some (.ins C dx vs) → ClsAt K c C → RDf K F' vs fs → Q .non H'
  | .ex x => ∀ F' H' cls d, Same F F' → Same F' H' → Fresh F F' H → (∀ b o, H b = some o → b ≠ a → H' b = some o) → RX K F' cls d x → E cls d H'
  | .bad => False
def spI (K : PySem.W.Frag) (c : Str) (n : Nat) (f : List D → FI) : Sp := fun vs H Q E => ∃ F a C dx ws ds, vs = .ref a :: ws ∧ Same F H ∧ F a = none ∧ H a = some (.ins C dx []) ∧ ClsAt K c C ∧ RDs K F ws ds ∧ ds.length = n ∧ QI K c F H a Q E (f ds)
section
variable {K : PySem.W.Frag} {F H : Hp} {w : World} {W : Option WX}
theorem relI {N : List Str} {c : Str} {a C dx : Addr} {ws : List V} {ds : List D} (sub : Same F H) (fa : F a = none) (ha : H a = some (.ins C dx [])) (hc : ClsAt K c C) (h : RDs K F ws ds) :
    Rel K ⟨F, H, [(0, a)], [], w, W, none⟩ F H (start N (.ref a :: ws)) (startE N.length (.oi c [] :: ds.map OV.sh)) := by
  have nown : ∀ (i : Nat) (o : OV), (startE N.length (.oi c [] :: ds.map OV.sh))[i]? = some (some o) → (i = 0 ∧ o = .oi c []) ∨ ∃ j d, i = j + 1 ∧ ds[j]? = some d ∧ o = .sh d := fun i o e => by
    have q := startE_get e
    cases i with
    | zero => cases q; exact .inl ⟨rfl, rfl⟩
    | succ j =>
      have q : (ds.map OV.sh)[j]? = some o := q
      rw [List.getElem?_map] at q
      obtain ⟨d, q1, q2⟩ := Option.map_eq_some_iff.mp q
      exact .inr ⟨j, d, rfl, q1, q2.symm⟩
  have s0 : (start N (.ref a :: ws))[0]? = some (some (.ref a)) := start_get rfl
  refine ⟨sub, Same.refl _, fun b o e z => ?_, fun b o e _ => e, fun i o e => ?_, fun i o b e eo es => ?_, fun i j o u b hij e eo e' eo' => ?_, fun p hp => ?_, start_len N (.ref a :: ws) (.oi c [] :: ds.map OV.sh) (by simp [h.length]), fun p hp => by cases hp⟩
  · have z : F b = none := z
    rw [z] at e; cases e
  · rcases nown i o e with ⟨rfl, rfl⟩ | ⟨j, d, rfl, h1, rfl⟩
    · exact ⟨_, s0, a, (C, dx, []), rfl, fa, ha, hc, .nil⟩
    · obtain ⟨v, h2, h3⟩ := h.get h1
      exact ⟨v, start_get (i := j + 1) h2, h3⟩
  · rcases nown i o e with ⟨rfl, rfl⟩ | ⟨j, d, rfl, h1, rfl⟩
    · rw [s0] at es
      cases es
      exact .inr (List.mem_singleton.mpr rfl)
    · cases eo
  · rcases nown i o e with ⟨rfl, rfl⟩ | ⟨j, d, rfl, h1, rfl⟩
    · rcases nown j u e' with ⟨rfl, rfl⟩ | ⟨k, d, rfl, h1, rfl⟩
      · exact absurd rfl hij
      · cases eo'
    · cases eo
  · have hp := List.mem_singleton.mp hp
    subst hp
    exact ⟨s0, .oi c [], by unfold startE; rfl, rfl⟩
/-- a slot's instance is changed -/
theorem Rel.chgOi {g : G} {s : St} {r : En} {i : Nat} {c : Str} {fs fs' : List (Str × D)} {a : Addr} {xs xs' : Addr × Addr × List (Str × V)} (R : Rel K g F H s r) (e : r[i]? = some (some (.oi c fs))) (hs : s[i]? = some (some (.ref a))) (fa : F a = none) (ha : H a = some (OiO xs)) (hv : RDi K c F xs' fs') :
    Rel K g F (L2.upd H a (OiO xs')) s (r.set i (some (.oi c fs'))) := by
  have hi : i < r.length := (List.getElem?_eq_some_iff.mp e).1
  have cs : ∀ (j : Nat) (u : OV), (r.set i (some (.oi c fs')))[j]? = some (some u) → (j = i ∧ u = .oi c fs') ∨ (j ≠ i ∧ r[j]? = some (some u)) := fun j u z => by
    by_cases hj : i = j
    · subst hj
      rw [List.getElem?_set_self hi] at z
      cases z
      exact .inl ⟨rfl, rfl⟩
    · rw [List.getElem?_set_ne hj] at z
      exact .inr ⟨fun z => hj z.symm, z⟩
  have ow1 : ∀ (j : Nat) (u : OV), (r.set i (some (.oi c fs')))[j]? = some (some u) → u.own = true → ∃ u', r[j]? = some (some u') ∧ u'.own = true := fun j u z zo => by
    rcases cs j u z with ⟨rfl, rfl⟩ | ⟨_, z'⟩
    · exact ⟨_, e, rfl⟩
    · exact ⟨u, z', zo⟩
  have ao : g.H0 a = none ∨ (i, a) ∈ g.B := R.own i _ a e rfl hs
  refine ⟨fun b u z => ?_, R.f0, R.fnew, fun b u z hb => ?_, fun j u z => ?_, fun j u b z zo zb => ?_, fun j k u w b hjk z zo y yo => ?_, fun p hp => ?_, by rw [List.length_set]; exact R.len, fun p hp => ?_⟩
  · rw [upd_ne fun q => by rw [q, fa] at z; cases z]
    exact R.sub b u z
  · rw [upd_ne fun q => ?_]
    · exact R.keep b u z hb
    · subst q
      rcases ao with q | q
      · rw [q] at z; cases z
      · exact hb _ q rfl
  · rcases cs j u z with ⟨rfl, rfl⟩ | ⟨hj, z'⟩
    · exact ⟨_, hs, a, xs', rfl, fa, upd_same, hv⟩
    · obtain ⟨v, h1, h2⟩ := R.slot j u z'
      refine ⟨v, h1, ?_⟩
      cases u with
      | sh d => exact h2
      | exc x => exact h2
      | ow ys =>
        obtain ⟨b, ws, rfl, f2, f3, f4⟩ := h2
        have hb : b ≠ a := fun q => R.dist j i _ _ a hj z' rfl e rfl (by rw [h1, q]) hs
        exact ⟨b, ws, rfl, f2, by rw [upd_ne hb]; exact f3, f4⟩
      | od ys =>
        obtain ⟨b, ws, rfl, f2, f3, f4⟩ := h2
        have hb : b ≠ a := fun q => R.dist j i _ _ a hj z' rfl e rfl (by rw [h1, q]) hs
        exact ⟨b, ws, rfl, f2, by rw [upd_ne hb]; exact f3, f4⟩
      | oi c2 ys =>
        obtain ⟨b, ws, rfl, f2, f3, f4⟩ := h2
        have hb : b ≠ a := fun q => R.dist j i _ _ a hj z' rfl e rfl (by rw [h1, q]) hs
        exact ⟨b, ws, rfl, f2, by rw [upd_ne hb]; exact f3, f4⟩
  · obtain ⟨u', h1, h2⟩ := ow1 j u z zo
    exact R.own j u' b h1 h2 zb
  · obtain ⟨u', h1, h2⟩ := ow1 j u z zo
    obtain ⟨w', h3, h4⟩ := ow1 k w y yo
    exact R.dist j k u' w' b hjk h1 h2 h3 h4
  · obtain ⟨p1, u, p2, p3⟩ := R.pin p hp
    refine ⟨p1, ?_⟩
    by_cases hj : i = p.1
    · exact ⟨.oi c fs', by rw [← hj]; exact List.getElem?_set_self hi, rfl⟩
    · exact ⟨u, by rw [List.getElem?_set_ne hj]; exact p2, p3⟩
  · obtain ⟨x1, x2, x3⟩ := R.ext p hp
    refine ⟨by rw [upd_ne fun q => x3 i _ e rfl (by rw [hs, q])]; exact x1, x2, fun j u z zo => ?_⟩
    obtain ⟨u', h1, h2⟩ := ow1 j u z zo
    exact x3 j u' h1 h2
end
section
variable {P : Program} {w : World} {K : PySem.W.Frag} {mg : Str → Option Value} {base : Heap}
theorem fnI_ok {x qual c : Str} {st : Stmt} {f : Addr} {fd : FuncData} {N : List Str} {p0 : Str} {ps : List Str} {k n np : Nat} {m : En → SRs} (F : Fun K x qual st f fd) (S : FnScope N (p0 :: ps) (defScope st)) (en : N.length = n) (ep : ps.length = np)
    (hbody : ∀ (cdv : Value) (A : Around) (outer : List Env) (s : Shared) (H : Hp) (E : XK) (g : G), A.guards = some [] → Room k (A.deeper (PyProof.Rows.envOfC qual (defScope st) s.heap.objs.size f cdv)) → g.B.map (·.1) = [0] → g.w = w → g.xc = none →
      TkG (cxOf (L2.CX P w) P w K mg base N qual (defScope st) f cdv A outer s H E) g → PassesOwn (model P w) (cxOf (L2.CX P w) P w K mg base N qual (defScope st) f cdv A outer s H E).A (cxOf (L2.CX P w) P w K mg base N qual (defScope st) f cdv A outer s H E).env (cxOf (L2.CX P w) P w K mg base N qual (defScope st) f cdv A outer s H E).xe →
      DSs (cxOf (L2.CX P w) P w K mg base N qual (defScope st) f cdv A outer s H E) g (defBody st) m) : FnG P w K mg base (L2.CX P w) (k + 1) f fd (p0 :: ps) (spI K c np (fnI n c m)) := by
  subst en ep
  refine fnG_of F S (fun vs H Q E ⟨F, a, C, dx, ws, ds, e, _, _, _, _, h, hl, _⟩ => by rw [e, List.length_cons, List.length_cons, h.length, hl]) fun cdv A outer s H vs Q E hg hr hsp => ?_
  obtain ⟨Fz, a, C, dx, ws, ds, rfl, sub, fa, ha, hcl, h, hl, q⟩ := hsp
  have tk : Takes (cxOf (L2.CX P w) P w K mg base N qual (defScope st) f cdv A outer s H E) (fun cls d _ H => E cls d H) := takes_of rfl rfl rfl rfl
  refine ⟨_, hbody cdv A outer s H E ⟨Fz, H, [(0, a)], [], w, some (fun cls d _ H => E cls d H), none⟩ hg hr rfl rfl rfl (fun W e => by cases e; exact tk) (passes_of rfl), Fz, startE N.length (.oi c [] :: ds.map OV.sh), relI sub fa ha hcl h, ?_⟩
  have kp : ∀ {F' H' : Hp} {s' : St} {r' : En}, Rel K ⟨Fz, H, [(0, a)], [], w, some (fun cls d _ H => E cls d H), none⟩ F' H' s' r' → ∀ b o, H b = some o → b ≠ a → H' b = some o := fun {F' H' s' r'} R' b o e hb => R'.keep b o e fun p hp => by
    have hp := List.mem_singleton.mp hp
    subst hp
    exact fun z => hb z.symm
  unfold fnI at q
  revert q
  cases m (startE N.length (.oi c [] :: ds.map OV.sh)) with
  | nx r' =>
    intro q F' H' s' sm R'
    obtain ⟨p1, u, p2, p3⟩ := R'.pin (0, a) (List.mem_singleton.mpr rfl)
    have p2 : r'[0]? = some (some u) := p2
    have q : QI K c Fz H a Q E (oiAt c r') := q
    unfold oiAt at q
    rw [p2] at q
    cases u with
    | oi c2 fs =>
      obtain ⟨v, h1, b, xs, rfl, h2, h3, h4⟩ := R'.slot 0 _ p2
      have p1 : s'[0]? = some (some (.ref a)) := p1
      rw [p1] at h1
      cases h1
      obtain ⟨C2, dx2, vs2⟩ := xs
      simp only at q
      by_cases hc2 : c2 = c
      · rw [if_pos hc2] at q
        subst hc2
        exact q F' H' C2 dx2 vs2 sm R'.sub (fun b o e e0 => R'.fnew b o e e0) (kp R') h2 h3 h4.1 h4.2
      · rw [if_neg hc2] at q
        exact q.elim
    | _ => exact q.elim
  | rt o r' => exact fun q => q.elim
  | bk r' => exact fun q => q.elim
  | ct r' => exact fun q => q.elim
  | bad => exact fun q => q.elim
  | ex x r' =>
    intro q
    suffices hh : exW K ⟨Fz, H, [(0, a)], [], w, some (fun cls d _ H => E cls d H), none⟩ x r' from hh
    intro F' H' s' cls d R' hx
    exact q F' H' cls d R'.f0 R'.sub (fun b o e e0 => R'.fnew b o e e0) (kp R') hx
end
/-! ### self.f = e, o.f -/
def putFd (f : Str) (d : D) : List (Str × D) → List (Str × D)
  | [] => [(f, d)]
  | (g, x) :: r => if g = f then (g, d) :: r else (g, x) :: putFd f d r
theorem RDf.put {K : PySem.W.Frag} {F : Hp} {f : Str} {v : V} {d : D} (hv : RD K F v d) : ∀ {vs : List (Str × V)} {ds : List (Str × D)}, RDf K F vs ds → RDf K F (L2.putF f v vs) (putFd f d ds)
  | _, [], h => by cases h; exact .cons hv .nil
  | _, (k, d') :: ds, h => by
    cases h with
    | cons h1 h2 =>
      unfold L2.putF putFd
      split
      · exact .cons hv h2
      · exact .cons h1 (RDf.put hv h2)
theorem RDf.length {K : PySem.W.Frag} {F : Hp} : ∀ {vs : List (Str × V)} {ds : List (Str × D)}, RDf K F vs ds → vs.length = ds.length
  | _, [], h => by cases h; rfl
  | _, (k, d') :: ds, h => by
    cases h with
    | cons h1 h2 => rw [List.length_cons, List.length_cons, RDf.length h2]
def fldS (i : Nat) (c f : Str) (fe : En → Rs D) : En → SRs := fun r => thenS (fe r) fun d r1 => match r1[i]? with
  | some (some (OV.oi c' fs)) => if c' = c ∧ fs.length < 900 then .nx (r1.set i (some (.oi c (putFd f d fs)))) else .bad
  | _ => .bad
def semFld (c f : Str) : D → Option D
  | .obj c' fs => if c' = c then fs.lookup f else none
  | _ => none
section
variable {X : Cx} {g : G} {e : Expr} {p pos pos' : Pos} {c f n : Str} {i : Nat}
theorem ds_fld {fe : En → Rs D} (hf : FldOk X.K c f) (hv : PE X (.Name n p) (tVar i)) (he : DE X g e fe) (hs : swapsWith e (some (.Attribute (.Name n p) f pos')) pos.line X.env = pure false := by rfl) : DS X g (.Assign [.Attribute (.Name n p) f pos'] e pos) (fldS i c f fe) :=
  PS.imp (ps_fld hv he hs) fun E s H ⟨F, r, R, q⟩ => ⟨F, r, R, post_mono (post_then q) fun d r1 q F1 H1 v sm R1 hvd => by
    revert q
    split
    · next c' fs e1 =>
      by_cases hc : c' = c ∧ fs.length < 900
      · rw [if_pos hc]
        intro q
        obtain ⟨hc, hl⟩ := hc
        subst hc
        obtain ⟨w, h1, a, ⟨C, dx, vs⟩, rfl, h2, h3, h4, h5⟩ := R1.slot i _ e1
        obtain ⟨k1, k2⟩ := hf C h4
        exact ⟨_, h1, a, C, dx, vs, rfl, h3, k1, k2, by rw [h5.length]; omega, q F1 _ s sm (R1.chgOi (xs' := (C, dx, L2.putF f v vs)) e1 h1 h2 h3 ⟨h4, RDf.put hvd h5⟩)⟩
      · rw [if_neg hc]
        exact fun q => q.elim
    · exact fun q => q.elim⟩
theorem de_fld {op : Opd} (hf : FldOk X.K c f) (he : DB X g e op) (hb : attributeBase e f X.env (eval e X.env) = eval e X.env := by rfl) : DE X g (.Attribute e f pos) (op1 op (semFld c f)) :=
  PE.imp (pe_fld he hb) fun s H Q h => by
    obtain ⟨F, r, R, h⟩ := h
    refine ⟨F, r, R, post_mono (post_bind h) fun z r1 q F1 H1 v sm R1 hv => ?_⟩
    obtain ⟨d, e1, q9⟩ := post_ofO q
    obtain ⟨dx, e2, e3⟩ := Option.bind_eq_some_iff.mp e1
    have hb := look_ok R1 hv e2
    cases dx with
    | obj c' fs =>
      have e4 : (if c' = c then fs.lookup f else none) = some d := e3
      by_cases hc : c' = c
      · rw [if_pos hc] at e4
        subst hc
        cases hb.flat (fun _ => nofun) with
        | obj k1 k2 k3 =>
          obtain ⟨w, l1, l2⟩ := RDf.look k3 e4
          obtain ⟨m1, m2⟩ := hf _ k1
          exact ⟨_, _, _, _, w, rfl, R1.sub _ _ k2, m1, m2, l1, q9 F1 H1 w sm R1 l2⟩
      · rw [if_neg hc] at e4
        cases e4
    | _ => cases e3
/-- the attribute of an instance that a slot owns -/
def fldO (i : Nat) (c f : Str) : En → Rs D := fun r => match r[i]? with
  | some (some (OV.oi c' fs)) => if c' = c then ofO (fs.lookup f) r else .bad
  | _ => .bad
theorem de_fldO (hf : FldOk X.K c f) (hv : PE X (.Name n p) (tVar i)) (hb : attributeBase (.Name n p) f X.env (eval (.Name n p) X.env) = eval (.Name n p) X.env := by rfl) : DE X g (.Attribute (.Name n p) f pos) (fldO i c f) :=
  PE.imp (pe_fld hv hb) fun s H Q ⟨F, r, R, q⟩ => by
    unfold fldO at q
    revert q
    split
    · next c' fs e1 =>
      by_cases hc : c' = c
      · rw [if_pos hc]
        intro q
        subst hc
        obtain ⟨d, e3, q⟩ := post_ofO q
        obtain ⟨w, h1, a, ⟨C, dx, vs⟩, rfl, h2, h3, h4, h5⟩ := R.slot i _ e1
        obtain ⟨k1, k2⟩ := hf C h4
        obtain ⟨w, l1, l2⟩ := RDf.look h5 e3
        exact ⟨_, h1, a, C, dx, vs, w, rfl, h3, k1, k2, l1, q F H w (Same.refl _) R l2⟩
      · rw [if_neg hc]
        exact fun q => q.elim
    · exact fun q => q.elim
end
end DL

/-! Data layer, part 45: C(e, ..), o.m(e, ..), properties. -/
namespace DL
open PySem L2
section
variable {K : PySem.W.Frag} {g : G} {F1 H1 F' H' : Hp} {s : St} {r1 : En} {a : Addr}
/-- behind a call that changed nothing that was there but what stands at a, which is nobody's -/
theorem Rel.afterB (R1 : Rel K g F1 H1 s r1) (h0 : g.H0 a = none) (ho : ∀ (j : Nat) (o : OV), r1[j]? = some (some o) → o.own = true → s[j]? ≠ some (some (.ref a))) (hX : ∀ p ∈ g.X, p.1 ≠ a)
    (s1 : Same F1 F') (s2 : Same F' H') (fr : Fresh F1 F' H1) (s3 : ∀ b o, H1 b = some o → b ≠ a → H' b = some o) : Rel K g F' H' s r1 := by
  have fn : ∀ {c : Addr} {u : HO}, F1 c = none → H1 c = some u → F' c = none := fun {c u} z1 z2 => by
    cases z : F' c with
    | none => rfl
    | some o' => rw [fr c o' z z1] at z2; cases z2
  refine ⟨s2, R1.f0.trans s1, fun b u e e0 => ?_, fun b u e hb => ?_, fun i u e => ?_, R1.own, R1.dist, R1.pin, R1.len, fun q hq => ?_⟩
  · cases z : F1 b with
    | some u' => exact R1.fnew b u' z e0
    | none => exact R1.live (fr b u e z)
  · exact s3 _ _ (R1.keep b u e hb) fun z => by rw [z, h0] at e; cases e
  · obtain ⟨w, a1, a2⟩ := R1.slot i u e
    refine ⟨w, a1, ?_⟩
    by_cases hu : u.own = true
    · refine RO.mono s1 (fun c vs ew e2 e3 => ⟨fn e2 e3, s3 _ _ e3 fun z => ho i u e hu (by rw [a1, ew, z])⟩) a2
    · cases u with
      | sh d => exact RD.mono s1 d a2
      | exc x => exact RE.mono s1 a2
      | ow xs => exact absurd rfl hu
      | od xs => exact absurd rfl hu
      | oi c xs => exact absurd rfl hu
  · obtain ⟨x1, x2, x3⟩ := R1.ext q hq
    exact ⟨s3 _ _ x1 (hX q hq), fn x2 x1, x3⟩
/-- what stands at a, nobody's, is frozen -/
theorem Rel.frzA {o : HO} (R : Rel K g F' H' s r1) (h0 : g.H0 a = none) (ho : ∀ (j : Nat) (u : OV), r1[j]? = some (some u) → u.own = true → s[j]? ≠ some (some (.ref a))) (hX : ∀ p ∈ g.X, p.1 ≠ a) (fa : F' a = none) (ha : H' a = some o) : Same F' (L2.upd F' a o) ∧ Rel K g (L2.upd F' a o) H' s r1 := by
  have sF : Same F' (L2.upd F' a o) := same_upd fa
  refine ⟨sF, fun b u e => ?_, R.f0.trans sF, fun b u e e0 => ?_, R.keep, fun i u e => ?_, R.own, R.dist, R.pin, R.len, fun q hq => ⟨(R.ext q hq).1, by rw [upd_ne (hX q hq)]; exact (R.ext q hq).2.1, (R.ext q hq).2.2⟩⟩
  · by_cases hb : b = a
    · subst hb; rw [L2.upd_same] at e; cases e; exact ha
    · rw [upd_ne hb] at e; exact R.sub b u e
  · by_cases hb : b = a
    · subst hb; exact h0
    · rw [upd_ne hb] at e; exact R.fnew b u e e0
  · obtain ⟨v, h1, h2⟩ := R.slot i u e
    refine ⟨v, h1, ?_⟩
    by_cases hu : u.own = true
    · exact RO.mono sF (fun c vs ew e2 e3 => ⟨by rw [upd_ne fun z => ho i u e hu (by rw [h1, ew, z])]; exact e2, e3⟩) h2
    · cases u with
      | sh d => exact RD.mono sF d h2
      | exc x => exact RE.mono sF h2
      | ow xs => exact absurd rfl hu
      | od xs => exact absurd rfl hu
      | oi c xs => exact absurd rfl hu
end
/-! ### C(e, ..) -/
structure HasI (P : Program) (w : World) (K : PySem.W.Frag) (mg : Str → Option Value) (base : Heap) (k : Nat) (c : Str) (n : Nat) (f : List D → FI) : Prop where
  ex : ∃ C fa fd ps, FnG P w K mg base (L2.CX P w) k fa fd ps (spI K c n f) ∧ mg c = some (.ref C) ∧ ClsAt K c C ∧ Mk K C fa ∧ Binds K fd ps []
def fiR (c : Str) (z : FI) (r : En) : Rs OV := match z with
  | .ok fs => .ok (.sh (.obj c fs)) r
  | .ex x => .ex x r
  | .bad => .bad
def makeD (c : Str) (n : Nat) (f : List D → FI) (fs : List (En → Rs D)) : En → Rs OV := fun r => (evs fs r).bind fun ds r1 => if ds.length = n then fiR c (f ds) r1 else .bad
section
variable {X : Cx} {CX : CXT} {k : Nat} {f C : Addr} {fd : FuncData} {ps : List Str} {sp : Sp} {E : St → XK} {x m : Str} {p pos apos : Pos} {e o : Expr} {es : List Expr} {t : TA} {ta : TE}
theorem run_makeGS {pins : List (Addr × Obj)} {σ : St} {H : Hp} {s : Shared} {Q : VK} {us : List Value} {vs : List V} (M : Mk X.K C f) (F : FnG X.prog X.w X.K X.mg X.base CX k f fd ps sp) (hgd : X.A.guards = some []) (hr : Room (k + 1) X.A) (hb : Binds X.K fd ps [])
    (hx : PassesAt CX X σ (E σ)) (I : Inv X pins σ H s) (r : Vals vs us)
    (h : ∀ x dx, H x = none → H dx = none → dx ≠ x → sp (.ref x :: vs) (L2.upd (L2.upd H dx (.own x)) x (.ins C dx [])) (fun v H2 => v = .non ∧ Q (.ref x) H2) (E σ)) :
    wpAny (model X.prog X.w) X.A (call (.ref C) us) (EP X pins σ Q) X.xe s := by
  have hq := h (s.heap.objs.size + 1) s.heap.objs.size (I.hok.fresh (Nat.le_succ _)) (I.hok.fresh (Nat.le_refl _)) (Nat.ne_of_lt (Nat.lt_succ_self _))
  have I2 := Inv.made (C := C) I
  have r2 : Vals (V.ref (s.heap.objs.size + 1) :: vs) (Value.ref (s.heap.objs.size + 1) :: us) := .cons rfl r
  have hl : (Value.ref (s.heap.objs.size + 1) :: us).length = ps.length := by
    have e := r2.length
    rw [F.len _ _ _ _ hq] at e
    exact e.symm
  refine wpAny_call (make_map (f := f) I.kIn M.makes M.init (beq_iff_eq.mp M.fn) (codeAny_mono (F.run _ X.stack _ _ ⟨Value.ref (s.heap.objs.size + 1) :: us, []⟩ (Value.ref (s.heap.objs.size + 1) :: us) _ _ (E σ) (by first | exact hgd | rfl) (hr.make C us [])
    (I2.env0.make C us []) (by have z := hb _ (Value.ref (s.heap.objs.size + 1) :: us) I2.kIn (by rw [List.append_nil]; exact hl); rw [List.append_nil] at z; exact z) r2 hq) fun r s' hq' => ?_))
  cases r with
  | error e => exact hx pins _ _ e s' I2 hq'
  | ok fl =>
    cases fl with
    | ret u =>
      obtain ⟨v, H', I3, rv, ev, q3⟩ := I2.after hq'
      subst ev
      exact ⟨rv, ⟨V.ref (s.heap.objs.size + 1), H', I3, rfl, q3⟩⟩
    | next => exact False.elim hq'
    | brk => exact False.elim hq'
    | cont => exact False.elim hq'
theorem pe_makeGS (M : Mk X.K C f) (F : FnG X.prog X.w X.K X.mg X.base CX k f fd ps sp) (hgd : X.A.guards = some []) (hr : Room (k + 1) X.A) (hg : Gl X x) (hm : X.mg x = some (.ref C)) (hb : Binds X.K fd ps []) (hx : ∀ σ, PassesAt CX X σ (E σ))
    (ha : PA X (e :: es) t) (hdb : (x == ("__debug__" : Str)) = false := by decide) (he : starEach (e :: es) X.env = (false, eval e X.env) :: starEach es X.env := by rfl) (hpl : (backTo pos (starEach es X.env)).any (·.1) = false := by rfl) :
    PE X (.Call (.Name x p) (e :: es) [] pos) (fun σ H Q => t σ H fun vs H1 => ∀ x dx, H1 x = none → H1 dx = none → dx ≠ x → sp (.ref x :: vs) (L2.upd (L2.upd H1 dx (.own x)) x (.ins C dx [])) (fun v H2 => v = .non ∧ Q (.ref x) H2) (E σ)) := by
  refine ⟨fun pins s σ H Q I h => ?_⟩
  refine wpAny_Call_Name_kw (ld_glob I hg hm ?_ hdb)
  refine PySem.W.callWith_K (h₀ := X.base) I.ok.mod.kin M.kp (thn (ha.run pos pins s σ H _ I h) fun us s1 ⟨vs, H1, I1, r, q⟩ => ⟨I1.kIn, ?_⟩) he hpl
  exact run_makeGS M F hgd hr hb (hx σ) I1 r q
/-- o.m(e, ..) -/
theorem pe_methGS {pl : Sem Bool} (he : PE X o ta) (c : Cls X.K C) (hm : Meth X.K C m f) (F : FnG X.prog X.w X.K X.mg X.base CX k f fd ps sp) (hgd : X.A.guards = some []) (hr : Room k X.A) (hb : Binds X.K fd ps []) (hx : ∀ σ, PassesAt CX X σ (E σ)) (ha : PA X (e :: es) t)
    (hst : starEach (e :: es) X.env = (false, eval e X.env) :: starEach es X.env := by rfl) (hpl : (backTo pos (starEach es X.env)).any (·.1) = false := by rfl)
    (ht : eval (.Call (.Attribute o m apos) (e :: es) [] pos) X.env = (do
      let ov ← eval o X.env
      standAt apos.atName
      let (f, first) ← holding [ov] (getMethod ov m pl)
      callWith pos f first (backTo pos (starEach (e :: es) X.env)) (backToKw pos (keywordEach [] X.env))) := by rfl) :
    PE X (.Call (.Attribute o m apos) (e :: es) [] pos) (fun σ H Q => ta σ H fun x H1 => ∃ a dx fs, x = .ref a ∧ H1 a = some (.ins C dx fs) ∧ fs.lookup m = none ∧ t σ H1 fun vs H2 => sp (x :: vs) H2 Q (E σ)) := by
  refine ⟨fun pins s σ H Q I h => ?_⟩
  refine PySem.W.methodCall_KW (pl := pl) (thn (he.run pins s σ H _ I h) fun u s1 ⟨x, H1, I1, rx, a, dx, fs, ex, ea, l, q⟩ => ?_) ht
  subst ex
  obtain rfl : u = Value.ref a := rx
  refine getmeth_ok I1 ea c hm l ?_
  refine PySem.W.callWith_K (first := [.ref a]) (h₀ := X.base) I.ok.mod.kin hm.kp (thn (ha.run pos pins s1 σ H1 _ I1 q) fun us s2 ⟨vs, H2, I2, r, q2⟩ => ⟨I2.kIn, ?_⟩) hst hpl
  exact runGS (us := .ref a :: us) (vs := .ref a :: vs) F hgd hr hb (hx σ) I2 (.cons rfl r) q2
/-- o.m() -/
theorem pe_meth0GS {pl : Sem Bool} (he : PE X o ta) (c : Cls X.K C) (hm : Meth X.K C m f) (F : FnG X.prog X.w X.K X.mg X.base CX k f fd ps sp) (hgd : X.A.guards = some []) (hr : Room k X.A) (hb : Binds X.K fd ps []) (hx : ∀ σ, PassesAt CX X σ (E σ))
    (ht : eval (.Call (.Attribute o m apos) [] [] pos) X.env = (do
      let ov ← eval o X.env
      standAt apos.atName
      let (f, first) ← holding [ov] (getMethod ov m pl)
      callWith pos f first (backTo pos (starEach [] X.env)) (backToKw pos (keywordEach [] X.env))) := by rfl) :
    PE X (.Call (.Attribute o m apos) [] [] pos) (fun σ H Q => ta σ H fun x H1 => ∃ a dx fs, x = .ref a ∧ H1 a = some (.ins C dx fs) ∧ fs.lookup m = none ∧ sp [x] H1 Q (E σ)) := by
  refine ⟨fun pins s σ H Q I h => ?_⟩
  refine PySem.W.methodCall_KW (pl := pl) (thn (he.run pins s σ H _ I h) fun u s1 ⟨x, H1, I1, rx, a, dx, fs, ex, ea, l, q⟩ => ?_) ht
  subst ex
  obtain rfl : u = Value.ref a := rx
  refine getmeth_ok I1 ea c hm l ?_
  exact PySem.W.callWith_K0 (first := [.ref a]) I1.kIn hm.kp (runGS (us := [.ref a]) (vs := [.ref a]) F hgd hr hb (hx σ) I1 (.cons rfl .nil) q)
end
section
variable {X : Cx} {g : G} {k n : Nat} {c m : Str} {p pos apos : Pos} {e o : Expr} {es : List Expr}
theorem do_make {f : List D → FI} {fs : List (En → Rs D)} (h : HasI X.prog X.w X.K X.mg X.base k c n f) (hgd : X.A.guards = some []) (hr : Room (k + 1) X.A) (tk : TkG X g) (ha : DA X g (e :: es) fs) (hg : Gl X c := by rfl)
    (hdb : (c == ("__debug__" : Str)) = false := by decide) (he : starEach (e :: es) X.env = (false, eval e X.env) :: starEach es X.env := by rfl) (hpl : (backTo pos (starEach es X.env)).any (·.1) = false := by rfl) : DO X g (.Call (.Name c p) (e :: es) [] pos) (makeD c n f fs) := by
  obtain ⟨C, fa, fd, ps, F, h1, hcl, M, h3⟩ := h.ex
  refine PE.imp (pe_makeGS (E := WG g) M F hgd hr hg h1 h3 (passG tk) ha hdb he hpl) fun s H Q ⟨Fz, r, R, q⟩ => ⟨Fz, r, R, post_mono (post_bind q) fun ds r1 q F1 H1 vs sm R1 hvs => ?_⟩
  obtain ⟨hn, q⟩ := post_if q
  intro a dx na ndx hne
  have nd2 : H1 dx = none := ndx
  have na2 : (L2.upd H1 dx (.own a)) a = none := by rw [upd_ne hne.symm]; exact na
  have R2 : Rel X.K g F1 (L2.upd (L2.upd H1 dx (.own a)) a (.ins C dx [])) s r1 := (R1.laid ndx).laid na2
  have h0 : g.H0 a = none := R1.live na
  have ho : ∀ (j : Nat) (o : OV), r1[j]? = some (some o) → o.own = true → s[j]? ≠ some (some (.ref a)) := fun j o e eo => not_own R1 na j o e eo
  have hX : ∀ p ∈ g.X, p.1 ≠ a := fun p hp z => by have := (R1.ext p hp).1; rw [z, na] at this; cases this
  refine ⟨F1, a, C, dx, vs, ds, rfl, R2.sub, R1.ff na, upd_same, hcl, hvs, hn, ?_⟩
  revert q
  cases f ds with
  | ok fl =>
    intro q F' H' C' dx' vs' s1 s2 fr s3 fa2 ha2 hc2 hf2
    have R3 : Rel X.K g F' H' s r1 := R2.afterB h0 ho hX s1 s2 fr s3
    obtain ⟨sF, R4⟩ := R3.frzA h0 ho hX fa2 ha2
    exact ⟨rfl, q _ _ _ ((sm.trans s1).trans sF) R4 (.obj hc2 upd_same (RDf.mono sF _ hf2))⟩
  | ex x =>
    intro q F' H' cls d s1 s2 fr s3 hx
    have R3 : Rel X.K g F' H' s r1 := R2.afterB h0 ho hX s1 s2 fr s3
    have q : exW X.K g x r1 := q
    unfold exW at q
    unfold WG
    revert q
    cases g.W with
    | none => exact fun q => q
    | some W => exact fun q => q F' H' s cls d R3 hx
  | bad => exact fun q => q
/-! ### o.m(e, ..) -/
/-- a method that raises nothing; one that may raise: the object is its first argument -/
structure HasMP (P : Program) (w : World) (K : PySem.W.Frag) (mg : Str → Option Value) (base : Heap) (k : Nat) (c m : Str) (n : Nat) (f : List D → Option OV) : Prop where
  ex : ∃ C fa fd ps, FnG P w K mg base CX0 k fa fd ps (spP K n f) ∧ ClsAt K c C ∧ Cls K C ∧ Meth K C m fa ∧ Binds K fd ps []
structure HasMX (P : Program) (w : World) (K : PySem.W.Frag) (mg : Str → Option Value) (base : Heap) (k : Nat) (c m : Str) (n : Nat) (f : List D → FR) : Prop where
  ex : ∃ C fa fd ps, FnG P w K mg base (L2.CX P w) k fa fd ps (spX K n f) ∧ ClsAt K c C ∧ Cls K C ∧ Meth K C m fa ∧ Binds K fd ps []
def toFR (o : Option OV) : FR := match o with
  | some o => .ok o
  | none => .bad
/-- an instance of c without an attribute m of its own -/
def objOk (c m : Str) : D → Bool
  | .obj c' fl => decide (c' = c) && decide (fl.lookup m = none)
  | _ => false
def methX (c m : Str) (n : Nat) (f : List D → FR) (fo : En → Rs D) (fs : List (En → Rs D)) : En → Rs OV := fun r => (fo r).bind fun x r1 => if objOk c m x = true then (evs fs r1).bind fun ds r2 => if ds.length + 1 = n then frR (f (x :: ds)) r2 else .bad else .bad
theorem RDf.nolook {K : PySem.W.Frag} {F : Hp} {f : Str} : ∀ {vs : List (Str × V)} {ds : List (Str × D)}, RDf K F vs ds → ds.lookup f = none → vs.lookup f = none
  | _, [], h, e => by cases h; rfl
  | _, (k, d') :: ds, h, e => by
    cases h with
    | cons h1 h2 =>
      rw [List.lookup_cons] at e
      rw [List.lookup_cons]
      cases hk : f == k with
      | true =>
        simp only [hk] at e
        cases e
      | false =>
        simp only [hk] at e
        exact RDf.nolook h2 e
/-- the reading of a method's call by its promise -/
theorem meth_imp {K : PySem.W.Frag} {f : List D → FR} {fo : En → Rs D} {fs : List (En → Rs D)} {sp : Sp} {C : Addr} {s : St} {H : Hp} {Q : VK} (hcl : ClsAt K c C) (hsp : ∀ vs H Q, spX K n f vs H Q (WG g s) → sp vs H Q (WG g s)) (h : tO K g (methX c m n f fo fs) s H Q) :
    tD K g fo s H fun x H1 => ∃ a dx fl, x = .ref a ∧ H1 a = some (.ins C dx fl) ∧ fl.lookup m = none ∧ tAD K g (evs fs) s H1 fun vs H2 => sp (x :: vs) H2 Q (WG g s) := by
  obtain ⟨Fz, r, R, q⟩ := h
  refine ⟨Fz, r, R, post_mono (post_bind q) fun x r1 q F1 H1 v sm R1 hv => ?_⟩
  obtain ⟨hok, q9⟩ := post_if q
  cases x with
  | obj c' fl =>
    obtain ⟨hc, hno⟩ := Bool.and_eq_true_iff.mp hok
    have hc := of_decide_eq_true hc
    have hno := of_decide_eq_true hno
    subst hc
    cases hv with
    | obj k1 k2 k3 =>
      cases hcl.inj k1
      refine ⟨_, _, _, rfl, R1.sub _ _ k2, RDf.nolook k3 hno, F1, r1, R1, post_mono (post_bind q9) fun ds r2 q F2 H2 vs sm2 R2 hvs => ?_⟩
      obtain ⟨e2, q⟩ := post_if q
      exact hsp _ _ _ ⟨F2, .obj c' fl :: ds, R2.sub, .cons (.obj k1 (sm2 _ _ k2) (RDf.mono sm2 _ k3)) hvs, e2, QX.of R2 (sm.trans sm2) q⟩
  | _ => cases hok
theorem do_methX {f : List D → FR} {fo : En → Rs D} {fs : List (En → Rs D)} {pl : Sem Bool} (h : HasMX X.prog X.w X.K X.mg X.base k c m n f) (hgd : X.A.guards = some []) (hr : Room k X.A) (tk : TkG X g) (ho : DE X g o fo) (ha : DA X g (e :: es) fs)
    (hst : starEach (e :: es) X.env = (false, eval e X.env) :: starEach es X.env := by rfl) (hpl : (backTo pos (starEach es X.env)).any (·.1) = false := by rfl)
    (ht : eval (.Call (.Attribute o m apos) (e :: es) [] pos) X.env = (do
      let ov ← eval o X.env
      standAt apos.atName
      let (f, first) ← holding [ov] (getMethod ov m pl)
      callWith pos f first (backTo pos (starEach (e :: es) X.env)) (backToKw pos (keywordEach [] X.env))) := by rfl) : DO X g (.Call (.Attribute o m apos) (e :: es) [] pos) (methX c m n f fo fs) := by
  obtain ⟨C, fa, fd, ps, F, hcl, hc, hm, h3⟩ := h.ex
  exact PE.imp (pe_methGS (E := WG g) ho hc hm F hgd hr h3 (passG tk) ha hst hpl ht) fun s H Q h => meth_imp hcl (fun _ _ _ z => z) h
theorem do_methX0 {f : List D → FR} {fo : En → Rs D} {pl : Sem Bool} (h : HasMX X.prog X.w X.K X.mg X.base k c m n f) (hgd : X.A.guards = some []) (hr : Room k X.A) (tk : TkG X g) (ho : DE X g o fo)
    (ht : eval (.Call (.Attribute o m apos) [] [] pos) X.env = (do
      let ov ← eval o X.env
      standAt apos.atName
      let (f, first) ← holding [ov] (getMethod ov m pl)
      callWith pos f first (backTo pos (starEach [] X.env)) (backToKw pos (keywordEach [] X.env))) := by rfl) : DO X g (.Call (.Attribute o m apos) [] [] pos) (methX c m n f fo []) := by
  obtain ⟨C, fa, fd, ps, F, hcl, hc, hm, h3⟩ := h.ex
  refine PE.imp (pe_meth0GS (E := WG g) ho hc hm F hgd hr h3 (passG tk) ht) fun s H Q h => ?_
  obtain ⟨Fz, r, R, q⟩ := meth_imp hcl (sp := spX X.K n f) (fun _ _ _ z => z) h
  refine ⟨Fz, r, R, post_mono q fun x r1 q F1 H1 v sm R1 hv => ?_⟩
  obtain ⟨a, dx, fl, e1, e2, e3, F2, r2, R2, q2⟩ := q F1 H1 v sm R1 hv
  exact ⟨a, dx, fl, e1, e2, e3, q2 F2 H1 [] (Same.refl _) R2 .nil⟩
/-- a promise that raises nothing is one of those that may -/
theorem spP_X {K : PySem.W.Frag} {f : List D → Option OV} {vs : List V} {H : Hp} {Q : VK} {E E' : XK} (h : spX K n (fun ds => toFR (f ds)) vs H Q E) : spP K n f vs H Q E' := by
  obtain ⟨F, ds, h1, h2, h3, q⟩ := h
  cases e : f ds with
  | none =>
    simp only [toFR, e] at q
    exact q.elim
  | some o =>
    simp only [toFR, e] at q
    exact ⟨F, ds, o, h1, h2, h3, e, q⟩
theorem do_methP {f : List D → Option OV} {fo : En → Rs D} {fs : List (En → Rs D)} {pl : Sem Bool} (h : HasMP X.prog X.w X.K X.mg X.base k c m n f) (hgd : X.A.guards = some []) (hr : Room k X.A) (ho : DE X g o fo) (ha : DA X g (e :: es) fs)
    (hst : starEach (e :: es) X.env = (false, eval e X.env) :: starEach es X.env := by rfl) (hpl : (backTo pos (starEach es X.env)).any (·.1) = false := by rfl)
    (ht : eval (.Call (.Attribute o m apos) (e :: es) [] pos) X.env = (do
      let ov ← eval o X.env
      standAt apos.atName
      let (f, first) ← holding [ov] (getMethod ov m pl)
      callWith pos f first (backTo pos (starEach (e :: es) X.env)) (backToKw pos (keywordEach [] X.env))) := by rfl) : DO X g (.Call (.Attribute o m apos) (e :: es) [] pos) (methX c m n (fun ds => toFR (f ds)) fo fs) := by
  obtain ⟨C, fa, fd, ps, F, hcl, hc, hm, h3⟩ := h.ex
  exact PE.imp (pe_methGS (E := WG g) ho hc hm F hgd hr h3 (fun σ pins H s er s' I z => z.elim) ha hst hpl ht) fun s H Q h => meth_imp hcl (fun _ _ _ z => spP_X z) h
theorem do_methP0 {f : List D → Option OV} {fo : En → Rs D} {pl : Sem Bool} (h : HasMP X.prog X.w X.K X.mg X.base k c m n f) (hgd : X.A.guards = some []) (hr : Room k X.A) (ho : DE X g o fo)
    (ht : eval (.Call (.Attribute o m apos) [] [] pos) X.env = (do
      let ov ← eval o X.env
      standAt apos.atName
      let (f, first) ← holding [ov] (getMethod ov m pl)
      callWith pos f first (backTo pos (starEach [] X.env)) (backToKw pos (keywordEach [] X.env))) := by rfl) : DO X g (.Call (.Attribute o m apos) [] [] pos) (methX c m n (fun ds => toFR (f ds)) fo []) := by
  obtain ⟨C, fa, fd, ps, F, hcl, hc, hm, h3⟩ := h.ex
  refine PE.imp (pe_meth0GS (E := WG g) ho hc hm F hgd hr h3 (fun σ pins H s er s' I z => z.elim) ht) fun s H Q h => ?_
  obtain ⟨Fz, r, R, q⟩ := meth_imp hcl (sp := spP X.K n f) (fun _ _ _ z => spP_X z) h
  refine ⟨Fz, r, R, post_mono q fun x r1 q F1 H1 v sm R1 hv => ?_⟩
  obtain ⟨a, dx, fl, e1, e2, e3, F2, r2, R2, q2⟩ := q F1 H1 v sm R1 hv
  exact ⟨a, dx, fl, e1, e2, e3, q2 F2 H1 [] (Same.refl _) R2 .nil⟩
/-! ### o.f, a property whose getter returns an attribute -/
/-- c's property f returns the attribute a -/
structure HasG (P : Program) (w : World) (K : PySem.W.Frag) (mg : Str → Option Value) (base : Heap) (c f a : Str) : Prop where
  ex : ∃ C p ga fd, ClsAt K c C ∧ Cls K C ∧ PropOf K C f p ga ∧ FnOk P w K mg base CX0 1 ga fd ["self"] (getSp C a) ∧ Binds K fd ["self"] []
theorem de_prop {f a : Str} {q : Opd} (h : HasG X.prog X.w X.K X.mg X.base c f a) (hr : Room k X.A) (hk : 2 ≤ k) (he : DB X g e q) (hb : attributeBase e f X.env (eval e X.env) = eval e X.env := by rfl) : DE X g (.Attribute e f pos) (op1 q (semFld c a)) := by
  obtain ⟨C, p, ga, fd, hcl, hc, hp, F, hbd⟩ := h.ex
  have hr2 : Room (1 + 1) X.A := hr.mono hk
  refine PE.imp (pe_prop (dvs := []) (ds := []) (E := E0) he hc hp F hr2 hbd .nil pass0 hb) fun s H Q h => ?_
  obtain ⟨Fz, r, R, h⟩ := h
  refine ⟨Fz, r, R, post_mono (post_bind h) fun z r1 q F1 H1 v sm R1 hv => ?_⟩
  obtain ⟨d, e1, q9⟩ := post_ofO q
  obtain ⟨dx, e2, e3⟩ := Option.bind_eq_some_iff.mp e1
  have hb := look_ok R1 hv e2
  cases dx with
  | obj c' fs =>
    have e4 : (if c' = c then fs.lookup a else none) = some d := e3
    by_cases hc : c' = c
    · rw [if_pos hc] at e4
      subst hc
      cases hb.flat (fun _ => nofun) with
      | obj k1 k2 k3 =>
        cases hcl.inj k1
        obtain ⟨w, l1, l2⟩ := RDf.look k3 e4
        exact ⟨_, _, _, rfl, R1.sub _ _ k2, _, _, _, w, rfl, R1.sub _ _ k2, l1, q9 F1 H1 w sm R1 l2⟩
    · rw [if_neg hc] at e4
      cases e4
  | _ => cases e3
end
end DL

/-! Data layer, part 46: what the written part says of classes, put together. -/
namespace DL
open PySem L2
theorem nbT {g g' : G} {bs : List Nat} (e : Tri g g') (h : g.B.map (·.1) = bs) : g'.B.map (·.1) = bs := by rw [e.B]; exact h
theorem nbS {g g' : G} {bs : List Nat} {a : Addr} {cls : Value} {d : Option Addr} (e : Sui g g' a cls d) (h : g.B.map (·.1) = bs) : g'.B.map (·.1) = bs := by rw [e.B]; exact h
/-- c's __init__ is the def st -/
structure InitAt (K : PySem.W.Frag) (mg : Str → Option Value) (c qual : Str) (st : Stmt) : Prop where
  ex : ∃ C f fd, mg c = some (.ref C) ∧ ClsAt K c C ∧ Mk K C f ∧ Fun K "__init__" qual st f fd
/-- c's method m is the def st -/
structure MethAt (K : PySem.W.Frag) (c m qual : Str) (st : Stmt) : Prop where
  ex : ∃ C f fd, ClsAt K c C ∧ Cls K C ∧ Meth K C m f ∧ Fun K m qual st f fd
/-- answers of a table by names -/
def tabB (t : List (Str × Bool)) : Str → Option Bool := fun m => t.lookup m
theorem lookup_mem {α : Type} : ∀ {t : List (Str × α)} {m : Str} {b : α}, t.lookup m = some b → (m, b) ∈ t
  | (k, x) :: t, m, b, h => by
    rw [List.lookup_cons] at h
    cases hk : m == k with
    | true =>
      simp only [hk] at h
      cases h
      rw [beq_iff_eq.mp hk]
      exact List.mem_cons_self
    | false =>
      simp only [hk] at h
      exact List.mem_cons_of_mem _ (lookup_mem h)
theorem ct_of {K : PySem.W.Frag} {cv : Value} {t : List (Str × Bool)} (h : ∀ p ∈ t, ∃ C, ClsAt K p.1 C ∧ PySem.W.exmOne K (.ref C) cv = some p.2) : ∀ m b C, tabB t m = some b → ClsAt K m C → PySem.W.exmOne K (.ref C) cv = some b := fun m b C e hc => by
  obtain ⟨C', h1, h2⟩ := h (m, b) (lookup_mem e)
  cases hc.inj h1
  exact h2
theorem isT_of {K : PySem.W.Frag} {cv : Value} {t : List (Str × Bool)} (h : ∀ p ∈ t, ∃ C, ClsAt K p.1 C ∧ ExcC K C ∧ PySem.W.kitOne K (.ref C) cv = some p.2) : IsT K cv (tabB t) := fun m b e C hc => by
  obtain ⟨C', h1, h2⟩ := h (m, b) (lookup_mem e)
  cases hc.inj h1
  exact h2
theorem xfT_of {K : PySem.W.Frag} {f : Str} {cs : List Str} (h : ∀ c ∈ cs, ∃ C, ClsAt K c C ∧ XfC K C ∧ PySem.W.findIn K (.ref C) f = some none) : XfT K f cs := fun c hc C hC => by
  obtain ⟨C', h1, h2⟩ := h c hc
  cases hC.inj h1
  exact h2
theorem kit_ref {K : PySem.W.Frag} {C T : Addr} {b : Bool} (h1 : PySem.W.hasDictIn K T = true) (h2 : PySem.W.typeIn K (.ref T) = some (.type "type")) (h3 : PySem.W.subIn K (.ref T) (.ref T) = some true) (h4 : PySem.W.subIn K (.ref C) (.ref T) = some b) : PySem.W.kitOne K (.ref C) (.ref T) = some b := by
  unfold PySem.W.kitOne
  split
  · next e =>
    have e := beq_iff_eq.mp e
    cases e
    rw [h3] at h4
    exact h4
  · obtain ⟨cd, hc, _⟩ := PySem.W.any_some h1
    have e2 : ((PySem.W.clsIn K T).isSome && PySem.W.typeIn K (.ref T) == some (.type "type")) = true := by rw [hc, h2]; rfl
    show (if ((PySem.W.clsIn K T).isSome && PySem.W.typeIn K (.ref T) == some (.type "type")) = true then PySem.W.subIn K (.ref C) (.ref T) else none) = some b
    rw [if_pos e2]
    exact h4
end DL

/-! Data layer, part 19: plain lemmas about dicts. -/
namespace DL
open PySem L2
theorem valD_put (ds : List (Key × D)) (k : Key) (d : D) (j : Key) : valD (putD ds k d) j = if j = k then some d else valD ds j := by
  unfold putD
  by_cases h : (ds.any fun kv => decide (kv.1 = k)) = true
  · rw [if_pos h]
    unfold valD
    induction ds with
    | nil => simp at h
    | cons x xs ih =>
      by_cases hx : x.1 = k
      · by_cases hj : j = k
        · subst hj; simp [hx]
        · have : ¬ k = j := fun z => hj z.symm
          simp only [List.map_cons, hx, if_true, List.find?_cons, decide_eq_true_eq, this, decide_false, if_neg hj]
          clear ih h
          induction xs with
          | nil => rfl
          | cons y ys ih2 =>
            by_cases hy : y.1 = k
            · simp only [List.map_cons, hy, if_true, List.find?_cons, this, decide_false]; exact ih2
            · by_cases hyj : y.1 = j
              · simp [hy, hyj, hj]
              · simp only [List.map_cons, if_neg hy, List.find?_cons, hyj, decide_false]; exact ih2
      · have h' : (xs.any fun kv => decide (kv.1 = k)) = true := by simpa [hx] using h
        have := ih h'
        by_cases hxj : x.1 = j
        · have hjk : ¬ j = k := fun z => hx (hxj.trans z)
          simp [hx, hxj, hjk]
        · simp only [List.map_cons, if_neg hx, List.find?_cons, hxj, decide_false]
          exact this
  · rw [if_neg h]
    unfold valD
    rw [List.find?_append]
    have hn : ∀ kv ∈ ds, kv.1 ≠ k := fun kv hkv z => h (List.any_eq_true.mpr ⟨kv, hkv, decide_eq_true z⟩)
    by_cases hj : j = k
    · subst hj
      have : ds.find? (fun kv => decide (kv.1 = j)) = none := by
        rw [List.find?_eq_none]
        intro kv hkv
        simpa using hn kv hkv
      simp [this]
    · have : ¬ k = j := fun z => hj z.symm
      simp [hj, this]
theorem valD_merge : ∀ (more ds : List (Key × D)) {k : Key} {d : D}, valD (mergeD ds more) k = some d → (k, d) ∈ more ∨ valD ds k = some d
  | [], ds, k, d, h => .inr h
  | (j, e) :: more, ds, k, d, h => by
    rcases valD_merge more (putD ds j e) h with h | h
    · exact .inl (List.mem_cons_of_mem _ h)
    · rw [valD_put] at h
      split at h
      · next hk => cases h; subst hk; exact .inl (List.mem_cons_self ..)
      · exact .inr h
theorem valD_has : ∀ (more ds : List (Key × D)) {k : Key}, (k ∈ more.map (·.1) ∨ (valD ds k).isSome = true) → (valD (mergeD ds more) k).isSome = true
  | [], ds, k, h => by
    rcases h with h | h
    · cases h
    · exact h
  | (j, e) :: more, ds, k, h => by
    refine valD_has more (putD ds j e) ?_
    by_cases hk : k = j
    · exact .inr (by rw [valD_put, if_pos hk]; rfl)
    · rcases h with h | h
      · rcases List.mem_cons.mp h with h | h
        · exact absurd h hk
        · exact .inl h
      · exact .inr (by rw [valD_put, if_neg hk]; exact h)
theorem eqB_nil (ds : List D) : eqB (.lst ds) (.lst []) = some ds.isEmpty := by
  cases ds with
  | nil => decide
  | cons d ds =>
    unfold eqB
    show (if (D.lst (d :: ds)).fit && (D.lst []).fit then some (D.eqv (.lst (d :: ds)) (.lst [])) else lenB (.lst (d :: ds)) (.lst [])) = _
    split
    · rfl
    · rfl
theorem semEq_nil (ds : List D) : semEq (.lst ds) (.lst []) = some (.bl ds.isEmpty) := by unfold semEq; rw [eqB_nil]; rfl
theorem semNe_nil (ds : List D) : semNe (.lst ds) (.lst []) = some (.bl (!ds.isEmpty)) := by unfold semNe; rw [eqB_nil]; rfl
theorem eqB_nilT (ds : List D) : eqB (.tup ds) (.tup []) = some ds.isEmpty := by
  cases ds with
  | nil => decide
  | cons d ds =>
    unfold eqB
    show (if (D.tup (d :: ds)).fit && (D.tup []).fit then some (D.eqv (.tup (d :: ds)) (.tup [])) else lenB (.tup (d :: ds)) (.tup [])) = _
    split
    · rfl
    · rfl
theorem semEq_nilT (ds : List D) : semEq (.tup ds) (.tup []) = some (.bl ds.isEmpty) := by unfold semEq; rw [eqB_nilT]; rfl
theorem semAt_lst (xs : List D) (i : Int) : semAt (.lst xs) (.int i) = atI xs i := rfl
theorem semAt_tup (xs : List D) (i : Int) : semAt (.tup xs) (.int i) = atI xs i := rfl
theorem semAt_str (x : Str) (i : Int) : semAt (.str x) (.int i) = if x.length ≤ 1000000 then (atI x.cps.toList i).map fun c => .str ⟨#[c]⟩ else none := rfl
theorem semAt_dic (ds : List (Key × D)) (y : D) : semAt (.dic ds) y = y.key.bind fun k => valD ds k := rfl
/-- a comprehension that draws for each: one value each -/
theorem lcD_draw {α β γ : Type} {it : En → Rs (List D)} {vs : List Nat} {h : D → En → Option En} {elt : En → Rs D} {r r1 : En} (env : γ → En) (Inv : γ → Prop) (xs : List α) (enc : α → D) (q : α → β → D) (P : α → β → Prop) (g0 : γ)
    (hi : it r = .ok (xs.map enc) r1) (hl : xs.length ≤ 1000000) (hw : wipeE r1 vs = env g0) (h0 : Inv g0) (hI : ∀ g, wipeE (env g) vs = env g)
    (he : ∀ x ∈ xs, ∀ g, Inv g → ∃ ra, h (enc x) (env g) = some ra ∧ pok (fun y rc => ∃ v g', y = q x v ∧ P x v ∧ wipeE rc vs = env g' ∧ Inv g') (elt ra)) :
    ∃ (ws : List β) (g' : γ), lcD it vs h yesT elt r = .ok (.ow ((xs.zip ws).map fun p => q p.1 p.2)) (env g') ∧ ws.length = xs.length ∧ (∀ p ∈ xs.zip ws, P p.1 p.2) ∧ Inv g' := by
  have go : ∀ ys : List α, (∀ x ∈ ys, x ∈ xs) → ∀ r0 g, wipeE r0 vs = env g → Inv g → ∃ (ws : List β) (g' : γ) (r9 : En), lcS vs h yesT elt (ys.map enc) r0 = .ok ((ys.zip ws).map fun p => q p.1 p.2) r9 ∧ wipeE r9 vs = env g' ∧ ws.length = ys.length ∧ (∀ p ∈ ys.zip ws, P p.1 p.2) ∧ Inv g' := by
    intro ys
    induction ys with
    | nil => exact fun _ r0 g e0 hg => ⟨[], g, r0, rfl, e0, rfl, fun _ z => absurd z List.not_mem_nil, hg⟩
    | cons y ys ih =>
      intro hm r0 g e0 hg
      obtain ⟨ra, e1, e2⟩ := he y (hm y (List.mem_cons_self ..)) g hg
      obtain ⟨d, rc, e3, v, g1, rfl, e5, e6, e7⟩ := post_ex e2
      obtain ⟨ws, g', r9, f1, f2, f3, f4, f5⟩ := ih (fun x hx => hm x (List.mem_cons_of_mem _ hx)) (wipeE rc vs) g1 (by rw [e6, hI]) e7
      refine ⟨v :: ws, g', r9, ?_, f2, by rw [List.length_cons, List.length_cons, f3], fun p hp => ?_, f5⟩
      · rw [List.map_cons]
        unfold lcS
        rw [e0, e1]
        simp only [yesT, Rs.bind, if_true, e3, f1, List.zip_cons_cons, List.map_cons]
      · rw [List.zip_cons_cons] at hp
        rcases List.mem_cons.mp hp with rfl | hp
        · exact e5
        · exact f4 p hp
  obtain ⟨ws, g', r9, f1, f2, f3, f4, f5⟩ := go xs (fun _ h => h) r1 g0 hw h0
  refine ⟨ws, g', ?_, f3, f4, f5⟩
  unfold lcD
  rw [hi]
  simp only [Rs.bind, Rs.noE, List.length_map, hl, if_true, f1, f2]
end DL

/-! Tools, part 2: plain data can be shown. -/
namespace DL
open PySem L2
mutual
theorem pl_rp : ∀ d : D, d.pl = true → d.six = true → d.rp = true
  | .non, _, _ => rfl
  | .bl _, _, _ => rfl
  | .int i, _, h => h
  | .str x, h, _ => h
  | .lst xs, h, k => plAll_rp xs h k
  | .tup xs, h, k => plAll_rp xs h k
  | .dic _, h, _ => by cases h
  | .scr _, h, _ => by cases h
theorem plAll_rp : ∀ ds : List D, plAll ds = true → sixAll ds = true → rpAll ds = true
  | [], _, _ => rfl
  | d :: ds, h, k => by
    have h : (d.pl && plAll ds) = true := h
    have k : (d.six && sixAll ds) = true := k
    obtain ⟨h1, h2⟩ := Bool.and_eq_true_iff.mp h
    obtain ⟨k1, k2⟩ := Bool.and_eq_true_iff.mp k
    show (d.rp && rpAll ds) = true
    rw [pl_rp d h1 k1, plAll_rp ds h2 k2]; rfl
end
mutual
theorem pl_dq : ∀ d : D, d.pl = true → d.dq = d.dp
  | .non, _ => rfl
  | .bl _, _ => rfl
  | .int i, _ => rfl
  | .str x, h => rfl
  | .lst xs, h => by show dqAll xs + 1 = dpAll xs + 1; rw [plAll_dq xs h]
  | .tup xs, h => by show dqAll xs + 1 = dpAll xs + 1; rw [plAll_dq xs h]
  | .dic _, h => by cases h
  | .scr _, h => by cases h
theorem plAll_dq : ∀ ds : List D, plAll ds = true → dqAll ds = dpAll ds
  | [], _ => rfl
  | d :: ds, h => by
    have h : (d.pl && plAll ds) = true := h
    obtain ⟨h1, h2⟩ := Bool.and_eq_true_iff.mp h
    show max d.dq (dqAll ds) = max d.dp (dpAll ds)
    rw [pl_dq d h1, plAll_dq ds h2]
end
mutual
theorem pl_wq : ∀ d : D, d.pl = true → d.wq = d.wt
  | .non, _ => rfl
  | .bl _, _ => rfl
  | .int i, _ => rfl
  | .str x, h => rfl
  | .lst xs, h => by show wqAll xs + 3 = wtAll xs + 3; rw [plAll_wq xs h]
  | .tup xs, h => by show wqAll xs + 3 = wtAll xs + 3; rw [plAll_wq xs h]
  | .dic _, h => by cases h
  | .scr _, h => by cases h
theorem plAll_wq : ∀ ds : List D, plAll ds = true → wqAll ds = wtAll ds
  | [], _ => rfl
  | d :: ds, h => by
    have h : (d.pl && plAll ds) = true := h
    obtain ⟨h1, h2⟩ := Bool.and_eq_true_iff.mp h
    show d.wq + 2 + wqAll ds = d.wt + 2 + wtAll ds
    rw [pl_wq d h1, plAll_wq ds h2]
end
end DL

/-! Tools, part 3: slices by natural numbers, lists. -/
namespace DL
open PySem L2
theorem cut_to {α : Type} (xs : List α) {n : Nat} (h : n ≤ xs.length) : cutL xs none (some (n : Int)) = xs.take n := by
  unfold cutL
  rw [HT.sIx_none, show HT.sIx xs.length xs.length (some (n : Int)) = min n xs.length from HT.sIx_nat _ _ n, Nat.min_eq_left h]
  rfl
theorem cut_from {α : Type} (xs : List α) {n : Nat} (h : n ≤ xs.length) : cutL xs (some (n : Int)) none = xs.drop n := by
  unfold cutL
  rw [show HT.sIx xs.length 0 (some (n : Int)) = min n xs.length from HT.sIx_nat _ 0 n, Nat.min_eq_left h, HT.sIx_none]
  exact List.take_of_length_le (by rw [List.length_drop]; exact Nat.le_refl _)
theorem cut_toA {α : Type} (a b : List α) : cutL (a ++ b) none (some (a.length : Int)) = a := by
  rw [cut_to _ (by rw [List.length_append]; omega), List.take_left]
theorem cut_fromA {α : Type} (a b : List α) : cutL (a ++ b) (some (a.length : Int)) none = b := by
  rw [cut_from _ (by rw [List.length_append]; omega), List.drop_left]
theorem cut_fromA1 {α : Type} (a b : List α) (x : α) : cutL (a ++ x :: b) (some ((a.length : Int) + 1)) none = b := by
  have := cut_fromA (a ++ [x]) b
  rw [List.append_assoc, List.singleton_append, List.length_append, List.length_singleton] at this
  exact this
theorem flat_one {α : Type} (x : α) : ∀ n : Nat, (List.replicate n [x]).flatten = List.replicate n x
  | 0 => rfl
  | n + 1 => by rw [List.replicate_succ, List.flatten_cons, flat_one x n]; rfl
theorem semAt_nat {xs : List D} {k : Nat} {d : D} (h : xs[k]? = some d) : atI xs (k : Int) = some d := atI_nat h
end DL

/-! Tools, part 4: comprehensions with two fors, dicts that can be shown. -/
namespace DL
open PySem L2
theorem wipeE_in {r : En} {i : Nat} : ∀ {vs : List Nat}, i ∈ vs → (wipeE r vs)[i]? = if i < r.length then some none else none
  | [], h => by cases h
  | v :: vs, h => by
    unfold wipeE
    by_cases hv : v = i
    · subst hv
      by_cases hl : v < (wipeE r vs).length
      · rw [List.getElem?_set_self hl, if_pos (by rw [wipeE_len] at hl; exact hl)]
      · rw [List.getElem?_eq_none (by simpa using hl), if_neg (by rw [wipeE_len] at hl; exact hl)]
    · rw [List.getElem?_set_ne hv]
      exact wipeE_in ((List.mem_cons.mp h).resolve_left fun z => hv z.symm)
theorem wipeE_sub {r : En} {vs vs1 : List Nat} (h : ∀ i ∈ vs1, i ∈ vs) : wipeE (wipeE r vs1) vs = wipeE r vs := by
  refine List.ext_getElem? fun i => ?_
  by_cases hi : i ∈ vs
  · rw [wipeE_in hi, wipeE_in hi, wipeE_len]
  · rw [wipeE_keep hi, wipeE_keep hi, wipeE_keep fun z => hi (h i z)]
/-- the inner walk, that changes nothing but its own names -/
theorem lcS_mp {α : Type} {vs : List Nat} {h : D → En → Option En} {t : En → Rs Bool} {elt : En → Rs D} (r2 : En) (enc : α → D) (p : α → Bool) (q : α → D) (hw2 : wipeE r2 vs = r2) : ∀ (xs : List α) (r0 : En), wipeE r0 vs = r2 →
    (∀ x ∈ xs, ∃ ra, h (enc x) r2 = some ra ∧ pok (fun b rb => b = p x ∧ wipeE rb vs = r2 ∧ (p x = true → pok (fun y rc => y = q x ∧ wipeE rc vs = r2) (elt rb))) (t ra)) →
    ∃ r9, lcS vs h t elt (xs.map enc) r0 = .ok ((xs.filter p).map q) r9 ∧ wipeE r9 vs = r2
  | [], r0, e0, _ => ⟨r0, rfl, e0⟩
  | x :: xs, r0, e0, he => by
    obtain ⟨ra, e1, e2⟩ := he x (List.mem_cons_self ..)
    obtain ⟨b, rb, e3, rfl, e4, e5⟩ := post_ex e2
    have ih := lcS_mp r2 enc p q hw2 xs r2 hw2 fun y hy => he y (List.mem_cons_of_mem _ hy)
    rw [List.map_cons]
    unfold lcS
    rw [e0, e1]
    simp only [e3, Rs.bind]
    cases hp : p x with
    | false =>
      rw [List.filter_cons_of_neg (by simp [hp])]
      simp only [Bool.false_eq_true, if_false, e4]
      exact ih
    | true =>
      obtain ⟨y, rc, e6, rfl, e7⟩ := post_ex (e5 hp)
      rw [List.filter_cons_of_pos hp]
      simp only [if_true, e6, e7, List.map_cons]
      obtain ⟨r9, e8, e9⟩ := ih
      exact ⟨r9, by rw [e8], e9⟩
/-- a comprehension with two fors that changes nothing but its own names -/
theorem lc2D_mp {α β : Type} {it it1 : En → Rs (List D)} {vs vs1 : List Nat} {h h1 : D → En → Option En} {t t1 : En → Rs Bool} {elt : En → Rs D} {r r1 : En} (r2 : En) (xs : List α) (enc : α → D) (p : α → Bool) (ys : α → List β) (enc1 : α → β → D) (p1 : α → β → Bool) (q : α → β → D) (mid : α → En)
    (hv : ∀ i ∈ vs1, i ∈ vs) (hi : it r = .ok (xs.map enc) r1) (hw : wipeE r1 vs = r2) (hw2 : wipeE r2 vs = r2)
    (hl : (xs.flatMap fun x => if p x then ((ys x).filter (p1 x)).map (q x) else []).length ≤ 1000000)
    (he : ∀ x ∈ xs, ∃ ra, h (enc x) r2 = some ra ∧ pok (fun b rb => b = p x ∧ wipeE rb vs = r2 ∧ (p x = true → pok (fun ds rc => ds = (ys x).map (enc1 x) ∧ wipeE rc vs1 = mid x ∧ wipeE (mid x) vs1 = mid x ∧ wipeE (mid x) vs = r2) (it1 rb))) (t ra))
    (he1 : ∀ x ∈ xs, p x = true → ∀ y ∈ ys x, ∃ ra, h1 (enc1 x y) (mid x) = some ra ∧ pok (fun b rb => b = p1 x y ∧ wipeE rb vs1 = mid x ∧ (p1 x y = true → pok (fun z rc => z = q x y ∧ wipeE rc vs1 = mid x) (elt rb))) (t1 ra)) :
    lc2D it vs h t it1 vs1 h1 t1 elt r = .ok (.ow (xs.flatMap fun x => if p x then ((ys x).filter (p1 x)).map (q x) else [])) r2 := by
  have go : ∀ zs : List α, (∀ x ∈ zs, x ∈ xs) → ∀ r0, wipeE r0 vs = r2 → ∃ r9, lc2S vs h t it1 vs1 h1 t1 elt (zs.map enc) r0 = .ok (zs.flatMap fun x => if p x then ((ys x).filter (p1 x)).map (q x) else []) r9 ∧ wipeE r9 vs = r2 := by
    intro zs
    induction zs with
    | nil => exact fun _ r0 e0 => ⟨r0, rfl, e0⟩
    | cons z zs ih =>
      intro hm r0 e0
      obtain ⟨ra, e1, e2⟩ := he z (hm z (List.mem_cons_self ..))
      obtain ⟨b, rb, e3, rfl, e4, e5⟩ := post_ex e2
      have ih' := ih fun x hx => hm x (List.mem_cons_of_mem _ hx)
      rw [List.map_cons]
      unfold lc2S
      rw [e0, e1]
      simp only [e3, Rs.bind]
      rw [List.flatMap_cons]
      cases hp : p z with
      | false =>
        simp only [Bool.false_eq_true, if_false, e4, List.nil_append]
        exact ih' r2 hw2
      | true =>
        obtain ⟨ds, rc, e6, rfl, e7, e8, e9⟩ := post_ex (e5 hp)
        obtain ⟨rd, f1, f2⟩ := lcS_mp (mid z) (enc1 z) (p1 z) (q z) e8 (ys z) rc e7 (he1 z (hm z (List.mem_cons_self ..)) hp)
        have f3 : wipeE rd vs = r2 := by rw [← wipeE_sub hv, f2, e9]
        simp only [if_true, e6, f1, f3]
        obtain ⟨r9, g1, g2⟩ := ih' r2 hw2
        exact ⟨r9, by rw [g1], g2⟩
  obtain ⟨r9, e7, e8⟩ := go xs (fun _ h => h) r1 hw
  unfold lc2D
  rw [hi]
  simp only [Rs.bind, Rs.noE, e7, hl, if_true, e8]
/-- the same without tests -/
theorem lc2D_mp1 {α β : Type} {it it1 : En → Rs (List D)} {vs vs1 : List Nat} {h h1 : D → En → Option En} {elt : En → Rs D} {r r1 : En} (r2 : En) (xs : List α) (enc : α → D) (ys : α → List β) (enc1 : α → β → D) (q : α → β → D) (mid : α → En)
    (hv : ∀ i ∈ vs1, i ∈ vs) (hi : it r = .ok (xs.map enc) r1) (hw : wipeE r1 vs = r2) (hw2 : wipeE r2 vs = r2) (hl : (xs.flatMap fun x => (ys x).map (q x)).length ≤ 1000000)
    (he : ∀ x ∈ xs, ∃ ra, h (enc x) r2 = some ra ∧ wipeE ra vs = r2 ∧ pok (fun ds rc => ds = (ys x).map (enc1 x) ∧ wipeE rc vs1 = mid x ∧ wipeE (mid x) vs1 = mid x ∧ wipeE (mid x) vs = r2) (it1 ra))
    (he1 : ∀ x ∈ xs, ∀ y ∈ ys x, ∃ ra, h1 (enc1 x y) (mid x) = some ra ∧ wipeE ra vs1 = mid x ∧ pok (fun z rc => z = q x y ∧ wipeE rc vs1 = mid x) (elt ra)) :
    lc2D it vs h yesT it1 vs1 h1 yesT elt r = .ok (.ow (xs.flatMap fun x => (ys x).map (q x))) r2 := by
  have e : (xs.flatMap fun x => if (fun _ => true) x = true then ((ys x).filter ((fun _ _ => true) x)).map (q x) else []) = xs.flatMap fun x => (ys x).map (q x) := by
    congr 1
    funext x
    rw [if_pos rfl, List.filter_eq_self.mpr fun _ _ => rfl]
  have := lc2D_mp (it := it) (it1 := it1) (vs := vs) (vs1 := vs1) (h := h) (h1 := h1) (t := yesT) (t1 := yesT) (elt := elt) (r := r) (r1 := r1) r2 xs enc (fun _ => true) ys enc1 (fun _ _ => true) q mid hv hi hw hw2 (by rw [e]; exact hl) (fun x hx => by
    obtain ⟨ra, a1, a2, a3⟩ := he x hx
    exact ⟨ra, a1, rfl, a2, fun _ => a3⟩) (fun x hx _ y hy => by
    obtain ⟨ra, a1, a2, a3⟩ := he1 x hx y hy
    exact ⟨ra, a1, rfl, a2, fun _ => a3⟩)
  rw [e] at this
  exact this
theorem none_not {α : Type} (p : α → Bool) : ∀ l : List α, (l.filter fun r => !p r).isEmpty = l.all p
  | [] => rfl
  | a :: l => by
    rw [List.filter_cons, List.all_cons]
    cases ha : p a with
    | true => simp [none_not p l]
    | false => simp
theorem bools_bl (bs : List Bool) : bools (bs.map D.bl) = some bs := by
  show bools (bs.map fun x => D.bl (id x)) = _
  rw [bools_map, List.map_id]
/-! ### dicts -/
theorem putD_mem {ds : List (Key × D)} {k : Key} {d : D} {p : Key × D} (h : p ∈ putD ds k d) : p ∈ ds ∨ p = (k, d) := by
  unfold putD at h
  split at h
  · obtain ⟨x, hx, e⟩ := List.mem_map.mp h
    split at e
    · next hk => rw [← e, hk]; exact .inr rfl
    · rw [← e]; exact .inl hx
  · rcases List.mem_append.mp h with h | h
    · exact .inl h
    · exact .inr (List.mem_singleton.mp h)
theorem putD_len (ds : List (Key × D)) (k : Key) (d : D) : (putD ds k d).length ≤ ds.length + 1 := by
  unfold putD
  split
  · rw [List.length_map]; omega
  · rw [List.length_append, List.length_singleton]; omega
theorem mergeD_mem : ∀ (more ds : List (Key × D)) {p : Key × D}, p ∈ mergeD ds more → p ∈ ds ∨ p ∈ more
  | [], ds, p, h => .inl h
  | (k, d) :: more, ds, p, h => by
    rcases mergeD_mem more (putD ds k d) h with h | h
    · rcases putD_mem h with h | h
      · exact .inl h
      · exact .inr (by rw [h]; exact List.mem_cons_self ..)
    · exact .inr (List.mem_cons_of_mem _ h)
theorem mergeD_len : ∀ (more ds : List (Key × D)), (mergeD ds more).length ≤ ds.length + more.length
  | [], ds => Nat.le_refl _
  | (k, d) :: more, ds => by
    have h1 := mergeD_len more (putD ds k d)
    have h2 := putD_len ds k d
    have h3 : mergeD ds ((k, d) :: more) = mergeD (putD ds k d) more := rfl
    rw [h3, List.length_cons]
    omega
theorem rpK_of : ∀ {kv : List (Key × D)}, (∀ p ∈ kv, kpl p.1 = true ∧ p.2.rp = true) → rpK kv = true
  | [], _ => rfl
  | (k, d) :: kv, h => by
    obtain ⟨h1, h2⟩ := h (k, d) (List.mem_cons_self ..)
    show (kpl k && (d.rp && rpK kv)) = true
    have h1 : kpl k = true := h1
    have h2 : d.rp = true := h2
    rw [h1, h2, rpK_of fun p hp => h p (List.mem_cons_of_mem _ hp)]; rfl
theorem dqK_of {n : Nat} : ∀ {kv : List (Key × D)}, (∀ p ∈ kv, p.2.dq ≤ n) → dqK kv ≤ n
  | [], _ => Nat.zero_le _
  | (k, d) :: kv, h => by
    have h1 : d.dq ≤ n := h (k, d) (List.mem_cons_self ..)
    have h2 := dqK_of fun p hp => h p (List.mem_cons_of_mem _ hp)
    show max d.dq (dqK kv) ≤ n
    omega
theorem wqK_of {a b : Nat} : ∀ {kv : List (Key × D)}, (∀ p ∈ kv, kwt p.1 ≤ a ∧ p.2.wq ≤ b) → wqK kv ≤ kv.length * (a + b + 4)
  | [], _ => Nat.zero_le _
  | (k, d) :: kv, h => by
    have h1 : kwt k ≤ a ∧ d.wq ≤ b := h (k, d) (List.mem_cons_self ..)
    have h2 := wqK_of fun p hp => h p (List.mem_cons_of_mem _ hp)
    show kwt k + 2 + d.wq + 2 + wqK kv ≤ _
    rw [List.length_cons, Nat.succ_mul]
    omega
end DL

/-! plain tools, part 5: stepping through ifs, returns, whiles. -/
namespace DL
open PySem L2
theorem ifS_no {t : En → Rs Bool} {f h : En → SRs} {r r1 : En} (e : t r = .ok false r1) : ifS t f h r = h r1 := by unfold ifS; rw [e]; rfl
theorem ifS_yes {t : En → Rs Bool} {f h : En → SRs} {r r1 : En} (e : t r = .ok true r1) : ifS t f h r = f r1 := by unfold ifS; rw [e]; rfl
theorem seqIf_no {t : En → Rs Bool} {f h : En → SRs} {r r1 : En} (e : t r = .ok false r1) : seqS (ifS t f nxS) h r = h r1 := seqS_nx (ifS_no (h := nxS) e)
theorem rtS_d {f : En → Rs D} {r r1 : En} {d : D} (e : f r = .ok d r1) : rtS (shD f) r = .rt (.sh d) r1 := by unfold rtS shD; rw [e]; rfl
theorem setS_d {i : Nat} {f : En → Rs D} {r r1 : En} {d : D} (e : f r = .ok d r1) : setS i (shD f) r = .nx (r1.set i (some (.sh d))) := by unfold setS shD; rw [e]; rfl
theorem frz_o {f : En → Rs OV} {r r1 : En} {o : OV} (e : f r = .ok o r1) : frzD f r = .ok o.d r1 := by unfold frzD; rw [e]; rfl
theorem semMul_ints (i j : Int) (h : -18446744073709551616 < i ∧ i < 18446744073709551616) : semMul (.int i) (.int j) = some (.int (i * j)) := by
  show (if (-18446744073709551616 < i ∧ i < 18446744073709551616) then some (D.int (i * j)) else none) = _
  rw [if_pos h]
/-! operations put together -/
theorem ex_run {f : En → Rs D} {r r1 : En} {d : D} (e : f r = .ok d r1) : (Opd.ex f).run r = .ok (.inl d) r1 := by
  show (f r).map Sum.inl = _
  rw [e]
  rfl
theorem op2_of {p q : Opd} {sem : D → D → Option D} {r r1 r2 : En} {a b : Sum D Nat} {x y z : D} (h1 : p.run r = .ok a r1) (h2 : q.run r1 = .ok b r2) (h3 : look r2 a = some x) (h4 : look r2 b = some y) (h5 : sem x y = some z) : op2 p q sem r = .ok z r2 := by
  unfold op2
  simp only [h1, h2, Rs.bind, h3, h4, Option.bind_some, h5, ofO]
theorem op1_of {p : Opd} {sem : D → Option D} {r r1 : En} {a : Sum D Nat} {x z : D} (h1 : p.run r = .ok a r1) (h3 : look r1 a = some x) (h5 : sem x = some z) : op1 p sem r = .ok z r1 := by
  unfold op1
  simp only [h1, Rs.bind, h3, Option.bind_some, h5, ofO]
theorem opN1_of {p : Opd} {sem : List D → Option D} {r r1 : En} {a : Sum D Nat} {x z : D} (h1 : p.run r = .ok a r1) (h3 : look r1 a = some x) (h5 : sem [x] = some z) : opN [p] sem r = .ok z r1 := by
  unfold opN
  simp only [runs, looks, h1, Rs.bind, h3, Option.bind_some, Option.map_some, h5, ofO]
theorem opNO1_of {p : Opd} {sem : List D → Option (List D)} {r r1 : En} {a : Sum D Nat} {x : D} {z : List D} (h1 : p.run r = .ok a r1) (h3 : look r1 a = some x) (h5 : sem [x] = some z) : opNO [p] sem r = .ok (.ow z) r1 := by
  unfold opNO
  simp only [runs, looks, h1, Rs.bind, h3, Option.bind_some, Option.map_some, h5, ofO]
theorem sl_to {p : Opd} {f : En → Rs D} {sem : D → Option Int → Option Int → Option D} {r r1 r2 : En} {a : Sum D Nat} {x z : D} {u : Int} (h1 : p.run r = .ok a r1) (h2 : f r1 = .ok (.int u) r2) (h3 : look r2 a = some x) (h5 : sem x none (some u) = some z) : slD p poN (poS f) sem r = .ok z r2 := by
  unfold slD
  simp only [h1, h2, Rs.bind, Rs.map, poN, poS, D.asI, h3, Option.bind_some, Option.map_some, h5, ofO]
theorem sl_from {p : Opd} {f : En → Rs D} {sem : D → Option Int → Option Int → Option D} {r r1 r2 : En} {a : Sum D Nat} {x z : D} {u : Int} (h1 : p.run r = .ok a r1) (h2 : f r1 = .ok (.int u) r2) (h3 : look r2 a = some x) (h5 : sem x (some u) none = some z) : slD p (poS f) poN sem r = .ok z r2 := by
  unfold slD
  simp only [h1, h2, Rs.bind, Rs.map, poN, poS, D.asI, h3, Option.bind_some, Option.map_some, h5, ofO]
theorem sumO_of {p : Opd} {r r1 : En} {a : Sum D Nat} {x : D} {z : List D} (h1 : p.run r = .ok a r1) (h3 : look r1 a = some x) (h5 : semSumL x = some z) : sumO p r = .ok (.ow z) r1 := by
  unfold sumO
  simp only [h1, Rs.bind, h3, Option.bind_some, Option.map_some, h5, ofO]
end DL

/-! plain tools, part 6: sorted texts, comprehensions with two clauses. -/
namespace DL
open PySem L2
theorem pl_strs : ∀ {ts : List Str}, (∀ t ∈ ts, (D.str t).pl = true) → plAll (ts.map D.str) = true
  | [], _ => rfl
  | t :: ts, h => by
    show ((D.str t).pl && plAll (ts.map D.str)) = true
    rw [h t List.mem_cons_self, pl_strs fun y hy => h y (List.mem_cons_of_mem _ hy)]
    rfl
theorem dp_strs : ∀ ts : List Str, dpAll (ts.map D.str) = 0
  | [] => rfl
  | t :: ts => by
    show max (D.str t).dp (dpAll (ts.map D.str)) = 0
    rw [dp_strs ts]
    rfl
theorem le_strs (a b : Str) : PySem.W.dataLe false D.py (.str a) (.str b) = leT a b := by
  have := congrFun (congrFun (PySem.W.dataLe_str (fun s : Str => s)) a) b
  exact this
theorem semSorted_strs {ts : List Str} (h : ∀ t ∈ ts, (D.str t).pl = true) : semSorted [.lst (ts.map D.str)] = some ((ts.mergeSort leT).map D.str) := by
  have hok : srtOk (ts.map D.str) = true := by
    unfold srtOk
    rw [pl_strs h, dp_strs]
    have h1 : alikeB (ts.map D.str) = true := by
      unfold alikeB
      refine List.all_eq_true.mpr fun d hd => List.all_eq_true.mpr fun d' hd' => ?_
      obtain ⟨a, _, rfl⟩ := List.mem_map.mp hd
      obtain ⟨b, _, rfl⟩ := List.mem_map.mp hd'
      rfl
    have h2 : (ts.map D.str).all noTup = true := List.all_eq_true.mpr fun d hd => by
      obtain ⟨a, _, rfl⟩ := List.mem_map.mp hd
      rfl
    rw [h1, h2]
    simp
  show (if srtOk (ts.map D.str) = true then some ((ts.map D.str).mergeSort (PySem.W.dataLe false D.py)) else none) = _
  rw [if_pos hok, List.map_mergeSort (s := PySem.W.dataLe false D.py) fun a _ b _ => (le_strs a b).symm]
/-- a loop of a clause that draws nothing: what k adds for each that passes -/
theorem lcT_mp {α : Type} {k : List D → En → Rs (List D)} {h : D → En → Option En} {t : En → Rs Bool} {vs : List Nat} (r2 : En) (enc : α → D) (p : α → Bool) (q : α → List D) (B : Nat) (hw2 : wipeE r2 vs = r2) : ∀ (xs : List α),
    (∀ x ∈ xs, ∃ ra, h (enc x) r2 = some ra ∧ ∃ rb, t ra = .ok (p x) rb ∧ wipeE rb vs = r2 ∧ (p x = true → ∀ acc, acc.length + (q x).length ≤ B → ∃ rc, k acc rb = .ok (acc ++ q x) rc ∧ wipeE rc vs = r2)) → ∀ (acc : List D) (r : En), wipeE r vs = r2 → acc.length + ((xs.filter p).flatMap q).length ≤ B →
    lcT k h t vs (xs.map enc) acc r = .ok (acc ++ (xs.filter p).flatMap q) r2
  | [], _, acc, r, hr, _ => by
    show Rs.ok acc (wipeE r vs) = _
    rw [hr]
    simp
  | x :: xs, he, acc, r, hr, hB => by
    obtain ⟨ra, e1, rb, e2, e3, e4⟩ := he x List.mem_cons_self
    have ih := lcT_mp r2 enc p q B hw2 xs fun y hy => he y (List.mem_cons_of_mem _ hy)
    rw [List.map_cons]
    unfold lcT
    rw [hr, e1]
    simp only [e2, Rs.bind]
    cases hp : p x with
    | false =>
      simp only [Bool.false_eq_true, if_false]
      have hf : (x :: xs).filter p = xs.filter p := List.filter_cons_of_neg (by rw [hp]; exact Bool.false_ne_true)
      rw [hf] at hB ⊢
      exact ih acc _ (by rw [e3]; exact hw2) hB
    | true =>
      have hf : (x :: xs).filter p = x :: xs.filter p := List.filter_cons_of_pos hp
      rw [hf, List.flatMap_cons] at hB ⊢
      rw [List.length_append] at hB
      obtain ⟨rc, f1, f2⟩ := e4 hp acc (by omega)
      simp only [if_true, f1]
      rw [ih (acc ++ q x) _ (by rw [f2]; exact hw2) (by rw [List.length_append]; omega), List.append_assoc]
end DL

/-! plain tools, part 7: calls put together. -/
namespace DL
open PySem L2
theorem evs_nil {r : En} : evs [] r = .ok [] r := rfl
theorem evs_cons {f : En → Rs D} {fs : List (En → Rs D)} {r r1 r2 : En} {d : D} {ds : List D} (h1 : f r = .ok d r1) (h2 : evs fs r1 = .ok ds r2) : evs (f :: fs) r = .ok (d :: ds) r2 := by
  show (f r).bind (fun d r1 => (evs fs r1).bind fun ds r2 => .ok (d :: ds) r2) = _
  rw [h1]
  show (evs fs r1).bind _ = _
  rw [h2]
  rfl
theorem callP_of {n : Nat} {f : List D → Option OV} {fs : List (En → Rs D)} {r r1 : En} {ds : List D} {o : OV} (h1 : evs fs r = .ok ds r1) (hn : ds.length = n) (h2 : f ds = some o) : callP n f fs r = .ok o r1 := by
  unfold callP
  rw [h1]
  simp only [Rs.bind, hn, if_true, h2, ofO]
theorem seqS_assoc (f g h : En → SRs) (r : En) : seqS f (seqS g h) r = seqS (seqS f g) h r := by
  unfold seqS
  cases f r <;> rfl
theorem toB_of {f : En → Rs D} {r r1 : En} {b : Bool} (h : f r = .ok (.bl b) r1) : toB f r = .ok b r1 := by
  unfold toB
  rw [h]
  rfl
theorem notT_of {f : En → Rs Bool} {r r1 : En} {b : Bool} (h : f r = .ok b r1) : notT f r = .ok (!b) r1 := by
  unfold notT
  rw [h]
  rfl
end DL

/-! plain tools, part 8: errors, instances. -/
namespace DL
open PySem L2
section
variable {ct : Str → Option Bool} {i : Nat} {fb fs : En → SRs} {r r1 r2 : En} {x : Exn} {o : OV}
theorem tryS_nx (h : fb r = .nx r1) : tryS ct i fb fs r = .nx r1 := by unfold tryS; rw [h]
theorem tryS_rt (h : fb r = .rt o r1) : tryS ct i fb fs r = .rt o r1 := by unfold tryS; rw [h]
theorem tryS_exRt (h1 : fb r = .ex x r1) (h2 : ct x.c = some true) (h3 : fs (r1.set i (some (.exc x))) = .rt o r2) (h4 : noX (r2.set i none) = true) : tryS ct i fb fs r = .rt o (r2.set i none) := by
  unfold tryS
  simp only [h1, h2, h3, if_pos h4]
end
theorem makeD_ok {c : Str} {n : Nat} {f : List D → FI} {fs : List (En → Rs D)} {r r1 : En} {ds : List D} {fl : List (Str × D)} (h1 : evs fs r = .ok ds r1) (hn : ds.length = n) (h2 : f ds = .ok fl) : makeD c n f fs r = .ok (.sh (.obj c fl)) r1 := by
  unfold makeD
  rw [h1]
  simp only [Rs.bind, hn, if_true, h2, fiR]
theorem makeD_ex {c : Str} {n : Nat} {f : List D → FI} {fs : List (En → Rs D)} {r r1 : En} {ds : List D} {x : Exn} (h1 : evs fs r = .ok ds r1) (hn : ds.length = n) (h2 : f ds = .ex x) : makeD c n f fs r = .ex x r1 := by
  unfold makeD
  rw [h1]
  simp only [Rs.bind, hn, if_true, h2, fiR]
theorem methX_ok {c m : Str} {n : Nat} {f : List D → FR} {fo : En → Rs D} {fs : List (En → Rs D)} {r r1 r2 : En} {d : D} {ds : List D} {o : OV} (h0 : fo r = .ok d r1) (hk : objOk c m d = true) (h1 : evs fs r1 = .ok ds r2) (hn : ds.length + 1 = n) (h2 : f (d :: ds) = .ok o) : methX c m n f fo fs r = .ok o r2 := by
  unfold methX
  rw [h0]
  simp only [Rs.bind, hk, if_true, h1, hn, h2, frR]
theorem methX_ex {c m : Str} {n : Nat} {f : List D → FR} {fo : En → Rs D} {fs : List (En → Rs D)} {r r1 r2 : En} {d : D} {ds : List D} {x : Exn} (h0 : fo r = .ok d r1) (hk : objOk c m d = true) (h1 : evs fs r1 = .ok ds r2) (hn : ds.length + 1 = n) (h2 : f (d :: ds) = .ex x) : methX c m n f fo fs r = .ex x r2 := by
  unfold methX
  rw [h0]
  simp only [Rs.bind, hk, if_true, h1, hn, h2, frR]
theorem frz_ex {f : En → Rs OV} {r r1 : En} {x : Exn} (e : f r = .ex x r1) : frzD f r = .ex x r1 := by unfold frzD; rw [e]; rfl
theorem op1_ex {f : En → Rs D} {sem : D → Option D} {r r1 : En} {x : Exn} (e : f r = .ex x r1) : op1 (.ex f) sem r = .ex x r1 := by
  unfold op1
  simp only [Opd.run, e, Rs.map, Rs.bind]
theorem rtS_ex {f : En → Rs D} {r r1 : En} {x : Exn} (e : f r = .ex x r1) : rtS (shD f) r = .ex x r1 := by unfold rtS shD; rw [e]; rfl
theorem seqS_ex {f h : En → SRs} {r r1 : En} {x : Exn} (e : f r = .ex x r1) : seqS f h r = .ex x r1 := by unfold seqS; rw [e]
end DL

/-! printed by gen.py: the defs of the linked text, by the data layer -/
namespace T
open PySem L2 DL
def topS (i : Nat) : Stmt := PySem.Challenge.pw_scriptpicks_k21_starts_refused.main.body.getD i (.Pass ⟨0, 0, 0, 0⟩)
abbrev e_Wrong : Stmt := inClass (topS 14) 0
theorem esc_Wrong : FnScope ["self", "place"] ["self", "place"] (defScope e_Wrong) := ⟨rfl, rfl, rfl, by decide +kernel, rfl, by decide +kernel, by decide +kernel⟩
abbrev g_Start_aim : Stmt := inClass (topS 18) 1
theorem gsc_Start_aim : FnScope ["self"] ["self"] (defScope g_Start_aim) := ⟨rfl, rfl, rfl, by decide +kernel, rfl, by decide +kernel, by decide +kernel⟩
def c_LETTERS : D := (D.str "abcdefghijklmnopqrstuvwxyz")
def c_MOST_LETTERS : D := (D.int 8)
def c_RELATIONS : D := (D.tup [(D.str "eq"), (D.str "lt"), (D.str "gt")])
def tb_NoRow : List (Str × Bool) := [("Wrong", false)]
def tb_PickError : List (Str × Bool) := [("Wrong", true)]
def tb_Wrong : List (Str × Bool) := [("Wrong", true)]
structure Fa (K : PySem.W.Frag) (w : World) (mg : Str → Option Value) (base : Heap) where
  sy : SysAt base
  v_LETTERS : V
  u_LETTERS : Value
  m_LETTERS : mg "LETTERS" = some u_LETTERS
  r_LETTERS : RelV v_LETTERS u_LETTERS
  d_LETTERS : ∀ F : Hp, RD K F v_LETTERS c_LETTERS
  v_MOST_LETTERS : V
  u_MOST_LETTERS : Value
  m_MOST_LETTERS : mg "MOST_LETTERS" = some u_MOST_LETTERS
  r_MOST_LETTERS : RelV v_MOST_LETTERS u_MOST_LETTERS
  d_MOST_LETTERS : ∀ F : Hp, RD K F v_MOST_LETTERS c_MOST_LETTERS
  v_RELATIONS : V
  u_RELATIONS : Value
  m_RELATIONS : mg "RELATIONS" = some u_RELATIONS
  r_RELATIONS : RelV v_RELATIONS u_RELATIONS
  d_RELATIONS : ∀ F : Hp, RD K F v_RELATIONS c_RELATIONS
  C_NoRow : Addr
  mc_NoRow : mg "NoRow" = some (.ref C_NoRow)
  C_PickError : Addr
  mc_PickError : mg "PickError" = some (.ref C_PickError)
  C_Wrong : Addr
  mc_Wrong : mg "Wrong" = some (.ref C_Wrong)
  ct_PickError : ∀ m b C, tabB tb_PickError m = some b → ClsAt K m C → PySem.W.exmOne K (.ref C) (.ref C_PickError) = some b
  ix_NoRow : IsT K (.ref C_NoRow) (tabB tb_NoRow)
  ix_Wrong : IsT K (.ref C_Wrong) (tabB tb_Wrong)
  xf_place : XfT K "place" ["Wrong"]
  fl_Start_its_aim : FldOk K "Start" "its_aim"
  fl_Start_its_rows : FldOk K "Start" "its_rows"
  b_abs : mg "abs" = none
  b_all : mg "all" = none
  b_int : mg "int" = none
  b_isinstance : mg "isinstance" = none
  b_len : mg "len" = none
  b_list : mg "list" = none
  b_range : mg "range" = none
  b_repr : mg "repr" = none
  b_str : mg "str" = none
  b_tuple : mg "tuple" = none
section
variable {P : Program} {w : World} {K : PySem.W.Frag} {mg : Str → Option Value} {base : Heap}
abbrev s__law_bag : Stmt := topS 20
abbrev s__law_bag_sc : Scope := defScope s__law_bag
abbrev n__law_bag : List Str := ["_law_script", "_law_cell"]
theorem sc__law_bag : FnScope n__law_bag ["_law_script"] (defScope s__law_bag) := ⟨rfl, rfl, rfl, by decide +kernel, rfl, by decide +kernel, by decide +kernel⟩
def it__law_bag_1 : En → Rs (List D) := (itA (slD (.va 0) poN (poS (cD (.int 63))) semSl))
def el__law_bag_1 : En → Rs D := (opN [(.va 1)] semAbs)
def lc__law_bag_1 : En → Rs OV := lcD it__law_bag_1 [1] (gN 1) yesT el__law_bag_1
def m__law_bag : En → SRs :=
    (rtS (lstD [(cD (.int 0)), (cD (.int 1234567891)), (cD (.int 0)), (frzD lc__law_bag_1)]))
def f__law_bag : List D → Option OV := fnP 2 m__law_bag
theorem ok__law_bag {f : Addr} {fd : FuncData} (fa : Fa K w mg base)  (F : Fun K "_law_bag" "_law_bag" s__law_bag f fd) : FnG P w K mg base CX0 1 f fd ["_law_script"] (spP K 1 f__law_bag) := by
  have nd := sc__law_bag.nd
  unfold f__law_bag
  refine fnP_ok (k := 0) (m := m__law_bag) F sc__law_bag rfl rfl fun cdv A outer s H E g hgd hr hB0 hW hWn hxc => ?_
  have hB := nb00 hB0
  unfold m__law_bag
  exact (ds_one (ds_ret (do_lst (da_cons de_int (da_cons de_int (da_cons de_int (da_cons (DO.fz (do_lc (own := [("_law_cell", 1)]) (ks := [1]) rfl nd (di_any (de_slice (db_var 0 (pv 0)) dpo_none (dpo_some de_int))) (blkOk_by (N := n__law_bag) (sc := s__law_bag_sc) (by decide +kernel)) rfl (nbs hB (by decide)) (by decide) (fun _ _ _ _ _ g1 e1 => (dg_name (i := 1) (nb (nbt e1 hB) 1 (by decide)) nd)) (fun _ _ _ _ _ g1 e1 => pts_nilD) (fun _ _ _ _ _ g1 e1 => (de_callB cd_abs fa.b_abs (dbs_cons (db_var 1 (pv 1)) dbs_nil))))) da_nil)))))))
theorem has__law_bag (fa : Fa K w mg base)  (F : FnAt K mg "_law_bag" s__law_bag) : HasP P w K mg base 1 "_law_bag" 1 f__law_bag := by
  obtain ⟨f, fd, F, hm⟩ := F
  exact ⟨f, fd, ["_law_script"], ok__law_bag fa  F, hm, F.kp, F.binds fun _ _ _ _ _ _ us hl => match us, hl with | [_], _ => rfl⟩
abbrev s__law_take : Stmt := topS 21
abbrev s__law_take_sc : Scope := defScope s__law_take
abbrev n__law_take : List Str := ["_law_bag_here", "_law_many", "_law_cell", "_law_mixed", "_law_value", "_law_begin", "_law_second"]
theorem sc__law_take : FnScope n__law_take ["_law_bag_here", "_law_many"] (defScope s__law_take) := ⟨rfl, rfl, rfl, by decide +kernel, rfl, by decide +kernel, by decide +kernel⟩
def m__law_take : En → SRs :=
    (seqS (ifS (toB (op2 (.ex (op2 (.va 0) (.ex (cD (.int 0))) semAt)) (.ex (cD (.int 0))) semEq)) (seqS (setS 2 (shD (op2 (.ex (op2 (.ex (slD (.ex (op2 (.va 0) (.ex (cD (.int 3))) semAt)) (poS (op2 (.va 0) (.ex (cD (.int 2))) semAt)) poN semSl)) (.ex (frzD (lstD [(cD (.int 0))]))) semAdd)) (.ex (cD (.int 0))) semAt)))
    (seqS (augS 0 2 1)
    (seqS (ifS (toB (op2 (.va 2) (.ex (cD (.int 1000000000000000000))) semGe)) (putS 0 (cD (.int 0)) (vD 2)) nxS)
    (seqS (setS 3 (shD (op2 (.ex (op2 (.ex (op2 (.ex (op2 (.va 0) (.ex (cD (.int 1))) semAt)) (.ex (cD (.int 48271))) semMul)) (.ex (op2 (.ex (opN [(.va 2)] semInt)) (.ex (cD (.int 2147483647))) semMod)) semAdd)) (.ex (op2 (.ex (cD (.int 7919))) (.ex (op2 (.va 0) (.ex (cD (.int 2))) semAt)) semMul)) semAdd)))
    (putS 0 (cD (.int 1)) (op2 (.ex (opN [(.va 3)] semInt)) (.ex (cD (.int 2147483647))) semMod)))))) nxS)
    (seqS (ifS (toB (op2 (.ex (op2 (.va 0) (.ex (cD (.int 0))) semAt)) (.ex (cD (.int 0))) semGt)) (seqS (setS 4 (shD (op2 (.ex (opN [(.ex (op2 (.va 0) (.ex (cD (.int 0))) semAt))] semInt)) (.va 1) semMod)))
    (seqS (putS 0 (cD (.int 0)) (op2 (.ex (op2 (.va 0) (.ex (cD (.int 0))) semAt)) (.va 1) semFdiv))
    (rtS (mvD 4)))) nxS)
    (seqS (setS 5 (shD (op2 (.ex (opN [(.ex (op2 (.ex (op2 (.ex (op2 (.va 0) (.ex (cD (.int 1))) semAt)) (.ex (cD (.int 1))) semAdd)) (.ex (cD (.int 39373))) semMul))] semInt)) (.ex (cD (.int 1000000007))) semMod)))
    (seqS (setS 6 (shD (op2 (.ex (opN [(.ex (op2 (.ex (op2 (.ex (opN [(.ex (op2 (.va 5) (.va 5) semMul))] semInt)) (.ex (cD (.int 998244353))) semMod)) (.ex (cD (.int 30011))) semMul))] semInt)) (.ex (cD (.int 998244353))) semMod)))
    (rtS (shD (op2 (.ex (opN [(.ex (op2 (.va 6) (.ex (cD (.int 7))) semFdiv))] semInt)) (.va 1) semMod)))))))
def f__law_take : List D → List D → Option (OV × List D) := fnB 7 m__law_take
theorem ok__law_take {f : Addr} {fd : FuncData} (fa : Fa K w mg base)  (F : Fun K "_law_take" "_law_take" s__law_take f fd) : FnG P w K mg base CX0 1 f fd ["_law_bag_here", "_law_many"] (spB K 1 f__law_take) := by
  have nd := sc__law_take.nd
  unfold f__law_take
  refine fnB_ok (k := 0) (m := m__law_take) F sc__law_take rfl rfl fun cdv A outer s H E g hgd hr hB hW hWn hxc => ?_
  unfold m__law_take
  exact (ds_cons (ds_if (dt_cmp (opd_eq hr.units) (DE.opd (de_ix (ixAt (u65 hr)) (db_var 0 (pv 0)) (DE.opd de_int) (fun _ _ => rfl))) (DE.opd de_int) (nomark _)) (ds_cons (ds_set (i := 2) (nb hB 2 (by decide)) nd (DE.shd (de_ix (ixAt (u65 hr)) (DE.opd (de_op opd_add (DE.opd (de_slice (DE.opd (de_ix (ixAt (u65 hr)) (db_var 0 (pv 0)) (DE.opd de_int) (fun _ _ => rfl))) (dpo_some (de_ix (ixAt (u65 hr)) (db_var 0 (pv 0)) (DE.opd de_int) (fun _ _ => rfl))) dpo_none)) (DE.opd (DO.fz (do_lst (da_cons de_int da_nil)))))) (DE.opd de_int) (fun _ _ => rfl))))
    (ds_cons (ds_augI (i := 0) (pv 0))
    (ds_cons (ds_if (dt_cmp opd_ge (db_var 2 (pv 2)) (DE.opd de_int) (nomark _)) (ds_one (ds_put (i := 0) (pv 0) de_int (de_var 2 (nb hB 2 (by decide)) (pv 2)))) ds_nil)
    (ds_cons (ds_set (i := 3) (nb hB 3 (by decide)) nd (DE.shd (de_op opd_add (DE.opd (de_op opd_add (DE.opd (de_op opd_mul (DE.opd (de_ix (ixAt (u65 hr)) (db_var 0 (pv 0)) (DE.opd de_int) (fun _ _ => rfl))) (DE.opd de_int))) (DE.opd (de_op opd_mod (DE.opd (de_callT cd_int fa.b_int (dbs_cons (db_var 2 (pv 2)) dbs_nil))) (DE.opd de_int))))) (DE.opd (de_op opd_mul (DE.opd de_int) (DE.opd (de_ix (ixAt (u65 hr)) (db_var 0 (pv 0)) (DE.opd de_int) (fun _ _ => rfl))))))))
    (ds_one (ds_put (i := 0) (pv 0) de_int (de_op opd_mod (DE.opd (de_callT cd_int fa.b_int (dbs_cons (db_var 3 (pv 3)) dbs_nil))) (DE.opd de_int)))))))) ds_nil)
    (ds_cons (ds_if (dt_cmp opd_gt (DE.opd (de_ix (ixAt (u65 hr)) (db_var 0 (pv 0)) (DE.opd de_int) (fun _ _ => rfl))) (DE.opd de_int) (nomark _)) (ds_cons (ds_set (i := 4) (nb hB 4 (by decide)) nd (DE.shd (de_op opd_mod (DE.opd (de_callT cd_int fa.b_int (dbs_cons (DE.opd (de_ix (ixAt (u65 hr)) (db_var 0 (pv 0)) (DE.opd de_int) (fun _ _ => rfl))) dbs_nil))) (db_var 1 (pv 1)))))
    (ds_cons (ds_put (i := 0) (pv 0) de_int (de_op opd_fdiv (DE.opd (de_ix (ixAt (u65 hr)) (db_var 0 (pv 0)) (DE.opd de_int) (fun _ _ => rfl))) (db_var 1 (pv 1))))
    (ds_one (ds_ret (do_var 4 (nb hB 4 (by decide)) (pv 4)))))) ds_nil)
    (ds_cons (ds_set (i := 5) (nb hB 5 (by decide)) nd (DE.shd (de_op opd_mod (DE.opd (de_callT cd_int fa.b_int (dbs_cons (DE.opd (de_op opd_mul (DE.opd (de_op opd_add (DE.opd (de_ix (ixAt (u65 hr)) (db_var 0 (pv 0)) (DE.opd de_int) (fun _ _ => rfl))) (DE.opd de_int))) (DE.opd de_int))) dbs_nil))) (DE.opd de_int))))
    (ds_cons (ds_set (i := 6) (nb hB 6 (by decide)) nd (DE.shd (de_op opd_mod (DE.opd (de_callT cd_int fa.b_int (dbs_cons (DE.opd (de_op opd_mul (DE.opd (de_op opd_mod (DE.opd (de_callT cd_int fa.b_int (dbs_cons (DE.opd (de_op opd_mul (db_var 5 (pv 5)) (db_var 5 (pv 5)))) dbs_nil))) (DE.opd de_int))) (DE.opd de_int))) dbs_nil))) (DE.opd de_int))))
    (ds_one (ds_ret (DE.shd (de_op opd_mod (DE.opd (de_callT cd_int fa.b_int (dbs_cons (DE.opd (de_op opd_fdiv (db_var 6 (pv 6)) (DE.opd de_int))) dbs_nil))) (db_var 1 (pv 1))))))))))
theorem has__law_take (fa : Fa K w mg base)  (F : FnAt K mg "_law_take" s__law_take) : HasB P w K mg base 1 "_law_take" 1 f__law_take := by
  obtain ⟨f, fd, F, hm⟩ := F
  exact ⟨f, fd, ["_law_bag_here", "_law_many"], ok__law_take fa  F, hm, F.kp, F.binds fun _ _ _ _ _ _ us hl => match us, hl with | [_, _], _ => rfl⟩
abbrev s__law_names : Stmt := topS 24
abbrev s__law_names_sc : Scope := defScope s__law_names
abbrev n__law_names : List Str := ["_law_bag_here", "_law_many", "_law_letters", "_law_found", "_law_words", "_law_k", "_law_signs", "_law_spin", "_law_at", "_law_rest", "_law_some_here", "_law_one"]
theorem sc__law_names : FnScope n__law_names ["_law_bag_here", "_law_many"] (defScope s__law_names) := ⟨rfl, rfl, rfl, by decide +kernel, rfl, by decide +kernel, by decide +kernel⟩
def it__law_names_1 : En → Rs (List D) := (rg1 (op2 (.ex (frzD (lstD [(cD (.int 1)), (cD (.int 2)), (cD (.int 8)), (cD (.int 4))]))) (.ex (frzD (callB 1 f__law_take 0 [(cD (.int 4))]))) semAt))
def el__law_names_1 : En → Rs D := (op2 (.va 2) (.ex (frzD (callB 1 f__law_take 0 [(cD (.int 26))]))) semAt)
def lc__law_names_1 : En → Rs OV := lcD it__law_names_1 [7] (gN 7) yesT el__law_names_1
def it__law_names_2 : En → Rs (List D) := (itA (op2 (.ex (slD (.va 2) (poS (vD 8)) poN semSl)) (.ex (slD (.va 2) poN (poS (vD 8)) semSl)) semAdd))
def el__law_names_2 : En → Rs D := (op2 (.va 11) (.va 9) semAdd)
def lc__law_names_2 : En → Rs OV := lcD it__law_names_2 [11] (gN 11) yesT el__law_names_2
def it__law_names_3 : En → Rs (List D) := (itA (vD 10))
def ts__law_names_1 : En → Rs Bool := (toB (op2 (.va 11) (.va 3) semNotIn2))
def el__law_names_3 : En → Rs D := (vD 11)
def lc__law_names_3 : En → Rs OV := lcD it__law_names_3 [11] (gN 11) ts__law_names_1 el__law_names_3
def it__law_names_4 : En → Rs (List D) := (rg1 (vD 1))
def bd__law_names_1 : En → SRs := (seqS (setS 6 (shD (frzD lc__law_names_1)))
    (seqS (par2 8 9 (m1D (.va 2) (.ex (op2 (.va 6) (.ex (cD (.int 0))) semAt)) semSIndex) (shD (m1D (.ex (cD (.str ""))) (.ex (slD (.va 6) (poS (cD (.int 1))) poN semSl)) semJoin)))
    (seqS (setS 10 (shD (op2 (.ex (op2 (.ex (slD (.va 4) (poS (vD 8)) poN semSl)) (.ex (opN [(.ex (op2 (.ex (frzD (callB 1 f__law_take 0 [(cD (.int 8))]))) (.ex (cD (.int 0))) semEq))] semInt)) semMul)) (.ex (frzD lc__law_names_2)) semAdd)))
    (appS 3 (op2 (.ex (frzD lc__law_names_3)) (.ex (cD (.int 0))) semAt)))))
def fr__law_names_1 : En → SRs := forD it__law_names_4 (gN 5) bd__law_names_1
def m__law_names : En → SRs :=
    (seqS (par2 2 3 (cD (.str "abcdefghijklmnopqrstuvwxyz")) (lstD []))
    (seqS (setS 4 (shD (m1D (.ex (cD (.str "at as last like all name book goal with turn part drop call copy chain close eq lt gt put"))) (.ex (cD (.str " "))) semSplit)))
    (seqS fr__law_names_1
    (rtS (mvD 3)))))
def f__law_names : List D → List D → Option (OV × List D) := fnB 12 m__law_names
theorem ok__law_names {f : Addr} {fd : FuncData} (fa : Fa K w mg base) (h__law_take : HasB P w K mg base 1 "_law_take" 1 f__law_take) (F : Fun K "_law_names" "_law_names" s__law_names f fd) : FnG P w K mg base CX0 2 f fd ["_law_bag_here", "_law_many"] (spB K 1 f__law_names) := by
  have nd := sc__law_names.nd
  unfold f__law_names
  refine fnB_ok (k := 1) (m := m__law_names) F sc__law_names rfl rfl fun cdv A outer s H E g hgd hr hB hW hWn hxc => ?_
  unfold m__law_names
  exact (ds_cons (ds_tup2 (i := 2) (j := 3) (nb hB 2 (by decide)) (nb hB 3 (by decide)) nd rfl  de_str (do_lst da_nil))
    (ds_cons (ds_set (i := 4) (nb hB 4 (by decide)) nd (DE.shd (de_m1 PySem.F.slot_str_split PySem.F.type_str_split md_split (DE.opd de_str) (DE.opd de_str))))
    (ds_cons (ds_for PassesOwn.never rfl (di_range1 rfl fa.b_range (de_var 1 (nb hB 1 (by decide)) (pv 1))) (dg_name (i := 5) (nb hB 5 (by decide)) nd) (ds_cons (ds_fz (nb hB 6 (by decide)) lc_nod (ds_setLc (i := 6) (nb hB 6 (by decide)) (own := [("_law_spin", 7)]) (ks := [7]) rfl nd (di_range1 rfl fa.b_range (de_ix (ixAt (u65 hr)) (DE.opd (DO.fz (do_lst (da_cons de_int (da_cons de_int (da_cons de_int (da_cons de_int da_nil))))))) (DE.opd (DO.fz (do_callB h__law_take hgd (hr.mono (by decide)) (pv 0) (da_cons de_int da_nil)))) (fun _ _ => rfl))) (blkOk_by (N := n__law_names) (sc := s__law_names_sc) (by decide +kernel)) rfl (nbs hB (by decide)) (by decide) (fun _ _ _ _ _ g1 e1 => (dg_name (i := 7) (nb (nbt e1 hB) 7 (by decide)) nd)) (fun _ _ _ _ _ g1 e1 => pts_nilD) (fun _ _ _ _ _ g1 e1 => (de_ix (ixAt (u65 hr)) (db_var 2 (pv 2)) (DE.opd (DO.fz (do_callB h__law_take hgd (hr.mono (by decide)) (pv 0) (da_cons de_int da_nil)))) (fun _ _ => rfl))) (sw_true rfl rfl rfl (by decide +kernel))))
    (ds_cons (ds_tup2 (i := 8) (j := 9) (nb hB 8 (by decide)) (nb hB 9 (by decide)) nd rfl  (de_m1 PySem.F.slot_str_index PySem.F.type_str_index md_sindex (db_var 2 (pv 2)) (DE.opd (de_ix (ixAt (u65 hr)) (db_var 6 (pv 6)) (DE.opd de_int) (fun _ _ => rfl)))) (DE.shd (de_m1 PySem.F.slot_str_join PySem.F.type_str_join md_join (DE.opd de_str) (DE.opd (de_slice (db_var 6 (pv 6)) (dpo_some de_int) dpo_none)))))
    (ds_cons (ds_set (i := 10) (nb hB 10 (by decide)) nd (DE.shd (de_op opd_add (DE.opd (de_op opd_mul (DE.opd (de_slice (db_var 4 (pv 4)) (dpo_some (de_var 8 (nb hB 8 (by decide)) (pv 8))) dpo_none)) (DE.opd (de_callT cd_int fa.b_int (dbs_cons (DE.opd (de_cmp (opd_eq hr.units) (DE.opd (DO.fz (do_callB h__law_take hgd (hr.mono (by decide)) (pv 0) (da_cons de_int da_nil)))) (DE.opd de_int) (nomark _))) dbs_nil))))) (DE.opd (DO.fz (do_lc (own := [("_law_one", 11)]) (ks := [11]) rfl nd (di_any (de_op opd_add (DE.opd (de_slice (db_var 2 (pv 2)) (dpo_some (de_var 8 (nb hB 8 (by decide)) (pv 8))) dpo_none)) (DE.opd (de_slice (db_var 2 (pv 2)) dpo_none (dpo_some (de_var 8 (nb hB 8 (by decide)) (pv 8))))))) (blkOk_by (N := n__law_names) (sc := s__law_names_sc) (by decide +kernel)) rfl (nbs hB (by decide)) (by decide) (fun _ _ _ _ _ g1 e1 => (dg_name (i := 11) (nb (nbt e1 hB) 11 (by decide)) nd)) (fun _ _ _ _ _ g1 e1 => pts_nilD) (fun _ _ _ _ _ g1 e1 => (de_op opd_add (db_var 11 (pv 11)) (db_var 9 (pv 9))))))))))
    (ds_one (ds_append (i := 3) (pv 3) (de_ix (ixAt (u65 hr)) (DE.opd (DO.fz (do_lc (own := [("_law_one", 11)]) (ks := [11]) rfl nd (di_any (de_var 10 (nb hB 10 (by decide)) (pv 10))) (blkOk_by (N := n__law_names) (sc := s__law_names_sc) (by decide +kernel)) rfl (nbs hB (by decide)) (by decide) (fun _ _ _ _ _ g1 e1 => (dg_name (i := 11) (nb (nbt e1 hB) 11 (by decide)) nd)) (fun _ _ _ _ _ g1 e1 => (pts_oneD (dt_cmp (opd_notIn2 (u65 hr)) (db_var 11 (pv 11)) (db_var 3 (pv 3)) rfl))) (fun _ _ _ _ _ g1 e1 => (de_var 11 (nb (nbt e1 hB) 11 (by decide)) (pv 11)))))) (DE.opd de_int) (fun _ _ => rfl))))))))
    (ds_one (ds_ret (do_var 3 (nb hB 3 (by decide)) (pv 3)))))))
theorem has__law_names (fa : Fa K w mg base) (h__law_take : HasB P w K mg base 1 "_law_take" 1 f__law_take) (F : FnAt K mg "_law_names" s__law_names) : HasB P w K mg base 2 "_law_names" 1 f__law_names := by
  obtain ⟨f, fd, F, hm⟩ := F
  exact ⟨f, fd, ["_law_bag_here", "_law_many"], ok__law_names fa h__law_take F, hm, F.kp, F.binds fun _ _ _ _ _ _ us hl => match us, hl with | [_, _], _ => rfl⟩
abbrev s__law_world : Stmt := topS 25
abbrev s__law_world_sc : Scope := defScope s__law_world
abbrev n__law_world : List Str := ["_law_bag_here"]
theorem sc__law_world : FnScope n__law_world ["_law_bag_here"] (defScope s__law_world) := ⟨rfl, rfl, rfl, by decide +kernel, rfl, by decide +kernel, by decide +kernel⟩
def m__law_world : En → SRs :=
    (rtS (shD (dicD [((cD (.str "names")), (frzD (callB 1 f__law_names 0 [(cD (.int 3))]))), ((cD (.str "things")), (frzD (callB 1 f__law_names 0 [(op2 (.ex (cD (.int 2))) (.ex (frzD (callB 1 f__law_take 0 [(cD (.int 3))]))) semAdd)])))])))
def f__law_world : List D → List D → Option (OV × List D) := fnB 1 m__law_world
theorem ok__law_world {f : Addr} {fd : FuncData} (fa : Fa K w mg base) (h__law_names : HasB P w K mg base 2 "_law_names" 1 f__law_names) (h__law_take : HasB P w K mg base 1 "_law_take" 1 f__law_take) (F : Fun K "_law_world" "_law_world" s__law_world f fd) : FnG P w K mg base CX0 3 f fd ["_law_bag_here"] (spB K 0 f__law_world) := by
  have nd := sc__law_world.nd
  unfold f__law_world
  refine fnB_ok (k := 2) (m := m__law_world) F sc__law_world rfl rfl fun cdv A outer s H E g hgd hr hB hW hWn hxc => ?_
  unfold m__law_world
  exact (ds_one (ds_ret (DE.shd (de_disp (dps_cons (fun g1 e1 => de_str) (fun g1 e1 => (DO.fz (do_callB h__law_names hgd (hr.mono (by decide)) (pv 0) (da_cons de_int da_nil)))) (dps_cons (fun g1 e1 => de_str) (fun g1 e1 => (DO.fz (do_callB h__law_names hgd (hr.mono (by decide)) (pv 0) (da_cons (de_op opd_add (DE.opd de_int) (DE.opd (DO.fz (do_callB h__law_take hgd (hr.mono (by decide)) (pv 0) (da_cons de_int da_nil))))) da_nil)))) dps_nil))))))
theorem has__law_world (fa : Fa K w mg base) (h__law_names : HasB P w K mg base 2 "_law_names" 1 f__law_names) (h__law_take : HasB P w K mg base 1 "_law_take" 1 f__law_take) (F : FnAt K mg "_law_world" s__law_world) : HasB P w K mg base 3 "_law_world" 0 f__law_world := by
  obtain ⟨f, fd, F, hm⟩ := F
  exact ⟨f, fd, ["_law_bag_here"], ok__law_world fa h__law_names h__law_take F, hm, F.kp, F.binds fun _ _ _ _ _ _ us hl => match us, hl with | [_], _ => rfl⟩
abbrev s_is_name : Stmt := topS 6
abbrev s_is_name_sc : Scope := defScope s_is_name
abbrev n_is_name : List Str := ["thing", "sign"]
theorem sc_is_name : FnScope n_is_name ["thing"] (defScope s_is_name) := ⟨rfl, rfl, rfl, by decide +kernel, rfl, by decide +kernel, by decide +kernel⟩
def it_is_name_1 : En → Rs (List D) := (itA (vD 0))
def el_is_name_1 : En → Rs D := (op2 (.va 1) (.ex (cD c_LETTERS)) semIn2)
def lc_is_name_1 : En → Rs OV := lcD it_is_name_1 [1] (gN 1) yesT el_is_name_1
def m_is_name : En → SRs :=
    (seqS (ifS (orT (notT (toB (isiD (.va 0) ["str"]))) (notT (toB (chD (.ex (cD (.int 1))) (.ex (opN [(.va 0)] semLen)) (.ex (cD c_MOST_LETTERS)) semLe semLe)))) (rtS (shD (cD (.bl false)))) nxS)
    (rtS (shD (opN [(.ex (frzD lc_is_name_1))] semAll))))
def f_is_name : List D → Option OV := fnP 2 m_is_name
theorem ok_is_name {f : Addr} {fd : FuncData} (fa : Fa K w mg base)  (F : Fun K "is_name" "is_name" s_is_name f fd) : FnG P w K mg base CX0 1 f fd ["thing"] (spP K 1 f_is_name) := by
  have nd := sc_is_name.nd
  unfold f_is_name
  refine fnP_ok (k := 0) (m := m_is_name) F sc_is_name rfl rfl fun cdv A outer s H E g hgd hr hB0 hW hWn hxc => ?_
  have hB := nb00 hB0
  unfold m_is_name
  exact (ds_cons (ds_if (DW.dt (dw_or (dt_not (dt_val (de_isi1 (T := "str") (by decide) fa.b_isinstance fa.b_str (db_var 0 (pv 0))))) (dw_or1 (dt_not (dt_chain opd_le opd_le (DE.opd de_int) (DE.opd (de_callB cd_len fa.b_len (dbs_cons (db_var 0 (pv 0)) dbs_nil))) (DE.opd (de_glob fa.m_MOST_LETTERS fa.r_MOST_LETTERS fa.d_MOST_LETTERS))))))) (ds_one (ds_ret (DE.shd de_bl))) ds_nil)
    (ds_one (ds_ret (DE.shd (de_callB (cd_all rfl) fa.b_all (dbs_cons (DE.opd (DO.fz (do_lc (own := [("sign", 1)]) (ks := [1]) rfl nd (di_any (de_var 0 (nb hB 0 (by decide)) (pv 0))) (blkOk_by (N := n_is_name) (sc := s_is_name_sc) (by decide +kernel)) rfl (nbs hB (by decide)) (by decide) (fun _ _ _ _ _ g1 e1 => (dg_name (i := 1) (nb (nbt e1 hB) 1 (by decide)) nd)) (fun _ _ _ _ _ g1 e1 => pts_nilD) (fun _ _ _ _ _ g1 e1 => (de_cmp (opd_in2 (u65 hr)) (db_var 1 (pv 1)) (DE.opd (de_glob fa.m_LETTERS fa.r_LETTERS fa.d_LETTERS)) rfl))))) dbs_nil))))))
theorem has_is_name (fa : Fa K w mg base)  (F : FnAt K mg "is_name" s_is_name) : HasP P w K mg base 1 "is_name" 1 f_is_name := by
  obtain ⟨f, fd, F, hm⟩ := F
  exact ⟨f, fd, ["thing"], ok_is_name fa  F, hm, F.kp, F.binds fun _ _ _ _ _ _ us hl => match us, hl with | [_], _ => rfl⟩
abbrev s_is_relation : Stmt := topS 7
abbrev s_is_relation_sc : Scope := defScope s_is_relation
abbrev n_is_relation : List Str := ["thing"]
theorem sc_is_relation : FnScope n_is_relation ["thing"] (defScope s_is_relation) := ⟨rfl, rfl, rfl, by decide +kernel, rfl, by decide +kernel, by decide +kernel⟩
def m_is_relation : En → SRs :=
    (rtS (shD (andD (isiD (.va 0) ["str"]) (op2 (.va 0) (.ex (cD c_RELATIONS)) semIn2))))
def f_is_relation : List D → Option OV := fnP 1 m_is_relation
theorem ok_is_relation {f : Addr} {fd : FuncData} (fa : Fa K w mg base)  (F : Fun K "is_relation" "is_relation" s_is_relation f fd) : FnG P w K mg base CX0 1 f fd ["thing"] (spP K 1 f_is_relation) := by
  have nd := sc_is_relation.nd
  unfold f_is_relation
  refine fnP_ok (k := 0) (m := m_is_relation) F sc_is_relation rfl rfl fun cdv A outer s H E g hgd hr hB0 hW hWn hxc => ?_
  have hB := nb00 hB0
  unfold m_is_relation
  exact (ds_one (ds_ret (DE.shd (de_and (de_isi1 (T := "str") (by decide) fa.b_isinstance fa.b_str (db_var 0 (pv 0))) (de_one (de_cmp (opd_in2 (u65 hr)) (db_var 0 (pv 0)) (DE.opd (de_glob fa.m_RELATIONS fa.r_RELATIONS fa.d_RELATIONS)) rfl))))))
theorem has_is_relation (fa : Fa K w mg base)  (F : FnAt K mg "is_relation" s_is_relation) : HasP P w K mg base 1 "is_relation" 1 f_is_relation := by
  obtain ⟨f, fd, F, hm⟩ := F
  exact ⟨f, fd, ["thing"], ok_is_relation fa  F, hm, F.kp, F.binds fun _ _ _ _ _ _ us hl => match us, hl with | [_], _ => rfl⟩
abbrev s_is_atom : Stmt := topS 9
abbrev s_is_atom_sc : Scope := defScope s_is_atom
abbrev n_is_atom : List Str := ["thing"]
theorem sc_is_atom : FnScope n_is_atom ["thing"] (defScope s_is_atom) := ⟨rfl, rfl, rfl, by decide +kernel, rfl, by decide +kernel, by decide +kernel⟩
def m_is_atom : En → SRs :=
    (seqS (ifS (orT (notT (toB (isiD (.va 0) ["tuple"]))) (toB (op2 (.ex (opN [(.va 0)] semLen)) (.ex (cD (.int 3))) semNe))) (rtS (shD (cD (.bl false)))) nxS)
    (rtS (shD (andD (frzD (callP 1 f_is_relation [(op2 (.va 0) (.ex (cD (.int 0))) semAt)])) (andD (frzD (callP 1 f_is_name [(op2 (.va 0) (.ex (cD (.int 1))) semAt)])) (frzD (callP 1 f_is_name [(op2 (.va 0) (.ex (cD (.int 2))) semAt)])))))))
def f_is_atom : List D → Option OV := fnP 1 m_is_atom
theorem ok_is_atom {f : Addr} {fd : FuncData} (fa : Fa K w mg base) (h_is_name : HasP P w K mg base 1 "is_name" 1 f_is_name) (h_is_relation : HasP P w K mg base 1 "is_relation" 1 f_is_relation) (F : Fun K "is_atom" "is_atom" s_is_atom f fd) : FnG P w K mg base CX0 2 f fd ["thing"] (spP K 1 f_is_atom) := by
  have nd := sc_is_atom.nd
  unfold f_is_atom
  refine fnP_ok (k := 1) (m := m_is_atom) F sc_is_atom rfl rfl fun cdv A outer s H E g hgd hr hB0 hW hWn hxc => ?_
  have hB := nb00 hB0
  unfold m_is_atom
  exact (ds_cons (ds_if (DW.dt (dw_or (dt_not (dt_val (de_isi1 (T := "tuple") (by decide) fa.b_isinstance fa.b_tuple (db_var 0 (pv 0))))) (dw_or1 (dt_cmp (opd_ne hr.units) (DE.opd (de_callB cd_len fa.b_len (dbs_cons (db_var 0 (pv 0)) dbs_nil))) (DE.opd de_int) (nomark _))))) (ds_one (ds_ret (DE.shd de_bl))) ds_nil)
    (ds_one (ds_ret (DE.shd (de_and (DO.fz (do_callP h_is_relation hgd (hr.mono (by decide)) (da_cons (de_ix (ixAt (u65 hr)) (db_var 0 (pv 0)) (DE.opd de_int) (fun _ _ => rfl)) da_nil))) (de_and (DO.fz (do_callP h_is_name hgd (hr.mono (by decide)) (da_cons (de_ix (ixAt (u65 hr)) (db_var 0 (pv 0)) (DE.opd de_int) (fun _ _ => rfl)) da_nil))) (de_one (DO.fz (do_callP h_is_name hgd (hr.mono (by decide)) (da_cons (de_ix (ixAt (u65 hr)) (db_var 0 (pv 0)) (DE.opd de_int) (fun _ _ => rfl)) da_nil))))))))))
theorem has_is_atom (fa : Fa K w mg base) (h_is_name : HasP P w K mg base 1 "is_name" 1 f_is_name) (h_is_relation : HasP P w K mg base 1 "is_relation" 1 f_is_relation) (F : FnAt K mg "is_atom" s_is_atom) : HasP P w K mg base 2 "is_atom" 1 f_is_atom := by
  obtain ⟨f, fd, F, hm⟩ := F
  exact ⟨f, fd, ["thing"], ok_is_atom fa h_is_name h_is_relation F, hm, F.kp, F.binds fun _ _ _ _ _ _ us hl => match us, hl with | [_], _ => rfl⟩
abbrev s_is_fact : Stmt := topS 10
abbrev s_is_fact_sc : Scope := defScope s_is_fact
abbrev n_is_fact : List Str := ["thing", "atom"]
theorem sc_is_fact : FnScope n_is_fact ["thing"] (defScope s_is_fact) := ⟨rfl, rfl, rfl, by decide +kernel, rfl, by decide +kernel, by decide +kernel⟩
def it_is_fact_1 : En → Rs (List D) := (itA (vD 0))
def el_is_fact_1 : En → Rs D := (frzD (callP 1 f_is_atom [(vD 1)]))
def lc_is_fact_1 : En → Rs OV := lcD it_is_fact_1 [1] (gN 1) yesT el_is_fact_1
def m_is_fact : En → SRs :=
    (rtS (shD (andD (isiD (.va 0) ["tuple"]) (andD (chD (.ex (cD (.int 1))) (.ex (opN [(.va 0)] semLen)) (.ex (cD (.int 2))) semLe semLe) (opN [(.ex (frzD lc_is_fact_1))] semAll)))))
def f_is_fact : List D → Option OV := fnP 2 m_is_fact
theorem ok_is_fact {f : Addr} {fd : FuncData} (fa : Fa K w mg base) (h_is_atom : HasP P w K mg base 2 "is_atom" 1 f_is_atom) (F : Fun K "is_fact" "is_fact" s_is_fact f fd) : FnG P w K mg base CX0 3 f fd ["thing"] (spP K 1 f_is_fact) := by
  have nd := sc_is_fact.nd
  unfold f_is_fact
  refine fnP_ok (k := 2) (m := m_is_fact) F sc_is_fact rfl rfl fun cdv A outer s H E g hgd hr hB0 hW hWn hxc => ?_
  have hB := nb00 hB0
  unfold m_is_fact
  exact (ds_one (ds_ret (DE.shd (de_and (de_isi1 (T := "tuple") (by decide) fa.b_isinstance fa.b_tuple (db_var 0 (pv 0))) (de_and (de_chain opd_le opd_le (DE.opd de_int) (DE.opd (de_callB cd_len fa.b_len (dbs_cons (db_var 0 (pv 0)) dbs_nil))) (DE.opd de_int)) (de_one (de_callB (cd_all rfl) fa.b_all (dbs_cons (DE.opd (DO.fz (do_lc (own := [("atom", 1)]) (ks := [1]) rfl nd (di_any (de_var 0 (nb hB 0 (by decide)) (pv 0))) (blkOk_by (N := n_is_fact) (sc := s_is_fact_sc) (by decide +kernel)) rfl (nbs hB (by decide)) (by decide) (fun _ _ _ _ _ g1 e1 => (dg_name (i := 1) (nb (nbt e1 hB) 1 (by decide)) nd)) (fun _ _ _ _ _ g1 e1 => pts_nilD) (fun _ _ _ _ _ g1 e1 => (DO.fz (do_callP h_is_atom hgd (hr.mono (by decide)) (da_cons (de_var 1 (nb (nbt e1 hB) 1 (by decide)) (pv 1)) da_nil))))))) dbs_nil))))))))
theorem has_is_fact (fa : Fa K w mg base) (h_is_atom : HasP P w K mg base 2 "is_atom" 1 f_is_atom) (F : FnAt K mg "is_fact" s_is_fact) : HasP P w K mg base 3 "is_fact" 1 f_is_fact := by
  obtain ⟨f, fd, F, hm⟩ := F
  exact ⟨f, fd, ["thing"], ok_is_fact fa h_is_atom F, hm, F.kp, F.binds fun _ _ _ _ _ _ us hl => match us, hl with | [_], _ => rfl⟩
abbrev s_is_row : Stmt := topS 11
abbrev s_is_row_sc : Scope := defScope s_is_row
abbrev n_is_row : List Str := ["thing"]
theorem sc_is_row : FnScope n_is_row ["thing"] (defScope s_is_row) := ⟨rfl, rfl, rfl, by decide +kernel, rfl, by decide +kernel, by decide +kernel⟩
def m_is_row : En → SRs :=
    (rtS (shD (andD (isiD (.va 0) ["tuple"]) (andD (op2 (.ex (opN [(.va 0)] semLen)) (.ex (cD (.int 2))) semEq) (andD (frzD (callP 1 f_is_name [(op2 (.va 0) (.ex (cD (.int 0))) semAt)])) (frzD (callP 1 f_is_fact [(op2 (.va 0) (.ex (cD (.int 1))) semAt)])))))))
def f_is_row : List D → Option OV := fnP 1 m_is_row
theorem ok_is_row {f : Addr} {fd : FuncData} (fa : Fa K w mg base) (h_is_fact : HasP P w K mg base 3 "is_fact" 1 f_is_fact) (h_is_name : HasP P w K mg base 1 "is_name" 1 f_is_name) (F : Fun K "is_row" "is_row" s_is_row f fd) : FnG P w K mg base CX0 4 f fd ["thing"] (spP K 1 f_is_row) := by
  have nd := sc_is_row.nd
  unfold f_is_row
  refine fnP_ok (k := 3) (m := m_is_row) F sc_is_row rfl rfl fun cdv A outer s H E g hgd hr hB0 hW hWn hxc => ?_
  have hB := nb00 hB0
  unfold m_is_row
  exact (ds_one (ds_ret (DE.shd (de_and (de_isi1 (T := "tuple") (by decide) fa.b_isinstance fa.b_tuple (db_var 0 (pv 0))) (de_and (de_cmp (opd_eq hr.units) (DE.opd (de_callB cd_len fa.b_len (dbs_cons (db_var 0 (pv 0)) dbs_nil))) (DE.opd de_int) (nomark _)) (de_and (DO.fz (do_callP h_is_name hgd (hr.mono (by decide)) (da_cons (de_ix (ixAt (u65 hr)) (db_var 0 (pv 0)) (DE.opd de_int) (fun _ _ => rfl)) da_nil))) (de_one (DO.fz (do_callP h_is_fact hgd (hr.mono (by decide)) (da_cons (de_ix (ixAt (u65 hr)) (db_var 0 (pv 0)) (DE.opd de_int) (fun _ _ => rfl)) da_nil))))))))))
theorem has_is_row (fa : Fa K w mg base) (h_is_fact : HasP P w K mg base 3 "is_fact" 1 f_is_fact) (h_is_name : HasP P w K mg base 1 "is_name" 1 f_is_name) (F : FnAt K mg "is_row" s_is_row) : HasP P w K mg base 4 "is_row" 1 f_is_row := by
  obtain ⟨f, fd, F, hm⟩ := F
  exact ⟨f, fd, ["thing"], ok_is_row fa h_is_fact h_is_name F, hm, F.kp, F.binds fun _ _ _ _ _ _ us hl => match us, hl with | [_], _ => rfl⟩
abbrev s_are_rows : Stmt := topS 17
abbrev s_are_rows_sc : Scope := defScope s_are_rows
abbrev n_are_rows : List Str := ["thing", "row"]
theorem sc_are_rows : FnScope n_are_rows ["thing"] (defScope s_are_rows) := ⟨rfl, rfl, rfl, by decide +kernel, rfl, by decide +kernel, by decide +kernel⟩
def it_are_rows_1 : En → Rs (List D) := (itA (vD 0))
def el_are_rows_1 : En → Rs D := (frzD (callP 1 f_is_row [(vD 1)]))
def lc_are_rows_1 : En → Rs OV := lcD it_are_rows_1 [1] (gN 1) yesT el_are_rows_1
def m_are_rows : En → SRs :=
    (rtS (shD (andD (isiD (.va 0) ["list", "tuple"]) (opN [(.ex (frzD lc_are_rows_1))] semAll))))
def f_are_rows : List D → Option OV := fnP 2 m_are_rows
theorem ok_are_rows {f : Addr} {fd : FuncData} (fa : Fa K w mg base) (h_is_row : HasP P w K mg base 4 "is_row" 1 f_is_row) (F : Fun K "are_rows" "are_rows" s_are_rows f fd) : FnG P w K mg base CX0 5 f fd ["thing"] (spP K 1 f_are_rows) := by
  have nd := sc_are_rows.nd
  unfold f_are_rows
  refine fnP_ok (k := 4) (m := m_are_rows) F sc_are_rows rfl rfl fun cdv A outer s H E g hgd hr hB0 hW hWn hxc => ?_
  have hB := nb00 hB0
  unfold m_are_rows
  exact (ds_one (ds_ret (DE.shd (de_and (de_isiT (Ts := ["list", "tuple"]) (by decide) (by decide) fa.b_isinstance (db_var 0 (pv 0)) (pa_ty (T := "list") fa.b_list (pa_ty (T := "tuple") fa.b_tuple pa_ty0))) (de_one (de_callB (cd_all rfl) fa.b_all (dbs_cons (DE.opd (DO.fz (do_lc (own := [("row", 1)]) (ks := [1]) rfl nd (di_any (de_var 0 (nb hB 0 (by decide)) (pv 0))) (blkOk_by (N := n_are_rows) (sc := s_are_rows_sc) (by decide +kernel)) rfl (nbs hB (by decide)) (by decide) (fun _ _ _ _ _ g1 e1 => (dg_name (i := 1) (nb (nbt e1 hB) 1 (by decide)) nd)) (fun _ _ _ _ _ g1 e1 => pts_nilD) (fun _ _ _ _ _ g1 e1 => (DO.fz (do_callP h_is_row hgd (hr.mono (by decide)) (da_cons (de_var 1 (nb (nbt e1 hB) 1 (by decide)) (pv 1)) da_nil))))))) dbs_nil)))))))
theorem has_are_rows (fa : Fa K w mg base) (h_is_row : HasP P w K mg base 4 "is_row" 1 f_is_row) (F : FnAt K mg "are_rows" s_are_rows) : HasP P w K mg base 5 "are_rows" 1 f_are_rows := by
  obtain ⟨f, fd, F, hm⟩ := F
  exact ⟨f, fd, ["thing"], ok_are_rows fa h_is_row F, hm, F.kp, F.binds fun _ _ _ _ _ _ us hl => match us, hl with | [_], _ => rfl⟩
abbrev s_Start____init__ : Stmt := inClass (topS 18) 0
abbrev s_Start____init___sc : Scope := defScope s_Start____init__
abbrev n_Start____init__ : List Str := ["self", "goal", "book", "aim"]
theorem sc_Start____init__ : FnScope n_Start____init__ ["self", "goal", "book", "aim"] (defScope s_Start____init__) := ⟨rfl, rfl, rfl, by decide +kernel, rfl, by decide +kernel, by decide +kernel⟩
def m_Start____init__ : En → SRs :=
    (seqS (ifS (notT (toB (frzD (callP 1 f_are_rows [(vD 1)])))) (raiseS "Wrong" "place" (cD (.int 0))) nxS)
    (seqS (ifS (notT (toB (frzD (callP 1 f_are_rows [(vD 2)])))) (raiseS "Wrong" "place" (cD (.int 1))) nxS)
    (seqS (ifS (notT (toB (frzD (callP 1 f_is_atom [(vD 3)])))) (raiseS "Wrong" "place" (cD (.int 2))) nxS)
    (seqS (fldS 0 "Start" "its_rows" (dicD [((cD (.str "goal")), (opN [(.va 1)] semList)), ((cD (.str "book")), (opN [(.va 2)] semList))]))
    (fldS 0 "Start" "its_aim" (vD 3))))))
def f_Start____init__ : List D → FI := fnI 4 "Start" m_Start____init__
theorem ok_Start____init__ {f : Addr} {fd : FuncData} (fa : Fa K w mg base) (h_are_rows : HasP P w K mg base 5 "are_rows" 1 f_are_rows) (h_is_atom : HasP P w K mg base 2 "is_atom" 1 f_is_atom) (h_E_Wrong : HasE P w K mg base "Wrong" "place") (F : Fun K "__init__" "Start.__init__" s_Start____init__ f fd) : FnG P w K mg base (L2.CX P w) 6 f fd ["self", "goal", "book", "aim"] (spI K "Start" 3 f_Start____init__) := by
  have nd := sc_Start____init__.nd
  unfold f_Start____init__
  refine fnI_ok (k := 5) (m := m_Start____init__) F sc_Start____init__ rfl rfl fun cdv A outer s H E g hgd hr hB hW hxc tk po => ?_
  unfold m_Start____init__
  exact (ds_cons (ds_if (dt_not (dt_val (DO.fz (do_callP h_are_rows hgd (hr.mono (by decide)) (da_cons (de_var 1 (nb hB 1 (by decide)) (pv 1)) da_nil))))) (ds_one (ds_raise h_E_Wrong rfl hr (by decide) tk de_int)) ds_nil)
    (ds_cons (ds_if (dt_not (dt_val (DO.fz (do_callP h_are_rows hgd (hr.mono (by decide)) (da_cons (de_var 2 (nb hB 2 (by decide)) (pv 2)) da_nil))))) (ds_one (ds_raise h_E_Wrong rfl hr (by decide) tk de_int)) ds_nil)
    (ds_cons (ds_if (dt_not (dt_val (DO.fz (do_callP h_is_atom hgd (hr.mono (by decide)) (da_cons (de_var 3 (nb hB 3 (by decide)) (pv 3)) da_nil))))) (ds_one (ds_raise h_E_Wrong rfl hr (by decide) tk de_int)) ds_nil)
    (ds_cons (ds_fld fa.fl_Start_its_rows (pv 0) (de_disp (dps_cons (fun g1 e1 => de_str) (fun g1 e1 => (de_callT cd_list fa.b_list (dbs_cons (db_var 1 (pv 1)) dbs_nil))) (dps_cons (fun g1 e1 => de_str) (fun g1 e1 => (de_callT cd_list fa.b_list (dbs_cons (db_var 2 (pv 2)) dbs_nil))) dps_nil))))
    (ds_one (ds_fld fa.fl_Start_its_aim (pv 0) (de_var 3 (nb hB 3 (by decide)) (pv 3))))))))
theorem has_Start____init__ (fa : Fa K w mg base) (h_are_rows : HasP P w K mg base 5 "are_rows" 1 f_are_rows) (h_is_atom : HasP P w K mg base 2 "is_atom" 1 f_is_atom) (h_E_Wrong : HasE P w K mg base "Wrong" "place") (F : InitAt K mg "Start" "Start.__init__" s_Start____init__) : HasI P w K mg base 6 "Start" 3 f_Start____init__ := by
  obtain ⟨C, f, fd, h1, h2, h3, F⟩ := F.ex
  exact ⟨C, f, fd, ["self", "goal", "book", "aim"], ok_Start____init__ fa h_are_rows h_is_atom h_E_Wrong F, h1, h2, h3, F.binds fun _ _ _ _ _ _ us hl => match us, hl with | [_, _, _, _], _ => rfl⟩
abbrev s__law_some : Stmt := topS 23
abbrev s__law_some_sc : Scope := defScope s__law_some
abbrev n__law_some : List Str := ["_law_bag_here", "_law_things"]
theorem sc__law_some : FnScope n__law_some ["_law_bag_here", "_law_things"] (defScope s__law_some) := ⟨rfl, rfl, rfl, by decide +kernel, rfl, by decide +kernel, by decide +kernel⟩
def m__law_some : En → SRs :=
    (rtS (shD (op2 (.va 1) (.ex (frzD (callB 1 f__law_take 0 [(opN [(.va 1)] semLen)]))) semAt)))
def f__law_some : List D → List D → Option (OV × List D) := fnB 2 m__law_some
theorem ok__law_some {f : Addr} {fd : FuncData} (fa : Fa K w mg base) (h__law_take : HasB P w K mg base 1 "_law_take" 1 f__law_take) (F : Fun K "_law_some" "_law_some" s__law_some f fd) : FnG P w K mg base CX0 2 f fd ["_law_bag_here", "_law_things"] (spB K 1 f__law_some) := by
  have nd := sc__law_some.nd
  unfold f__law_some
  refine fnB_ok (k := 1) (m := m__law_some) F sc__law_some rfl rfl fun cdv A outer s H E g hgd hr hB hW hWn hxc => ?_
  unfold m__law_some
  exact (ds_one (ds_ret (DE.shd (de_ix (ixAt (u65 hr)) (db_var 1 (pv 1)) (DE.opd (DO.fz (do_callB h__law_take hgd (hr.mono (by decide)) (pv 0) (da_cons (de_callB cd_len fa.b_len (dbs_cons (db_var 1 (pv 1)) dbs_nil)) da_nil)))) (fun _ _ => rfl)))))
theorem has__law_some (fa : Fa K w mg base) (h__law_take : HasB P w K mg base 1 "_law_take" 1 f__law_take) (F : FnAt K mg "_law_some" s__law_some) : HasB P w K mg base 2 "_law_some" 1 f__law_some := by
  obtain ⟨f, fd, F, hm⟩ := F
  exact ⟨f, fd, ["_law_bag_here", "_law_things"], ok__law_some fa h__law_take F, hm, F.kp, F.binds fun _ _ _ _ _ _ us hl => match us, hl with | [_, _], _ => rfl⟩
abbrev s__law_atom : Stmt := topS 26
abbrev s__law_atom_sc : Scope := defScope s__law_atom
abbrev n__law_atom : List Str := ["_law_bag_here", "_law_things"]
theorem sc__law_atom : FnScope n__law_atom ["_law_bag_here", "_law_things"] (defScope s__law_atom) := ⟨rfl, rfl, rfl, by decide +kernel, rfl, by decide +kernel, by decide +kernel⟩
def m__law_atom : En → SRs :=
    (rtS (shD (tupD [(op2 (.ex (frzD (lstD [(cD (.str "eq")), (cD (.str "lt")), (cD (.str "gt")), (cD (.str "lt"))]))) (.ex (frzD (callB 1 f__law_take 0 [(cD (.int 4))]))) semAt), (frzD (callB 1 f__law_some 0 [(vD 1)])), (frzD (callB 1 f__law_some 0 [(vD 1)]))])))
def f__law_atom : List D → List D → Option (OV × List D) := fnB 2 m__law_atom
theorem ok__law_atom {f : Addr} {fd : FuncData} (fa : Fa K w mg base) (h__law_take : HasB P w K mg base 1 "_law_take" 1 f__law_take) (h__law_some : HasB P w K mg base 2 "_law_some" 1 f__law_some) (F : Fun K "_law_atom" "_law_atom" s__law_atom f fd) : FnG P w K mg base CX0 3 f fd ["_law_bag_here", "_law_things"] (spB K 1 f__law_atom) := by
  have nd := sc__law_atom.nd
  unfold f__law_atom
  refine fnB_ok (k := 2) (m := m__law_atom) F sc__law_atom rfl rfl fun cdv A outer s H E g hgd hr hB hW hWn hxc => ?_
  unfold m__law_atom
  exact (ds_one (ds_ret (DE.shd (de_tup (da_cons (de_ix (ixAt (u65 hr)) (DE.opd (DO.fz (do_lst (da_cons de_str (da_cons de_str (da_cons de_str (da_cons de_str da_nil))))))) (DE.opd (DO.fz (do_callB h__law_take hgd (hr.mono (by decide)) (pv 0) (da_cons de_int da_nil)))) (fun _ _ => rfl)) (da_cons (DO.fz (do_callB h__law_some hgd (hr.mono (by decide)) (pv 0) (da_cons (de_var 1 (nb hB 1 (by decide)) (pv 1)) da_nil))) (da_cons (DO.fz (do_callB h__law_some hgd (hr.mono (by decide)) (pv 0) (da_cons (de_var 1 (nb hB 1 (by decide)) (pv 1)) da_nil))) da_nil)))))))
theorem has__law_atom (fa : Fa K w mg base) (h__law_take : HasB P w K mg base 1 "_law_take" 1 f__law_take) (h__law_some : HasB P w K mg base 2 "_law_some" 1 f__law_some) (F : FnAt K mg "_law_atom" s__law_atom) : HasB P w K mg base 3 "_law_atom" 1 f__law_atom := by
  obtain ⟨f, fd, F, hm⟩ := F
  exact ⟨f, fd, ["_law_bag_here", "_law_things"], ok__law_atom fa h__law_take h__law_some F, hm, F.kp, F.binds fun _ _ _ _ _ _ us hl => match us, hl with | [_, _], _ => rfl⟩
abbrev s__law_fact : Stmt := topS 27
abbrev s__law_fact_sc : Scope := defScope s__law_fact
abbrev n__law_fact : List Str := ["_law_bag_here", "_law_things", "_law_k"]
theorem sc__law_fact : FnScope n__law_fact ["_law_bag_here", "_law_things"] (defScope s__law_fact) := ⟨rfl, rfl, rfl, by decide +kernel, rfl, by decide +kernel, by decide +kernel⟩
def it__law_fact_1 : En → Rs (List D) := (rg1 (op2 (.ex (cD (.int 1))) (.ex (op2 (.ex (frzD (callB 1 f__law_take 0 [(cD (.int 3))]))) (.ex (cD (.int 2))) semFdiv)) semAdd))
def el__law_fact_1 : En → Rs D := (frzD (callB 1 f__law_atom 0 [(vD 1)]))
def lc__law_fact_1 : En → Rs OV := lcD it__law_fact_1 [2] (gN 2) yesT el__law_fact_1
def m__law_fact : En → SRs :=
    (rtS (shD (opN [(.ex (frzD lc__law_fact_1))] semTuple)))
def f__law_fact : List D → List D → Option (OV × List D) := fnB 3 m__law_fact
theorem ok__law_fact {f : Addr} {fd : FuncData} (fa : Fa K w mg base) (h__law_take : HasB P w K mg base 1 "_law_take" 1 f__law_take) (h__law_atom : HasB P w K mg base 3 "_law_atom" 1 f__law_atom) (F : Fun K "_law_fact" "_law_fact" s__law_fact f fd) : FnG P w K mg base CX0 4 f fd ["_law_bag_here", "_law_things"] (spB K 1 f__law_fact) := by
  have nd := sc__law_fact.nd
  unfold f__law_fact
  refine fnB_ok (k := 3) (m := m__law_fact) F sc__law_fact rfl rfl fun cdv A outer s H E g hgd hr hB hW hWn hxc => ?_
  unfold m__law_fact
  exact (ds_one (ds_ret (DE.shd (de_callT cd_tuple fa.b_tuple (dbs_cons (DE.opd (DO.fz (do_lc (own := [("_law_k", 2)]) (ks := [2]) rfl nd (di_range1 rfl fa.b_range (de_op opd_add (DE.opd de_int) (DE.opd (de_op opd_fdiv (DE.opd (DO.fz (do_callB h__law_take hgd (hr.mono (by decide)) (pv 0) (da_cons de_int da_nil)))) (DE.opd de_int))))) (blkOk_by (N := n__law_fact) (sc := s__law_fact_sc) (by decide +kernel)) rfl (nbs hB (by decide)) (by decide) (fun _ _ _ _ _ g1 e1 => (dg_name (i := 2) (nb (nbt e1 hB) 2 (by decide)) nd)) (fun _ _ _ _ _ g1 e1 => pts_nilD) (fun _ _ _ _ _ g1 e1 => (DO.fz (do_callB h__law_atom hgd (hr.mono (by decide)) (pv 0) (da_cons (de_var 1 (nb (nbt e1 hB) 1 (by decide)) (pv 1)) da_nil))))))) dbs_nil)))))
theorem has__law_fact (fa : Fa K w mg base) (h__law_take : HasB P w K mg base 1 "_law_take" 1 f__law_take) (h__law_atom : HasB P w K mg base 3 "_law_atom" 1 f__law_atom) (F : FnAt K mg "_law_fact" s__law_fact) : HasB P w K mg base 4 "_law_fact" 1 f__law_fact := by
  obtain ⟨f, fd, F, hm⟩ := F
  exact ⟨f, fd, ["_law_bag_here", "_law_things"], ok__law_fact fa h__law_take h__law_atom F, hm, F.kp, F.binds fun _ _ _ _ _ _ us hl => match us, hl with | [_, _], _ => rfl⟩
abbrev s__law_row : Stmt := topS 28
abbrev s__law_row_sc : Scope := defScope s__law_row
abbrev n__law_row : List Str := ["_law_bag_here", "_law_world_here"]
theorem sc__law_row : FnScope n__law_row ["_law_bag_here", "_law_world_here"] (defScope s__law_row) := ⟨rfl, rfl, rfl, by decide +kernel, rfl, by decide +kernel, by decide +kernel⟩
def m__law_row : En → SRs :=
    (rtS (shD (tupD [(frzD (callB 1 f__law_some 0 [(op2 (.va 1) (.ex (cD (.str "names"))) semAt)])), (frzD (callB 1 f__law_fact 0 [(op2 (.va 1) (.ex (cD (.str "things"))) semAt)]))])))
def f__law_row : List D → List D → Option (OV × List D) := fnB 2 m__law_row
theorem ok__law_row {f : Addr} {fd : FuncData} (fa : Fa K w mg base) (h__law_some : HasB P w K mg base 2 "_law_some" 1 f__law_some) (h__law_fact : HasB P w K mg base 4 "_law_fact" 1 f__law_fact) (F : Fun K "_law_row" "_law_row" s__law_row f fd) : FnG P w K mg base CX0 5 f fd ["_law_bag_here", "_law_world_here"] (spB K 1 f__law_row) := by
  have nd := sc__law_row.nd
  unfold f__law_row
  refine fnB_ok (k := 4) (m := m__law_row) F sc__law_row rfl rfl fun cdv A outer s H E g hgd hr hB hW hWn hxc => ?_
  unfold m__law_row
  exact (ds_one (ds_ret (DE.shd (de_tup (da_cons (DO.fz (do_callB h__law_some hgd (hr.mono (by decide)) (pv 0) (da_cons (de_ix (ixAt (u65 hr)) (db_var 1 (pv 1)) (DE.opd de_str) (fun _ _ => rfl)) da_nil))) (da_cons (DO.fz (do_callB h__law_fact hgd (hr.mono (by decide)) (pv 0) (da_cons (de_ix (ixAt (u65 hr)) (db_var 1 (pv 1)) (DE.opd de_str) (fun _ _ => rfl)) da_nil))) da_nil))))))
theorem has__law_row (fa : Fa K w mg base) (h__law_some : HasB P w K mg base 2 "_law_some" 1 f__law_some) (h__law_fact : HasB P w K mg base 4 "_law_fact" 1 f__law_fact) (F : FnAt K mg "_law_row" s__law_row) : HasB P w K mg base 5 "_law_row" 1 f__law_row := by
  obtain ⟨f, fd, F, hm⟩ := F
  exact ⟨f, fd, ["_law_bag_here", "_law_world_here"], ok__law_row fa h__law_some h__law_fact F, hm, F.kp, F.binds fun _ _ _ _ _ _ us hl => match us, hl with | [_, _], _ => rfl⟩
abbrev s__law_rows : Stmt := topS 29
abbrev s__law_rows_sc : Scope := defScope s__law_rows
abbrev n__law_rows : List Str := ["_law_bag_here", "_law_world_here", "_law_top", "_law_k"]
theorem sc__law_rows : FnScope n__law_rows ["_law_bag_here", "_law_world_here", "_law_top"] (defScope s__law_rows) := ⟨rfl, rfl, rfl, by decide +kernel, rfl, by decide +kernel, by decide +kernel⟩
def it__law_rows_1 : En → Rs (List D) := (rg1 (frzD (callB 1 f__law_take 0 [(op2 (.va 2) (.ex (cD (.int 1))) semAdd)])))
def el__law_rows_1 : En → Rs D := (frzD (callB 1 f__law_row 0 [(vD 1)]))
def lc__law_rows_1 : En → Rs OV := lcD it__law_rows_1 [3] (gN 3) yesT el__law_rows_1
def m__law_rows : En → SRs :=
    (rtS lc__law_rows_1)
def f__law_rows : List D → List D → Option (OV × List D) := fnB 4 m__law_rows
theorem ok__law_rows {f : Addr} {fd : FuncData} (fa : Fa K w mg base) (h__law_take : HasB P w K mg base 1 "_law_take" 1 f__law_take) (h__law_row : HasB P w K mg base 5 "_law_row" 1 f__law_row) (F : Fun K "_law_rows" "_law_rows" s__law_rows f fd) : FnG P w K mg base CX0 6 f fd ["_law_bag_here", "_law_world_here", "_law_top"] (spB K 2 f__law_rows) := by
  have nd := sc__law_rows.nd
  unfold f__law_rows
  refine fnB_ok (k := 5) (m := m__law_rows) F sc__law_rows rfl rfl fun cdv A outer s H E g hgd hr hB hW hWn hxc => ?_
  unfold m__law_rows
  exact (ds_one (ds_ret (do_lc (own := [("_law_k", 3)]) (ks := [3]) rfl nd (di_range1 rfl fa.b_range (DO.fz (do_callB h__law_take hgd (hr.mono (by decide)) (pv 0) (da_cons (de_op opd_add (db_var 2 (pv 2)) (DE.opd de_int)) da_nil)))) (blkOk_by (N := n__law_rows) (sc := s__law_rows_sc) (by decide +kernel)) rfl (nbs hB (by decide)) (by decide) (fun _ _ _ _ _ g1 e1 => (dg_name (i := 3) (nb (nbt e1 hB) 3 (by decide)) nd)) (fun _ _ _ _ _ g1 e1 => pts_nilD) (fun _ _ _ _ _ g1 e1 => (DO.fz (do_callB h__law_row hgd (hr.mono (by decide)) (pv 0) (da_cons (de_var 1 (nb (nbt e1 hB) 1 (by decide)) (pv 1)) da_nil)))))))
theorem has__law_rows (fa : Fa K w mg base) (h__law_take : HasB P w K mg base 1 "_law_take" 1 f__law_take) (h__law_row : HasB P w K mg base 5 "_law_row" 1 f__law_row) (F : FnAt K mg "_law_rows" s__law_rows) : HasB P w K mg base 6 "_law_rows" 2 f__law_rows := by
  obtain ⟨f, fd, F, hm⟩ := F
  exact ⟨f, fd, ["_law_bag_here", "_law_world_here", "_law_top"], ok__law_rows fa h__law_take h__law_row F, hm, F.kp, F.binds fun _ _ _ _ _ _ us hl => match us, hl with | [_, _, _], _ => rfl⟩
abbrev s__law_is_name : Stmt := topS 32
abbrev s__law_is_name_sc : Scope := defScope s__law_is_name
abbrev n__law_is_name : List Str := ["_law_thing", "_law_sign"]
theorem sc__law_is_name : FnScope n__law_is_name ["_law_thing"] (defScope s__law_is_name) := ⟨rfl, rfl, rfl, by decide +kernel, rfl, by decide +kernel, by decide +kernel⟩
def it__law_is_name_1 : En → Rs (List D) := (itA (vD 0))
def ts__law_is_name_1 : En → Rs Bool := (toB (op2 (.va 1) (.ex (cD (.str "abcdefghijklmnopqrstuvwxyz"))) semNotIn2))
def el__law_is_name_1 : En → Rs D := (vD 1)
def lc__law_is_name_1 : En → Rs OV := lcD it__law_is_name_1 [1] (gN 1) ts__law_is_name_1 el__law_is_name_1
def m__law_is_name : En → SRs :=
    (seqS (ifS (orT (notT (toB (isiD (.va 0) ["str"]))) (notT (toB (chD (.ex (cD (.int 0))) (.ex (opN [(.va 0)] semLen)) (.ex (cD (.int 9))) semLt semLt)))) (rtS (shD (cD (.bl false)))) nxS)
    (rtS (shD (op2 (.ex (frzD lc__law_is_name_1)) (.ex (frzD (lstD []))) semEq))))
def f__law_is_name : List D → Option OV := fnP 2 m__law_is_name
theorem ok__law_is_name {f : Addr} {fd : FuncData} (fa : Fa K w mg base)  (F : Fun K "_law_is_name" "_law_is_name" s__law_is_name f fd) : FnG P w K mg base CX0 1 f fd ["_law_thing"] (spP K 1 f__law_is_name) := by
  have nd := sc__law_is_name.nd
  unfold f__law_is_name
  refine fnP_ok (k := 0) (m := m__law_is_name) F sc__law_is_name rfl rfl fun cdv A outer s H E g hgd hr hB0 hW hWn hxc => ?_
  have hB := nb00 hB0
  unfold m__law_is_name
  exact (ds_cons (ds_if (DW.dt (dw_or (dt_not (dt_val (de_isi1 (T := "str") (by decide) fa.b_isinstance fa.b_str (db_var 0 (pv 0))))) (dw_or1 (dt_not (dt_chain opd_lt opd_lt (DE.opd de_int) (DE.opd (de_callB cd_len fa.b_len (dbs_cons (db_var 0 (pv 0)) dbs_nil))) (DE.opd de_int)))))) (ds_one (ds_ret (DE.shd de_bl))) ds_nil)
    (ds_one (ds_ret (DE.shd (de_cmp (opd_eq hr.units) (DE.opd (DO.fz (do_lc (own := [("_law_sign", 1)]) (ks := [1]) rfl nd (di_any (de_var 0 (nb hB 0 (by decide)) (pv 0))) (blkOk_by (N := n__law_is_name) (sc := s__law_is_name_sc) (by decide +kernel)) rfl (nbs hB (by decide)) (by decide) (fun _ _ _ _ _ g1 e1 => (dg_name (i := 1) (nb (nbt e1 hB) 1 (by decide)) nd)) (fun _ _ _ _ _ g1 e1 => (pts_oneD (dt_cmp (opd_notIn2 (u65 hr)) (db_var 1 (pv 1)) (DE.opd de_str) rfl))) (fun _ _ _ _ _ g1 e1 => (de_var 1 (nb (nbt e1 hB) 1 (by decide)) (pv 1)))))) (DE.opd (DO.fz (do_lst da_nil))) (nomark _))))))
theorem has__law_is_name (fa : Fa K w mg base)  (F : FnAt K mg "_law_is_name" s__law_is_name) : HasP P w K mg base 1 "_law_is_name" 1 f__law_is_name := by
  obtain ⟨f, fd, F, hm⟩ := F
  exact ⟨f, fd, ["_law_thing"], ok__law_is_name fa  F, hm, F.kp, F.binds fun _ _ _ _ _ _ us hl => match us, hl with | [_], _ => rfl⟩
abbrev s__law_is_atom : Stmt := topS 33
abbrev s__law_is_atom_sc : Scope := defScope s__law_is_atom
abbrev n__law_is_atom : List Str := ["_law_thing", "_law_least", "_law_piece", "_law_good", "_law_k"]
theorem sc__law_is_atom : FnScope n__law_is_atom ["_law_thing", "_law_least"] (defScope s__law_is_atom) := ⟨rfl, rfl, rfl, by decide +kernel, rfl, by decide +kernel, by decide +kernel⟩
def it__law_is_atom_1 : En → Rs (List D) := (itA (vD 0))
def ts__law_is_atom_1 : En → Rs Bool := (notT (toB (isiD (.va 2) ["str"])))
def el__law_is_atom_1 : En → Rs D := (vD 2)
def lc__law_is_atom_1 : En → Rs OV := lcD it__law_is_atom_1 [2] (gN 2) ts__law_is_atom_1 el__law_is_atom_1
def it__law_is_atom_2 : En → Rs (List D) := (rg1 (cD (.int 3)))
def ts__law_is_atom_2 : En → Rs Bool := (andT (notT (toT (.ex (op2 (.va 3) (.va 4) semAt)))) (orT (toB (op2 (.va 1) (.ex (cD (.int 1))) semEq)) (toB (op2 (.ex (op2 (.va 0) (.va 4) semAt)) (.ex (cD (.str ""))) semNe))))
def el__law_is_atom_2 : En → Rs D := (vD 4)
def lc__law_is_atom_2 : En → Rs OV := lcD it__law_is_atom_2 [4] (gN 4) ts__law_is_atom_2 el__law_is_atom_2
def m__law_is_atom : En → SRs :=
    (seqS (ifS (orT (notT (toB (isiD (.va 0) ["tuple"]))) (toB (op2 (.ex (opN [(.va 0)] semLen)) (.ex (cD (.int 3))) semNe))) (rtS (shD (cD (.bl false)))) nxS)
    (seqS (ifS (toB (op2 (.ex (frzD lc__law_is_atom_1)) (.ex (frzD (lstD []))) semNe)) (rtS (shD (cD (.bl false)))) nxS)
    (seqS (setS 3 (shD (frzD (lstD [(op2 (.ex (op2 (.va 0) (.ex (cD (.int 0))) semAt)) (.ex (tupD [(cD (.str "eq")), (cD (.str "lt")), (cD (.str "gt"))])) semIn2), (frzD (callP 1 f__law_is_name [(op2 (.va 0) (.ex (cD (.int 1))) semAt)])), (frzD (callP 1 f__law_is_name [(op2 (.va 0) (.ex (cD (.int 2))) semAt)]))]))))
    (rtS (shD (op2 (.ex (frzD lc__law_is_atom_2)) (.ex (frzD (lstD []))) semEq))))))
def f__law_is_atom : List D → Option OV := fnP 5 m__law_is_atom
theorem ok__law_is_atom {f : Addr} {fd : FuncData} (fa : Fa K w mg base) (h__law_is_name : HasP P w K mg base 1 "_law_is_name" 1 f__law_is_name) (F : Fun K "_law_is_atom" "_law_is_atom" s__law_is_atom f fd) : FnG P w K mg base CX0 2 f fd ["_law_thing", "_law_least"] (spP K 2 f__law_is_atom) := by
  have nd := sc__law_is_atom.nd
  unfold f__law_is_atom
  refine fnP_ok (k := 1) (m := m__law_is_atom) F sc__law_is_atom rfl rfl fun cdv A outer s H E g hgd hr hB0 hW hWn hxc => ?_
  have hB := nb00 hB0
  unfold m__law_is_atom
  exact (ds_cons (ds_if (DW.dt (dw_or (dt_not (dt_val (de_isi1 (T := "tuple") (by decide) fa.b_isinstance fa.b_tuple (db_var 0 (pv 0))))) (dw_or1 (dt_cmp (opd_ne hr.units) (DE.opd (de_callB cd_len fa.b_len (dbs_cons (db_var 0 (pv 0)) dbs_nil))) (DE.opd de_int) (nomark _))))) (ds_one (ds_ret (DE.shd de_bl))) ds_nil)
    (ds_cons (ds_if (dt_cmp (opd_ne hr.units) (DE.opd (DO.fz (do_lc (own := [("_law_piece", 2)]) (ks := [2]) rfl nd (di_any (de_var 0 (nb hB 0 (by decide)) (pv 0))) (blkOk_by (N := n__law_is_atom) (sc := s__law_is_atom_sc) (by decide +kernel)) rfl (nbs hB (by decide)) (by decide) (fun _ _ _ _ _ g1 e1 => (dg_name (i := 2) (nb (nbt e1 hB) 2 (by decide)) nd)) (fun _ _ _ _ _ g1 e1 => (pts_oneD (dt_not (dt_val (de_isi1 (T := "str") (by decide) fa.b_isinstance fa.b_str (db_var 2 (pv 2))))))) (fun _ _ _ _ _ g1 e1 => (de_var 2 (nb (nbt e1 hB) 2 (by decide)) (pv 2)))))) (DE.opd (DO.fz (do_lst da_nil))) (nomark _)) (ds_one (ds_ret (DE.shd de_bl))) ds_nil)
    (ds_cons (ds_set (i := 3) (nb hB 3 (by decide)) nd (DE.shd (DO.fz (do_lst (da_cons (de_cmp (opd_in2 (u65 hr)) (DE.opd (de_ix (ixAt (u65 hr)) (db_var 0 (pv 0)) (DE.opd de_int) (fun _ _ => rfl))) (DE.opd (de_tup (da_cons de_str (da_cons de_str (da_cons de_str da_nil))))) rfl) (da_cons (DO.fz (do_callP h__law_is_name hgd (hr.mono (by decide)) (da_cons (de_ix (ixAt (u65 hr)) (db_var 0 (pv 0)) (DE.opd de_int) (fun _ _ => rfl)) da_nil))) (da_cons (DO.fz (do_callP h__law_is_name hgd (hr.mono (by decide)) (da_cons (de_ix (ixAt (u65 hr)) (db_var 0 (pv 0)) (DE.opd de_int) (fun _ _ => rfl)) da_nil))) da_nil)))))))
    (ds_one (ds_ret (DE.shd (de_cmp (opd_eq hr.units) (DE.opd (DO.fz (do_lc (own := [("_law_k", 4)]) (ks := [4]) rfl nd (di_range1 rfl fa.b_range de_int) (blkOk_by (N := n__law_is_atom) (sc := s__law_is_atom_sc) (by decide +kernel)) rfl (nbs hB (by decide)) (by decide) (fun _ _ _ _ _ g1 e1 => (dg_name (i := 4) (nb (nbt e1 hB) 4 (by decide)) nd)) (fun _ _ _ _ _ g1 e1 => (pts_oneD (DW.dt (dw_and (dt_not (dt_tru (DE.opd (de_ix (ixAt (u65 hr)) (db_var 3 (pv 3)) (db_var 4 (pv 4)) (fun _ _ => rfl))))) (dw_and1 (DW.dt (dw_or (dt_cmp (opd_eq hr.units) (db_var 1 (pv 1)) (DE.opd de_int) (nomark _)) (dw_or1 (dt_cmp (opd_ne hr.units) (DE.opd (de_ix (ixAt (u65 hr)) (db_var 0 (pv 0)) (db_var 4 (pv 4)) (fun _ _ => rfl))) (DE.opd de_str) (nomark _)))))))))) (fun _ _ _ _ _ g1 e1 => (de_var 4 (nb (nbt e1 hB) 4 (by decide)) (pv 4)))))) (DE.opd (DO.fz (do_lst da_nil))) (nomark _))))))))
theorem has__law_is_atom (fa : Fa K w mg base) (h__law_is_name : HasP P w K mg base 1 "_law_is_name" 1 f__law_is_name) (F : FnAt K mg "_law_is_atom" s__law_is_atom) : HasP P w K mg base 2 "_law_is_atom" 2 f__law_is_atom := by
  obtain ⟨f, fd, F, hm⟩ := F
  exact ⟨f, fd, ["_law_thing", "_law_least"], ok__law_is_atom fa h__law_is_name F, hm, F.kp, F.binds fun _ _ _ _ _ _ us hl => match us, hl with | [_, _], _ => rfl⟩
abbrev s__law_is_fact : Stmt := topS 34
abbrev s__law_is_fact_sc : Scope := defScope s__law_is_fact
abbrev n__law_is_fact : List Str := ["_law_thing", "_law_atom_here"]
theorem sc__law_is_fact : FnScope n__law_is_fact ["_law_thing"] (defScope s__law_is_fact) := ⟨rfl, rfl, rfl, by decide +kernel, rfl, by decide +kernel, by decide +kernel⟩
def it__law_is_fact_1 : En → Rs (List D) := (itA (vD 0))
def ts__law_is_fact_1 : En → Rs Bool := (notT (toB (frzD (callP 2 f__law_is_atom [(vD 1), (cD (.int 1))]))))
def el__law_is_fact_1 : En → Rs D := (vD 1)
def lc__law_is_fact_1 : En → Rs OV := lcD it__law_is_fact_1 [1] (gN 1) ts__law_is_fact_1 el__law_is_fact_1
def m__law_is_fact : En → SRs :=
    (seqS (ifS (orT (notT (toB (isiD (.va 0) ["tuple"]))) (notT (toB (chD (.ex (cD (.int 0))) (.ex (opN [(.va 0)] semLen)) (.ex (cD (.int 3))) semLt semLt)))) (rtS (shD (cD (.bl false)))) nxS)
    (rtS (shD (op2 (.ex (frzD lc__law_is_fact_1)) (.ex (frzD (lstD []))) semEq))))
def f__law_is_fact : List D → Option OV := fnP 2 m__law_is_fact
theorem ok__law_is_fact {f : Addr} {fd : FuncData} (fa : Fa K w mg base) (h__law_is_atom : HasP P w K mg base 2 "_law_is_atom" 2 f__law_is_atom) (F : Fun K "_law_is_fact" "_law_is_fact" s__law_is_fact f fd) : FnG P w K mg base CX0 3 f fd ["_law_thing"] (spP K 1 f__law_is_fact) := by
  have nd := sc__law_is_fact.nd
  unfold f__law_is_fact
  refine fnP_ok (k := 2) (m := m__law_is_fact) F sc__law_is_fact rfl rfl fun cdv A outer s H E g hgd hr hB0 hW hWn hxc => ?_
  have hB := nb00 hB0
  unfold m__law_is_fact
  exact (ds_cons (ds_if (DW.dt (dw_or (dt_not (dt_val (de_isi1 (T := "tuple") (by decide) fa.b_isinstance fa.b_tuple (db_var 0 (pv 0))))) (dw_or1 (dt_not (dt_chain opd_lt opd_lt (DE.opd de_int) (DE.opd (de_callB cd_len fa.b_len (dbs_cons (db_var 0 (pv 0)) dbs_nil))) (DE.opd de_int)))))) (ds_one (ds_ret (DE.shd de_bl))) ds_nil)
    (ds_one (ds_ret (DE.shd (de_cmp (opd_eq hr.units) (DE.opd (DO.fz (do_lc (own := [("_law_atom_here", 1)]) (ks := [1]) rfl nd (di_any (de_var 0 (nb hB 0 (by decide)) (pv 0))) (blkOk_by (N := n__law_is_fact) (sc := s__law_is_fact_sc) (by decide +kernel)) rfl (nbs hB (by decide)) (by decide) (fun _ _ _ _ _ g1 e1 => (dg_name (i := 1) (nb (nbt e1 hB) 1 (by decide)) nd)) (fun _ _ _ _ _ g1 e1 => (pts_oneD (dt_not (dt_val (DO.fz (do_callP h__law_is_atom hgd (hr.mono (by decide)) (da_cons (de_var 1 (nb (nbt e1 hB) 1 (by decide)) (pv 1)) (da_cons de_int da_nil)))))))) (fun _ _ _ _ _ g1 e1 => (de_var 1 (nb (nbt e1 hB) 1 (by decide)) (pv 1)))))) (DE.opd (DO.fz (do_lst da_nil))) (nomark _))))))
theorem has__law_is_fact (fa : Fa K w mg base) (h__law_is_atom : HasP P w K mg base 2 "_law_is_atom" 2 f__law_is_atom) (F : FnAt K mg "_law_is_fact" s__law_is_fact) : HasP P w K mg base 3 "_law_is_fact" 1 f__law_is_fact := by
  obtain ⟨f, fd, F, hm⟩ := F
  exact ⟨f, fd, ["_law_thing"], ok__law_is_fact fa h__law_is_atom F, hm, F.kp, F.binds fun _ _ _ _ _ _ us hl => match us, hl with | [_], _ => rfl⟩
abbrev s__law_is_row : Stmt := topS 35
abbrev s__law_is_row_sc : Scope := defScope s__law_is_row
abbrev n__law_is_row : List Str := ["_law_thing"]
theorem sc__law_is_row : FnScope n__law_is_row ["_law_thing"] (defScope s__law_is_row) := ⟨rfl, rfl, rfl, by decide +kernel, rfl, by decide +kernel, by decide +kernel⟩
def m__law_is_row : En → SRs :=
    (rtS (shD (andD (isiD (.va 0) ["tuple"]) (andD (op2 (.ex (opN [(.va 0)] semLen)) (.ex (cD (.int 2))) semEq) (andD (frzD (callP 1 f__law_is_name [(op2 (.va 0) (.ex (cD (.int 0))) semAt)])) (frzD (callP 1 f__law_is_fact [(op2 (.va 0) (.ex (cD (.int 1))) semAt)])))))))
def f__law_is_row : List D → Option OV := fnP 1 m__law_is_row
theorem ok__law_is_row {f : Addr} {fd : FuncData} (fa : Fa K w mg base) (h__law_is_fact : HasP P w K mg base 3 "_law_is_fact" 1 f__law_is_fact) (h__law_is_name : HasP P w K mg base 1 "_law_is_name" 1 f__law_is_name) (F : Fun K "_law_is_row" "_law_is_row" s__law_is_row f fd) : FnG P w K mg base CX0 4 f fd ["_law_thing"] (spP K 1 f__law_is_row) := by
  have nd := sc__law_is_row.nd
  unfold f__law_is_row
  refine fnP_ok (k := 3) (m := m__law_is_row) F sc__law_is_row rfl rfl fun cdv A outer s H E g hgd hr hB0 hW hWn hxc => ?_
  have hB := nb00 hB0
  unfold m__law_is_row
  exact (ds_one (ds_ret (DE.shd (de_and (de_isi1 (T := "tuple") (by decide) fa.b_isinstance fa.b_tuple (db_var 0 (pv 0))) (de_and (de_cmp (opd_eq hr.units) (DE.opd (de_callB cd_len fa.b_len (dbs_cons (db_var 0 (pv 0)) dbs_nil))) (DE.opd de_int) (nomark _)) (de_and (DO.fz (do_callP h__law_is_name hgd (hr.mono (by decide)) (da_cons (de_ix (ixAt (u65 hr)) (db_var 0 (pv 0)) (DE.opd de_int) (fun _ _ => rfl)) da_nil))) (de_one (DO.fz (do_callP h__law_is_fact hgd (hr.mono (by decide)) (da_cons (de_ix (ixAt (u65 hr)) (db_var 0 (pv 0)) (DE.opd de_int) (fun _ _ => rfl)) da_nil))))))))))
theorem has__law_is_row (fa : Fa K w mg base) (h__law_is_fact : HasP P w K mg base 3 "_law_is_fact" 1 f__law_is_fact) (h__law_is_name : HasP P w K mg base 1 "_law_is_name" 1 f__law_is_name) (F : FnAt K mg "_law_is_row" s__law_is_row) : HasP P w K mg base 4 "_law_is_row" 1 f__law_is_row := by
  obtain ⟨f, fd, F, hm⟩ := F
  exact ⟨f, fd, ["_law_thing"], ok__law_is_row fa h__law_is_fact h__law_is_name F, hm, F.kp, F.binds fun _ _ _ _ _ _ us hl => match us, hl with | [_], _ => rfl⟩
abbrev s__law_are_rows : Stmt := topS 38
abbrev s__law_are_rows_sc : Scope := defScope s__law_are_rows
abbrev n__law_are_rows : List Str := ["_law_thing", "_law_row_here"]
theorem sc__law_are_rows : FnScope n__law_are_rows ["_law_thing"] (defScope s__law_are_rows) := ⟨rfl, rfl, rfl, by decide +kernel, rfl, by decide +kernel, by decide +kernel⟩
def it__law_are_rows_1 : En → Rs (List D) := (itA (vD 0))
def ts__law_are_rows_1 : En → Rs Bool := (notT (toB (frzD (callP 1 f__law_is_row [(vD 1)]))))
def el__law_are_rows_1 : En → Rs D := (vD 1)
def lc__law_are_rows_1 : En → Rs OV := lcD it__law_are_rows_1 [1] (gN 1) ts__law_are_rows_1 el__law_are_rows_1
def m__law_are_rows : En → SRs :=
    (rtS (shD (andD (isiD (.va 0) ["list", "tuple"]) (op2 (.ex (frzD lc__law_are_rows_1)) (.ex (frzD (lstD []))) semEq))))
def f__law_are_rows : List D → Option OV := fnP 2 m__law_are_rows
theorem ok__law_are_rows {f : Addr} {fd : FuncData} (fa : Fa K w mg base) (h__law_is_row : HasP P w K mg base 4 "_law_is_row" 1 f__law_is_row) (F : Fun K "_law_are_rows" "_law_are_rows" s__law_are_rows f fd) : FnG P w K mg base CX0 5 f fd ["_law_thing"] (spP K 1 f__law_are_rows) := by
  have nd := sc__law_are_rows.nd
  unfold f__law_are_rows
  refine fnP_ok (k := 4) (m := m__law_are_rows) F sc__law_are_rows rfl rfl fun cdv A outer s H E g hgd hr hB0 hW hWn hxc => ?_
  have hB := nb00 hB0
  unfold m__law_are_rows
  exact (ds_one (ds_ret (DE.shd (de_and (de_isiT (Ts := ["list", "tuple"]) (by decide) (by decide) fa.b_isinstance (db_var 0 (pv 0)) (pa_ty (T := "list") fa.b_list (pa_ty (T := "tuple") fa.b_tuple pa_ty0))) (de_one (de_cmp (opd_eq hr.units) (DE.opd (DO.fz (do_lc (own := [("_law_row_here", 1)]) (ks := [1]) rfl nd (di_any (de_var 0 (nb hB 0 (by decide)) (pv 0))) (blkOk_by (N := n__law_are_rows) (sc := s__law_are_rows_sc) (by decide +kernel)) rfl (nbs hB (by decide)) (by decide) (fun _ _ _ _ _ g1 e1 => (dg_name (i := 1) (nb (nbt e1 hB) 1 (by decide)) nd)) (fun _ _ _ _ _ g1 e1 => (pts_oneD (dt_not (dt_val (DO.fz (do_callP h__law_is_row hgd (hr.mono (by decide)) (da_cons (de_var 1 (nb (nbt e1 hB) 1 (by decide)) (pv 1)) da_nil))))))) (fun _ _ _ _ _ g1 e1 => (de_var 1 (nb (nbt e1 hB) 1 (by decide)) (pv 1)))))) (DE.opd (DO.fz (do_lst da_nil))) (nomark _)))))))
theorem has__law_are_rows (fa : Fa K w mg base) (h__law_is_row : HasP P w K mg base 4 "_law_is_row" 1 f__law_is_row) (F : FnAt K mg "_law_are_rows" s__law_are_rows) : HasP P w K mg base 5 "_law_are_rows" 1 f__law_are_rows := by
  obtain ⟨f, fd, F, hm⟩ := F
  exact ⟨f, fd, ["_law_thing"], ok__law_are_rows fa h__law_is_row F, hm, F.kp, F.binds fun _ _ _ _ _ _ us hl => match us, hl with | [_], _ => rfl⟩
abbrev s__law_odd : Stmt := topS 30
abbrev s__law_odd_sc : Scope := defScope s__law_odd
abbrev n__law_odd : List Str := ["_law_bag_here", "_law_some_here"]
theorem sc__law_odd : FnScope n__law_odd ["_law_bag_here"] (defScope s__law_odd) := ⟨rfl, rfl, rfl, by decide +kernel, rfl, by decide +kernel, by decide +kernel⟩
def m__law_odd : En → SRs :=
    (seqS (setS 1 (shD (frzD (lstD [(cD .non), (cD (.int 5)), (cD (.str "a")), (cD (.str "")), (tupD []), (frzD (lstD [])), (cD (.dic [])), (tupD [(cD (.str "eq"))]), (cD (.bl true)), (op2 (.ex (cD (.int 10))) (.ex (cD (.int 39))) semPow), (frzD (lstD [(cD .non)])), (tupD [(cD (.str "name")), (cD (.str "a"))]), (cD (.str "eq")), (op1 (.ex (cD (.int 1))) semNeg), (tupD [(cD (.int 0)), (cD (.int 1))])]))))
    (seqS (setS 1 (shD (op2 (.va 1) (.ex (frzD (lstD [(cD (.str "a1")), (cD (.str "aB")), (cD (.str "a_")), (cD (.str "a{")), (cD (.str "a\n"))]))) semAdd)))
    (rtS (callB 1 f__law_some 0 [(op2 (.va 1) (.ex (frzD (lstD [(dicD [((cD (.str "a")), (cD (.int 1)))]), (cD (.str "ab b")), (cD (.str "abcdefghi")), (tupD [(cD (.str "last"))]), (tupD [(cD (.str "")), (cD (.str "")), (cD (.str ""))])]))) semAdd)]))))
def f__law_odd : List D → List D → Option (OV × List D) := fnB 2 m__law_odd
theorem ok__law_odd {f : Addr} {fd : FuncData} (fa : Fa K w mg base) (h__law_some : HasB P w K mg base 2 "_law_some" 1 f__law_some) (F : Fun K "_law_odd" "_law_odd" s__law_odd f fd) : FnG P w K mg base CX0 3 f fd ["_law_bag_here"] (spB K 0 f__law_odd) := by
  have nd := sc__law_odd.nd
  unfold f__law_odd
  refine fnB_ok (k := 2) (m := m__law_odd) F sc__law_odd rfl rfl fun cdv A outer s H E g hgd hr hB hW hWn hxc => ?_
  unfold m__law_odd
  exact (ds_cons (ds_set (i := 1) (nb hB 1 (by decide)) nd (DE.shd (DO.fz (do_lst (da_cons de_non (da_cons de_int (da_cons de_str (da_cons de_str (da_cons (de_tup da_nil) (da_cons (DO.fz (do_lst da_nil)) (da_cons de_dict0 (da_cons (de_tup (da_cons de_str da_nil)) (da_cons de_bl (da_cons (de_op opd_pow (DE.opd de_int) (DE.opd de_int)) (da_cons (DO.fz (do_lst (da_cons de_non da_nil))) (da_cons (de_tup (da_cons de_str (da_cons de_str da_nil))) (da_cons de_str (da_cons (de_un und_neg (DE.opd de_int)) (da_cons (de_tup (da_cons de_int (da_cons de_int da_nil))) da_nil)))))))))))))))))))
    (ds_cons (ds_set (i := 1) (nb hB 1 (by decide)) nd (DE.shd (de_op opd_add (db_var 1 (pv 1)) (DE.opd (DO.fz (do_lst (da_cons de_str (da_cons de_str (da_cons de_str (da_cons de_str (da_cons de_str da_nil)))))))))))
    (ds_one (ds_ret (do_callB h__law_some hgd (hr.mono (by decide)) (pv 0) (da_cons (de_op opd_add (db_var 1 (pv 1)) (DE.opd (DO.fz (do_lst (da_cons (de_disp (dps_cons (fun g1 e1 => de_str) (fun g1 e1 => de_int) dps_nil)) (da_cons de_str (da_cons de_str (da_cons (de_tup (da_cons de_str da_nil)) (da_cons (de_tup (da_cons de_str (da_cons de_str (da_cons de_str da_nil)))) da_nil))))))))) da_nil))))))
theorem has__law_odd (fa : Fa K w mg base) (h__law_some : HasB P w K mg base 2 "_law_some" 1 f__law_some) (F : FnAt K mg "_law_odd" s__law_odd) : HasB P w K mg base 3 "_law_odd" 0 f__law_odd := by
  obtain ⟨f, fd, F, hm⟩ := F
  exact ⟨f, fd, ["_law_bag_here"], ok__law_odd fa h__law_some F, hm, F.kp, F.binds fun _ _ _ _ _ _ us hl => match us, hl with | [_], _ => rfl⟩
abbrev s__law_spoilt : Stmt := topS 31
abbrev s__law_spoilt_sc : Scope := defScope s__law_spoilt
abbrev n__law_spoilt : List Str := ["_law_bag_here", "_law_thing", "_law_manner", "_law_at", "_law_found"]
theorem sc__law_spoilt : FnScope n__law_spoilt ["_law_bag_here", "_law_thing"] (defScope s__law_spoilt) := ⟨rfl, rfl, rfl, by decide +kernel, rfl, by decide +kernel, by decide +kernel⟩
def m__law_spoilt (f__law_spoilt : List D → List D → Option (OV × List D)) : En → SRs :=
    (seqS (setS 2 (shD (frzD (callB 1 f__law_take 0 [(cD (.int 6))]))))
    (seqS (ifS (orT (notT (toB (isiD (.va 1) ["tuple", "list"]))) (orT (toB (op2 (.ex (opN [(.va 1)] semLen)) (.ex (cD (.int 0))) semEq)) (toB (op2 (.va 2) (.ex (cD (.int 0))) semEq)))) (rtS (callB 0 f__law_odd 0 [])) nxS)
    (seqS (par2 3 4 (frzD (callB 1 f__law_take 0 [(opN [(.va 1)] semLen)])) (opNO [(.va 1)] semListL))
    (seqS (ifS (toB (op2 (.va 2) (.ex (cD (.int 4))) semLt)) (putS 4 (vD 3) (frzD (callB 1 f__law_spoilt 0 [(op2 (.va 4) (.va 3) semAt)]))) (ifS (andT (toB (op2 (.va 2) (.ex (cD (.int 4))) semEq)) (toB (op2 (.ex (frzD (callB 1 f__law_take 0 [(cD (.int 2))]))) (.ex (cD (.int 0))) semEq))) (popS 4 (vD 3)) (ifS (toB (op2 (.va 2) (.ex (cD (.int 4))) semEq)) (insS 4 (vD 3) (op2 (.va 4) (.va 3) semAt)) (rtS (shD (ifD (toB (isiD (.va 1) ["list"])) (opN [(.va 4)] semTuple) (vD 4)))))))
    (rtS (shD (ifD (toB (isiD (.va 1) ["list"])) (vD 4) (opN [(.va 4)] semTuple))))))))
def f__law_spoilt : Nat → List D → List D → Option (OV × List D)
  | 0 => fun _ _ => none
  | n + 1 => fnB 5 (m__law_spoilt (f__law_spoilt n))
theorem ok__law_spoilt {f : Addr} {fd : FuncData} (fa : Fa K w mg base) (h__law_take : HasB P w K mg base 1 "_law_take" 1 f__law_take) (h__law_odd : HasB P w K mg base 3 "_law_odd" 0 f__law_odd) (j : Nat) (h__law_spoilt : HasB P w K mg base (4 + j) "_law_spoilt" 1 (f__law_spoilt j)) (F : Fun K "_law_spoilt" "_law_spoilt" s__law_spoilt f fd) : FnG P w K mg base CX0 (4 + (j + 1)) f fd ["_law_bag_here", "_law_thing"] (spB K 1 (f__law_spoilt (j + 1))) := by
  have nd := sc__law_spoilt.nd
  show FnG P w K mg base CX0 (4 + (j + 1)) f fd ["_law_bag_here", "_law_thing"] (spB K 1 (fnB 5 (m__law_spoilt (f__law_spoilt j))))
  generalize f__law_spoilt j = f__law_spoilt at *
  refine fnB_ok (k := (4 + j)) (m := (m__law_spoilt f__law_spoilt)) F sc__law_spoilt rfl rfl fun cdv A outer s H E g hgd hr hB hW hWn hxc => ?_
  unfold m__law_spoilt
  exact (ds_cons (ds_set (i := 2) (nb hB 2 (by decide)) nd (DE.shd (DO.fz (do_callB h__law_take hgd (hr.mono (by omega)) (pv 0) (da_cons de_int da_nil)))))
    (ds_cons (ds_if (DW.dt (dw_or (dt_not (dt_val (de_isiT (Ts := ["tuple", "list"]) (by decide) (by decide) fa.b_isinstance (db_var 1 (pv 1)) (pa_ty (T := "tuple") fa.b_tuple (pa_ty (T := "list") fa.b_list pa_ty0))))) (dw_or (dt_cmp (opd_eq hr.units) (DE.opd (de_callB cd_len fa.b_len (dbs_cons (db_var 1 (pv 1)) dbs_nil))) (DE.opd de_int) (nomark _)) (dw_or1 (dt_cmp (opd_eq hr.units) (db_var 2 (pv 2)) (DE.opd de_int) (nomark _)))))) (ds_one (ds_ret (do_callB h__law_odd hgd (hr.mono (by omega)) (pv 0) da_nil))) ds_nil)
    (ds_cons (ds_par2 (i := 3) (j := 4) (nb hB 3 (by decide)) (nb hB 4 (by decide)) nd rfl (by decide) (DO.fz (do_callB h__law_take hgd (hr.mono (by omega)) (pv 0) (da_cons (de_callB cd_len fa.b_len (dbs_cons (db_var 1 (pv 1)) dbs_nil)) da_nil))) (do_callT co_list fa.b_list (dbs_cons (db_var 1 (pv 1)) dbs_nil)))
    (ds_cons (ds_if (dt_cmp opd_lt (db_var 2 (pv 2)) (DE.opd de_int) (nomark _)) (ds_one (ds_put (i := 4) (pv 4) (de_var 3 (nb hB 3 (by decide)) (pv 3)) (DO.fz (do_callB h__law_spoilt hgd (hr.mono (by omega)) (pv 0) (da_cons (de_ix (ixAt (u65 hr)) (db_var 4 (pv 4)) (db_var 3 (pv 3)) (fun _ _ => rfl)) da_nil))))) (ds_one (ds_if (DW.dt (dw_and (dt_cmp (opd_eq hr.units) (db_var 2 (pv 2)) (DE.opd de_int) (nomark _)) (dw_and1 (dt_cmp (opd_eq hr.units) (DE.opd (DO.fz (do_callB h__law_take hgd (hr.mono (by omega)) (pv 0) (da_cons de_int da_nil)))) (DE.opd de_int) (nomark _))))) (ds_one (ds_popAt (i := 4) (pv 4) (de_var 3 (nb hB 3 (by decide)) (pv 3)))) (ds_one (ds_if (dt_cmp (opd_eq hr.units) (db_var 2 (pv 2)) (DE.opd de_int) (nomark _)) (ds_one (ds_insert (i := 4) (pv 4) (de_var 3 (nb hB 3 (by decide)) (pv 3)) (de_ix (ixAt (u65 hr)) (db_var 4 (pv 4)) (db_var 3 (pv 3)) (fun _ _ => rfl)))) (ds_one (ds_ret (DE.shd (de_if (dt_val (de_isi1 (T := "list") (by decide) fa.b_isinstance fa.b_list (db_var 1 (pv 1)))) (de_callT cd_tuple fa.b_tuple (dbs_cons (db_var 4 (pv 4)) dbs_nil)) (de_var 4 (nb hB 4 (by decide)) (pv 4)))))))))))
    (ds_one (ds_ret (DE.shd (de_if (dt_val (de_isi1 (T := "list") (by decide) fa.b_isinstance fa.b_list (db_var 1 (pv 1)))) (de_var 4 (nb hB 4 (by decide)) (pv 4)) (de_callT cd_tuple fa.b_tuple (dbs_cons (db_var 4 (pv 4)) dbs_nil))))))))))
theorem hasj__law_spoilt (fa : Fa K w mg base) (h__law_take : HasB P w K mg base 1 "_law_take" 1 f__law_take) (h__law_odd : HasB P w K mg base 3 "_law_odd" 0 f__law_odd) (F : FnAt K mg "_law_spoilt" s__law_spoilt) : ∀ j, HasB P w K mg base (4 + j) "_law_spoilt" 1 (f__law_spoilt j)
  | 0 => by
    obtain ⟨f, fd, F, hm⟩ := F
    exact hasB_none (st := s__law_spoilt) hm F.kp (F.binds (ps := ["_law_bag_here", "_law_thing"]) fun _ _ _ _ _ _ us hl => match us, hl with | [_, _], _ => rfl)
  | j + 1 => by
    have ih := hasj__law_spoilt fa h__law_take h__law_odd F j
    obtain ⟨f, fd, F, hm⟩ := F
    exact ⟨f, fd, ["_law_bag_here", "_law_thing"], ok__law_spoilt fa h__law_take h__law_odd j ih F, hm, F.kp, F.binds fun _ _ _ _ _ _ us hl => match us, hl with | [_, _], _ => rfl⟩
theorem has__law_spoilt (fa : Fa K w mg base) (h__law_take : HasB P w K mg base 1 "_law_take" 1 f__law_take) (h__law_odd : HasB P w K mg base 3 "_law_odd" 0 f__law_odd) (F : FnAt K mg "_law_spoilt" s__law_spoilt) : HasB P w K mg base 12 "_law_spoilt" 1 (f__law_spoilt 8) := hasj__law_spoilt fa h__law_take h__law_odd F 8
abbrev s__law_alike : Stmt := topS 22
abbrev s__law_alike_sc : Scope := defScope s__law_alike
abbrev n__law_alike : List Str := ["_law_found", "_law_due"]
theorem sc__law_alike : FnScope n__law_alike ["_law_found", "_law_due"] (defScope s__law_alike) := ⟨rfl, rfl, rfl, by decide +kernel, rfl, by decide +kernel, by decide +kernel⟩
def m__law_alike : En → SRs :=
    (rtS (shD (andD (op2 (.va 0) (.va 1) semEq) (op2 (.ex (opN [(.va 0)] semRepr)) (.ex (opN [(.va 1)] semRepr)) semEq))))
def f__law_alike : List D → Option OV := fnP 2 m__law_alike
theorem ok__law_alike {f : Addr} {fd : FuncData} (fa : Fa K w mg base)  (F : Fun K "_law_alike" "_law_alike" s__law_alike f fd) : FnG P w K mg base CX0 1 f fd ["_law_found", "_law_due"] (spP K 2 f__law_alike) := by
  have nd := sc__law_alike.nd
  unfold f__law_alike
  refine fnP_ok (k := 0) (m := m__law_alike) F sc__law_alike rfl rfl fun cdv A outer s H E g hgd hr hB0 hW hWn hxc => ?_
  have hB := nb00 hB0
  unfold m__law_alike
  exact (ds_one (ds_ret (DE.shd (de_and (de_cmp (opd_eq hr.units) (db_var 0 (pv 0)) (db_var 1 (pv 1)) (nomark _)) (de_one (de_cmp (opd_eq hr.units) (DE.opd (de_callB (cd_repr hgd hr fa.sy) fa.b_repr (dbs_cons (db_var 0 (pv 0)) dbs_nil))) (DE.opd (de_callB (cd_repr hgd hr fa.sy) fa.b_repr (dbs_cons (db_var 1 (pv 1)) dbs_nil))) (nomark _)))))))
theorem has__law_alike (fa : Fa K w mg base)  (F : FnAt K mg "_law_alike" s__law_alike) : HasP P w K mg base 1 "_law_alike" 2 f__law_alike := by
  obtain ⟨f, fd, F, hm⟩ := F
  exact ⟨f, fd, ["_law_found", "_law_due"], ok__law_alike fa  F, hm, F.kp, F.binds fun _ _ _ _ _ _ us hl => match us, hl with | [_, _], _ => rfl⟩
abbrev s_Start__with_aim : Stmt := inClass (topS 18) 10
abbrev s_Start__with_aim_sc : Scope := defScope s_Start__with_aim
abbrev n_Start__with_aim : List Str := ["self", "atom"]
theorem sc_Start__with_aim : FnScope n_Start__with_aim ["self", "atom"] (defScope s_Start__with_aim) := ⟨rfl, rfl, rfl, by decide +kernel, rfl, by decide +kernel, by decide +kernel⟩
def m_Start__with_aim : En → SRs :=
    (seqS (ifS (notT (toB (frzD (callP 1 f_is_atom [(vD 1)])))) (raiseS "Wrong" "place" (cD (.int 0))) nxS)
    (rtS (makeD "Start" 3 f_Start____init__ [(op2 (.ex (op1 (.va 0) (semFld "Start" "its_rows"))) (.ex (cD (.str "goal"))) semAt), (op2 (.ex (op1 (.va 0) (semFld "Start" "its_rows"))) (.ex (cD (.str "book"))) semAt), (vD 1)])))
def f_Start__with_aim : List D → FR := fnX 2 m_Start__with_aim
theorem ok_Start__with_aim {f : Addr} {fd : FuncData} (fa : Fa K w mg base) (h_is_atom : HasP P w K mg base 2 "is_atom" 1 f_is_atom) (h_Start____init__ : HasI P w K mg base 6 "Start" 3 f_Start____init__) (h_E_Wrong : HasE P w K mg base "Wrong" "place") (F : Fun K "with_aim" "Start.with_aim" s_Start__with_aim f fd) : FnG P w K mg base (L2.CX P w) 8 f fd ["self", "atom"] (spX K 2 f_Start__with_aim) := by
  have nd := sc_Start__with_aim.nd
  unfold f_Start__with_aim
  refine fnX_ok (k := 7) (m := m_Start__with_aim) F sc_Start__with_aim rfl rfl fun cdv A outer s H E g hgd hr hB0 hW hxc tk po => ?_
  have hB := nb00 hB0
  unfold m_Start__with_aim
  exact (ds_cons (ds_if (dt_not (dt_val (DO.fz (do_callP h_is_atom hgd (hr.mono (by decide)) (da_cons (de_var 1 (nb hB 1 (by decide)) (pv 1)) da_nil))))) (ds_one (ds_raise h_E_Wrong rfl hr (by decide) tk de_int)) ds_nil)
    (ds_one (ds_ret (do_make h_Start____init__ hgd (hr.mono (by decide)) tk (da_cons (de_ix (ixAt (u65 hr)) (DE.opd (de_fld fa.fl_Start_its_rows (db_var 0 (pv 0)))) (DE.opd de_str) (fun _ _ => rfl)) (da_cons (de_ix (ixAt (u65 hr)) (DE.opd (de_fld fa.fl_Start_its_rows (db_var 0 (pv 0)))) (DE.opd de_str) (fun _ _ => rfl)) (da_cons (de_var 1 (nb hB 1 (by decide)) (pv 1)) da_nil)))))))
theorem has_Start__with_aim (fa : Fa K w mg base) (h_is_atom : HasP P w K mg base 2 "is_atom" 1 f_is_atom) (h_Start____init__ : HasI P w K mg base 6 "Start" 3 f_Start____init__) (h_E_Wrong : HasE P w K mg base "Wrong" "place") (F : MethAt K "Start" "with_aim" "Start.with_aim" s_Start__with_aim) : HasMX P w K mg base 8 "Start" "with_aim" 2 f_Start__with_aim := by
  obtain ⟨C, f, fd, h1, h2, h3, F⟩ := F.ex
  exact ⟨C, f, fd, ["self", "atom"], ok_Start__with_aim fa h_is_atom h_Start____init__ h_E_Wrong F, h1, h2, h3, F.binds fun _ _ _ _ _ _ us hl => match us, hl with | [_, _], _ => rfl⟩
abbrev s__law_aimed : Stmt := topS 37
abbrev s__law_aimed_sc : Scope := defScope s__law_aimed
abbrev n__law_aimed : List Str := ["_law_start", "_law_thing", "e"]
theorem sc__law_aimed : FnScope n__law_aimed ["_law_start", "_law_thing"] (defScope s__law_aimed) := ⟨rfl, rfl, rfl, by decide +kernel, rfl, by decide +kernel, by decide +kernel⟩
def tb__law_aimed_1 : En → SRs := (rtS (shD (op1 (.ex (frzD (methX "Start" "with_aim" 2 f_Start__with_aim (vD 0) [(vD 1)]))) (semFld "Start" "its_aim"))))
def sx__law_aimed_1 : En → SRs := (rtS (shD (ifD (toB (isxD 2 (tabB tb_Wrong))) (xfD' 2 "place" ["Wrong"]) (cD (.str "other")))))
def m__law_aimed : En → SRs :=
    (tryS (tabB tb_PickError) 2 tb__law_aimed_1 sx__law_aimed_1)
def f__law_aimed : List D → Option OV := fnP 3 m__law_aimed
theorem ok__law_aimed {f : Addr} {fd : FuncData} (fa : Fa K w mg base) (h_Start__with_aim : HasMX P w K mg base 8 "Start" "with_aim" 2 f_Start__with_aim) (h_G_Start_aim : HasG P w K mg base "Start" "aim" "its_aim") (F : Fun K "_law_aimed" "_law_aimed" s__law_aimed f fd) : FnG P w K mg base CX0 9 f fd ["_law_start", "_law_thing"] (spP K 2 f__law_aimed) := by
  have nd := sc__law_aimed.nd
  unfold f__law_aimed
  refine fnP_ok (k := 8) (m := m__law_aimed) F sc__law_aimed rfl rfl fun cdv A outer s H E g hgd hr hB0 hW hWn hxc => ?_
  have hB := nb00 hB0
  unfold m__law_aimed
  exact (ds_one (ds_try rfl rfl nd rfl rfl ⟨rfl, by decide, .inl fa.mc_PickError⟩ (TkG.none hWn) hxc (nb hB 2 (by decide)) fa.ct_PickError (fun _ _ g1 t1 tk1 po1 => (ds_one (ds_ret (DE.shd (de_prop h_G_Start_aim hr (by decide) (DE.opd (DO.fz (do_methX h_Start__with_aim hgd (hr.mono (by decide)) tk1 (de_var 0 (nb (nbT t1 hB) 0 (by decide)) (pv 0)) (da_cons (de_var 1 (nb (nbT t1 hB) 1 (by decide)) (pv 1)) da_nil))))))))) (fun _ _ _ _ _ g1 t1 hz hv => (ds_one (ds_ret (DE.shd (de_if (dt_val (de_isx (v := .ref fa.C_Wrong) fa.ix_Wrong hz hv t1.xc fa.b_isinstance (pv 2) fa.mc_Wrong rfl (fun _ z => z))) (de_xf fa.xf_place hz hv t1.xc (pv 2)) de_str)))))))
theorem has__law_aimed (fa : Fa K w mg base) (h_Start__with_aim : HasMX P w K mg base 8 "Start" "with_aim" 2 f_Start__with_aim) (h_G_Start_aim : HasG P w K mg base "Start" "aim" "its_aim") (F : FnAt K mg "_law_aimed" s__law_aimed) : HasP P w K mg base 9 "_law_aimed" 2 f__law_aimed := by
  obtain ⟨f, fd, F, hm⟩ := F
  exact ⟨f, fd, ["_law_start", "_law_thing"], ok__law_aimed fa h_Start__with_aim h_G_Start_aim F, hm, F.kp, F.binds fun _ _ _ _ _ _ us hl => match us, hl with | [_, _], _ => rfl⟩
abbrev s__law_made : Stmt := topS 36
abbrev s__law_made_sc : Scope := defScope s__law_made
abbrev n__law_made : List Str := ["_law_things", "e"]
theorem sc__law_made : FnScope n__law_made ["_law_things"] (defScope s__law_made) := ⟨rfl, rfl, rfl, by decide +kernel, rfl, by decide +kernel, by decide +kernel⟩
def tb__law_made_1 : En → SRs := (exS (frzD (makeD "Start" 3 f_Start____init__ [(op2 (.va 0) (.ex (cD (.int 0))) semAt), (op2 (.va 0) (.ex (cD (.int 1))) semAt), (op2 (.va 0) (.ex (cD (.int 2))) semAt)])))
def sx__law_made_1 : En → SRs := (rtS (shD (ifD (andT (toB (isxD 1 (tabB tb_Wrong))) (notT (toB (isxD 1 (tabB tb_NoRow))))) (xfD' 1 "place" ["Wrong"]) (cD (.str "other")))))
def m__law_made : En → SRs :=
    (seqS (tryS (tabB tb_PickError) 1 tb__law_made_1 sx__law_made_1)
    (rtS (shD (cD (.str "made")))))
def f__law_made : List D → Option OV := fnP 2 m__law_made
theorem ok__law_made {f : Addr} {fd : FuncData} (fa : Fa K w mg base) (h_Start____init__ : HasI P w K mg base 6 "Start" 3 f_Start____init__) (F : Fun K "_law_made" "_law_made" s__law_made f fd) : FnG P w K mg base CX0 8 f fd ["_law_things"] (spP K 1 f__law_made) := by
  have nd := sc__law_made.nd
  unfold f__law_made
  refine fnP_ok (k := 7) (m := m__law_made) F sc__law_made rfl rfl fun cdv A outer s H E g hgd hr hB0 hW hWn hxc => ?_
  have hB := nb00 hB0
  unfold m__law_made
  exact (ds_cons (ds_try rfl rfl nd rfl rfl ⟨rfl, by decide, .inl fa.mc_PickError⟩ (TkG.none hWn) hxc (nb hB 1 (by decide)) fa.ct_PickError (fun _ _ g1 t1 tk1 po1 => (ds_one (ds_expr (DO.fz (do_make h_Start____init__ hgd (hr.mono (by decide)) tk1 (da_cons (de_ix (ixAt (u65 hr)) (db_var 0 (pv 0)) (DE.opd de_int) (fun _ _ => rfl)) (da_cons (de_ix (ixAt (u65 hr)) (db_var 0 (pv 0)) (DE.opd de_int) (fun _ _ => rfl)) (da_cons (de_ix (ixAt (u65 hr)) (db_var 0 (pv 0)) (DE.opd de_int) (fun _ _ => rfl)) da_nil)))))))) (fun _ _ _ _ _ g1 t1 hz hv => (ds_one (ds_ret (DE.shd (de_if (DW.dt (dw_and (dt_val (de_isx (v := .ref fa.C_Wrong) fa.ix_Wrong hz hv t1.xc fa.b_isinstance (pv 1) fa.mc_Wrong rfl (fun _ z => z))) (dw_and1 (dt_not (dt_val (de_isx (v := .ref fa.C_NoRow) fa.ix_NoRow hz hv t1.xc fa.b_isinstance (pv 1) fa.mc_NoRow rfl (fun _ z => z))))))) (de_xf fa.xf_place hz hv t1.xc (pv 1)) de_str))))))
    (ds_one (ds_ret (DE.shd de_str))))
theorem has__law_made (fa : Fa K w mg base) (h_Start____init__ : HasI P w K mg base 6 "Start" 3 f_Start____init__) (F : FnAt K mg "_law_made" s__law_made) : HasP P w K mg base 8 "_law_made" 1 f__law_made := by
  obtain ⟨f, fd, F, hm⟩ := F
  exact ⟨f, fd, ["_law_things"], ok__law_made fa h_Start____init__ F, hm, F.kp, F.binds fun _ _ _ _ _ _ us hl => match us, hl with | [_], _ => rfl⟩
abbrev s_law : Stmt := topS 39
abbrev s_law_sc : Scope := defScope s_law
abbrev n_law : List Str := ["_law_script", "_law_bag_here", "_law_spin", "_law_world_here", "_law_things", "_law_start", "_law_k", "_law_bend", "_law_wrong", "_law_due", "_law_shown", "_law_again"]
theorem sc_law : FnScope n_law ["_law_script"] (defScope s_law) := ⟨rfl, rfl, rfl, by decide +kernel, rfl, by decide +kernel, by decide +kernel⟩
def it_law_1 : En → Rs (List D) := (rg1 (op2 (.ex (frzD (lstD [(cD (.int 0)), (cD (.int 0)), (cD (.int 1)), (cD (.int 2))]))) (.ex (frzD (callB 1 f__law_take 1 [(cD (.int 4))]))) semAt))
def bd_law_1 : En → SRs := (putS 4 (vD 6) (frzD (callB 1 (f__law_spoilt 8) 1 [(op2 (.va 4) (.va 6) semAt)])))
def fr_law_1 : En → SRs := forD it_law_1 (gN 7) bd_law_1
def it_law_2 : En → Rs (List D) := (rg1 (cD (.int 3)))
def bd_law_2 : En → SRs := fr_law_1
def fr_law_2 : En → SRs := forD it_law_2 (gN 6) bd_law_2
def it_law_3 : En → Rs (List D) := (rg1 (cD (.int 2)))
def bd_law_3 : En → SRs := (seqS (ifS (orT (notT (toB (frzD (callP 2 f__law_alike [(frzD (callL 1 f__law_made [(.va 4)])), (vD 9)])))) (toB (op2 (.ex (opN [(.va 4)] semRepr)) (.va 10) semNe))) (rtS (shD (cD (.bl false)))) nxS)
    (ifS (notT (toB (frzD (callP 2 f__law_alike [(frzD (callP 2 f__law_aimed [(vD 5), (op2 (.va 4) (.ex (cD (.int 2))) semAt)])), (ifD (toT (.ex (op2 (.va 8) (.ex (cD (.int 2))) semAt))) (op2 (.va 4) (.ex (cD (.int 2))) semAt) (cD (.int 0)))])))) (rtS (shD (cD (.bl false)))) nxS))
def fr_law_3 : En → SRs := forD it_law_3 (gN 11) bd_law_3
def it_law_4 : En → Rs (List D) := (rg1 (cD (.int 8)))
def bd_law_4 : En → SRs := (seqS (setS 3 (shD (frzD (callB 0 f__law_world 1 []))))
    (seqS (setS 4 (lstD [(frzD (callB 2 f__law_rows 1 [(vD 3), (cD (.int 4))])), (opN [(.ex (frzD (callB 2 f__law_rows 1 [(vD 3), (cD (.int 3))])))] semTuple), (frzD (callB 1 f__law_atom 1 [(op2 (.va 3) (.ex (cD (.str "things"))) semAt)]))]))
    (seqS (setS 5 (shD (frzD (makeD "Start" 3 f_Start____init__ [(op2 (.va 4) (.ex (cD (.int 0))) semAt), (op2 (.va 4) (.ex (cD (.int 1))) semAt), (op2 (.va 4) (.ex (cD (.int 2))) semAt)]))))
    (seqS fr_law_2
    (seqS (ifS (toB (op2 (.ex (frzD (callB 1 f__law_take 1 [(cD (.int 6))]))) (.ex (cD (.int 0))) semEq)) (putS 4 (frzD (callB 1 f__law_take 1 [(cD (.int 3))])) (op2 (.ex (frzD (lstD [(cD .non)]))) (.ex (cD (.int 900))) semMul)) nxS)
    (seqS (setS 8 (shD (frzD (lstD [(frzD (callP 1 f__law_are_rows [(op2 (.va 4) (.ex (cD (.int 0))) semAt)])), (frzD (callP 1 f__law_are_rows [(op2 (.va 4) (.ex (cD (.int 1))) semAt)])), (frzD (callP 2 f__law_is_atom [(op2 (.va 4) (.ex (cD (.int 2))) semAt), (cD (.int 1))]))]))))
    (seqS (setS 9 (shD (ifD (toB (op2 (.ex (cD (.bl false))) (.va 8) semIn2)) (mLD (.va 8) [(.ex (cD (.bl false)))] semLIndex) (cD (.str "made")))))
    (seqS (setS 10 (shD (opN [(.va 4)] semRepr)))
    fr_law_3))))))))
def fr_law_4 : En → SRs := forD it_law_4 (gN 2) bd_law_4
def m_law : En → SRs :=
    (seqS (setS 1 (callP 1 f__law_bag [(vD 0)]))
    (seqS fr_law_4
    (rtS (shD (cD (.bl true))))))
def f_law : List D → Option OV := fnP 12 m_law
theorem ok_law {f : Addr} {fd : FuncData} (fa : Fa K w mg base) (h__law_bag : HasP P w K mg base 1 "_law_bag" 1 f__law_bag) (h__law_world : HasB P w K mg base 3 "_law_world" 0 f__law_world) (h__law_rows : HasB P w K mg base 6 "_law_rows" 2 f__law_rows) (h__law_atom : HasB P w K mg base 3 "_law_atom" 1 f__law_atom) (h_Start____init__ : HasI P w K mg base 6 "Start" 3 f_Start____init__) (h__law_take : HasB P w K mg base 1 "_law_take" 1 f__law_take) (h__law_spoilt : HasB P w K mg base 12 "_law_spoilt" 1 (f__law_spoilt 8)) (h__law_are_rows : HasP P w K mg base 5 "_law_are_rows" 1 f__law_are_rows) (h__law_is_atom : HasP P w K mg base 2 "_law_is_atom" 2 f__law_is_atom) (h__law_alike : HasP P w K mg base 1 "_law_alike" 2 f__law_alike) (h__law_made : HasP P w K mg base 8 "_law_made" 1 f__law_made) (h__law_aimed : HasP P w K mg base 9 "_law_aimed" 2 f__law_aimed) (F : Fun K "law" "law" s_law f fd) : FnG P w K mg base CX0 13 f fd ["_law_script"] (spP K 1 f_law) := by
  have nd := sc_law.nd
  unfold f_law
  refine fnP_ok (k := 12) (m := m_law) F sc_law rfl rfl fun cdv A outer s H E g hgd hr hB0 hW hWn hxc => ?_
  have hB := nb00 hB0
  unfold m_law
  exact (ds_cons (ds_set (i := 1) (nb hB 1 (by decide)) nd (do_callP h__law_bag hgd (hr.mono (by decide)) (da_cons (de_var 0 (nb hB 0 (by decide)) (pv 0)) da_nil)))
    (ds_cons (ds_for PassesOwn.never rfl (di_range1 rfl fa.b_range de_int) (dg_name (i := 2) (nb hB 2 (by decide)) nd) (ds_cons (ds_set (i := 3) (nb hB 3 (by decide)) nd (DE.shd (DO.fz (do_callB h__law_world hgd (hr.mono (by decide)) (pv 1) da_nil))))
    (ds_cons (ds_set (i := 4) (nb hB 4 (by decide)) nd (do_lst (da_cons (DO.fz (do_callB h__law_rows hgd (hr.mono (by decide)) (pv 1) (da_cons (de_var 3 (nb hB 3 (by decide)) (pv 3)) (da_cons de_int da_nil)))) (da_cons (de_callT cd_tuple fa.b_tuple (dbs_cons (DE.opd (DO.fz (do_callB h__law_rows hgd (hr.mono (by decide)) (pv 1) (da_cons (de_var 3 (nb hB 3 (by decide)) (pv 3)) (da_cons de_int da_nil))))) dbs_nil)) (da_cons (DO.fz (do_callB h__law_atom hgd (hr.mono (by decide)) (pv 1) (da_cons (de_ix (ixAt (u65 hr)) (db_var 3 (pv 3)) (DE.opd de_str) (fun _ _ => rfl)) da_nil))) da_nil)))))
    (ds_cons (ds_set (i := 5) (nb hB 5 (by decide)) nd (DE.shd (DO.fz (do_make h_Start____init__ hgd (hr.mono (by decide)) (TkG.none hWn) (da_cons (de_ix (ixAt (u65 hr)) (db_var 4 (pv 4)) (DE.opd de_int) (fun _ _ => rfl)) (da_cons (de_ix (ixAt (u65 hr)) (db_var 4 (pv 4)) (DE.opd de_int) (fun _ _ => rfl)) (da_cons (de_ix (ixAt (u65 hr)) (db_var 4 (pv 4)) (DE.opd de_int) (fun _ _ => rfl)) da_nil)))))))
    (ds_cons (ds_for PassesOwn.never rfl (di_range1 rfl fa.b_range de_int) (dg_name (i := 6) (nb hB 6 (by decide)) nd) (ds_one (ds_for PassesOwn.never rfl (di_range1 rfl fa.b_range (de_ix (ixAt (u65 hr)) (DE.opd (DO.fz (do_lst (da_cons de_int (da_cons de_int (da_cons de_int (da_cons de_int da_nil))))))) (DE.opd (DO.fz (do_callB h__law_take hgd (hr.mono (by decide)) (pv 1) (da_cons de_int da_nil)))) (fun _ _ => rfl))) (dg_name (i := 7) (nb hB 7 (by decide)) nd) (ds_one (ds_put (i := 4) (pv 4) (de_var 6 (nb hB 6 (by decide)) (pv 6)) (DO.fz (do_callB h__law_spoilt hgd (hr.mono (by decide)) (pv 1) (da_cons (de_ix (ixAt (u65 hr)) (db_var 4 (pv 4)) (db_var 6 (pv 6)) (fun _ _ => rfl)) da_nil))))))))
    (ds_cons (ds_if (dt_cmp (opd_eq hr.units) (DE.opd (DO.fz (do_callB h__law_take hgd (hr.mono (by decide)) (pv 1) (da_cons de_int da_nil)))) (DE.opd de_int) (nomark _)) (ds_one (ds_put (i := 4) (pv 4) (DO.fz (do_callB h__law_take hgd (hr.mono (by decide)) (pv 1) (da_cons de_int da_nil))) (de_op opd_mul (DE.opd (DO.fz (do_lst (da_cons de_non da_nil)))) (DE.opd de_int)))) ds_nil)
    (ds_cons (ds_set (i := 8) (nb hB 8 (by decide)) nd (DE.shd (DO.fz (do_lst (da_cons (DO.fz (do_callP h__law_are_rows hgd (hr.mono (by decide)) (da_cons (de_ix (ixAt (u65 hr)) (db_var 4 (pv 4)) (DE.opd de_int) (fun _ _ => rfl)) da_nil))) (da_cons (DO.fz (do_callP h__law_are_rows hgd (hr.mono (by decide)) (da_cons (de_ix (ixAt (u65 hr)) (db_var 4 (pv 4)) (DE.opd de_int) (fun _ _ => rfl)) da_nil))) (da_cons (DO.fz (do_callP h__law_is_atom hgd (hr.mono (by decide)) (da_cons (de_ix (ixAt (u65 hr)) (db_var 4 (pv 4)) (DE.opd de_int) (fun _ _ => rfl)) (da_cons de_int da_nil)))) da_nil)))))))
    (ds_cons (ds_set (i := 9) (nb hB 9 (by decide)) nd (DE.shd (de_if (dt_cmp (opd_in2 (u65 hr)) (DE.opd de_bl) (db_var 8 (pv 8)) rfl) (de_mL PySem.F.slot_list_index PySem.F.type_list_index (md_lindex (u65 hr)) (db_var 8 (pv 8)) (dbs_cons (DE.opd de_bl) dbs_nil)) de_str)))
    (ds_cons (ds_set (i := 10) (nb hB 10 (by decide)) nd (DE.shd (de_callB (cd_repr hgd hr fa.sy) fa.b_repr (dbs_cons (db_var 4 (pv 4)) dbs_nil))))
    (ds_one (ds_for PassesOwn.never rfl (di_range1 rfl fa.b_range de_int) (dg_name (i := 11) (nb hB 11 (by decide)) nd) (ds_cons (ds_if (DW.dt (dw_or (dt_not (dt_val (DO.fz (do_callP h__law_alike hgd (hr.mono (by decide)) (da_cons (DO.fz (do_callL h__law_made hgd (hr.mono (by decide)) (dbs_cons (db_var 4 (pv 4)) dbs_nil))) (da_cons (de_var 9 (nb hB 9 (by decide)) (pv 9)) da_nil)))))) (dw_or1 (dt_cmp (opd_ne hr.units) (DE.opd (de_callB (cd_repr hgd hr fa.sy) fa.b_repr (dbs_cons (db_var 4 (pv 4)) dbs_nil))) (db_var 10 (pv 10)) (nomark _))))) (ds_one (ds_ret (DE.shd de_bl))) ds_nil)
    (ds_one (ds_if (dt_not (dt_val (DO.fz (do_callP h__law_alike hgd (hr.mono (by decide)) (da_cons (DO.fz (do_callP h__law_aimed hgd (hr.mono (by decide)) (da_cons (de_var 5 (nb hB 5 (by decide)) (pv 5)) (da_cons (de_ix (ixAt (u65 hr)) (db_var 4 (pv 4)) (DE.opd de_int) (fun _ _ => rfl)) da_nil)))) (da_cons (de_if (dt_tru (DE.opd (de_ix (ixAt (u65 hr)) (db_var 8 (pv 8)) (DE.opd de_int) (fun _ _ => rfl)))) (de_ix (ixAt (u65 hr)) (db_var 4 (pv 4)) (DE.opd de_int) (fun _ _ => rfl)) de_int) da_nil)))))) (ds_one (ds_ret (DE.shd de_bl))) ds_nil))))))))))))))
    (ds_one (ds_ret (DE.shd de_bl)))))
theorem has_law (fa : Fa K w mg base) (h__law_bag : HasP P w K mg base 1 "_law_bag" 1 f__law_bag) (h__law_world : HasB P w K mg base 3 "_law_world" 0 f__law_world) (h__law_rows : HasB P w K mg base 6 "_law_rows" 2 f__law_rows) (h__law_atom : HasB P w K mg base 3 "_law_atom" 1 f__law_atom) (h_Start____init__ : HasI P w K mg base 6 "Start" 3 f_Start____init__) (h__law_take : HasB P w K mg base 1 "_law_take" 1 f__law_take) (h__law_spoilt : HasB P w K mg base 12 "_law_spoilt" 1 (f__law_spoilt 8)) (h__law_are_rows : HasP P w K mg base 5 "_law_are_rows" 1 f__law_are_rows) (h__law_is_atom : HasP P w K mg base 2 "_law_is_atom" 2 f__law_is_atom) (h__law_alike : HasP P w K mg base 1 "_law_alike" 2 f__law_alike) (h__law_made : HasP P w K mg base 8 "_law_made" 1 f__law_made) (h__law_aimed : HasP P w K mg base 9 "_law_aimed" 2 f__law_aimed) (F : FnAt K mg "law" s_law) : HasP P w K mg base 13 "law" 1 f_law := by
  obtain ⟨f, fd, F, hm⟩ := F
  exact ⟨f, fd, ["_law_script"], ok_law fa h__law_bag h__law_world h__law_rows h__law_atom h_Start____init__ h__law_take h__law_spoilt h__law_are_rows h__law_is_atom h__law_alike h__law_made h__law_aimed F, hm, F.kp, F.binds fun _ _ _ _ _ _ us hl => match us, hl with | [_], _ => rfl⟩
end
theorem all_mk {l : PySem.W.OpenLaw} {w : World} {K : PySem.W.Frag} {h : Heap} {mg : Str → Option Value} {fz : Addr} (inK : K.In h) (ns : h.Ns mainGlobals mg) (hfz : mg "law" = some (.ref fz))
    {od1 an1 : Option Addr} {sl1 : Array (Option Value)} {oc1 kV1 dc1 pm1 cd1 ct1 : Value} {x1 : Addr}
    {od2 an2 : Option Addr} {sl2 : Array (Option Value)} {oc2 kV2 dc2 pm2 cd2 ct2 : Value} {x2 : Addr}
    {od3 an3 : Option Addr} {sl3 : Array (Option Value)} {oc3 kV3 dc3 pm3 cd3 ct3 : Value} {x3 : Addr}
    {od4 an4 : Option Addr} {sl4 : Array (Option Value)} {oc4 kV4 dc4 pm4 cd4 ct4 : Value} {x4 : Addr}
    {od5 an5 : Option Addr} {sl5 : Array (Option Value)} {oc5 kV5 dc5 pm5 cd5 ct5 : Value} {x5 : Addr}
    {od6 an6 : Option Addr} {sl6 : Array (Option Value)} {oc6 kV6 dc6 pm6 cd6 ct6 : Value} {x6 : Addr}
    {od7 an7 : Option Addr} {sl7 : Array (Option Value)} {oc7 kV7 dc7 pm7 cd7 ct7 : Value} {x7 : Addr}
    {od8 an8 : Option Addr} {sl8 : Array (Option Value)} {oc8 kV8 dc8 pm8 cd8 ct8 : Value} {x8 : Addr}
    {od9 an9 : Option Addr} {sl9 : Array (Option Value)} {oc9 kV9 dc9 pm9 cd9 ct9 : Value} {x9 : Addr}
    {od10 an10 : Option Addr} {sl10 : Array (Option Value)} {oc10 kV10 dc10 pm10 cd10 ct10 : Value} {x10 : Addr}
    {od11 an11 : Option Addr} {sl11 : Array (Option Value)} {oc11 kV11 dc11 pm11 cd11 ct11 : Value} {x11 : Addr}
    {od12 an12 : Option Addr} {sl12 : Array (Option Value)} {oc12 kV12 dc12 pm12 cd12 ct12 : Value} {x12 : Addr}
    {od13 an13 : Option Addr} {sl13 : Array (Option Value)} {oc13 kV13 dc13 pm13 cd13 ct13 : Value} {x13 : Addr}
    {od14 an14 : Option Addr} {sl14 : Array (Option Value)} {oc14 kV14 dc14 pm14 cd14 ct14 : Value} {x14 : Addr}
    {od15 an15 : Option Addr} {sl15 : Array (Option Value)} {oc15 kV15 dc15 pm15 cd15 ct15 : Value} {x15 : Addr}
    {od16 an16 : Option Addr} {sl16 : Array (Option Value)} {oc16 kV16 dc16 pm16 cd16 ct16 : Value} {x16 : Addr}
    {od17 an17 : Option Addr} {sl17 : Array (Option Value)} {oc17 kV17 dc17 pm17 cd17 ct17 : Value} {x17 : Addr}
    {od18 an18 : Option Addr} {sl18 : Array (Option Value)} {oc18 kV18 dc18 pm18 cd18 ct18 : Value} {x18 : Addr}
    {od19 an19 : Option Addr} {sl19 : Array (Option Value)} {oc19 kV19 dc19 pm19 cd19 ct19 : Value} {x19 : Addr}
    {od20 an20 : Option Addr} {sl20 : Array (Option Value)} {oc20 kV20 dc20 pm20 cd20 ct20 : Value} {x20 : Addr}
    {od21 an21 : Option Addr} {sl21 : Array (Option Value)} {oc21 kV21 dc21 pm21 cd21 ct21 : Value} {x21 : Addr}
    {od22 an22 : Option Addr} {sl22 : Array (Option Value)} {oc22 kV22 dc22 pm22 cd22 ct22 : Value} {x22 : Addr}
    {od23 an23 : Option Addr} {sl23 : Array (Option Value)} {oc23 kV23 dc23 pm23 cd23 ct23 : Value} {x23 : Addr}
    {od24 an24 : Option Addr} {sl24 : Array (Option Value)} {oc24 kV24 dc24 pm24 cd24 ct24 : Value} {x24 : Addr}
    {od25 an25 : Option Addr} {sl25 : Array (Option Value)} {oc25 kV25 dc25 pm25 cd25 ct25 : Value} {x25 : Addr}
    {od26 an26 : Option Addr} {sl26 : Array (Option Value)} {oc26 kV26 dc26 pm26 cd26 ct26 : Value} {x26 : Addr}
    {od27 an27 : Option Addr} {sl27 : Array (Option Value)} {oc27 kV27 dc27 pm27 cd27 ct27 : Value} {x27 : Addr}
    {od28 an28 : Option Addr} {sl28 : Array (Option Value)} {oc28 kV28 dc28 pm28 cd28 ct28 : Value} {x28 : Addr}
    {x_PickError : Addr} (ea_PickError : PySem.W.nsIn K mainGlobals "PickError" = some (some (.ref x_PickError)))
    {x_Wrong : Addr} (ea_Wrong : PySem.W.nsIn K mainGlobals "Wrong" = some (some (.ref x_Wrong)))
    {x_NoRow : Addr} (ea_NoRow : PySem.W.nsIn K mainGlobals "NoRow" = some (some (.ref x_NoRow)))
    {x_Start : Addr} (ea_Start : PySem.W.nsIn K mainGlobals "Start" = some (some (.ref x_Start)))
    (a1 : PySem.W.nsIn K mainGlobals "_law_bag" = some (some (.ref x1))) (l1 : K.lookup x1 = some ⟨oc1, od1, .func (PySem.W.fnOf "_law_bag" "_law_bag" (defArgs s__law_bag) (defBody s__law_bag) (defScope s__law_bag) .none kV1 dc1 pm1 an1 cd1 ct1), sl1⟩) (c1 : PySem.W.codeIn K cd1 "_law_bag" = true) (k1 : PySem.W.keepIn K (.ref x1) = true)
    (a2 : PySem.W.nsIn K mainGlobals "_law_take" = some (some (.ref x2))) (l2 : K.lookup x2 = some ⟨oc2, od2, .func (PySem.W.fnOf "_law_take" "_law_take" (defArgs s__law_take) (defBody s__law_take) (defScope s__law_take) .none kV2 dc2 pm2 an2 cd2 ct2), sl2⟩) (c2 : PySem.W.codeIn K cd2 "_law_take" = true) (k2 : PySem.W.keepIn K (.ref x2) = true)
    (a3 : PySem.W.nsIn K mainGlobals "_law_names" = some (some (.ref x3))) (l3 : K.lookup x3 = some ⟨oc3, od3, .func (PySem.W.fnOf "_law_names" "_law_names" (defArgs s__law_names) (defBody s__law_names) (defScope s__law_names) .none kV3 dc3 pm3 an3 cd3 ct3), sl3⟩) (c3 : PySem.W.codeIn K cd3 "_law_names" = true) (k3 : PySem.W.keepIn K (.ref x3) = true)
    (a4 : PySem.W.nsIn K mainGlobals "_law_world" = some (some (.ref x4))) (l4 : K.lookup x4 = some ⟨oc4, od4, .func (PySem.W.fnOf "_law_world" "_law_world" (defArgs s__law_world) (defBody s__law_world) (defScope s__law_world) .none kV4 dc4 pm4 an4 cd4 ct4), sl4⟩) (c4 : PySem.W.codeIn K cd4 "_law_world" = true) (k4 : PySem.W.keepIn K (.ref x4) = true)
    (a5 : PySem.W.nsIn K mainGlobals "is_name" = some (some (.ref x5))) (l5 : K.lookup x5 = some ⟨oc5, od5, .func (PySem.W.fnOf "is_name" "is_name" (defArgs s_is_name) (defBody s_is_name) (defScope s_is_name) .none kV5 dc5 pm5 an5 cd5 ct5), sl5⟩) (c5 : PySem.W.codeIn K cd5 "is_name" = true) (k5 : PySem.W.keepIn K (.ref x5) = true)
    (a6 : PySem.W.nsIn K mainGlobals "is_relation" = some (some (.ref x6))) (l6 : K.lookup x6 = some ⟨oc6, od6, .func (PySem.W.fnOf "is_relation" "is_relation" (defArgs s_is_relation) (defBody s_is_relation) (defScope s_is_relation) .none kV6 dc6 pm6 an6 cd6 ct6), sl6⟩) (c6 : PySem.W.codeIn K cd6 "is_relation" = true) (k6 : PySem.W.keepIn K (.ref x6) = true)
    (a7 : PySem.W.nsIn K mainGlobals "is_atom" = some (some (.ref x7))) (l7 : K.lookup x7 = some ⟨oc7, od7, .func (PySem.W.fnOf "is_atom" "is_atom" (defArgs s_is_atom) (defBody s_is_atom) (defScope s_is_atom) .none kV7 dc7 pm7 an7 cd7 ct7), sl7⟩) (c7 : PySem.W.codeIn K cd7 "is_atom" = true) (k7 : PySem.W.keepIn K (.ref x7) = true)
    (a8 : PySem.W.nsIn K mainGlobals "is_fact" = some (some (.ref x8))) (l8 : K.lookup x8 = some ⟨oc8, od8, .func (PySem.W.fnOf "is_fact" "is_fact" (defArgs s_is_fact) (defBody s_is_fact) (defScope s_is_fact) .none kV8 dc8 pm8 an8 cd8 ct8), sl8⟩) (c8 : PySem.W.codeIn K cd8 "is_fact" = true) (k8 : PySem.W.keepIn K (.ref x8) = true)
    (a9 : PySem.W.nsIn K mainGlobals "is_row" = some (some (.ref x9))) (l9 : K.lookup x9 = some ⟨oc9, od9, .func (PySem.W.fnOf "is_row" "is_row" (defArgs s_is_row) (defBody s_is_row) (defScope s_is_row) .none kV9 dc9 pm9 an9 cd9 ct9), sl9⟩) (c9 : PySem.W.codeIn K cd9 "is_row" = true) (k9 : PySem.W.keepIn K (.ref x9) = true)
    (a10 : PySem.W.nsIn K mainGlobals "are_rows" = some (some (.ref x10))) (l10 : K.lookup x10 = some ⟨oc10, od10, .func (PySem.W.fnOf "are_rows" "are_rows" (defArgs s_are_rows) (defBody s_are_rows) (defScope s_are_rows) .none kV10 dc10 pm10 an10 cd10 ct10), sl10⟩) (c10 : PySem.W.codeIn K cd10 "are_rows" = true) (k10 : PySem.W.keepIn K (.ref x10) = true)
    (a11 : PySem.W.findIn K (.ref x_Start) "__init__" = some (some (.ref x11))) (i11 : PySem.W.isFn K (.ref x11) = true) (l11 : K.lookup x11 = some ⟨oc11, od11, .func (PySem.W.fnOf "__init__" "Start.__init__" (defArgs s_Start____init__) (defBody s_Start____init__) (defScope s_Start____init__) .none kV11 dc11 pm11 an11 cd11 ct11), sl11⟩) (c11 : PySem.W.codeIn K cd11 "Start.__init__" = true) (k11 : PySem.W.keepIn K (.ref x11) = true)
    (a12 : PySem.W.nsIn K mainGlobals "_law_some" = some (some (.ref x12))) (l12 : K.lookup x12 = some ⟨oc12, od12, .func (PySem.W.fnOf "_law_some" "_law_some" (defArgs s__law_some) (defBody s__law_some) (defScope s__law_some) .none kV12 dc12 pm12 an12 cd12 ct12), sl12⟩) (c12 : PySem.W.codeIn K cd12 "_law_some" = true) (k12 : PySem.W.keepIn K (.ref x12) = true)
    (a13 : PySem.W.nsIn K mainGlobals "_law_atom" = some (some (.ref x13))) (l13 : K.lookup x13 = some ⟨oc13, od13, .func (PySem.W.fnOf "_law_atom" "_law_atom" (defArgs s__law_atom) (defBody s__law_atom) (defScope s__law_atom) .none kV13 dc13 pm13 an13 cd13 ct13), sl13⟩) (c13 : PySem.W.codeIn K cd13 "_law_atom" = true) (k13 : PySem.W.keepIn K (.ref x13) = true)
    (a14 : PySem.W.nsIn K mainGlobals "_law_fact" = some (some (.ref x14))) (l14 : K.lookup x14 = some ⟨oc14, od14, .func (PySem.W.fnOf "_law_fact" "_law_fact" (defArgs s__law_fact) (defBody s__law_fact) (defScope s__law_fact) .none kV14 dc14 pm14 an14 cd14 ct14), sl14⟩) (c14 : PySem.W.codeIn K cd14 "_law_fact" = true) (k14 : PySem.W.keepIn K (.ref x14) = true)
    (a15 : PySem.W.nsIn K mainGlobals "_law_row" = some (some (.ref x15))) (l15 : K.lookup x15 = some ⟨oc15, od15, .func (PySem.W.fnOf "_law_row" "_law_row" (defArgs s__law_row) (defBody s__law_row) (defScope s__law_row) .none kV15 dc15 pm15 an15 cd15 ct15), sl15⟩) (c15 : PySem.W.codeIn K cd15 "_law_row" = true) (k15 : PySem.W.keepIn K (.ref x15) = true)
    (a16 : PySem.W.nsIn K mainGlobals "_law_rows" = some (some (.ref x16))) (l16 : K.lookup x16 = some ⟨oc16, od16, .func (PySem.W.fnOf "_law_rows" "_law_rows" (defArgs s__law_rows) (defBody s__law_rows) (defScope s__law_rows) .none kV16 dc16 pm16 an16 cd16 ct16), sl16⟩) (c16 : PySem.W.codeIn K cd16 "_law_rows" = true) (k16 : PySem.W.keepIn K (.ref x16) = true)
    (a17 : PySem.W.nsIn K mainGlobals "_law_is_name" = some (some (.ref x17))) (l17 : K.lookup x17 = some ⟨oc17, od17, .func (PySem.W.fnOf "_law_is_name" "_law_is_name" (defArgs s__law_is_name) (defBody s__law_is_name) (defScope s__law_is_name) .none kV17 dc17 pm17 an17 cd17 ct17), sl17⟩) (c17 : PySem.W.codeIn K cd17 "_law_is_name" = true) (k17 : PySem.W.keepIn K (.ref x17) = true)
    (a18 : PySem.W.nsIn K mainGlobals "_law_is_atom" = some (some (.ref x18))) (l18 : K.lookup x18 = some ⟨oc18, od18, .func (PySem.W.fnOf "_law_is_atom" "_law_is_atom" (defArgs s__law_is_atom) (defBody s__law_is_atom) (defScope s__law_is_atom) .none kV18 dc18 pm18 an18 cd18 ct18), sl18⟩) (c18 : PySem.W.codeIn K cd18 "_law_is_atom" = true) (k18 : PySem.W.keepIn K (.ref x18) = true)
    (a19 : PySem.W.nsIn K mainGlobals "_law_is_fact" = some (some (.ref x19))) (l19 : K.lookup x19 = some ⟨oc19, od19, .func (PySem.W.fnOf "_law_is_fact" "_law_is_fact" (defArgs s__law_is_fact) (defBody s__law_is_fact) (defScope s__law_is_fact) .none kV19 dc19 pm19 an19 cd19 ct19), sl19⟩) (c19 : PySem.W.codeIn K cd19 "_law_is_fact" = true) (k19 : PySem.W.keepIn K (.ref x19) = true)
    (a20 : PySem.W.nsIn K mainGlobals "_law_is_row" = some (some (.ref x20))) (l20 : K.lookup x20 = some ⟨oc20, od20, .func (PySem.W.fnOf "_law_is_row" "_law_is_row" (defArgs s__law_is_row) (defBody s__law_is_row) (defScope s__law_is_row) .none kV20 dc20 pm20 an20 cd20 ct20), sl20⟩) (c20 : PySem.W.codeIn K cd20 "_law_is_row" = true) (k20 : PySem.W.keepIn K (.ref x20) = true)
    (a21 : PySem.W.nsIn K mainGlobals "_law_are_rows" = some (some (.ref x21))) (l21 : K.lookup x21 = some ⟨oc21, od21, .func (PySem.W.fnOf "_law_are_rows" "_law_are_rows" (defArgs s__law_are_rows) (defBody s__law_are_rows) (defScope s__law_are_rows) .none kV21 dc21 pm21 an21 cd21 ct21), sl21⟩) (c21 : PySem.W.codeIn K cd21 "_law_are_rows" = true) (k21 : PySem.W.keepIn K (.ref x21) = true)
    (a22 : PySem.W.nsIn K mainGlobals "_law_odd" = some (some (.ref x22))) (l22 : K.lookup x22 = some ⟨oc22, od22, .func (PySem.W.fnOf "_law_odd" "_law_odd" (defArgs s__law_odd) (defBody s__law_odd) (defScope s__law_odd) .none kV22 dc22 pm22 an22 cd22 ct22), sl22⟩) (c22 : PySem.W.codeIn K cd22 "_law_odd" = true) (k22 : PySem.W.keepIn K (.ref x22) = true)
    (a23 : PySem.W.nsIn K mainGlobals "_law_spoilt" = some (some (.ref x23))) (l23 : K.lookup x23 = some ⟨oc23, od23, .func (PySem.W.fnOf "_law_spoilt" "_law_spoilt" (defArgs s__law_spoilt) (defBody s__law_spoilt) (defScope s__law_spoilt) .none kV23 dc23 pm23 an23 cd23 ct23), sl23⟩) (c23 : PySem.W.codeIn K cd23 "_law_spoilt" = true) (k23 : PySem.W.keepIn K (.ref x23) = true)
    (a24 : PySem.W.nsIn K mainGlobals "_law_alike" = some (some (.ref x24))) (l24 : K.lookup x24 = some ⟨oc24, od24, .func (PySem.W.fnOf "_law_alike" "_law_alike" (defArgs s__law_alike) (defBody s__law_alike) (defScope s__law_alike) .none kV24 dc24 pm24 an24 cd24 ct24), sl24⟩) (c24 : PySem.W.codeIn K cd24 "_law_alike" = true) (k24 : PySem.W.keepIn K (.ref x24) = true)
    (a25 : PySem.W.findIn K (.ref x_Start) "with_aim" = some (some (.ref x25))) (i25 : PySem.W.isFn K (.ref x25) = true) (l25 : K.lookup x25 = some ⟨oc25, od25, .func (PySem.W.fnOf "with_aim" "Start.with_aim" (defArgs s_Start__with_aim) (defBody s_Start__with_aim) (defScope s_Start__with_aim) .none kV25 dc25 pm25 an25 cd25 ct25), sl25⟩) (c25 : PySem.W.codeIn K cd25 "Start.with_aim" = true) (k25 : PySem.W.keepIn K (.ref x25) = true)
    (a26 : PySem.W.nsIn K mainGlobals "_law_aimed" = some (some (.ref x26))) (l26 : K.lookup x26 = some ⟨oc26, od26, .func (PySem.W.fnOf "_law_aimed" "_law_aimed" (defArgs s__law_aimed) (defBody s__law_aimed) (defScope s__law_aimed) .none kV26 dc26 pm26 an26 cd26 ct26), sl26⟩) (c26 : PySem.W.codeIn K cd26 "_law_aimed" = true) (k26 : PySem.W.keepIn K (.ref x26) = true)
    (a27 : PySem.W.nsIn K mainGlobals "_law_made" = some (some (.ref x27))) (l27 : K.lookup x27 = some ⟨oc27, od27, .func (PySem.W.fnOf "_law_made" "_law_made" (defArgs s__law_made) (defBody s__law_made) (defScope s__law_made) .none kV27 dc27 pm27 an27 cd27 ct27), sl27⟩) (c27 : PySem.W.codeIn K cd27 "_law_made" = true) (k27 : PySem.W.keepIn K (.ref x27) = true)
    (a28 : PySem.W.nsIn K mainGlobals "law" = some (some (.ref x28))) (l28 : K.lookup x28 = some ⟨oc28, od28, .func (PySem.W.fnOf "law" "law" (defArgs s_law) (defBody s_law) (defScope s_law) .none kV28 dc28 pm28 an28 cd28 ct28), sl28⟩) (c28 : PySem.W.codeIn K cd28 "law" = true) (k28 : PySem.W.keepIn K (.ref x28) = true)
    {ft_LETTERS : Tok} (fv_LETTERS : PySem.W.nsIn K mainGlobals "LETTERS" = some (some (.str "abcdefghijklmnopqrstuvwxyz" ft_LETTERS)))
    {ft_MOST_LETTERS : Tok} (fv_MOST_LETTERS : PySem.W.nsIn K mainGlobals "MOST_LETTERS" = some (some (.int 8 ft_MOST_LETTERS)))
    {fx_RELATIONS : Addr} {fo_RELATIONS : Option Addr} {fn_RELATIONS : Nat} {fs_RELATIONS : Array (Option Value)} {ft_RELATIONS_0 : Tok} {ft_RELATIONS_1 : Tok} {ft_RELATIONS_2 : Tok} (fv_RELATIONS : PySem.W.nsIn K mainGlobals "RELATIONS" = some (some (.ref fx_RELATIONS))) (fl_RELATIONS : K.lookup fx_RELATIONS = some ⟨.type "tuple", fo_RELATIONS, .seq (List.toArray [.str "eq" ft_RELATIONS_0, .str "lt" ft_RELATIONS_1, .str "gt" ft_RELATIONS_2]) fn_RELATIONS, fs_RELATIONS⟩)
    (pg_Start : PySem.W.plainGet K x_Start Str.empty = true)
    (hd_Start : PySem.W.hasDictIn K x_Start = true)
    (po_Start : PySem.W.plainOver K x_Start = true)
    (sa_Start : PySem.W.findIn K (.ref x_Start) "__setattr__" = some (some (.builtin "object.__setattr__")))
    (mk_Start : PySem.W.makesIn K x_Start = true)
    (kc_Start : PySem.W.keepIn K (.ref x_Start) = true)
    (na_Start_its_aim : PySem.W.findIn K (.ref x_Start) "its_aim" = some none)
    (na_Start_its_rows : PySem.W.findIn K (.ref x_Start) "its_rows" = some none)
    {pp_Start_aim pq_Start_aim : Addr} {pr_Start_aim : List Value} {od_Start_aim an_Start_aim : Option Addr} {sl_Start_aim : Array (Option Value)} {oc_Start_aim kV_Start_aim dc_Start_aim pm_Start_aim cd_Start_aim ct_Start_aim : Value}
    (pa_Start_aim : PySem.W.findIn K (.ref x_Start) "aim" = some (some (.ref pp_Start_aim)))
    (pt_Start_aim : PySem.W.specialIn K (.ref pp_Start_aim) "__get__" = some (some (.builtin "property.__get__")))
    (pk_Start_aim : PySem.W.takesIn K (.ref pp_Start_aim) = some true)
    (pc_Start_aim : PySem.W.recIn K pp_Start_aim "property" = some (.ref pq_Start_aim :: pr_Start_aim))
    (pl_Start_aim : K.lookup pq_Start_aim = some ⟨oc_Start_aim, od_Start_aim, .func (PySem.W.fnOf "aim" "Start.aim" (defArgs g_Start_aim) (defBody g_Start_aim) (defScope g_Start_aim) .none kV_Start_aim dc_Start_aim pm_Start_aim an_Start_aim cd_Start_aim ct_Start_aim), sl_Start_aim⟩)
    (pd_Start_aim : PySem.W.codeIn K cd_Start_aim "Start.aim" = true)
    (pe_Start_aim : PySem.W.keepIn K (.ref pq_Start_aim) = true)
    {nm_Wrong qn_Wrong : Str} {nN_Wrong : Addr} {bs_Wrong : List Value} {sn_Wrong : List Str} {su_Wrong : List Value} {ab_Wrong : Bool} {co_Wrong : Option Bool} {dd_Wrong : Option Addr} {m0_Wrong m1_Wrong m2_Wrong m3_Wrong m5_Wrong : Option Value}
    (xl_Wrong : K.lookup x_Wrong = some (excClassObj nm_Wrong qn_Wrong x_Wrong nN_Wrong bs_Wrong [.ref x_PickError, .type "ValueError", .type "Exception", .type "BaseException", .type "object"] true sn_Wrong su_Wrong ab_Wrong co_Wrong dd_Wrong m0_Wrong m1_Wrong m2_Wrong m3_Wrong m5_Wrong "ValueError.__new__"))
    (es_Wrong : PySem.W.findIn K (.ref x_Wrong) "__setattr__" = some (some (.builtin "object.__setattr__")))
    (ec_Wrong : PySem.W.subIn K (.ref x_Wrong) (.type "BaseException") = some true)
    (et_Wrong : PySem.W.typeIn K (.ref x_Wrong) = some (.type "type"))
    (ek_Wrong : PySem.W.keepIn K (.ref x_Wrong) = true)
    (en_Wrong : PySem.W.findIn K (.ref x_Wrong) "place" = some none)
    {ei_Wrong : Addr} {eod_Wrong ean_Wrong : Option Addr} {esl_Wrong : Array (Option Value)} {eoc_Wrong ekV_Wrong edc_Wrong epm_Wrong ecd_Wrong ect_Wrong : Value}
    (ia_Wrong : PySem.W.findIn K (.ref x_Wrong) "__init__" = some (some (.ref ei_Wrong)))
    (it_Wrong : PySem.W.typeIn K (.ref ei_Wrong) = some (.type "function"))
    (il_Wrong : K.lookup ei_Wrong = some ⟨eoc_Wrong, eod_Wrong, .func (PySem.W.fnOf "__init__" "Wrong.__init__" (defArgs e_Wrong) (defBody e_Wrong) (defScope e_Wrong) .none ekV_Wrong edc_Wrong epm_Wrong ean_Wrong ecd_Wrong ect_Wrong), esl_Wrong⟩)
    (ic_Wrong : PySem.W.codeIn K ecd_Wrong "Wrong.__init__" = true)
    (ik_Wrong : PySem.W.keepIn K (.ref ei_Wrong) = true)
    (eg_Wrong : PySem.W.findIn K (.ref x_Wrong) "__getattribute__" = some (some (.builtin "BaseException.__getattribute__")))
    (eh_Wrong : PySem.W.findIn K (.ref x_Wrong) "__getattr__" = some none)
    (ed_Wrong : PySem.W.hasDictIn K x_Wrong = true)
    (sg : PySem.W.specialIn K (.builtin "object.__class__") "__get__" = some (some (.builtin "getset_descriptor.__get__")))
    (tg : PySem.W.takesIn K (.builtin "object.__class__") = some true)
    (ea2_Wrong : PySem.W.findIn K (.ref x_Wrong) "__class__" = some (some (.builtin "object.__class__")))
    (em_Wrong : PySem.W.mroIn K x_Wrong (.type "object") = some true)
    (tc_PickError : PySem.W.subIn K (.ref x_PickError) (.type "BaseException") = some true)
    (td_PickError : PySem.W.hasDictIn K x_PickError = true)
    (tt_PickError : PySem.W.typeIn K (.ref x_PickError) = some (.type "type"))
    (ts_PickError_Wrong : PySem.W.subIn K (.ref x_Wrong) (.ref x_PickError) = some true)
    (kd_NoRow : PySem.W.hasDictIn K x_NoRow = true)
    (ky_NoRow : PySem.W.typeIn K (.ref x_NoRow) = some (.type "type"))
    (ks_NoRow : PySem.W.subIn K (.ref x_NoRow) (.ref x_NoRow) = some true)
    (kt_NoRow_Wrong : PySem.W.subIn K (.ref x_Wrong) (.ref x_NoRow) = some false)
    (kd_Wrong : PySem.W.hasDictIn K x_Wrong = true)
    (ky_Wrong : PySem.W.typeIn K (.ref x_Wrong) = some (.type "type"))
    (ks_Wrong : PySem.W.subIn K (.ref x_Wrong) (.ref x_Wrong) = some true)
    (kt_Wrong_Wrong : PySem.W.subIn K (.ref x_Wrong) (.ref x_Wrong) = some true)
    (z_abs : PySem.W.nsIn K mainGlobals "abs" = some none)
    (z_all : PySem.W.nsIn K mainGlobals "all" = some none)
    (z_int : PySem.W.nsIn K mainGlobals "int" = some none)
    (z_isinstance : PySem.W.nsIn K mainGlobals "isinstance" = some none)
    (z_len : PySem.W.nsIn K mainGlobals "len" = some none)
    (z_list : PySem.W.nsIn K mainGlobals "list" = some none)
    (z_range : PySem.W.nsIn K mainGlobals "range" = some none)
    (z_repr : PySem.W.nsIn K mainGlobals "repr" = some none)
    (z_str : PySem.W.nsIn K mainGlobals "str" = some none)
    (z_tuple : PySem.W.nsIn K mainGlobals "tuple" = some none) :
    ∃ fd : FuncData, (∀ (s : Shared) (v : Value), BindsTo s fd ⟨[v], []⟩ [("_law_script", v)]) ∧ ∀ base : Heap, K.In base → base.Ns mainGlobals mg → SysAt base → FnG l.prog w K mg base CX0 13 fz fd ["_law_script"] (spP K 1 f_law) := by
  have ez := hfz.symm.trans (PySem.W.mg_of inK ns a28)
  cases ez
  have F1 := fun_mk (st := s__law_bag) l1 c1 k1
  have F2 := fun_mk (st := s__law_take) l2 c2 k2
  have F3 := fun_mk (st := s__law_names) l3 c3 k3
  have F4 := fun_mk (st := s__law_world) l4 c4 k4
  have F5 := fun_mk (st := s_is_name) l5 c5 k5
  have F6 := fun_mk (st := s_is_relation) l6 c6 k6
  have F7 := fun_mk (st := s_is_atom) l7 c7 k7
  have F8 := fun_mk (st := s_is_fact) l8 c8 k8
  have F9 := fun_mk (st := s_is_row) l9 c9 k9
  have F10 := fun_mk (st := s_are_rows) l10 c10 k10
  have F11 := fun_mk (st := s_Start____init__) l11 c11 k11
  have F12 := fun_mk (st := s__law_some) l12 c12 k12
  have F13 := fun_mk (st := s__law_atom) l13 c13 k13
  have F14 := fun_mk (st := s__law_fact) l14 c14 k14
  have F15 := fun_mk (st := s__law_row) l15 c15 k15
  have F16 := fun_mk (st := s__law_rows) l16 c16 k16
  have F17 := fun_mk (st := s__law_is_name) l17 c17 k17
  have F18 := fun_mk (st := s__law_is_atom) l18 c18 k18
  have F19 := fun_mk (st := s__law_is_fact) l19 c19 k19
  have F20 := fun_mk (st := s__law_is_row) l20 c20 k20
  have F21 := fun_mk (st := s__law_are_rows) l21 c21 k21
  have F22 := fun_mk (st := s__law_odd) l22 c22 k22
  have F23 := fun_mk (st := s__law_spoilt) l23 c23 k23
  have F24 := fun_mk (st := s__law_alike) l24 c24 k24
  have F25 := fun_mk (st := s_Start__with_aim) l25 c25 k25
  have F26 := fun_mk (st := s__law_aimed) l26 c26 k26
  have F27 := fun_mk (st := s__law_made) l27 c27 k27
  have F28 := fun_mk (st := s_law) l28 c28 k28
  refine ⟨PySem.W.fnOf "law" "law" (defArgs s_law) (defBody s_law) (defScope s_law) .none kV28 dc28 pm28 an28 cd28 ct28, fun s v => .of_eq rfl, fun base _ _ sy => ?_⟩
  have fa : Fa K w mg base := {
    sy := sy,
    v_LETTERS := .str "abcdefghijklmnopqrstuvwxyz",
    u_LETTERS := _,
    m_LETTERS := PySem.W.mg_of inK ns fv_LETTERS,
    r_LETTERS := ⟨_, rfl⟩,
    d_LETTERS := fun F => .str _,
    v_MOST_LETTERS := .int 8,
    u_MOST_LETTERS := _,
    m_MOST_LETTERS := PySem.W.mg_of inK ns fv_MOST_LETTERS,
    r_MOST_LETTERS := ⟨_, rfl⟩,
    d_MOST_LETTERS := fun F => .int _,
    v_RELATIONS := .ref fx_RELATIONS,
    u_RELATIONS := _,
    m_RELATIONS := PySem.W.mg_of inK ns fv_RELATIONS,
    r_RELATIONS := rfl,
    d_RELATIONS := fun F => .tup (xs := [.str "eq", .str "lt", .str "gt"]) (.inr ⟨_, _, fn_RELATIONS, fl_RELATIONS, rfl, rfl, by show 3 ≤ sizeLine; decide, (.cons ⟨_, rfl⟩ (.cons ⟨_, rfl⟩ (.cons ⟨_, rfl⟩ .nil)))⟩) (.cons (.str _) (.cons (.str _) (.cons (.str _) .nil))),
    C_NoRow := x_NoRow,
    mc_NoRow := PySem.W.mg_of inK ns ea_NoRow,
    C_PickError := x_PickError,
    mc_PickError := PySem.W.mg_of inK ns ea_PickError,
    C_Wrong := x_Wrong,
    mc_Wrong := PySem.W.mg_of inK ns ea_Wrong,
    ct_PickError := ct_of (fun p hp => by
      simp only [tb_PickError, List.mem_cons, List.not_mem_nil, or_false] at hp
      rcases hp with rfl
      · exact ⟨x_Wrong, ea_Wrong, PySem.W.exm_ref tc_PickError td_PickError tt_PickError ts_PickError_Wrong⟩),
    ix_NoRow := isT_of (fun p hp => by
      simp only [tb_NoRow, List.mem_cons, List.not_mem_nil, or_false] at hp
      rcases hp with rfl
      · exact ⟨x_Wrong, ea_Wrong, ⟨eg_Wrong, eh_Wrong, ec_Wrong, ed_Wrong, ea2_Wrong, sg, tg, em_Wrong⟩, kit_ref kd_NoRow ky_NoRow ks_NoRow kt_NoRow_Wrong⟩),
    ix_Wrong := isT_of (fun p hp => by
      simp only [tb_Wrong, List.mem_cons, List.not_mem_nil, or_false] at hp
      rcases hp with rfl
      · exact ⟨x_Wrong, ea_Wrong, ⟨eg_Wrong, eh_Wrong, ec_Wrong, ed_Wrong, ea2_Wrong, sg, tg, em_Wrong⟩, kit_ref kd_Wrong ky_Wrong ks_Wrong kt_Wrong_Wrong⟩),
    xf_place := xfT_of (fun p hp => by
      simp only [List.mem_cons, List.not_mem_nil, or_false] at hp
      rcases hp with rfl
      · exact ⟨x_Wrong, ea_Wrong, ⟨eg_Wrong, eh_Wrong, ec_Wrong, ed_Wrong⟩, en_Wrong⟩),
    fl_Start_its_aim := FldOk.of ea_Start ⟨pg_Start, hd_Start, po_Start, sa_Start⟩ na_Start_its_aim,
    fl_Start_its_rows := FldOk.of ea_Start ⟨pg_Start, hd_Start, po_Start, sa_Start⟩ na_Start_its_rows,
    b_abs := PySem.W.mg_none_of inK ns z_abs,
    b_all := PySem.W.mg_none_of inK ns z_all,
    b_int := PySem.W.mg_none_of inK ns z_int,
    b_isinstance := PySem.W.mg_none_of inK ns z_isinstance,
    b_len := PySem.W.mg_none_of inK ns z_len,
    b_list := PySem.W.mg_none_of inK ns z_list,
    b_range := PySem.W.mg_none_of inK ns z_range,
    b_repr := PySem.W.mg_none_of inK ns z_repr,
    b_str := PySem.W.mg_none_of inK ns z_str,
    b_tuple := PySem.W.mg_none_of inK ns z_tuple }
  have E_Wrong := fun_mk (st := e_Wrong) il_Wrong ic_Wrong ik_Wrong
  have h_E_Wrong : HasE l.prog w K mg base "Wrong" "place" := ⟨x_Wrong, ei_Wrong, _, _, PySem.W.mg_of inK ns ea_Wrong, ea_Wrong, ⟨⟨_, _, _, _, _, _, _, _, _, _, _, _, _, _, _, xl_Wrong, rfl⟩, es_Wrong, ec_Wrong, et_Wrong, ek_Wrong⟩, en_Wrong, ia_Wrong, it_Wrong, errInit_ok E_Wrong esc_Wrong rfl (fun _ _ _ _ _ _ => pv 0) (fun _ _ _ _ _ _ => pv 1) (fun _ _ _ _ _ _ => rfl), E_Wrong.binds (ps := ["self", "place"]) fun _ _ _ _ _ _ us hl => match us, hl with | [_, _], _ => rfl⟩
  have h_G_Start_aim : HasG l.prog w K mg base "Start" "aim" "its_aim" := ⟨x_Start, pp_Start_aim, pq_Start_aim, _, ea_Start, ⟨pg_Start, hd_Start, po_Start, sa_Start⟩, ⟨pa_Start_aim, pt_Start_aim, pk_Start_aim, _, pc_Start_aim⟩, fn_getter pl_Start_aim pd_Start_aim gsc_Start_aim rfl rfl ⟨pg_Start, hd_Start, po_Start, sa_Start⟩ na_Start_its_aim, (fun_mk (st := g_Start_aim) pl_Start_aim pd_Start_aim pe_Start_aim).binds (ps := ["self"]) fun _ _ _ _ _ _ us hl => match us, hl with | [_], _ => rfl⟩
  have h__law_bag := has__law_bag (P := l.prog) (base := base) fa  ⟨_, _, F1, PySem.W.mg_of inK ns a1⟩
  have h__law_take := has__law_take (P := l.prog) (base := base) fa  ⟨_, _, F2, PySem.W.mg_of inK ns a2⟩
  have h__law_names := has__law_names (P := l.prog) (base := base) fa h__law_take ⟨_, _, F3, PySem.W.mg_of inK ns a3⟩
  have h__law_world := has__law_world (P := l.prog) (base := base) fa h__law_names h__law_take ⟨_, _, F4, PySem.W.mg_of inK ns a4⟩
  have h_is_name := has_is_name (P := l.prog) (base := base) fa  ⟨_, _, F5, PySem.W.mg_of inK ns a5⟩
  have h_is_relation := has_is_relation (P := l.prog) (base := base) fa  ⟨_, _, F6, PySem.W.mg_of inK ns a6⟩
  have h_is_atom := has_is_atom (P := l.prog) (base := base) fa h_is_name h_is_relation ⟨_, _, F7, PySem.W.mg_of inK ns a7⟩
  have h_is_fact := has_is_fact (P := l.prog) (base := base) fa h_is_atom ⟨_, _, F8, PySem.W.mg_of inK ns a8⟩
  have h_is_row := has_is_row (P := l.prog) (base := base) fa h_is_fact h_is_name ⟨_, _, F9, PySem.W.mg_of inK ns a9⟩
  have h_are_rows := has_are_rows (P := l.prog) (base := base) fa h_is_row ⟨_, _, F10, PySem.W.mg_of inK ns a10⟩
  have h_Start____init__ := has_Start____init__ (P := l.prog) (base := base) fa h_are_rows h_is_atom h_E_Wrong ⟨x_Start, _, _, PySem.W.mg_of inK ns ea_Start, ea_Start, ⟨mk_Start, a11, i11, kc_Start⟩, F11⟩
  have h__law_some := has__law_some (P := l.prog) (base := base) fa h__law_take ⟨_, _, F12, PySem.W.mg_of inK ns a12⟩
  have h__law_atom := has__law_atom (P := l.prog) (base := base) fa h__law_take h__law_some ⟨_, _, F13, PySem.W.mg_of inK ns a13⟩
  have h__law_fact := has__law_fact (P := l.prog) (base := base) fa h__law_take h__law_atom ⟨_, _, F14, PySem.W.mg_of inK ns a14⟩
  have h__law_row := has__law_row (P := l.prog) (base := base) fa h__law_some h__law_fact ⟨_, _, F15, PySem.W.mg_of inK ns a15⟩
  have h__law_rows := has__law_rows (P := l.prog) (base := base) fa h__law_take h__law_row ⟨_, _, F16, PySem.W.mg_of inK ns a16⟩
  have h__law_is_name := has__law_is_name (P := l.prog) (base := base) fa  ⟨_, _, F17, PySem.W.mg_of inK ns a17⟩
  have h__law_is_atom := has__law_is_atom (P := l.prog) (base := base) fa h__law_is_name ⟨_, _, F18, PySem.W.mg_of inK ns a18⟩
  have h__law_is_fact := has__law_is_fact (P := l.prog) (base := base) fa h__law_is_atom ⟨_, _, F19, PySem.W.mg_of inK ns a19⟩
  have h__law_is_row := has__law_is_row (P := l.prog) (base := base) fa h__law_is_fact h__law_is_name ⟨_, _, F20, PySem.W.mg_of inK ns a20⟩
  have h__law_are_rows := has__law_are_rows (P := l.prog) (base := base) fa h__law_is_row ⟨_, _, F21, PySem.W.mg_of inK ns a21⟩
  have h__law_odd := has__law_odd (P := l.prog) (base := base) fa h__law_some ⟨_, _, F22, PySem.W.mg_of inK ns a22⟩
  have h__law_spoilt := has__law_spoilt (P := l.prog) (base := base) fa h__law_take h__law_odd ⟨_, _, F23, PySem.W.mg_of inK ns a23⟩
  have h__law_alike := has__law_alike (P := l.prog) (base := base) fa  ⟨_, _, F24, PySem.W.mg_of inK ns a24⟩
  have h_Start__with_aim := has_Start__with_aim (P := l.prog) (base := base) fa h_is_atom h_Start____init__ h_E_Wrong ⟨x_Start, _, _, ea_Start, ⟨pg_Start, hd_Start, po_Start, sa_Start⟩, ⟨a25, i25, k25⟩, F25⟩
  have h__law_aimed := has__law_aimed (P := l.prog) (base := base) fa h_Start__with_aim h_G_Start_aim ⟨_, _, F26, PySem.W.mg_of inK ns a26⟩
  have h__law_made := has__law_made (P := l.prog) (base := base) fa h_Start____init__ ⟨_, _, F27, PySem.W.mg_of inK ns a27⟩
  exact ok_law fa h__law_bag h__law_world h__law_rows h__law_atom h_Start____init__ h__law_take h__law_spoilt h__law_are_rows h__law_is_atom h__law_alike h__law_made h__law_aimed F28
end T

-- needs: _law_bag _law_take
namespace T
open PySem L2 DL
/-! ### the bag -/
structure BagOk (bs : List D) : Prop where
  ex : ∃ (b0 b1 b2 : Int) (cs : List Int), bs = [.int b0, .int b1, .int b2, .lst (cs.map D.int)] ∧ 0 ≤ b0 ∧ 0 ≤ b1 ∧ b1 < 2147483647 ∧ 0 ≤ b2 ∧ (∀ c ∈ cs, 0 ≤ c) ∧ cs.length ≤ 63
set_option maxHeartbeats 2000000 in
theorem take1 (b0 b1 b2 n : Int) (cs : List Int) (h0 : 0 < b0) (hn : 0 < n) (hn2 : n < 1073741824) : f__law_take [.int b0, .int b1, .int b2, .lst (cs.map D.int)] [.int n] = some (.sh (.int (b0 % n)), [.int (b0 / n), .int b1, .int b2, .lst (cs.map D.int)]) := by
  have e0 : b0 ≠ 0 := by omega
  simp [f__law_take, m__law_take, fnB, fnP, Rs.noE, startE, seqS, ifS, thenS, toB, op2, opN, op1, Opd.run, fill, lookV, look, Rs.bind, Rs.map, ofO, cD, vD, semIx, semEq, semNe, eqB, D.sc, D.asB, atI, ixN, semGt, semGe, semLt, semLe, setS, putS, DL.putF, shD, frzD, mvD, rtS, chgS, fillW, OV.lst?, OV.d, nxS, runs, looks, semInt, semMod, semFdiv, semAdd, semSub, semMul, semAbs, semLen, semTuple, semList, lstD, tupD, evs, callP, callB, slD, poN, poS, semSl, D.asI, appS, appF, extS, extF, augS, augF, exS, ifD, andT, orT, notT, notD, andD, orD, par2, par3, asgS, gN, gT, gsCons, gsNil, forD, rg1, rg2, itA, D.items, zpD, zip2, zipD, lcD, yesT, wipeE, m1D, tabD, semIs, semIsNot, D.isN, semAt, semIn2, semNotIn2, inB2, toT, orV, andV, notV, D.tru, chD, isiD, D.isi, D.ty, isTy, D.key, evPs, dicD, semDict, pairD, mergeD, putD, valD, semRepr, callL, op2O, slO, opNO, lrgO, OV.flt, D.flt, semAddL, semMulL, semListL, mLD, popF, popS, insF, insS, clrS, revO, e0, h0, hn, hn2]
def cellAt (cs : List Int) (b2 : Int) : Int := ((cutL cs (some b2) none) ++ [0]).headD 0
set_option maxHeartbeats 4000000 in
theorem take0 (b1 b2 n : Int) (cs : List Int) (h1 : 0 ≤ b1) (h2 : b1 < 2147483647) (hb2 : 0 ≤ b2) (hc : ∀ c ∈ cs, 0 ≤ c) (hl : cs.length ≤ 63) (hn : 0 < n) (hn2 : n < 1073741824) :
    ∃ v bs', f__law_take [.int 0, .int b1, .int b2, .lst (cs.map D.int)] [.int n] = some (.sh (.int v), bs') ∧ 0 ≤ v ∧ v < n ∧ BagOk bs' := by
  obtain ⟨c, hcell, hc0⟩ : ∃ c : Int, (∃ rest, ((cutL cs (some b2) none).map D.int) ++ [D.int 0] = D.int c :: rest) ∧ 0 ≤ c := by
    cases e : cutL cs (some b2) none with
    | nil => exact ⟨0, ⟨[], rfl⟩, Int.le_refl 0⟩
    | cons c r => exact ⟨c, ⟨_, rfl⟩, hc c (cutL_mem (lo := some b2) (hi := none) (by rw [e]; exact List.mem_cons_self ..))⟩
  have hlen : (cutL cs (some b2) none).length + 1 ≤ 1000000 := by have := cutL_len cs (some b2) none; omega
  obtain ⟨rest, hcell⟩ := hcell
  have hm1 : -18446744073709551616 < b1 ∧ b1 < 18446744073709551616 := by omega
  have hm2 : -18446744073709551616 < b1 + 1 ∧ b1 + 1 < 18446744073709551616 := by omega
  have mix : ∀ x : Int, 0 ≤ x % 2147483647 ∧ x % 2147483647 < 2147483647 := fun x => ⟨Int.emod_nonneg _ (by decide), Int.emod_lt_of_pos _ (by decide)⟩
  by_cases hbig : 1000000000000000000 ≤ c
  · have hc1 : c ≠ 0 := by omega
    have hc2 : 0 < c := by omega
    refine ⟨c % n, [.int (c / n), .int ((b1 * 48271 + c % 2147483647 + 7919 * (b2 + 1)) % 2147483647), .int (b2 + 1), .lst (cs.map D.int)], ?_, Int.emod_nonneg _ (by omega), Int.emod_lt_of_pos _ hn, ⟨_, _, _, _, rfl, Int.ediv_nonneg (by omega) (by omega), (mix _).1, (mix _).2, by omega, hc, hl⟩⟩
    simp [f__law_take, m__law_take, fnB, fnP, Rs.noE, startE, seqS, ifS, thenS, toB, op2, opN, op1, Opd.run, fill, lookV, look, Rs.bind, Rs.map, ofO, cD, vD, semIx, semEq, semNe, eqB, D.sc, D.asB, atI, ixN, semGt, semGe, semLt, semLe, setS, putS, DL.putF, shD, frzD, mvD, rtS, chgS, fillW, OV.lst?, OV.d, nxS, runs, looks, semInt, semMod, semFdiv, semAdd, semSub, semMul, semAbs, semLen, semTuple, semList, lstD, tupD, evs, callP, callB, slD, poN, poS, semSl, D.asI, appS, appF, extS, extF, augS, augF, exS, ifD, andT, orT, notT, notD, andD, orD, par2, par3, asgS, gN, gT, gsCons, gsNil, forD, rg1, rg2, itA, D.items, zpD, zip2, zipD, lcD, yesT, wipeE, m1D, tabD, semIs, semIsNot, D.isN, semAt, semIn2, semNotIn2, inB2, toT, orV, andV, notV, D.tru, chD, isiD, D.isi, D.ty, isTy, D.key, evPs, dicD, semDict, pairD, mergeD, putD, valD, semRepr, callL, op2O, slO, opNO, lrgO, OV.flt, D.flt, semAddL, semMulL, semListL, mLD, popF, popS, insF, insS, clrS, revO, cutL_map, hcell, hlen, hbig, hc1, hc2, hn, hn2, hm1]
  · have hbig' : ¬ 1000000000000000000 ≤ c := hbig
    have key : ∀ x : Int, 0 ≤ x → x < 2147483647 → (-18446744073709551616 < x + 1 ∧ x + 1 < 18446744073709551616) := fun x a b => by omega
    have hq := mix (b1 * 48271 + c % 2147483647 + 7919 * (b2 + 1))
    generalize hm : (b1 * 48271 + c % 2147483647 + 7919 * (b2 + 1)) % 2147483647 = m at hq
    have g1 : ∀ x : Int, (-18446744073709551616 < x % 1000000007 ∧ x % 1000000007 < 18446744073709551616) := fun x => by omega
    have g2 : ∀ x : Int, (-18446744073709551616 < x % 998244353 ∧ x % 998244353 < 18446744073709551616) := fun x => by omega
    refine ⟨(((((m + 1) * 39373) % 1000000007 * (((m + 1) * 39373) % 1000000007)) % 998244353 * 30011) % 998244353 / 7) % n, [.int 0, .int m, .int (b2 + 1), .lst (cs.map D.int)], ?_, Int.emod_nonneg _ (by omega), Int.emod_lt_of_pos _ hn, ⟨_, _, _, _, rfl, Int.le_refl 0, hq.1, hq.2, by omega, hc, hl⟩⟩
    simp [f__law_take, m__law_take, fnB, fnP, Rs.noE, startE, seqS, ifS, thenS, toB, op2, opN, op1, Opd.run, fill, lookV, look, Rs.bind, Rs.map, ofO, cD, vD, semIx, semEq, semNe, eqB, D.sc, D.asB, atI, ixN, semGt, semGe, semLt, semLe, setS, putS, DL.putF, shD, frzD, mvD, rtS, chgS, fillW, OV.lst?, OV.d, nxS, runs, looks, semInt, semMod, semFdiv, semAdd, semSub, semMul, semAbs, semLen, semTuple, semList, lstD, tupD, evs, callP, callB, slD, poN, poS, semSl, D.asI, appS, appF, extS, extF, augS, augF, exS, ifD, andT, orT, notT, notD, andD, orD, par2, par3, asgS, gN, gT, gsCons, gsNil, forD, rg1, rg2, itA, D.items, zpD, zip2, zipD, lcD, yesT, wipeE, m1D, tabD, semIs, semIsNot, D.isN, semAt, semIn2, semNotIn2, inB2, toT, orV, andV, notV, D.tru, chD, isiD, D.isi, D.ty, isTy, D.key, evPs, dicD, semDict, pairD, mergeD, putD, valD, semRepr, callL, op2O, slO, opNO, lrgO, OV.flt, D.flt, semAddL, semMulL, semListL, mLD, popF, popS, insF, insS, clrS, revO, cutL_map, hcell, hlen, hbig, hn, hn2, hm1, hm, key m hq.1 hq.2, g1, g2]
theorem take_ok {bs : List D} (h : BagOk bs) {n : Int} (hn : 0 < n) (hn2 : n < 1073741824) : ∃ v bs', f__law_take bs [.int n] = some (.sh (.int v), bs') ∧ 0 ≤ v ∧ v < n ∧ BagOk bs' := by
  obtain ⟨b0, b1, b2, cs, rfl, h0, h1, h2, h3, h4, h5⟩ := h.ex
  by_cases e : b0 = 0
  · subst e
    exact take0 b1 b2 n cs h1 h2 h3 h4 h5 hn hn2
  · exact ⟨_, _, take1 b0 b1 b2 n cs (by omega) hn hn2, Int.emod_nonneg _ (by omega), Int.emod_lt_of_pos _ hn, ⟨_, _, _, _, rfl, Int.ediv_nonneg h0 (by omega), h1, h2, h3, h4, h5⟩⟩
/-! ### the bag made -/
set_option maxHeartbeats 2000000 in
theorem bag_ok (ns : List Int) : ∃ bs, f__law_bag [.scr ns] = some (.ow bs) ∧ BagOk bs := by
  have e := lcS_map (vs := [1]) (h := gN 1) (t := yesT) (elt := opN [.va 1] semAbs) (fun _ => true) (fun d => match d with | .int i => .int (if i < 0 then -i else i) | d => d) [some (.sh (.scr ns)), none] ((cutL ns none (some 63)).map D.int) (fun d hd => by
    obtain ⟨c, _, rfl⟩ := List.mem_map.mp hd
    refine ⟨[some (.sh (.scr ns)), some (.sh (.int c))], [some (.sh (.scr ns)), some (.sh (.int c))], rfl, rfl, rfl, fun _ => ⟨[some (.sh (.scr ns)), some (.sh (.int c))], ?_, rfl⟩⟩
    simp [fnB, fnP, Rs.noE, startE, seqS, ifS, thenS, toB, op2, opN, op1, Opd.run, fill, lookV, look, Rs.bind, Rs.map, ofO, cD, vD, semIx, semEq, semNe, eqB, D.sc, D.asB, atI, ixN, semGt, semGe, semLt, semLe, setS, putS, DL.putF, shD, frzD, mvD, rtS, chgS, fillW, OV.lst?, OV.d, nxS, runs, looks, semInt, semMod, semFdiv, semAdd, semSub, semMul, semAbs, semLen, semTuple, semList, lstD, tupD, evs, callP, callB, slD, poN, poS, semSl, D.asI, appS, appF, extS, extF, augS, augF, exS, ifD, andT, orT, notT, notD, andD, orD, par2, par3, asgS, gN, gT, gsCons, gsNil, forD, rg1, rg2, itA, D.items, zpD, zip2, zipD, lcD, yesT, wipeE, m1D, tabD, semIs, semIsNot, D.isN, semAt, semIn2, semNotIn2, inB2, toT, orV, andV, notV, D.tru, chD, isiD, D.isi, D.ty, isTy, D.key, evPs, dicD, semDict, pairD, mergeD, putD, valD, semRepr, callL, op2O, slO, opNO, lrgO, OV.flt, D.flt, semAddL, semMulL, semListL, mLD, popF, popS, insF, insS, clrS, revO])
  have hl : (cutL ns none (some 63)).length ≤ 63 := by
    unfold cutL
    rw [List.length_take, HT.sIx_none, show HT.sIx ns.length ns.length (some 63) = min 63 ns.length from HT.sIx_nat ns.length ns.length 63]
    omega
  have hl2 : (cutL ns none (some 63)).length ≤ 1000000 := by omega
  refine ⟨[.int 0, .int 1234567891, .int 0, .lst (((cutL ns none (some 63)).map fun i => if i < 0 then -i else i).map D.int)], ?_, ⟨0, 1234567891, 0, _, rfl, Int.le_refl 0, by decide, by decide, Int.le_refl 0, fun c hc => ?_, by rw [List.length_map]; exact hl⟩⟩
  · have e2 : List.map (fun d => match d with | .int i => D.int (if i < 0 then -i else i) | d => d) ((List.map D.int (cutL ns none (some 63))).filter fun _ => true) = ((cutL ns none (some 63)).map fun i => if i < 0 then -i else i).map D.int := by
      rw [List.filter_eq_self.mpr (fun _ _ => rfl), List.map_map, List.map_map]
      rfl
    rw [e2] at e
    have e1 : lcS [1] (gN 1) yesT (opN [.va 1] semAbs) ((cutL ns none (some 63)).map D.int) (some (.sh (.scr ns)) :: [none]) = .ok (((cutL ns none (some 63)).map fun i => if i < 0 then -i else i).map D.int) (some (.sh (.scr ns)) :: [none]) := e
    simp only [f__law_bag, m__law_bag, lc__law_bag_1, it__law_bag_1, el__law_bag_1, fnP, startE, rtS, thenS, lstD, evs, cD, Rs.bind, frzD, lcD, itA, slD, poN, poS, Opd.run, fill, look, lookV, ofO, semSl, D.asI, D.items, Rs.map, OV.d, List.map_cons, List.map_nil, List.length_cons, List.length_nil, List.replicate, List.cons_append, List.nil_append, List.getElem?_cons_zero, Option.bind_some, Option.map_some, List.length_map, Nat.sub_self, Nat.add_sub_cancel, Nat.zero_add, Nat.reduceSub, hl2, if_true, e1, wipeE, List.set_cons_succ, List.set_cons_zero]
    rfl
  · obtain ⟨i, _, rfl⟩ := List.mem_map.mp hc
    show 0 ≤ if i < 0 then -i else i
    split <;> omega

/-! ### names -/
abbrev LET : Str := "abcdefghijklmnopqrstuvwxyz"
abbrev WST : Str := "at as last like all name book goal with turn part drop call copy chain close eq lt gt put"
def WRD : List Str := ["at", "as", "last", "like", "all", "name", "book", "goal", "with", "turn", "part", "drop", "call", "copy", "chain", "close", "eq", "lt", "gt", "put"]
theorem let_codes : LET.cps.toList = (List.range 26).map (97 + ·) := by decide +kernel
theorem let_len : LET.length = 26 := by decide +kernel
theorem wst_split : Txt.split WST " " = WRD := by decide +kernel
theorem wst_len : WST.length ≤ 1000000 := by decide +kernel
theorem let_index : ∀ k : Fin 26, Builtin.Str.occurrences LET ⟨#[97 + k.val]⟩ 0 LET.length 1 = [k.val] := by decide +kernel
structure NameOk (x : Str) : Prop where
  pos : 0 < x.length
  most : x.length ≤ 8
  low : ∀ c ∈ x.cps.toList, 97 ≤ c ∧ c ≤ 122
def nameB (x : Str) : Bool := decide (0 < x.length) && decide (x.length ≤ 8) && x.cps.toList.all fun c => decide (97 ≤ c) && decide (c ≤ 122)
theorem nameB_ok {x : Str} (h : nameB x = true) : NameOk x := by
  unfold nameB at h
  simp only [Bool.and_eq_true, decide_eq_true_eq, List.all_eq_true] at h
  exact ⟨h.1.1, h.1.2, h.2⟩
theorem wrd_ok : ∀ x ∈ WRD, NameOk x := by
  have : WRD.all nameB = true := by decide +kernel
  exact fun x hx => nameB_ok (List.all_eq_true.mp this x hx)
theorem NameOk.fit {x : Str} (h : NameOk x) : (D.str x).fit = true := fit_str fun c hc => by have := h.low c hc; omega
theorem NameOk.pl {x : Str} (h : NameOk x) : (D.str x).pl = true := pl_of_fit h.fit
end T

-- needs: _law_names
namespace T
open PySem L2 DL
/-! ### one turn of names -/
def one (c : Nat) : Str := ⟨#[c]⟩
/-- the environment of names: the bag, how many, the names so far, the other slots -/
def envN (bs : List D) (m : Int) (xs : List Str) (o5 o6 o7 o8 o9 o10 o11 : Option OV) : En :=
  [some (.ow bs), some (.sh (.int m)), some (.sh (.str LET)), some (.ow (xs.map D.str)), some (.sh (.lst (WRD.map D.str))), o5, o6, o7, o8, o9, o10, o11]
theorem let_at {v : Int} (h0 : 0 ≤ v) (h : v < 26) : atI LET.cps.toList v = some (97 + v.toNat) := by
  have hl : LET.cps.toList.length = 26 := by rw [let_codes]; rfl
  unfold atI ixN
  rw [hl, if_pos h0, if_pos (show v < ((26 : Nat) : Int) from h)]
  show LET.cps.toList[v.toNat]? = _
  rw [let_codes, List.getElem?_map, List.getElem?_range (by omega)]
  rfl
set_option maxHeartbeats 2000000 in
/-- a sign drawn -/
theorem sign_ok {bs : List D} (hb : BagOk bs) (m : Int) (xs : List Str) (o5 o6 o7 o8 o9 o10 o11 : Option OV) :
    ∃ c bs', el__law_names_1 (envN bs m xs o5 o6 o7 o8 o9 o10 o11) = .ok (.str (one c)) (envN bs' m xs o5 o6 o7 o8 o9 o10 o11) ∧ 97 ≤ c ∧ c ≤ 122 ∧ BagOk bs' := by
  obtain ⟨v, bs', e, h0, h1, hb'⟩ := take_ok hb (n := 26) (by decide) (by decide)
  have hi := let_at h0 h1
  refine ⟨97 + v.toNat, bs', ?_, by omega, by omega, hb'⟩
  simp only [el__law_names_1, envN, fnB, fnP, Rs.noE, startE, seqS, ifS, thenS, toB, op2, opN, op1, Opd.run, fill, lookV, look, Rs.bind, Rs.map, ofO, cD, vD, D.asB, semGt, semGe, semLt, semLe, setS, putS, DL.putF, shD, frzD, mvD, rtS, chgS, fillW, OV.lst?, OV.d, nxS, runs, looks, semInt, semMod, semFdiv, semAdd, semSub, semMul, semAbs, semLen, semTuple, semList, lstD, tupD, evs, callP, callB, slD, poN, poS, semSl, D.asI, appS, appF, extS, extF, augS, augF, exS, ifD, andT, orT, notT, notD, andD, orD, par2, par3, asgS, gN, gT, gsCons, gsNil, forD, rg1, rg2, itA, zpD, zip2, zipD, lcD, yesT, wipeE, m1D, tabD, semIs, semIsNot, D.isN, toT, orV, andV, notV, D.tru, chD, isiD, D.key, evPs, dicD, semDict, pairD, semRepr, callL, op2O, slO, opNO, lrgO, OV.flt, D.flt, semAddL, semMulL, semListL, mLD, popF, popS, insF, insS, clrS, revO, Rs.noE, List.map_cons, List.map_nil, List.length_cons, List.length_nil, List.length_map, List.replicate, List.cons_append, List.nil_append, List.append_nil, List.getElem?_cons_zero, List.getElem?_cons_succ, List.set_cons_zero, List.set_cons_succ, Option.bind_some, Option.bind_none, Option.map_some, Option.map_none, Nat.zero_add, Nat.add_zero, Nat.reduceAdd, Nat.reduceSub, Nat.sub_self, Nat.reduceLeDiff, Nat.reduceEqDiff, Nat.le_refl, Nat.add_sub_cancel, if_true, if_false, Bool.false_eq_true, Bool.not_true, Bool.not_false, Bool.not_not, reduceIte, reduceCtorEq, and_self, and_true, true_and, decide_true, decide_false, semEq_str, semNe_str, semEq_int, semNe_int, semEq_bl, semNe_bl, atI0, atI1, atI2, atI3, atI4, OkS_nx, post_ok, items_lst, items_tup, semAt_lst, semAt_tup, semAt_str, semAt_dic, e, let_len, hi]
  rfl
set_option maxHeartbeats 2000000 in
theorem signs_ok {bs : List D} (hb : BagOk bs) (m : Int) (xs : List Str) (o5 o6 o7 o8 o9 o10 o11 : Option OV) :
    ∃ (cs : List Nat) (bs' : List D), lc__law_names_1 (envN bs m xs o5 o6 o7 o8 o9 o10 o11) = .ok (.ow (cs.map fun c => D.str (one c))) (envN bs' m xs o5 o6 none o8 o9 o10 o11) ∧ 0 < cs.length ∧ cs.length ≤ 8 ∧ cs.length ≠ 5 ∧ (∀ c ∈ cs, 97 ≤ c ∧ c ≤ 122) ∧ BagOk bs' := by
  obtain ⟨v, b1, e, h0, h1, hb1⟩ := take_ok hb (n := 4) (by decide) (by decide)
  obtain ⟨n, hn, hn1, hn2, hn5⟩ : ∃ n : Int, atI [D.int 1, D.int 2, D.int 8, D.int 4] v = some (.int n) ∧ 1 ≤ n ∧ n ≤ 8 ∧ n ≠ 5 := by
    have : v = 0 ∨ v = 1 ∨ v = 2 ∨ v = 3 := by omega
    rcases this with rfl | rfl | rfl | rfl
    · exact ⟨1, rfl, by decide, by decide, by decide⟩
    · exact ⟨2, rfl, by decide, by decide, by decide⟩
    · exact ⟨8, rfl, by decide, by decide, by decide⟩
    · exact ⟨4, rfl, by decide, by decide, by decide⟩
  have ei : it__law_names_1 (envN bs m xs o5 o6 o7 o8 o9 o10 o11) = .ok (rangeD 0 n.toNat) (envN b1 m xs o5 o6 o7 o8 o9 o10 o11) := by
    have hc : -1000000 ≤ n ∧ n ≤ 1000000 := by omega
    simp only [it__law_names_1, envN, fnB, fnP, Rs.noE, startE, seqS, ifS, thenS, toB, op2, opN, op1, Opd.run, fill, lookV, look, Rs.bind, Rs.map, ofO, cD, vD, D.asB, semGt, semGe, semLt, semLe, setS, putS, DL.putF, shD, frzD, mvD, rtS, chgS, fillW, OV.lst?, OV.d, nxS, runs, looks, semInt, semMod, semFdiv, semAdd, semSub, semMul, semAbs, semLen, semTuple, semList, lstD, tupD, evs, callP, callB, slD, poN, poS, semSl, D.asI, appS, appF, extS, extF, augS, augF, exS, ifD, andT, orT, notT, notD, andD, orD, par2, par3, asgS, gN, gT, gsCons, gsNil, forD, rg1, rg2, itA, zpD, zip2, zipD, lcD, yesT, wipeE, m1D, tabD, semIs, semIsNot, D.isN, toT, orV, andV, notV, D.tru, chD, isiD, D.key, evPs, dicD, semDict, pairD, semRepr, callL, op2O, slO, opNO, lrgO, OV.flt, D.flt, semAddL, semMulL, semListL, mLD, popF, popS, insF, insS, clrS, revO, Rs.noE, List.map_cons, List.map_nil, List.length_cons, List.length_nil, List.length_map, List.replicate, List.cons_append, List.nil_append, List.append_nil, List.getElem?_cons_zero, List.getElem?_cons_succ, List.set_cons_zero, List.set_cons_succ, Option.bind_some, Option.bind_none, Option.map_some, Option.map_none, Nat.zero_add, Nat.add_zero, Nat.reduceAdd, Nat.reduceSub, Nat.sub_self, Nat.reduceLeDiff, Nat.reduceEqDiff, Nat.le_refl, Nat.add_sub_cancel, if_true, if_false, Bool.false_eq_true, Bool.not_true, Bool.not_false, Bool.not_not, reduceIte, reduceCtorEq, and_self, and_true, true_and, decide_true, decide_false, semEq_str, semNe_str, semEq_int, semNe_int, semEq_bl, semNe_bl, atI0, atI1, atI2, atI3, atI4, OkS_nx, post_ok, items_lst, items_tup, semAt_lst, semAt_tup, semAt_str, semAt_dic, e, hn, hc]
  obtain ⟨ys, r', e1, e2, e3, e4⟩ := lcD_inv (vs := [7]) (h := gN 7) (elt := el__law_names_1)
    (fun r => ∃ b, r = envN b m xs o5 o6 none o8 o9 o10 o11 ∧ BagOk b) (fun y => ∃ c, y = .str (one c) ∧ 97 ≤ c ∧ c ≤ 122) ei (by rw [rangeD_len]; omega) ⟨b1, rfl, hb1⟩ (by rintro r ⟨b, rfl, _⟩; rfl) (by
      rintro d _ r ⟨b, rfl, hb⟩
      obtain ⟨c, b', e5, c1, c2, hb'⟩ := sign_ok hb m xs o5 o6 (some (.sh d)) o8 o9 o10 o11
      exact ⟨envN b m xs o5 o6 (some (.sh d)) o8 o9 o10 o11, _, _, rfl, e5, ⟨c, rfl, c1, c2⟩, b', rfl, hb'⟩)
  obtain ⟨b', rfl, hb'⟩ := e4
  have hl : ys.length = n.toNat := by rw [e2, rangeD_len]
  obtain ⟨cs, rfl, hcs⟩ : ∃ cs : List Nat, ys = cs.map (fun c => D.str (one c)) ∧ ∀ c ∈ cs, 97 ≤ c ∧ c ≤ 122 := by
    clear e1 e2 hl
    induction ys with
    | nil => exact ⟨[], rfl, fun _ z => absurd z List.not_mem_nil⟩
    | cons y ys ih =>
      obtain ⟨c, rfl, c1, c2⟩ := e3 y (List.mem_cons_self ..)
      obtain ⟨cs, rfl, h⟩ := ih fun z hz => e3 z (List.mem_cons_of_mem _ hz)
      refine ⟨c :: cs, rfl, fun z hz => ?_⟩
      rcases List.mem_cons.mp hz with rfl | hz
      · exact ⟨c1, c2⟩
      · exact h z hz
  rw [List.length_map] at hl
  exact ⟨cs, b', e1, by omega, by omega, by omega, hcs, hb'⟩
theorem join_codes : ∀ cs : List Nat, (Txt.join "" (cs.map one)).cps.toList = cs := by
  have key : ∀ cs : List Nat, (Str.join "" (cs.map one)).cps.toList = cs := by
    intro cs
    induction cs with
    | nil => rfl
    | cons c cs ih =>
      cases cs with
      | nil => rfl
      | cons d ds =>
        have ih : (Str.join "" (one d :: ds.map one)).cps.toList = d :: ds := ih
        show ((one c ++ ("" : Str)) ++ Str.join "" (one d :: ds.map one)).cps.toList = _
        have e : ∀ a b : Str, (a ++ b).cps.toList = a.cps.toList ++ b.cps.toList := fun a b => by
          show (a.cps ++ b.cps).toList = _
          simp
        rw [e, e, ih]
        rfl
  intro cs
  have e : Txt.join ("" : Str) (cs.map one) = Str.join ("" : Str) (cs.map one) := PySem.StrLaws.glued_eq_join _ _
  rw [e]
  exact key cs
theorem app_codes (a b : Str) : (a ++ b).cps.toList = a.cps.toList ++ b.cps.toList := by
  show (a.cps ++ b.cps).toList = _
  simp
theorem len_codes (a : Str) : a.length = a.cps.toList.length := by
  show a.cps.size = _
  simp
/-- the letters from one on, round -/
def rot (k : Nat) : Str := cutS LET (some (k : Int)) none ++ cutS LET none (some (k : Int))
theorem rot_ok : ∀ k : Fin 26, (rot k.val).cps.toList.Nodup ∧ (rot k.val).length = 26 ∧ ((rot k.val).cps.toList.all fun c => decide (97 ≤ c) && decide (c ≤ 122)) = true ∧ (cutS LET (some (k.val : Int)) none).length + (cutS LET none (some (k.val : Int))).length ≤ 1000000 := by decide +kernel
set_option maxHeartbeats 2000000 in
theorem par_ok {bs : List D} (m : Int) (xs : List Str) (o5 o7 o8 o9 o10 o11 : Option OV) (c : Nat) (cs : List Nat) (h1 : 97 ≤ c) (h2 : c ≤ 122) (hl : cs.length ≤ 7) :
    par2 8 9 (m1D (.va 2) (.ex (op2 (.va 6) (.ex (cD (.int 0))) semAt)) semSIndex) (shD (m1D (.ex (cD (.str ""))) (.ex (slD (.va 6) (poS (cD (.int 1))) poN semSl)) semJoin)) (envN bs m xs o5 (some (.sh (.lst ((c :: cs).map fun c => D.str (one c))))) o7 o8 o9 o10 o11)
      = .nx (envN bs m xs o5 (some (.sh (.lst ((c :: cs).map fun c => D.str (one c))))) o7 (some (.sh (.int ((c - 97 : Nat) : Int)))) (some (.sh (.str (Txt.join "" (cs.map one))))) o10 o11) := by
  have ho : Builtin.Str.occurrences LET (one c) 0 LET.length 1 = [c - 97] := by
    have := let_index ⟨c - 97, by omega⟩
    have e : 97 + (c - 97) = c := by omega
    simp only [e] at this
    exact this
  have hcut : cutL ((c :: cs).map fun c => D.str (one c)) (some 1) none = (cs.map one).map D.str := by
    unfold cutL
    rw [show HT.sIx ((c :: cs).map fun c => D.str (one c)).length 0 (some 1) = min 1 ((c :: cs).map fun c => D.str (one c)).length from HT.sIx_nat _ 0 1, HT.sIx_none, List.map_map]
    have hm : min 1 ((c :: cs).map fun c => D.str (one c)).length = 1 := by rw [List.length_map, List.length_cons]; omega
    rw [hm, List.length_map, List.length_cons, Nat.add_sub_cancel]
    show List.take cs.length (cs.map fun c => D.str (one c)) = _
    rw [List.take_of_length_le (by rw [List.length_map]; exact Nat.le_refl _)]
    rfl
  have hj : ((cs.map one).map (·.length)).sum + (cs.map one).length * (Str.ofString "").length ≤ 1000000 := by
    have e1 : ∀ l : List Nat, ((l.map one).map (·.length)).sum = l.length := fun l => by
      induction l with
      | nil => rfl
      | cons a l ih =>
        rw [List.map_cons, List.map_cons, List.sum_cons, ih, List.length_cons]
        show 1 + _ = _
        omega
    rw [e1, show (Str.ofString "").length = 0 by decide +kernel]
    omega
  have hst := strsOf_map (cs.map one)
  have hat : atI ((c :: cs).map fun c => D.str (one c)) 0 = some (.str (one c)) := atI_nat (j := 0) rfl
  simp only [par2, thenS, m1D, Opd.run, fill, envN, Rs.bind, look, lookV, op2, cD, ofO, Rs.map, OV.d, semAt, semIx, hat, semSIndex, ho, shD, slD, poS, poN, D.asI, semSl, hcut, semJoin, hst, hj, List.getElem?_cons_zero, List.getElem?_cons_succ, Option.bind_some, Option.map_some, List.set_cons_succ, List.set_cons_zero, if_true]
/-- the names from which the next one is taken -/
def cands (w : Bool) (k : Nat) (rest : Str) : List Str := (if w then cutL WRD (some (k : Int)) none else []) ++ (rot k).cps.toList.map fun c => one c ++ rest
theorem signs_eq (x : Str) : signs x = x.cps.toList.map fun c => D.str (one c) := rfl
/-- what is stored as the names to choose from -/
def step10 : En → SRs := setS 10 (shD (op2 (.ex (op2 (.ex (slD (.va 4) (poS (vD 8)) poN semSl)) (.ex (opN [(.ex (op2 (.ex (frzD (callB 1 f__law_take 0 [(cD (.int 8))]))) (.ex (cD (.int 0))) semEq))] semInt)) semMul)) (.ex (frzD lc__law_names_2)) semAdd))
set_option maxHeartbeats 4000000 in
theorem cands_ok {bs : List D} (hb : BagOk bs) (m : Int) (xs : List Str) (o5 o6 o7 o10 o11 : Option OV) (k : Nat) (hk : k < 26) (rest : Str) (hr : rest.length ≤ 7) :
    ∃ w bs', step10 (envN bs m xs o5 o6 o7 (some (.sh (.int k))) (some (.sh (.str rest))) o10 o11) = .nx (envN bs' m xs o5 o6 o7 (some (.sh (.int k))) (some (.sh (.str rest))) (some (.sh (.lst ((cands w k rest).map D.str)))) none) ∧ BagOk bs' := by
  obtain ⟨v, b1, e, h0, h1, hb1⟩ := take_ok hb (n := 8) (by decide) (by decide)
  obtain ⟨rn, rl, rc, rz⟩ := rot_ok ⟨k, hk⟩
  have hlet : LET.length ≤ 1000000 := by rw [let_len]; decide
  have hrot : (rot k).length ≤ 1000000 := by
    have : (rot k).length = 26 := rl
    omega
  have hW : (cutL (WRD.map D.str) (some (k : Int)) none) = (cutL WRD (some (k : Int)) none).map D.str := cutL_map _ _ _ _
  have hWl : (cutL WRD (some (k : Int)) none).length ≤ 20 := cutL_len _ _ _
  have eA : op2 (.ex (slD (.va 4) (poS (vD 8)) poN semSl)) (.ex (opN [(.ex (op2 (.ex (frzD (callB 1 f__law_take 0 [(cD (.int 8))]))) (.ex (cD (.int 0))) semEq))] semInt)) semMul (envN bs m xs o5 o6 o7 (some (.sh (.int k))) (some (.sh (.str rest))) o10 o11)
      = .ok (.lst ((if decide (v = 0) then cutL WRD (some (k : Int)) none else []).map D.str)) (envN b1 m xs o5 o6 o7 (some (.sh (.int k))) (some (.sh (.str rest))) o10 o11) := by
    have hl2 : (cutL WRD (some (k : Int)) none).length ≤ 1000 := by omega
    by_cases hv : v = 0
    · subst hv
      simp [envN, fnB, fnP, Rs.noE, startE, seqS, ifS, thenS, toB, op2, opN, op1, Opd.run, fill, lookV, look, Rs.bind, Rs.map, ofO, cD, vD, semIx, semEq, semNe, eqB, D.sc, D.asB, atI, ixN, semGt, semGe, semLt, semLe, setS, putS, DL.putF, shD, frzD, mvD, rtS, chgS, fillW, OV.lst?, OV.d, nxS, runs, looks, semInt, semMod, semFdiv, semAdd, semSub, semMul, semAbs, semLen, semTuple, semList, lstD, tupD, evs, callP, callB, slD, poN, poS, semSl, D.asI, appS, appF, extS, extF, augS, augF, exS, ifD, andT, orT, notT, notD, andD, orD, par2, par3, asgS, gN, gT, gsCons, gsNil, forD, rg1, rg2, itA, D.items, zpD, zip2, zipD, lcD, yesT, wipeE, m1D, tabD, semIs, semIsNot, D.isN, semAt, semIn2, semNotIn2, inB2, toT, orV, andV, notV, D.tru, chD, isiD, D.isi, D.ty, isTy, D.key, evPs, dicD, semDict, pairD, mergeD, putD, valD, semRepr, callL, op2O, slO, opNO, lrgO, OV.flt, D.flt, semAddL, semMulL, semListL, mLD, popF, popS, insF, insS, clrS, revO, e, hW, hl2, List.length_map]
    · simp [envN, fnB, fnP, Rs.noE, startE, seqS, ifS, thenS, toB, op2, opN, op1, Opd.run, fill, lookV, look, Rs.bind, Rs.map, ofO, cD, vD, semIx, semEq, semNe, eqB, D.sc, D.asB, atI, ixN, semGt, semGe, semLt, semLe, setS, putS, DL.putF, shD, frzD, mvD, rtS, chgS, fillW, OV.lst?, OV.d, nxS, runs, looks, semInt, semMod, semFdiv, semAdd, semSub, semMul, semAbs, semLen, semTuple, semList, lstD, tupD, evs, callP, callB, slD, poN, poS, semSl, D.asI, appS, appF, extS, extF, augS, augF, exS, ifD, andT, orT, notT, notD, andD, orD, par2, par3, asgS, gN, gT, gsCons, gsNil, forD, rg1, rg2, itA, D.items, zpD, zip2, zipD, lcD, yesT, wipeE, m1D, tabD, semIs, semIsNot, D.isN, semAt, semIn2, semNotIn2, inB2, toT, orV, andV, notV, D.tru, chD, isiD, D.isi, D.ty, isTy, D.key, evPs, dicD, semDict, pairD, mergeD, putD, valD, semRepr, callL, op2O, slO, opNO, lrgO, OV.flt, D.flt, semAddL, semMulL, semListL, mLD, popF, popS, insF, insS, clrS, revO, e, hW, hl2, hv, List.length_map]
  have eB : lc__law_names_2 (envN b1 m xs o5 o6 o7 (some (.sh (.int k))) (some (.sh (.str rest))) o10 o11)
      = .ok (.ow (((rot k).cps.toList.map fun c => one c ++ rest).map D.str)) (envN b1 m xs o5 o6 o7 (some (.sh (.int k))) (some (.sh (.str rest))) o10 none) := by
    have ei : it__law_names_2 (envN b1 m xs o5 o6 o7 (some (.sh (.int k))) (some (.sh (.str rest))) o10 o11) = .ok ((rot k).cps.toList.map fun c => D.str (one c)) (envN b1 m xs o5 o6 o7 (some (.sh (.int k))) (some (.sh (.str rest))) o10 o11) := by
      have e1 : cutS LET (some (k : Int)) none ++ cutS LET none (some (k : Int)) = rot k := rfl
      simp only [it__law_names_2, fnB, fnP, Rs.noE, startE, seqS, ifS, thenS, toB, op2, opN, op1, Opd.run, fill, lookV, look, Rs.bind, Rs.map, ofO, cD, vD, semIx, semEq, semNe, eqB, D.sc, D.asB, atI, ixN, semGt, semGe, semLt, semLe, setS, putS, DL.putF, shD, frzD, mvD, rtS, chgS, fillW, OV.lst?, OV.d, nxS, runs, looks, semInt, semMod, semFdiv, semAdd, semSub, semMul, semAbs, semLen, semTuple, semList, lstD, tupD, evs, callP, callB, slD, poN, poS, semSl, D.asI, appS, appF, extS, extF, augS, augF, exS, ifD, andT, orT, notT, notD, andD, orD, par2, par3, asgS, gN, gT, gsCons, gsNil, forD, rg1, rg2, itA, D.items, zpD, zip2, zipD, lcD, yesT, wipeE, m1D, tabD, semIs, semIsNot, D.isN, semAt, semIn2, semNotIn2, inB2, toT, orV, andV, notV, D.tru, chD, isiD, D.isi, D.ty, isTy, D.key, evPs, dicD, semDict, pairD, mergeD, putD, valD, semRepr, callL, op2O, slO, opNO, lrgO, OV.flt, D.flt, semAddL, semMulL, semListL, mLD, popF, popS, insF, insS, clrS, revO, Rs.noE, List.map_cons, List.map_nil, List.length_cons, List.length_nil, List.length_map, List.replicate, List.cons_append, List.nil_append, List.append_nil, List.getElem?_cons_zero, List.getElem?_cons_succ, List.set_cons_zero, List.set_cons_succ, Option.bind_some, Option.bind_none, Option.map_some, Option.map_none, Nat.zero_add, Nat.add_zero, Nat.reduceAdd, Nat.reduceSub, Nat.sub_self, Nat.reduceLeDiff, Nat.reduceEqDiff, Nat.le_refl, Nat.add_sub_cancel, if_true, if_false, Bool.false_eq_true, Bool.not_true, Bool.not_false, Bool.not_not, reduceIte, reduceCtorEq, and_self, and_true, true_and, decide_true, decide_false, semEq_str, semNe_str, semEq_int, semNe_int, semEq_bl, semNe_bl, atI0, atI1, atI2, atI3, atI4, OkS_nx, post_ok, items_lst, items_tup, semAt_lst, semAt_tup, semAt_str, semAt_dic, envN, hlet, rz, e1, hrot, signs_eq]
    have := lcD_map1 (vs := [11]) (h := gN 11) (elt := el__law_names_2) (envN b1 m xs o5 o6 o7 (some (.sh (.int k))) (some (.sh (.str rest))) o10 none) (rot k).cps.toList (fun c => D.str (one c)) (fun c => D.str (one c ++ rest)) ei (by rw [← len_codes]; exact hrot) rfl rfl (fun c _ => by
      refine ⟨envN b1 m xs o5 o6 o7 (some (.sh (.int k))) (some (.sh (.str rest))) o10 (some (.sh (.str (one c)))), rfl, rfl, envN b1 m xs o5 o6 o7 (some (.sh (.int k))) (some (.sh (.str rest))) o10 (some (.sh (.str (one c)))), ?_, rfl⟩
      have hl : (one c).length + rest.length ≤ 1000000 := by show 1 + rest.length ≤ _; omega
      simp only [el__law_names_2, envN, fnB, fnP, Rs.noE, startE, seqS, ifS, thenS, toB, op2, opN, op1, Opd.run, fill, lookV, look, Rs.bind, Rs.map, ofO, cD, vD, semIx, semEq, semNe, eqB, D.sc, D.asB, atI, ixN, semGt, semGe, semLt, semLe, setS, putS, DL.putF, shD, frzD, mvD, rtS, chgS, fillW, OV.lst?, OV.d, nxS, runs, looks, semInt, semMod, semFdiv, semAdd, semSub, semMul, semAbs, semLen, semTuple, semList, lstD, tupD, evs, callP, callB, slD, poN, poS, semSl, D.asI, appS, appF, extS, extF, augS, augF, exS, ifD, andT, orT, notT, notD, andD, orD, par2, par3, asgS, gN, gT, gsCons, gsNil, forD, rg1, rg2, itA, D.items, zpD, zip2, zipD, lcD, yesT, wipeE, m1D, tabD, semIs, semIsNot, D.isN, semAt, semIn2, semNotIn2, inB2, toT, orV, andV, notV, D.tru, chD, isiD, D.isi, D.ty, isTy, D.key, evPs, dicD, semDict, pairD, mergeD, putD, valD, semRepr, callL, op2O, slO, opNO, lrgO, OV.flt, D.flt, semAddL, semMulL, semListL, mLD, popF, popS, insF, insS, clrS, revO, Rs.noE, List.map_cons, List.map_nil, List.length_cons, List.length_nil, List.length_map, List.replicate, List.cons_append, List.nil_append, List.append_nil, List.getElem?_cons_zero, List.getElem?_cons_succ, List.set_cons_zero, List.set_cons_succ, Option.bind_some, Option.bind_none, Option.map_some, Option.map_none, Nat.zero_add, Nat.add_zero, Nat.reduceAdd, Nat.reduceSub, Nat.sub_self, Nat.reduceLeDiff, Nat.reduceEqDiff, Nat.le_refl, Nat.add_sub_cancel, if_true, if_false, Bool.false_eq_true, Bool.not_true, Bool.not_false, Bool.not_not, reduceIte, reduceCtorEq, and_self, and_true, true_and, decide_true, decide_false, semEq_str, semNe_str, semEq_int, semNe_int, semEq_bl, semNe_bl, atI0, atI1, atI2, atI3, atI4, OkS_nx, post_ok, items_lst, items_tup, semAt_lst, semAt_tup, semAt_str, semAt_dic, hl])
    rw [List.map_map]
    exact this
  refine ⟨decide (v = 0), b1, ?_, hb1⟩
  have hlen : ((if decide (v = 0) then cutL WRD (some (k : Int)) none else []).map D.str).length + (((rot k).cps.toList.map fun c => one c ++ rest).map D.str).length ≤ 1000000 := by
    rw [List.length_map, List.length_map, List.length_map, ← len_codes]
    have : (rot k).length = 26 := rl
    split
    · omega
    · simp; omega
  unfold step10 setS shD
  rw [op2_ee, eA]
  simp only [Rs.bind, frzD]
  rw [eB]
  simp only [Rs.map, Rs.bind, OV.d, semAdd, hlen, if_true, ofO, thenS, ← List.map_append]
  rfl
theorem rest_name {w : Bool} {k : Nat} (hk : k < 26) {rest : Str} (hr : rest.length ≤ 7) (hl : ∀ c ∈ rest.cps.toList, 97 ≤ c ∧ c ≤ 122) : ∀ x ∈ cands w k rest, NameOk x := by
  intro x hx
  obtain ⟨rn, rl, rc, rz⟩ := rot_ok ⟨k, hk⟩
  rcases List.mem_append.mp hx with hx | hx
  · cases w with
    | true => exact wrd_ok x (cutL_mem hx)
    | false => cases hx
  · obtain ⟨c, hc, rfl⟩ := List.mem_map.mp hx
    have hc2 := List.all_eq_true.mp rc c hc
    simp only [Bool.and_eq_true, decide_eq_true_eq] at hc2
    have e : (one c ++ rest).cps.toList = c :: rest.cps.toList := by rw [app_codes]; rfl
    refine ⟨?_, ?_, fun d hd => ?_⟩
    · rw [len_codes, e, List.length_cons]; omega
    · rw [len_codes, e, List.length_cons, ← len_codes]; omega
    · rw [e] at hd
      rcases List.mem_cons.mp hd with rfl | hd
      · exact hc2
      · exact hl d hd
theorem wrd_z : ∀ x ∈ WRD, x ≠ ("zzzzz" : Str) := by decide +kernel
theorem rest_z {w : Bool} {k : Nat} (hk : k < 26) {rest : Str} (hr : rest.length ≠ 4) : ∀ x ∈ cands w k rest, x ≠ ("zzzzz" : Str) := by
  intro x hx e
  rcases List.mem_append.mp hx with hx | hx
  · cases w with
    | true => exact wrd_z x (cutL_mem hx) e
    | false => cases hx
  · obtain ⟨c, hc, rfl⟩ := List.mem_map.mp hx
    have h1 : (one c ++ rest).length = rest.length + 1 := by
      rw [len_codes, app_codes, List.length_append, ← len_codes, ← len_codes]
      show 1 + rest.length = _
      omega
    have h2 : (Str.ofString "zzzzz").length = 5 := by decide +kernel
    rw [e, h2] at h1
    omega
theorem fresh_cand {w : Bool} {k : Nat} (hk : k < 26) {rest : Str} {xs : List Str} (hx : xs.length < 26) : ∃ x ∈ cands w k rest, x ∉ xs := by
  obtain ⟨rn, rl, rc, rz⟩ := rot_ok ⟨k, hk⟩
  have nd : ((rot k).cps.toList.map fun c => one c ++ rest).Nodup := by
    refine List.Pairwise.map _ (fun a b hab e => hab ?_) rn
    have e2 : (one a ++ rest).cps.toList = (one b ++ rest).cps.toList := by rw [e]
    rw [app_codes, app_codes] at e2
    have : a :: rest.cps.toList = b :: rest.cps.toList := e2
    exact (List.cons.inj this).1
  have hl : ((rot k).cps.toList.map fun c => one c ++ rest).length = 26 := by
    rw [List.length_map, ← len_codes]; exact rl
  obtain ⟨x, h1, h2⟩ := exists_not_mem _ xs nd (by rw [hl]; exact hx)
  exact ⟨x, List.mem_append_right _ h1, h2⟩
theorem sm_str {x : Str} (h : NameOk x) : Sm 0 82 (.str x) := ⟨h.pl, rfl, Nat.zero_le _, by show 10 * x.length + 2 ≤ 82; have := h.most; omega⟩
theorem fit_strs {xs : List Str} (h : ∀ x ∈ xs, NameOk x) : (D.lst (xs.map D.str)).fit = true := (Sm.all (n := 0) (w := 82) fun d hd => by
  obtain ⟨x, hx, rfl⟩ := List.mem_map.mp hd
  exact sm_str (h x hx)).1
theorem mem_strs {x : Str} {xs : List Str} : D.str x ∈ xs.map D.str ↔ x ∈ xs := by
  rw [List.mem_map]
  exact ⟨fun ⟨y, h, e⟩ => by cases e; exact h, fun h => ⟨x, h, rfl⟩⟩
theorem cl_strs {k : Bool} {xs : List Str} : ∀ e ∈ xs.map D.str, e.cl k = true := fun e he => by
  obtain ⟨x, _, rfl⟩ := List.mem_map.mp he
  rfl
theorem notIn_strs {xs : List Str} {x : Str} (hx : NameOk x) (h : ∀ x ∈ xs, NameOk x) : semNotIn2 (.str x) (.lst (xs.map D.str)) = some (.bl (decide (x ∉ xs))) := by
  rw [semNotIn_lst true hx.fit (fit_strs h) rfl cl_strs]
  simp only [mem_strs, decide_not]
set_option maxHeartbeats 4000000 in
theorem app_ok {bs : List D} (m : Int) (xs ys : List Str) (o5 o6 o7 o8 o9 o11 : Option OV) (hx : ∀ x ∈ xs, NameOk x) (hy : ∀ y ∈ ys, NameOk y) (hl : xs.length ≤ 1000) (hl2 : ys.length ≤ 1000) (hf : ∃ y ∈ ys, y ∉ xs) :
    ∃ x, appS 3 (op2 (.ex (frzD lc__law_names_3)) (.ex (cD (.int 0))) semAt) (envN bs m xs o5 o6 o7 o8 o9 (some (.sh (.lst (ys.map D.str)))) o11)
      = .nx (envN bs m (xs ++ [x]) o5 o6 o7 o8 o9 (some (.sh (.lst (ys.map D.str)))) none) ∧ x ∈ ys ∧ x ∉ xs := by
  have em := lcD_map (it := it__law_names_3) (vs := [11]) (h := gN 11) (t := ts__law_names_1) (elt := el__law_names_3) (r := envN bs m xs o5 o6 o7 o8 o9 (some (.sh (.lst (ys.map D.str)))) o11) (envN bs m xs o5 o6 o7 o8 o9 (some (.sh (.lst (ys.map D.str)))) none) ys D.str (fun y => decide (y ∉ xs)) D.str rfl (by omega) rfl rfl (fun y hyy => by
    refine ⟨envN bs m xs o5 o6 o7 o8 o9 (some (.sh (.lst (ys.map D.str)))) (some (.sh (.str y))), envN bs m xs o5 o6 o7 o8 o9 (some (.sh (.lst (ys.map D.str)))) (some (.sh (.str y))), rfl, ?_, rfl, fun _ => ⟨_, rfl, rfl⟩⟩
    have hin := notIn_strs (hy y hyy) hx
    simp only [ts__law_names_1, toB, op2, Opd.run, fill, envN, Rs.bind, look, lookV, ofO, OV.d, hin, D.asB, Rs.noE, List.map_cons, List.map_nil, List.length_cons, List.length_nil, List.length_map, List.replicate, List.cons_append, List.nil_append, List.append_nil, List.getElem?_cons_zero, List.getElem?_cons_succ, List.set_cons_zero, List.set_cons_succ, Option.bind_some, Option.bind_none, Option.map_some, Option.map_none, Nat.zero_add, Nat.add_zero, Nat.reduceAdd, Nat.reduceSub, Nat.sub_self, Nat.reduceLeDiff, Nat.reduceEqDiff, Nat.le_refl, Nat.add_sub_cancel, if_true, if_false, Bool.false_eq_true, Bool.not_true, Bool.not_false, Bool.not_not, reduceIte, reduceCtorEq, and_self, and_true, true_and, decide_true, decide_false, semEq_str, semNe_str, semEq_int, semNe_int, semEq_bl, semNe_bl, atI0, atI1, atI2, atI3, atI4, OkS_nx, post_ok, items_lst, items_tup, semAt_lst, semAt_tup, semAt_str, semAt_dic])
  obtain ⟨y0, hy0, hn0⟩ := hf
  cases hfl : ys.filter fun y => decide (y ∉ xs) with
  | nil =>
    have : y0 ∈ ys.filter fun y => decide (y ∉ xs) := List.mem_filter.mpr ⟨hy0, decide_eq_true hn0⟩
    rw [hfl] at this
    cases this
  | cons x r =>
    have hx2 : x ∈ ys.filter fun y => decide (y ∉ xs) := by rw [hfl]; exact List.mem_cons_self ..
    obtain ⟨h1, h2⟩ := List.mem_filter.mp hx2
    have h2 := of_decide_eq_true h2
    refine ⟨x, ?_, h1, h2⟩
    rw [hfl] at em
    have em : lc__law_names_3 (envN bs m xs o5 o6 o7 o8 o9 (some (.sh (.lst (ys.map D.str)))) o11) = _ := em
    have hat : atI ((x :: r).map D.str) 0 = some (.str x) := atI_nat (j := 0) rfl
    have hla : (xs.map D.str).length ≤ 1000000 := by rw [List.length_map]; omega
    unfold appS
    have hfw : fillW (envN bs m xs o5 o6 o7 o8 o9 (some (.sh (.lst (ys.map D.str)))) o11) 3 = .ok () (envN bs m xs o5 o6 o7 o8 o9 (some (.sh (.lst (ys.map D.str)))) o11) := rfl
    rw [hfw]
    simp only [thenS]
    rw [op2_ee]
    simp only [frzD, em, Rs.map, OV.d, Rs.bind, cD, semAt, semIx, hat, ofO]
    simp only [chgS, envN, lookV, List.getElem?_cons_zero, List.getElem?_cons_succ, Option.bind_some, OV.lst?, appF, hla, if_true, List.set_cons_succ, List.set_cons_zero, List.map_append, List.map_cons, List.map_nil]
/-- the state between two turns of names -/
def NInv (m : Int) (k : Nat) (r : En) : Prop := ∃ bs xs o5 o6 o7 o8 o9 o10 o11, r = envN bs m xs o5 o6 o7 o8 o9 o10 o11 ∧ BagOk bs ∧ xs.length = k ∧ xs.Nodup ∧ ∀ x ∈ xs, NameOk x ∧ x ≠ ("zzzzz" : Str)
theorem cands_len (w : Bool) {k : Nat} (hk : k < 26) (rest : Str) : (cands w k rest).length ≤ 1000 := by
  obtain ⟨rn, rl, rc, rz⟩ := rot_ok ⟨k, hk⟩
  unfold cands
  rw [List.length_append, List.length_map, ← len_codes, show (rot k).length = 26 from rl]
  have := cutL_len WRD (some (k : Int)) none
  have h20 : WRD.length = 20 := rfl
  split
  · omega
  · simp
set_option maxHeartbeats 4000000 in
theorem names_okZ {bs : List D} (hb : BagOk bs) (m : Nat) (hm : m ≤ 12) : ∃ (xs : List Str) (bs' : List D), f__law_names bs [.int m] = some (.ow (xs.map D.str), bs') ∧ xs.length = m ∧ xs.Nodup ∧ (∀ x ∈ xs, NameOk x ∧ x ≠ ("zzzzz" : Str)) ∧ BagOk bs' := by
  have st : ∀ (i : Nat) (d : D), (rangeD 0 m)[i]? = some d → ∀ r, NInv m i r → ∃ r1 r2, gN 5 d r = some r1 ∧ bd__law_names_1 r1 = .nx r2 ∧ NInv m (i + 1) r2 := by
    rintro i d hd r ⟨bs, xs, o5, o6, o7, o8, o9, o10, o11, rfl, hb, hl, hnd, hok⟩
    obtain ⟨hi, rfl⟩ := rangeD_get hd
    obtain ⟨cs, b1, e1, c1, c2, c5, c3, hb1⟩ := signs_ok hb m xs (some (.sh (.int (0 + i)))) o6 o7 o8 o9 o10 o11
    cases cs with
    | nil => cases c1
    | cons c cs =>
      have hc := c3 c (List.mem_cons_self ..)
      have hcs : ∀ x ∈ cs, 97 ≤ x ∧ x ≤ 122 := fun x hx => c3 x (List.mem_cons_of_mem _ hx)
      rw [List.length_cons] at c2 c5
      have e2 := par_ok (bs := b1) m xs (some (.sh (.int (0 + i)))) none o8 o9 o10 o11 c cs hc.1 hc.2 (by omega)
      have hjl : (Txt.join "" (cs.map one)).length ≤ 7 := by rw [len_codes, join_codes]; omega
      have hj4 : (Txt.join "" (cs.map one)).length ≠ 4 := by rw [len_codes, join_codes]; omega
      have hjc : ∀ x ∈ (Txt.join "" (cs.map one)).cps.toList, 97 ≤ x ∧ x ≤ 122 := by rw [join_codes]; exact hcs
      have hk : c - 97 < 26 := by omega
      obtain ⟨w, b2, e3, hb2⟩ := cands_ok hb1 m xs (some (.sh (.int (0 + i)))) (some (.sh (.lst ((c :: cs).map fun c => D.str (one c))))) none o10 o11 (c - 97) hk _ hjl
      obtain ⟨x, e4, x1, x2⟩ := app_ok (bs := b2) m xs (cands w (c - 97) (Txt.join "" (cs.map one))) (some (.sh (.int (0 + i)))) (some (.sh (.lst ((c :: cs).map fun c => D.str (one c))))) none (some (.sh (.int ((c - 97 : Nat) : Int)))) (some (.sh (.str (Txt.join "" (cs.map one))))) none (fun x hx => (hok x hx).1) (rest_name hk hjl hjc) (by omega) (cands_len w hk _) (fresh_cand hk (by omega))
      refine ⟨envN bs m xs (some (.sh (.int (0 + i)))) o6 o7 o8 o9 o10 o11, envN b2 m (xs ++ [x]) (some (.sh (.int (0 + i)))) (some (.sh (.lst ((c :: cs).map fun c => D.str (one c))))) none (some (.sh (.int ((c - 97 : Nat) : Int)))) (some (.sh (.str (Txt.join "" (cs.map one))))) (some (.sh (.lst ((cands w (c - 97) (Txt.join "" (cs.map one))).map D.str)))) none, rfl, ?_, b2, xs ++ [x], _, _, _, _, _, _, _, rfl, hb2, by rw [List.length_append, hl]; rfl, ?_, fun y hy => ?_⟩
      · have es : setS 6 (shD (frzD lc__law_names_1)) (envN bs m xs (some (.sh (.int (0 + i)))) o6 o7 o8 o9 o10 o11) = .nx (envN b1 m xs (some (.sh (.int (0 + i)))) (some (.sh (.lst ((c :: cs).map fun c => D.str (one c))))) none o8 o9 o10 o11) := by
          unfold setS shD frzD
          rw [e1]
          rfl
        unfold bd__law_names_1
        unfold step10 at e3
        rw [seqS_nx es, seqS_nx e2, seqS_nx e3]
        exact e4
      · rw [List.nodup_append]
        refine ⟨hnd, List.nodup_cons.mpr ⟨List.not_mem_nil, List.nodup_nil⟩, fun a ha b hb => ?_⟩
        rw [List.mem_singleton.mp hb]
        exact fun e => x2 (e ▸ ha)
      · rcases List.mem_append.mp hy with hy | hy
        · exact hok y hy
        · rw [List.mem_singleton.mp hy]
          exact ⟨rest_name hk hjl hjc x x1, rest_z hk hj4 x x1⟩
  have h0 : NInv m 0 (envN bs m [] none none none none none none none) := ⟨bs, [], none, none, none, none, none, none, none, rfl, hb, rfl, List.nodup_nil, fun _ z => absurd z List.not_mem_nil⟩
  obtain ⟨r', e, bs', xs, o5, o6, o7, o8, o9, o10, o11, rfl, hb', hl, hnd, hok⟩ := forS_inv (rangeD 0 m) (NInv m) st _ h0
  rw [rangeD_len] at hl
  refine ⟨xs, bs', ?_, hl, hnd, hok, hb'⟩
  have hm1 : -1000000 ≤ (m : Int) ∧ (m : Int) ≤ 1000000 := by omega
  have ep : par2 2 3 (cD (.str LET)) (lstD []) [some (.ow bs), some (.sh (.int m)), none, none, none, none, none, none, none, none, none, none] = .nx [some (.ow bs), some (.sh (.int m)), some (.sh (.str LET)), some (.ow []), none, none, none, none, none, none, none, none] := rfl
  have ew : setS 4 (shD (m1D (.ex (cD (.str WST))) (.ex (cD (.str " "))) semSplit)) [some (.ow bs), some (.sh (.int m)), some (.sh (.str LET)), some (.ow []), none, none, none, none, none, none, none, none] = .nx (envN bs m [] none none none none none none none) := by
    have h1 : (Str.ofString " ").length ≠ 0 ∧ WST.length ≤ 1000000 := ⟨by decide +kernel, wst_len⟩
    simp only [setS, shD, m1D, Opd.run, cD, Rs.map, Rs.bind, look, semSplit, h1, if_true, wst_split, ofO, thenS, Option.bind_some, ne_eq, not_false_eq_true, and_self]
    rfl
  have ef : it__law_names_4 (envN bs m [] none none none none none none none) = .ok (rangeD 0 m) (envN bs m [] none none none none none none none) := by
    simp only [it__law_names_4, rg1, vD, envN, List.getElem?_cons_zero, List.getElem?_cons_succ, Rs.bind, D.asI, ofO, hm1, and_self, if_true, Int.toNat_natCast]
  have es : startE 12 (.ow bs :: [D.int m].map OV.sh) = [some (.ow bs), some (.sh (.int m)), none, none, none, none, none, none, none, none, none, none] := rfl
  unfold f__law_names fnB
  rw [es]
  unfold m__law_names
  rw [seqS_nx ep, seqS_nx ew]
  unfold fr__law_names_1
  rw [seqS_nx (forD_of ef e)]
  rfl
theorem names_ok {bs : List D} (hb : BagOk bs) (m : Nat) (hm : m ≤ 12) : ∃ (xs : List Str) (bs' : List D), f__law_names bs [.int m] = some (.ow (xs.map D.str), bs') ∧ xs.length = m ∧ xs.Nodup ∧ (∀ x ∈ xs, NameOk x) ∧ BagOk bs' := by
  obtain ⟨xs, b, e, h1, h2, h3, h4⟩ := names_okZ hb m hm
  exact ⟨xs, b, e, h1, h2, fun x hx => (h3 x hx).1, h4⟩
end T

-- needs: _law_names
namespace T
open PySem L2 DL
/-- an atom, a pattern: relation, left, right -/
abbrev At := Str × Str × Str
def atD (x : At) : D := .tup [.str x.1, .str x.2.1, .str x.2.2]
theorem atD_inj {x y : At} : atD x = atD y ↔ x = y := by
  obtain ⟨a, b, c⟩ := x
  obtain ⟨a', b', c'⟩ := y
  simp [atD]
theorem cl_at (k : Bool) (x : At) : (atD x).cl k = true := rfl
def isRel (r : Str) : Prop := r = "eq" ∨ r = "lt" ∨ r = "gt"
structure AtOk (x : At) : Prop where
  rel : isRel x.1
  l : NameOk x.2.1
  r : NameOk x.2.2
structure PtOk (x : At) : Prop where
  rel : isRel x.1 ∨ x.1 = ""
  l : NameOk x.2.1 ∨ x.2.1 = ""
  r : NameOk x.2.2 ∨ x.2.2 = ""
theorem AtOk.pt {x : At} (h : AtOk x) : PtOk x := ⟨.inl h.rel, .inl h.l, .inl h.r⟩
theorem sm_empty : Sm 0 2 (.str "") := ⟨by decide +kernel, rfl, Nat.zero_le _, by decide +kernel⟩
theorem sm_rel {r : Str} (h : isRel r ∨ r = "") : Sm 0 22 (.str r) := by
  rcases h with (rfl | rfl | rfl) | rfl <;> exact ⟨by decide +kernel, rfl, Nat.zero_le _, by decide +kernel⟩
theorem sm_part {x : Str} (h : NameOk x ∨ x = "") : Sm 0 82 (.str x) := by
  rcases h with h | rfl
  · exact sm_str h
  · exact sm_empty.mono (Nat.le_refl _) (by decide)
theorem sm_at {x : At} (h : PtOk x) : Sm 1 255 (atD x) := (Sm.tup (n := 0) (w := 82) (m := 3) (fun d hd => by
  simp only [List.mem_cons, List.not_mem_nil, or_false] at hd
  rcases hd with rfl | rfl | rfl
  · exact (sm_rel h.rel).mono (Nat.le_refl _) (by decide)
  · exact sm_part h.l
  · exact sm_part h.r) (Nat.le_refl _))
/-- an atom over some names -/
structure AtIn (xs : List Str) (x : At) : Prop where
  rel : isRel x.1
  l : x.2.1 ∈ xs
  r : x.2.2 ∈ xs
theorem AtIn.ok {xs : List Str} {x : At} (h : AtIn xs x) (hx : ∀ x ∈ xs, NameOk x) : AtOk x := ⟨h.rel, hx _ h.l, hx _ h.r⟩
/-! ### patterns -/
/-- a pattern over some names -/
structure PtIn (xs : List Str) (x : At) : Prop where
  rel : isRel x.1 ∨ x.1 = ""
  l : x.2.1 ∈ xs ∨ x.2.1 = ""
  r : x.2.2 ∈ xs ∨ x.2.2 = ""
theorem PtIn.ok {xs : List Str} {x : At} (h : PtIn xs x) (hx : ∀ x ∈ xs, NameOk x) : PtOk x := ⟨h.rel, h.l.imp_left (hx _), h.r.imp_left (hx _)⟩
/-! ### facts -/
def ftD (fs : List At) : D := .tup (fs.map atD)
structure FtIn (xs : List Str) (fs : List At) : Prop where
  all : ∀ x ∈ fs, AtIn xs x
  len : fs.length = 1 ∨ fs.length = 2
structure FtOk (fs : List At) : Prop where
  all : ∀ x ∈ fs, AtOk x
  len : fs.length = 1 ∨ fs.length = 2
theorem FtIn.ok {xs : List Str} {fs : List At} (h : FtIn xs fs) (hx : ∀ x ∈ xs, NameOk x) : FtOk fs := ⟨fun x hm => (h.all x hm).ok hx, h.len⟩
theorem sm_ft {fs : List At} (h : FtOk fs) : Sm 2 517 (ftD fs) := (Sm.tup (n := 1) (w := 255) (m := 2) (fun d hd => by
  obtain ⟨x, hx, rfl⟩ := List.mem_map.mp hd
  exact sm_at (h.all x hx).pt) (by rw [List.length_map]; have := h.len; omega))
theorem map_of {α : Type} {enc : α → D} {P : α → Prop} : ∀ {ys : List D}, (∀ y ∈ ys, ∃ x, y = enc x ∧ P x) → ∃ xs : List α, ys = xs.map enc ∧ ∀ x ∈ xs, P x
  | [], _ => ⟨[], rfl, fun _ z => absurd z List.not_mem_nil⟩
  | y :: ys, h => by
    obtain ⟨x, rfl, hx⟩ := h y (List.mem_cons_self ..)
    obtain ⟨xs, rfl, hxs⟩ := map_of fun y hy => h y (List.mem_cons_of_mem _ hy)
    refine ⟨x :: xs, rfl, fun z hz => ?_⟩
    rcases List.mem_cons.mp hz with rfl | hz
    · exact hx
    · exact hxs z hz
/-! ### turned, fits -/
theorem r_eq_lt : (("eq" : Str) = "lt") = False := eq_false (by decide +kernel)
theorem r_eq_gt : (("eq" : Str) = "gt") = False := eq_false (by decide +kernel)
theorem r_lt_gt : (("lt" : Str) = "gt") = False := eq_false (by decide +kernel)
theorem r_lt_eq : (("lt" : Str) = "eq") = False := eq_false (by decide +kernel)
theorem r_gt_eq : (("gt" : Str) = "eq") = False := eq_false (by decide +kernel)
theorem r_gt_lt : (("gt" : Str) = "lt") = False := eq_false (by decide +kernel)
theorem r_eq_0 : (("eq" : Str) = "") = False := eq_false (by decide +kernel)
theorem r_lt_0 : (("lt" : Str) = "") = False := eq_false (by decide +kernel)
theorem r_gt_0 : (("gt" : Str) = "") = False := eq_false (by decide +kernel)
theorem r_0_eq : (("" : Str) = "eq") = False := eq_false (by decide +kernel)
theorem r_0_lt : (("" : Str) = "lt") = False := eq_false (by decide +kernel)
theorem r_0_gt : (("" : Str) = "gt") = False := eq_false (by decide +kernel)
theorem ne_empty {x : Str} (h : NameOk x) : x ≠ "" := fun e => by
  have := h.pos
  rw [e] at this
  exact absurd this (by decide +kernel)
theorem rel_ne {r : Str} (h : isRel r) : r ≠ "" := by
  rcases h with rfl | rfl | rfl <;> decide +kernel
/-- the turned relation -/
def bk (r : Str) : Str := if r = "lt" then "gt" else if r = "gt" then "lt" else r
def turn (x : At) : At := (bk x.1, x.2.2, x.2.1)
theorem bk_bk {r : Str} (h : isRel r ∨ r = "") : bk (bk r) = r := by
  rcases h with (rfl | rfl | rfl) | rfl <;> decide +kernel
theorem bk_rel {r : Str} (h : isRel r) : isRel (bk r) := by
  rcases h with rfl | rfl | rfl
  · exact .inl (by decide +kernel)
  · exact .inr (.inr (by decide +kernel))
  · exact .inr (.inl (by decide +kernel))
theorem bk_0 : bk "" = "" := by decide +kernel
theorem bk_eq : bk "eq" = "eq" := by decide +kernel
theorem bk_lt : bk "lt" = "gt" := by decide +kernel
theorem bk_gt : bk "gt" = "lt" := by decide +kernel
theorem AtOk.turn {x : At} (h : AtOk x) : AtOk (turn x) := ⟨bk_rel h.rel, h.r, h.l⟩
theorem PtOk.turn {x : At} (h : PtOk x) : PtOk (turn x) := ⟨h.rel.elim (fun z => .inl (bk_rel z)) fun z => .inr (by show bk x.1 = ""; rw [z, bk_0]), h.r, h.l⟩
theorem AtIn.turn {xs : List Str} {x : At} (h : AtIn xs x) : AtIn xs (turn x) := ⟨bk_rel h.rel, h.r, h.l⟩
theorem turn_turn {x : At} (h : PtOk x) : turn (turn x) = x := by
  obtain ⟨r, a, b⟩ := x
  show (bk (bk r), a, b) = _
  rw [bk_bk h.rel]
theorem FtOk.turn {fs : List At} (h : FtOk fs) : FtOk (fs.map turn) := ⟨fun x hx => by
  obtain ⟨y, hy, rfl⟩ := List.mem_map.mp hx
  exact (h.all y hy).turn, by rw [List.length_map]; exact h.len⟩
def ft (p q : Str) : Bool := decide (p = "") || decide (p = q)
def fitA (p x : At) : Bool := ft p.1 x.1 && (ft p.2.1 x.2.1 && ft p.2.2 x.2.2)
theorem ft_0 (q : Str) : ft "" q = true := by unfold ft; simp
theorem ft_self (q : Str) : ft q q = true := by unfold ft; simp
theorem in_part {p q : Str} {w : Nat} (hp : Sm 0 w (.str p)) (hq : Sm 0 w (.str q)) : semIn2 (.str p) (.tup [.str "", .str q]) = some (.bl (ft p q)) := by
  have he : (D.tup [.str "", .str q]).fit = true := (Sm.all (n := 0) (w := w + 2) fun d hd => by
    simp only [List.mem_cons, List.not_mem_nil, or_false] at hd
    rcases hd with rfl | rfl
    · exact sm_empty.mono (Nat.le_refl _) (by omega)
    · exact hq.mono (Nat.le_refl _) (by omega)).2
  rw [semIn_tup true hp.fit he rfl (fun e he => by
    simp only [List.mem_cons, List.not_mem_nil, or_false] at he
    rcases he with rfl | rfl <;> rfl)]
  unfold ft
  simp
theorem fitA_turn {p x : At} (hp : PtOk p) (hx : AtOk x) : fitA (turn p) x = fitA p (turn x) := by
  obtain ⟨p0, p1, p2⟩ := p
  obtain ⟨q0, q1, q2⟩ := x
  have : ft (bk p0) q0 = ft p0 (bk q0) := by
    have h1 := hp.rel
    have h2 := hx.rel
    rcases h1 with (rfl | rfl | rfl) | rfl <;> rcases h2 with rfl | rfl | rfl <;> decide +kernel
  show (ft (bk p0) q0 && (ft p2 q1 && ft p1 q2)) = (ft p0 (bk q0) && (ft p1 q2 && ft p2 q1))
  rw [this, Bool.and_comm (ft p2 q1)]
def prt (x : At) : Nat → Str
  | 0 => x.1
  | 1 => x.2.1
  | _ => x.2.2
end T

-- needs: _law_some
namespace T
open PySem L2 DL
/-! ### drawing: some, atoms -/
set_option maxHeartbeats 2000000 in
theorem some_ok {bs : List D} (hb : BagOk bs) (ds : List D) (h0 : ds ≠ []) (hl : ds.length ≤ 1000) : ∃ d bs', f__law_some bs [.lst ds] = some (.sh d, bs') ∧ d ∈ ds ∧ BagOk bs' := by
  have hp : 0 < ds.length := List.length_pos_iff.mpr h0
  obtain ⟨v, b1, e, v0, v1, hb1⟩ := take_ok hb (n := (ds.length : Int)) (by omega) (by omega)
  obtain ⟨d, e1, hd⟩ := atI_mem v0 v1
  refine ⟨d, b1, ?_, hd, hb1⟩
  simp only [f__law_some, m__law_some, fnB, fnP, Rs.noE, startE, seqS, ifS, thenS, toB, op2, opN, op1, Opd.run, fill, lookV, look, Rs.bind, Rs.map, ofO, cD, vD, D.asB, semGt, semGe, semLt, semLe, setS, putS, DL.putF, shD, frzD, mvD, rtS, chgS, fillW, OV.lst?, OV.d, nxS, runs, looks, semInt, semMod, semFdiv, semAdd, semSub, semMul, semAbs, semLen, semTuple, semList, lstD, tupD, evs, callP, callB, slD, poN, poS, semSl, D.asI, appS, appF, extS, extF, augS, augF, exS, ifD, andT, orT, notT, notD, andD, orD, par2, par3, asgS, gN, gT, gsCons, gsNil, forD, rg1, rg2, itA, zpD, zip2, zipD, lcD, yesT, wipeE, m1D, tabD, semIs, semIsNot, D.isN, toT, orV, andV, notV, D.tru, chD, isiD, D.key, evPs, dicD, semDict, pairD, semRepr, callL, op2O, slO, opNO, lrgO, OV.flt, D.flt, semAddL, semMulL, semListL, mLD, popF, popS, insF, insS, clrS, revO, Rs.noE, List.map_cons, List.map_nil, List.length_cons, List.length_nil, List.length_map, List.replicate, List.cons_append, List.nil_append, List.append_nil, List.getElem?_cons_zero, List.getElem?_cons_succ, List.set_cons_zero, List.set_cons_succ, Option.bind_some, Option.bind_none, Option.map_some, Option.map_none, Nat.zero_add, Nat.add_zero, Nat.reduceAdd, Nat.reduceSub, Nat.sub_self, Nat.reduceLeDiff, Nat.reduceEqDiff, Nat.le_refl, Nat.add_sub_cancel, if_true, if_false, Bool.false_eq_true, Bool.not_true, Bool.not_false, Bool.not_not, reduceIte, reduceCtorEq, and_self, and_true, true_and, decide_true, decide_false, semEq_str, semNe_str, semEq_int, semNe_int, semEq_bl, semNe_bl, atI0, atI1, atI2, atI3, atI4, OkS_nx, post_ok, items_lst, items_tup, semAt_lst, semAt_tup, semAt_str, semAt_dic, e, e1]
theorem someS_ok {bs : List D} (hb : BagOk bs) (xs : List Str) (h0 : xs ≠ []) (hl : xs.length ≤ 1000) : ∃ x bs', f__law_some bs [.lst (xs.map D.str)] = some (.sh (.str x), bs') ∧ x ∈ xs ∧ BagOk bs' := by
  obtain ⟨d, b, e, hd, hb'⟩ := some_ok hb (xs.map D.str) (fun z => h0 (List.map_eq_nil_iff.mp z)) (by rw [List.length_map]; exact hl)
  obtain ⟨x, hx, rfl⟩ := List.mem_map.mp hd
  exact ⟨x, b, e, hx, hb'⟩
end T

-- needs: _law_some _law_atom
namespace T
open PySem L2 DL
set_option maxHeartbeats 2000000 in
theorem atom_ok {bs : List D} (hb : BagOk bs) (xs : List Str) (h0 : xs ≠ []) (hl : xs.length ≤ 1000) : ∃ x bs', f__law_atom bs [.lst (xs.map D.str)] = some (.sh (atD x), bs') ∧ AtIn xs x ∧ BagOk bs' := by
  obtain ⟨v, b1, e1, v0, v1, hb1⟩ := take_ok hb (n := 4) (by decide) (by decide)
  obtain ⟨a, b2, e2, ha, hb2⟩ := someS_ok hb1 xs h0 hl
  obtain ⟨b, b3, e3, hbm, hb3⟩ := someS_ok hb2 xs h0 hl
  obtain ⟨r, er, hr⟩ : ∃ r : Str, atI [D.str "eq", D.str "lt", D.str "gt", D.str "lt"] v = some (.str r) ∧ isRel r := by
    have : v = 0 ∨ v = 1 ∨ v = 2 ∨ v = 3 := by omega
    rcases this with rfl | rfl | rfl | rfl
    · exact ⟨_, rfl, .inl rfl⟩
    · exact ⟨_, rfl, .inr (.inl rfl)⟩
    · exact ⟨_, rfl, .inr (.inr rfl)⟩
    · exact ⟨_, rfl, .inr (.inl rfl)⟩
  refine ⟨(r, a, b), b3, ?_, ⟨hr, ha, hbm⟩, hb3⟩
  simp only [f__law_atom, m__law_atom, fnB, fnP, Rs.noE, startE, seqS, ifS, thenS, toB, op2, opN, op1, Opd.run, fill, lookV, look, Rs.bind, Rs.map, ofO, cD, vD, D.asB, semGt, semGe, semLt, semLe, setS, putS, DL.putF, shD, frzD, mvD, rtS, chgS, fillW, OV.lst?, OV.d, nxS, runs, looks, semInt, semMod, semFdiv, semAdd, semSub, semMul, semAbs, semLen, semTuple, semList, lstD, tupD, evs, callP, callB, slD, poN, poS, semSl, D.asI, appS, appF, extS, extF, augS, augF, exS, ifD, andT, orT, notT, notD, andD, orD, par2, par3, asgS, gN, gT, gsCons, gsNil, forD, rg1, rg2, itA, zpD, zip2, zipD, lcD, yesT, wipeE, m1D, tabD, semIs, semIsNot, D.isN, toT, orV, andV, notV, D.tru, chD, isiD, D.key, evPs, dicD, semDict, pairD, semRepr, callL, op2O, slO, opNO, lrgO, OV.flt, D.flt, semAddL, semMulL, semListL, mLD, popF, popS, insF, insS, clrS, revO, Rs.noE, List.map_cons, List.map_nil, List.length_cons, List.length_nil, List.length_map, List.replicate, List.cons_append, List.nil_append, List.append_nil, List.getElem?_cons_zero, List.getElem?_cons_succ, List.set_cons_zero, List.set_cons_succ, Option.bind_some, Option.bind_none, Option.map_some, Option.map_none, Nat.zero_add, Nat.add_zero, Nat.reduceAdd, Nat.reduceSub, Nat.sub_self, Nat.reduceLeDiff, Nat.reduceEqDiff, Nat.le_refl, Nat.add_sub_cancel, if_true, if_false, Bool.false_eq_true, Bool.not_true, Bool.not_false, Bool.not_not, reduceIte, reduceCtorEq, and_self, and_true, true_and, decide_true, decide_false, semEq_str, semNe_str, semEq_int, semNe_int, semEq_bl, semNe_bl, atI0, atI1, atI2, atI3, atI4, OkS_nx, post_ok, items_lst, items_tup, semAt_lst, semAt_tup, semAt_str, semAt_dic, e1, e2, e3, er, atD]
end T

-- needs: _law_some _law_atom _law_fact
namespace T
open PySem L2 DL
set_option maxHeartbeats 4000000 in
theorem fact_ok {bs : List D} (hb : BagOk bs) (xs : List Str) (h0 : xs ≠ []) (hl : xs.length ≤ 1000) : ∃ fs bs', f__law_fact bs [.lst (xs.map D.str)] = some (.sh (ftD fs), bs') ∧ FtIn xs fs ∧ BagOk bs' := by
  obtain ⟨v, b1, e1, v0, v1, hb1⟩ := take_ok hb (n := 3) (by decide) (by decide)
  have ei : it__law_fact_1 [some (.ow bs), some (.sh (.lst (xs.map D.str))), none] = .ok (rangeD 0 (1 + v / 2).toNat) [some (.ow b1), some (.sh (.lst (xs.map D.str))), none] := by
    have h : -1000000 ≤ 1 + v / 2 ∧ 1 + v / 2 ≤ 1000000 := by omega
    simp [it__law_fact_1, fnB, fnP, Rs.noE, startE, seqS, ifS, thenS, toB, op2, opN, op1, Opd.run, fill, lookV, look, Rs.bind, Rs.map, ofO, cD, vD, semIx, semEq, semNe, eqB, D.sc, D.asB, atI, ixN, semGt, semGe, semLt, semLe, setS, putS, DL.putF, shD, frzD, mvD, rtS, chgS, fillW, OV.lst?, OV.d, nxS, runs, looks, semInt, semMod, semFdiv, semAdd, semSub, semMul, semAbs, semLen, semTuple, semList, lstD, tupD, evs, callP, callB, slD, poN, poS, semSl, D.asI, appS, appF, extS, extF, augS, augF, exS, ifD, andT, orT, notT, notD, andD, orD, par2, par3, asgS, gN, gT, gsCons, gsNil, forD, rg1, rg2, itA, D.items, zpD, zip2, zipD, lcD, yesT, wipeE, m1D, tabD, semIs, semIsNot, D.isN, semAt, semIn2, semNotIn2, inB2, toT, orV, andV, notV, D.tru, chD, isiD, D.isi, D.ty, isTy, D.key, evPs, dicD, semDict, pairD, mergeD, putD, valD, semRepr, callL, op2O, slO, opNO, lrgO, OV.flt, D.flt, semAddL, semMulL, semListL, mLD, popF, popS, insF, insS, clrS, revO, e1, h]
  obtain ⟨ys, r', q1, q2, q3, q4⟩ := lcD_inv (vs := [2]) (h := gN 2) (elt := el__law_fact_1) (fun r => ∃ b, r = [some (.ow b), some (.sh (.lst (xs.map D.str))), none] ∧ BagOk b) (fun y => ∃ x, y = atD x ∧ AtIn xs x) ei (by rw [rangeD_len]; omega) ⟨b1, rfl, hb1⟩ (by rintro r ⟨b, rfl, _⟩; rfl) (by
    rintro d _ r ⟨b, rfl, hb⟩
    obtain ⟨x, b', e, hx, hb'⟩ := atom_ok hb xs h0 hl
    refine ⟨[some (.ow b), some (.sh (.lst (xs.map D.str))), some (.sh d)], atD x, [some (.ow b'), some (.sh (.lst (xs.map D.str))), some (.sh d)], rfl, ?_, ⟨x, rfl, hx⟩, b', rfl, hb'⟩
    simp only [el__law_fact_1, fnB, fnP, Rs.noE, startE, seqS, ifS, thenS, toB, op2, opN, op1, Opd.run, fill, lookV, look, Rs.bind, Rs.map, ofO, cD, vD, D.asB, semGt, semGe, semLt, semLe, setS, putS, DL.putF, shD, frzD, mvD, rtS, chgS, fillW, OV.lst?, OV.d, nxS, runs, looks, semInt, semMod, semFdiv, semAdd, semSub, semMul, semAbs, semLen, semTuple, semList, lstD, tupD, evs, callP, callB, slD, poN, poS, semSl, D.asI, appS, appF, extS, extF, augS, augF, exS, ifD, andT, orT, notT, notD, andD, orD, par2, par3, asgS, gN, gT, gsCons, gsNil, forD, rg1, rg2, itA, zpD, zip2, zipD, lcD, yesT, wipeE, m1D, tabD, semIs, semIsNot, D.isN, toT, orV, andV, notV, D.tru, chD, isiD, D.key, evPs, dicD, semDict, pairD, semRepr, callL, op2O, slO, opNO, lrgO, OV.flt, D.flt, semAddL, semMulL, semListL, mLD, popF, popS, insF, insS, clrS, revO, Rs.noE, List.map_cons, List.map_nil, List.length_cons, List.length_nil, List.length_map, List.replicate, List.cons_append, List.nil_append, List.append_nil, List.getElem?_cons_zero, List.getElem?_cons_succ, List.set_cons_zero, List.set_cons_succ, Option.bind_some, Option.bind_none, Option.map_some, Option.map_none, Nat.zero_add, Nat.add_zero, Nat.reduceAdd, Nat.reduceSub, Nat.sub_self, Nat.reduceLeDiff, Nat.reduceEqDiff, Nat.le_refl, Nat.add_sub_cancel, if_true, if_false, Bool.false_eq_true, Bool.not_true, Bool.not_false, Bool.not_not, reduceIte, reduceCtorEq, and_self, and_true, true_and, decide_true, decide_false, semEq_str, semNe_str, semEq_int, semNe_int, semEq_bl, semNe_bl, atI0, atI1, atI2, atI3, atI4, OkS_nx, post_ok, items_lst, items_tup, semAt_lst, semAt_tup, semAt_str, semAt_dic, e])
  obtain ⟨b', rfl, hb'⟩ := q4
  obtain ⟨fs, rfl, hfs⟩ := map_of q3
  rw [List.length_map, rangeD_len] at q2
  have q1 : lc__law_fact_1 [some (.ow bs), some (.sh (.lst (xs.map D.str))), none] = _ := q1
  refine ⟨fs, b', ?_, ⟨hfs, by omega⟩, hb'⟩
  simp only [f__law_fact, m__law_fact, fnB, fnP, Rs.noE, startE, seqS, ifS, thenS, toB, op2, opN, op1, Opd.run, fill, lookV, look, Rs.bind, Rs.map, ofO, cD, vD, D.asB, semGt, semGe, semLt, semLe, setS, putS, DL.putF, shD, frzD, mvD, rtS, chgS, fillW, OV.lst?, OV.d, nxS, runs, looks, semInt, semMod, semFdiv, semAdd, semSub, semMul, semAbs, semLen, semTuple, semList, lstD, tupD, evs, callP, callB, slD, poN, poS, semSl, D.asI, appS, appF, extS, extF, augS, augF, exS, ifD, andT, orT, notT, notD, andD, orD, par2, par3, asgS, gN, gT, gsCons, gsNil, forD, rg1, rg2, itA, zpD, zip2, zipD, lcD, yesT, wipeE, m1D, tabD, semIs, semIsNot, D.isN, toT, orV, andV, notV, D.tru, chD, isiD, D.key, evPs, dicD, semDict, pairD, semRepr, callL, op2O, slO, opNO, lrgO, OV.flt, D.flt, semAddL, semMulL, semListL, mLD, popF, popS, insF, insS, clrS, revO, Rs.noE, List.map_cons, List.map_nil, List.length_cons, List.length_nil, List.length_map, List.replicate, List.cons_append, List.nil_append, List.append_nil, List.getElem?_cons_zero, List.getElem?_cons_succ, List.set_cons_zero, List.set_cons_succ, Option.bind_some, Option.bind_none, Option.map_some, Option.map_none, Nat.zero_add, Nat.add_zero, Nat.reduceAdd, Nat.reduceSub, Nat.sub_self, Nat.reduceLeDiff, Nat.reduceEqDiff, Nat.le_refl, Nat.add_sub_cancel, if_true, if_false, Bool.false_eq_true, Bool.not_true, Bool.not_false, Bool.not_not, reduceIte, reduceCtorEq, and_self, and_true, true_and, decide_true, decide_false, semEq_str, semNe_str, semEq_int, semNe_int, semEq_bl, semNe_bl, atI0, atI1, atI2, atI3, atI4, OkS_nx, post_ok, items_lst, items_tup, semAt_lst, semAt_tup, semAt_str, semAt_dic, q1, ftD]
end T

-- needs: _law_alike
namespace T
open PySem L2 DL
set_option maxHeartbeats 4000000 in
theorem alike_ok {d : D} (h : d.shw = true) (hf : d.fit = true) : f__law_alike [d, d] = some (.sh (.bl true)) := by
  have e := semEq_self hf
  simp only [f__law_alike, m__law_alike, fnB, fnP, Rs.noE, startE, seqS, ifS, thenS, toB, op2, opN, op1, Opd.run, fill, lookV, look, Rs.bind, Rs.map, ofO, cD, vD, D.asB, semGt, semGe, semLt, semLe, setS, putS, DL.putF, shD, frzD, mvD, rtS, chgS, fillW, OV.lst?, OV.d, nxS, runs, looks, semInt, semMod, semFdiv, semAdd, semSub, semMul, semAbs, semLen, semTuple, semList, lstD, tupD, evs, callP, callB, slD, poN, poS, semSl, D.asI, appS, appF, extS, extF, augS, augF, exS, ifD, andT, orT, notT, notD, andD, orD, par2, par3, asgS, gN, gT, gsCons, gsNil, forD, rg1, rg2, itA, zpD, zip2, zipD, lcD, yesT, wipeE, m1D, tabD, semIs, semIsNot, D.isN, toT, orV, andV, notV, D.tru, chD, isiD, D.key, evPs, dicD, semDict, pairD, semRepr, callL, op2O, slO, opNO, lrgO, OV.flt, D.flt, semAddL, semMulL, semListL, mLD, popF, popS, insF, insS, clrS, revO, Rs.noE, List.map_cons, List.map_nil, List.length_cons, List.length_nil, List.length_map, List.replicate, List.cons_append, List.nil_append, List.append_nil, List.getElem?_cons_zero, List.getElem?_cons_succ, List.set_cons_zero, List.set_cons_succ, Option.bind_some, Option.bind_none, Option.map_some, Option.map_none, Nat.zero_add, Nat.add_zero, Nat.reduceAdd, Nat.reduceSub, Nat.sub_self, Nat.reduceLeDiff, Nat.reduceEqDiff, Nat.le_refl, Nat.add_sub_cancel, if_true, if_false, Bool.false_eq_true, Bool.not_true, Bool.not_false, Bool.not_not, reduceIte, reduceCtorEq, and_self, and_true, true_and, decide_true, decide_false, semEq_str, semNe_str, semEq_int, semNe_int, semEq_bl, semNe_bl, atI0, atI1, atI2, atI3, atI4, OkS_nx, post_ok, items_lst, items_tup, semAt_lst, semAt_tup, semAt_str, semAt_dic, e, h]
theorem alike_sm {d : D} {n w : Nat} (h : Sm n w d) (hn : n ≤ 64 := by decide) (hw : w ≤ 1000000 := by decide) : f__law_alike [d, d] = some (.sh (.bl true)) := alike_ok (h.shw hn hw) (h.fit hn)
end T

-- needs: _law_world _law_names
namespace T
open PySem L2 DL
/-! ### worlds -/
/-- a world: three names for rows, two to four for things -/
def wdD (xs ys : List Str) : D := .dic [(.inr "names", .lst (xs.map D.str)), (.inr "things", .lst (ys.map D.str))]
structure WorldOk (xs ys : List Str) : Prop where
  x3 : xs.length = 3
  y2 : 2 ≤ ys.length ∧ ys.length ≤ 4
  xn : xs.Nodup
  yn : ys.Nodup
  x : ∀ x ∈ xs, NameOk x
  y : ∀ y ∈ ys, NameOk y
  yz : ∀ y ∈ ys, y ≠ ("zzzzz" : Str)
theorem WorldOk.x0 {xs ys : List Str} (w : WorldOk xs ys) : xs ≠ [] := fun z => by have := w.x3; rw [z] at this; cases this
theorem WorldOk.y0 {xs ys : List Str} (w : WorldOk xs ys) : ys ≠ [] := fun z => by have := w.y2; rw [z] at this; simp at this
theorem wd_names (xs ys : List Str) : semAt (wdD xs ys) (.str "names") = some (.lst (xs.map D.str)) := rfl
theorem n_ne_t : ((Sum.inr ("names" : Str) : Key) = (Sum.inr ("things" : Str) : Key)) = False := eq_false fun h => by
  have : ("names" : Str) = "things" := Sum.inr.inj h
  exact absurd this (by decide +kernel)
theorem wd_things (xs ys : List Str) : semAt (wdD xs ys) (.str "things") = some (.lst (ys.map D.str)) := by
  have hk : ¬ ((Sum.inr ("names" : Str) : Key) = (Sum.inr ("things" : Str) : Key)) := fun h => by rw [n_ne_t] at h; exact h
  show valD [((Sum.inr ("names" : Str) : Key), .lst (xs.map D.str)), ((Sum.inr ("things" : Str) : Key), .lst (ys.map D.str))] (Sum.inr ("things" : Str) : Key) = _
  unfold valD
  simp only [List.find?_cons, hk, decide_false, decide_true, Option.map_some]
set_option maxHeartbeats 4000000 in
theorem world_ok {bs : List D} (hb : BagOk bs) : ∃ xs ys bs', f__law_world bs [] = some (.sh (wdD xs ys), bs') ∧ WorldOk xs ys ∧ BagOk bs' := by
  obtain ⟨xs, b1, e1, h1, n1, o1, hb1⟩ := names_ok hb 3 (by decide)
  obtain ⟨v, b2, e2, v0, v1, hb2⟩ := take_ok hb1 (n := 3) (by decide) (by decide)
  obtain ⟨m, hm, hm2⟩ : ∃ m : Nat, 2 + v = (m : Int) ∧ 2 ≤ m ∧ m ≤ 4 := ⟨(2 + v).toNat, by omega, by omega, by omega⟩
  obtain ⟨ys, b3, e3, h3, n3, o3, hb3⟩ := names_okZ hb2 m (by omega)
  have e1 : f__law_names bs [.int 3] = some (.ow (xs.map D.str), b1) := e1
  refine ⟨xs, ys, b3, ?_, ⟨h1, by omega, n1, n3, o1, fun y hy => (o3 y hy).1, fun y hy => (o3 y hy).2⟩, hb3⟩
  have hmg : mergeD [] [((Sum.inr "names" : Key), D.lst (xs.map D.str)), (Sum.inr "things", .lst (ys.map D.str))] = [((Sum.inr "names" : Key), D.lst (xs.map D.str)), (Sum.inr "things", .lst (ys.map D.str))] := by
    have hk : ¬ ((Sum.inr ("names" : Str) : Key) = (Sum.inr ("things" : Str) : Key)) := fun h => by rw [n_ne_t] at h; exact h
    simp only [mergeD, List.foldl_cons, List.foldl_nil, putD, List.any_nil, Bool.false_eq_true, if_false, List.nil_append, List.any_cons, hk, decide_false, Bool.or_false, List.cons_append]
  simp only [f__law_world, m__law_world, fnB, fnP, Rs.noE, startE, seqS, ifS, thenS, toB, op2, opN, op1, Opd.run, fill, lookV, look, Rs.bind, Rs.map, ofO, cD, vD, D.asB, semGt, semGe, semLt, semLe, setS, putS, DL.putF, shD, frzD, mvD, rtS, chgS, fillW, OV.lst?, OV.d, nxS, runs, looks, semInt, semMod, semFdiv, semAdd, semSub, semMul, semAbs, semLen, semTuple, semList, lstD, tupD, evs, callP, callB, slD, poN, poS, semSl, D.asI, appS, appF, extS, extF, augS, augF, exS, ifD, andT, orT, notT, notD, andD, orD, par2, par3, asgS, gN, gT, gsCons, gsNil, forD, rg1, rg2, itA, zpD, zip2, zipD, lcD, yesT, wipeE, m1D, tabD, semIs, semIsNot, D.isN, toT, orV, andV, notV, D.tru, chD, isiD, D.key, evPs, dicD, semDict, pairD, semRepr, callL, op2O, slO, opNO, lrgO, OV.flt, D.flt, semAddL, semMulL, semListL, mLD, popF, popS, insF, insS, clrS, revO, Rs.noE, List.map_cons, List.map_nil, List.length_cons, List.length_nil, List.length_map, List.replicate, List.cons_append, List.nil_append, List.append_nil, List.getElem?_cons_zero, List.getElem?_cons_succ, List.set_cons_zero, List.set_cons_succ, Option.bind_some, Option.bind_none, Option.map_some, Option.map_none, Nat.zero_add, Nat.add_zero, Nat.reduceAdd, Nat.reduceSub, Nat.sub_self, Nat.reduceLeDiff, Nat.reduceEqDiff, Nat.le_refl, Nat.add_sub_cancel, if_true, if_false, Bool.false_eq_true, Bool.not_true, Bool.not_false, Bool.not_not, reduceIte, reduceCtorEq, and_self, and_true, true_and, decide_true, decide_false, semEq_str, semNe_str, semEq_int, semNe_int, semEq_bl, semNe_bl, atI0, atI1, atI2, atI3, atI4, OkS_nx, post_ok, items_lst, items_tup, semAt_lst, semAt_tup, semAt_str, semAt_dic, e1, e2, hm, e3, hmg, wdD]
end T

-- needs: _law_world _law_row _law_fact
namespace T
open PySem L2 DL
/-! ### rows, worlds -/
abbrev Row := Str × List At
def rwD (r : Row) : D := .tup [.str r.1, ftD r.2]
def rwsD (rs : List Row) : D := .lst (rs.map rwD)
structure RowOk (r : Row) : Prop where
  nm : NameOk r.1
  ft : FtOk r.2
structure RowIn (xs ys : List Str) (r : Row) : Prop where
  nm : r.1 ∈ xs
  ft : FtIn ys r.2
theorem RowIn.ok {xs ys : List Str} {r : Row} (h : RowIn xs ys r) (hx : ∀ x ∈ xs, NameOk x) (hy : ∀ y ∈ ys, NameOk y) : RowOk r := ⟨hx _ h.nm, h.ft.ok hy⟩
theorem ftD_inj {a b : List At} : ftD a = ftD b ↔ a = b := by
  unfold ftD
  rw [D.tup.injEq]
  exact ⟨fun h => (List.map_inj_right (fun x y e => atD_inj.mp e)).mp h, fun h => by rw [h]⟩
theorem rwD_inj {a b : Row} : rwD a = rwD b ↔ a = b := by
  obtain ⟨n, f⟩ := a
  obtain ⟨m, h⟩ := b
  simp [rwD, ftD_inj]
theorem sm_row {r : Row} (h : RowOk r) : Sm 3 1041 (rwD r) := (Sm.tup (n := 2) (w := 517) (m := 2) (fun d hd => by
  simp only [List.mem_cons, List.not_mem_nil, or_false] at hd
  rcases hd with rfl | rfl
  · exact (sm_str h.nm).mono (by decide) (by decide)
  · exact sm_ft h.ft) (Nat.le_refl _))
theorem sm_rows {rs : List Row} {m : Nat} (h : ∀ r ∈ rs, RowOk r) (hm : rs.length ≤ m) : Sm 4 (m * 1043 + 3) (rwsD rs) := Sm.lst (n := 3) (w := 1041) (fun d hd => by
  obtain ⟨r, hr, rfl⟩ := List.mem_map.mp hd
  exact sm_row (h r hr)) (by rw [List.length_map]; exact hm)
theorem cl_row (k : Bool) (r : Row) : (rwD r).cl k = true := by
  have : clAll k (r.2.map atD) = true := clAll_iff.mpr fun e he => by
    obtain ⟨x, _, rfl⟩ := List.mem_map.mp he
    rfl
  show (true && ((clAll k (r.2.map atD)) && true)) = true
  rw [this]; rfl
set_option maxHeartbeats 4000000 in
theorem row_ok {bs : List D} (hb : BagOk bs) {xs ys : List Str} (w : WorldOk xs ys) : ∃ r bs', f__law_row bs [wdD xs ys] = some (.sh (rwD r), bs') ∧ RowIn xs ys r ∧ BagOk bs' := by
  obtain ⟨n, b1, e1, h1, hb1⟩ := someS_ok hb xs w.x0 (by have := w.x3; omega)
  obtain ⟨fs, b2, e2, h2, hb2⟩ := fact_ok hb1 ys w.y0 (by have := w.y2; omega)
  refine ⟨(n, fs), b2, ?_, ⟨h1, h2⟩, hb2⟩
  simp only [f__law_row, m__law_row, fnB, startE, rtS, shD, tupD, evs, frzD, callB, op2, Opd.run, fill, cD, lookV, look, Rs.bind, Rs.map, ofO, OV.d, OV.lst?, thenS, wd_names, wd_things, Rs.noE, List.map_cons, List.map_nil, List.length_cons, List.length_nil, List.length_map, List.replicate, List.cons_append, List.nil_append, List.append_nil, List.getElem?_cons_zero, List.getElem?_cons_succ, List.set_cons_zero, List.set_cons_succ, Option.bind_some, Option.bind_none, Option.map_some, Option.map_none, Nat.zero_add, Nat.add_zero, Nat.reduceAdd, Nat.reduceSub, Nat.sub_self, Nat.reduceLeDiff, Nat.reduceEqDiff, Nat.le_refl, Nat.add_sub_cancel, if_true, if_false, Bool.false_eq_true, Bool.not_true, Bool.not_false, Bool.not_not, reduceIte, reduceCtorEq, and_self, and_true, true_and, decide_true, decide_false, semEq_str, semNe_str, semEq_int, semNe_int, semEq_bl, semNe_bl, atI0, atI1, atI2, atI3, atI4, OkS_nx, post_ok, items_lst, items_tup, semAt_lst, semAt_tup, semAt_str, semAt_dic, e1, e2, rwD]
end T

-- needs: _law_world _law_row _law_rows _law_fact
namespace T
open PySem L2 DL
set_option maxHeartbeats 4000000 in
theorem rows_ok {bs : List D} (hb : BagOk bs) {xs ys : List Str} (w : WorldOk xs ys) (m : Nat) (hm : m ≤ 100) : ∃ (rs : List Row) (bs' : List D), f__law_rows bs [wdD xs ys, .int m] = some (.ow (rs.map rwD), bs') ∧ rs.length ≤ m ∧ (∀ r ∈ rs, RowIn xs ys r) ∧ BagOk bs' := by
  obtain ⟨v, b1, e1, v0, v1, hb1⟩ := take_ok hb (n := (m : Int) + 1) (by omega) (by omega)
  have ei : it__law_rows_1 [some (.ow bs), some (.sh (wdD xs ys)), some (.sh (.int m)), none] = .ok (rangeD 0 v.toNat) [some (.ow b1), some (.sh (wdD xs ys)), some (.sh (.int m)), none] := by
    have h : -1000000 ≤ v ∧ v ≤ 1000000 := by omega
    simp only [it__law_rows_1, fnB, fnP, Rs.noE, startE, seqS, ifS, thenS, toB, op2, opN, op1, Opd.run, fill, lookV, look, Rs.bind, Rs.map, ofO, cD, vD, D.asB, semGt, semGe, semLt, semLe, setS, putS, DL.putF, shD, frzD, mvD, rtS, chgS, fillW, OV.lst?, OV.d, nxS, runs, looks, semInt, semMod, semFdiv, semAdd, semSub, semMul, semAbs, semLen, semTuple, semList, lstD, tupD, evs, callP, callB, slD, poN, poS, semSl, D.asI, appS, appF, extS, extF, augS, augF, exS, ifD, andT, orT, notT, notD, andD, orD, par2, par3, asgS, gN, gT, gsCons, gsNil, forD, rg1, rg2, itA, zpD, zip2, zipD, lcD, yesT, wipeE, m1D, tabD, semIs, semIsNot, D.isN, toT, orV, andV, notV, D.tru, chD, isiD, D.key, evPs, dicD, semDict, pairD, semRepr, callL, op2O, slO, opNO, lrgO, OV.flt, D.flt, semAddL, semMulL, semListL, mLD, popF, popS, insF, insS, clrS, revO, Rs.noE, List.map_cons, List.map_nil, List.length_cons, List.length_nil, List.length_map, List.replicate, List.cons_append, List.nil_append, List.append_nil, List.getElem?_cons_zero, List.getElem?_cons_succ, List.set_cons_zero, List.set_cons_succ, Option.bind_some, Option.bind_none, Option.map_some, Option.map_none, Nat.zero_add, Nat.add_zero, Nat.reduceAdd, Nat.reduceSub, Nat.sub_self, Nat.reduceLeDiff, Nat.reduceEqDiff, Nat.le_refl, Nat.add_sub_cancel, if_true, if_false, Bool.false_eq_true, Bool.not_true, Bool.not_false, Bool.not_not, reduceIte, reduceCtorEq, and_self, and_true, true_and, decide_true, decide_false, semEq_str, semNe_str, semEq_int, semNe_int, semEq_bl, semNe_bl, atI0, atI1, atI2, atI3, atI4, OkS_nx, post_ok, items_lst, items_tup, semAt_lst, semAt_tup, semAt_str, semAt_dic, e1, h]
  obtain ⟨zs, r', q1, q2, q3, q4⟩ := lcD_ok (vs := [3]) (h := gN 3) (elt := el__law_rows_1) (fun r => ∃ b, r = [some (.ow b), some (.sh (wdD xs ys)), some (.sh (.int m)), none] ∧ BagOk b) (fun y => ∃ x, y = rwD x ∧ RowIn xs ys x) ei (by rw [rangeD_len]; omega) ⟨b1, rfl, hb1⟩ (by rintro r ⟨b, rfl, _⟩; rfl) (by
    rintro d _ r ⟨b, rfl, hb⟩
    obtain ⟨x, b', e, hx, hb'⟩ := row_ok hb w
    refine ⟨_, rfl, ?_⟩
    simp only [el__law_rows_1, gN, fnB, fnP, Rs.noE, startE, seqS, ifS, thenS, toB, op2, opN, op1, Opd.run, fill, lookV, look, Rs.bind, Rs.map, ofO, cD, vD, D.asB, semGt, semGe, semLt, semLe, setS, putS, DL.putF, shD, frzD, mvD, rtS, chgS, fillW, OV.lst?, OV.d, nxS, runs, looks, semInt, semMod, semFdiv, semAdd, semSub, semMul, semAbs, semLen, semTuple, semList, lstD, tupD, evs, callP, callB, slD, poN, poS, semSl, D.asI, appS, appF, extS, extF, augS, augF, exS, ifD, andT, orT, notT, notD, andD, orD, par2, par3, asgS, gN, gT, gsCons, gsNil, forD, rg1, rg2, itA, zpD, zip2, zipD, lcD, yesT, wipeE, m1D, tabD, semIs, semIsNot, D.isN, toT, orV, andV, notV, D.tru, chD, isiD, D.key, evPs, dicD, semDict, pairD, semRepr, callL, op2O, slO, opNO, lrgO, OV.flt, D.flt, semAddL, semMulL, semListL, mLD, popF, popS, insF, insS, clrS, revO, Rs.noE, List.map_cons, List.map_nil, List.length_cons, List.length_nil, List.length_map, List.replicate, List.cons_append, List.nil_append, List.append_nil, List.getElem?_cons_zero, List.getElem?_cons_succ, List.set_cons_zero, List.set_cons_succ, Option.bind_some, Option.bind_none, Option.map_some, Option.map_none, Nat.zero_add, Nat.add_zero, Nat.reduceAdd, Nat.reduceSub, Nat.sub_self, Nat.reduceLeDiff, Nat.reduceEqDiff, Nat.le_refl, Nat.add_sub_cancel, if_true, if_false, Bool.false_eq_true, Bool.not_true, Bool.not_false, Bool.not_not, reduceIte, reduceCtorEq, and_self, and_true, true_and, decide_true, decide_false, semEq_str, semNe_str, semEq_int, semNe_int, semEq_bl, semNe_bl, atI0, atI1, atI2, atI3, atI4, OkS_nx, post_ok, items_lst, items_tup, semAt_lst, semAt_tup, semAt_str, semAt_dic, e]
    exact ⟨⟨x, rfl, hx⟩, b', rfl, hb'⟩)
  obtain ⟨b', rfl, hb'⟩ := q4
  obtain ⟨rs, rfl, hrs⟩ := map_of q3
  rw [List.length_map, rangeD_len] at q2
  have q1 : lc__law_rows_1 _ = _ := q1
  refine ⟨rs, b', ?_, by omega, hrs, hb'⟩
  simp only [f__law_rows, m__law_rows, fnB, fnP, Rs.noE, startE, seqS, ifS, thenS, toB, op2, opN, op1, Opd.run, fill, lookV, look, Rs.bind, Rs.map, ofO, cD, vD, D.asB, semGt, semGe, semLt, semLe, setS, putS, DL.putF, shD, frzD, mvD, rtS, chgS, fillW, OV.lst?, OV.d, nxS, runs, looks, semInt, semMod, semFdiv, semAdd, semSub, semMul, semAbs, semLen, semTuple, semList, lstD, tupD, evs, callP, callB, slD, poN, poS, semSl, D.asI, appS, appF, extS, extF, augS, augF, exS, ifD, andT, orT, notT, notD, andD, orD, par2, par3, asgS, gN, gT, gsCons, gsNil, forD, rg1, rg2, itA, zpD, zip2, zipD, lcD, yesT, wipeE, m1D, tabD, semIs, semIsNot, D.isN, toT, orV, andV, notV, D.tru, chD, isiD, D.key, evPs, dicD, semDict, pairD, semRepr, callL, op2O, slO, opNO, lrgO, OV.flt, D.flt, semAddL, semMulL, semListL, mLD, popF, popS, insF, insS, clrS, revO, Rs.noE, List.map_cons, List.map_nil, List.length_cons, List.length_nil, List.length_map, List.replicate, List.cons_append, List.nil_append, List.append_nil, List.getElem?_cons_zero, List.getElem?_cons_succ, List.set_cons_zero, List.set_cons_succ, Option.bind_some, Option.bind_none, Option.map_some, Option.map_none, Nat.zero_add, Nat.add_zero, Nat.reduceAdd, Nat.reduceSub, Nat.sub_self, Nat.reduceLeDiff, Nat.reduceEqDiff, Nat.le_refl, Nat.add_sub_cancel, if_true, if_false, Bool.false_eq_true, Bool.not_true, Bool.not_false, Bool.not_not, reduceIte, reduceCtorEq, and_self, and_true, true_and, decide_true, decide_false, semEq_str, semNe_str, semEq_int, semNe_int, semEq_bl, semNe_bl, atI0, atI1, atI2, atI3, atI4, OkS_nx, post_ok, items_lst, items_tup, semAt_lst, semAt_tup, semAt_str, semAt_dic, q1]
end T

-- needs: is_name is_relation _law_names
namespace T
open PySem L2 DL
/-! ### any values: names, relations -/
/-- any value: it can be shown, of a depth and a weight -/
structure Gd (n w : Nat) (d : D) : Prop where
  rp : d.rp = true
  dq : d.dq ≤ n
  wq : d.wq ≤ w
theorem Gd.mono {n w n' w' : Nat} {d : D} (h : Gd n w d) (h1 : n ≤ n') (h2 : w ≤ w') : Gd n' w' d := ⟨h.rp, Nat.le_trans h.dq h1, Nat.le_trans h.wq h2⟩
theorem Gd.shx {n w : Nat} {d : D} (h : Gd n w d) (hn : n ≤ 64 := by decide) (hw : w ≤ 1000000 := by decide) : d.shx = true := by
  unfold D.shx
  rw [h.rp, decide_eq_true (Nat.le_trans h.dq hn), decide_eq_true (Nat.le_trans h.wq hw)]; rfl
def nmB : D → Bool
  | .str x => nameB x
  | _ => false
def relB : D → Bool
  | .str x => decide (x = "eq") || (decide (x = "lt") || decide (x = "gt"))
  | _ => false
theorem isi_str (d : D) : d.isi ["str"] = match d with | .str _ => true | _ => false := by cases d <;> rfl
theorem isi_tup (d : D) : d.isi ["tuple"] = match d with | .tup _ => true | _ => false := by cases d <;> rfl
theorem in_let (c : Nat) : semIn2 (.str (one c)) (.str LET) = some (.bl (decide (97 ≤ c) && decide (c ≤ 122))) := by
  have h := StrLaws.found_one LET c
  have hm : decide (c ∈ LET.cps.toList) = (decide (97 ≤ c) && decide (c ≤ 122)) := by
    rw [let_codes, Bool.eq_iff_iff, decide_eq_true_eq, Bool.and_eq_true, decide_eq_true_eq, decide_eq_true_eq, List.mem_map]
    constructor
    · rintro ⟨k, hk, rfl⟩
      have := List.mem_range.mp hk
      omega
    · intro ⟨h1, h2⟩
      exact ⟨c - 97, List.mem_range.mpr (by omega), by omega⟩
  show some (D.bl (!(Builtin.Str.occurrences LET (one c) 0 LET.length 1).isEmpty)) = _
  rw [← hm]
  exact congrArg (fun b => some (D.bl b)) h
theorem str_wq {x : Str} {w : Nat} (h : (D.str x).wq ≤ w) : 10 * x.length + 2 ≤ w := h
set_option maxHeartbeats 4000000 in
theorem isName_eq {n w : Nat} {d : D} (h : Gd n w d) (hw : w ≤ 1000000) : f_is_name [d] = some (.sh (.bl (nmB d))) := by
  cases d with
  | str x =>
    have hl : x.length ≤ 1000000 := by have := str_wq h.wq; omega
    by_cases c1 : 1 ≤ x.length ∧ x.length ≤ 8
    · have e : lc_is_name_1 [some (.sh (.str x)), none] = .ok (.ow (x.cps.toList.map fun c => .bl (decide (97 ≤ c) && decide (c ≤ 122)))) [some (.sh (.str x)), none] :=
        lcD_mp1 (it := it_is_name_1) (vs := [1]) (h := gN 1) (elt := el_is_name_1) (r := [some (.sh (.str x)), none]) _ x.cps.toList (fun c => D.str (one c)) _ (by
          have hi : (D.str x).items = some (signs x) := if_pos hl
          simp only [it_is_name_1, itA, vD, Rs.bind, ofO, Rs.noE, List.map_cons, List.map_nil, List.length_cons, List.length_nil, List.length_map, List.replicate, List.cons_append, List.nil_append, List.append_nil, List.getElem?_cons_zero, List.getElem?_cons_succ, List.set_cons_zero, List.set_cons_succ, Option.bind_some, Option.bind_none, Option.map_some, Option.map_none, Nat.zero_add, Nat.add_zero, Nat.reduceAdd, Nat.reduceSub, Nat.sub_self, Nat.reduceLeDiff, Nat.reduceEqDiff, Nat.le_refl, Nat.add_sub_cancel, if_true, if_false, Bool.false_eq_true, Bool.not_true, Bool.not_false, Bool.not_not, reduceIte, reduceCtorEq, and_self, and_true, true_and, decide_true, decide_false, semEq_str, semNe_str, semEq_int, semNe_int, semEq_bl, semNe_bl, atI0, atI1, atI2, atI3, atI4, OkS_nx, post_ok, items_lst, items_tup, semAt_lst, semAt_tup, semAt_str, semAt_dic, hi]
          rfl) (by rw [← len_codes]; exact hl) rfl rfl (fun c _ => ⟨_, rfl, rfl, by
            have := in_let c
            simp only [el_is_name_1, gN, c_LETTERS, fnB, fnP, Rs.noE, startE, seqS, ifS, thenS, toB, op2, opN, op1, Opd.run, fill, lookV, look, Rs.bind, Rs.map, ofO, cD, vD, D.asB, semGt, semGe, semLt, semLe, setS, putS, DL.putF, shD, frzD, mvD, rtS, chgS, fillW, OV.lst?, OV.d, nxS, runs, looks, semInt, semMod, semFdiv, semAdd, semSub, semMul, semAbs, semLen, semTuple, semList, lstD, tupD, evs, callP, callB, slD, poN, poS, semSl, D.asI, appS, appF, extS, extF, augS, augF, exS, ifD, andT, orT, notT, notD, andD, orD, par2, par3, asgS, gN, gT, gsCons, gsNil, forD, rg1, rg2, itA, zpD, zip2, zipD, lcD, yesT, wipeE, m1D, tabD, semIs, semIsNot, D.isN, toT, orV, andV, notV, D.tru, chD, isiD, D.key, evPs, dicD, semDict, pairD, semRepr, callL, op2O, slO, opNO, lrgO, OV.flt, D.flt, semAddL, semMulL, semListL, mLD, popF, popS, insF, insS, clrS, revO, Rs.noE, List.map_cons, List.map_nil, List.length_cons, List.length_nil, List.length_map, List.replicate, List.cons_append, List.nil_append, List.append_nil, List.getElem?_cons_zero, List.getElem?_cons_succ, List.set_cons_zero, List.set_cons_succ, Option.bind_some, Option.bind_none, Option.map_some, Option.map_none, Nat.zero_add, Nat.add_zero, Nat.reduceAdd, Nat.reduceSub, Nat.sub_self, Nat.reduceLeDiff, Nat.reduceEqDiff, Nat.le_refl, Nat.add_sub_cancel, if_true, if_false, Bool.false_eq_true, Bool.not_true, Bool.not_false, Bool.not_not, reduceIte, reduceCtorEq, and_self, and_true, true_and, decide_true, decide_false, semEq_str, semNe_str, semEq_int, semNe_int, semEq_bl, semNe_bl, atI0, atI1, atI2, atI3, atI4, OkS_nx, post_ok, items_lst, items_tup, semAt_lst, semAt_tup, semAt_str, semAt_dic, this]⟩)
      have h1 : (1 : Int) ≤ (x.length : Int) := by omega
      have h2 : (x.length : Int) ≤ 8 := by omega
      have hb : bools (x.cps.toList.map fun c => D.bl (decide (97 ≤ c) && decide (c ≤ 122))) = some (x.cps.toList.map fun c => decide (97 ≤ c) && decide (c ≤ 122)) := bools_map _ _
      have hfin : (x.cps.toList.map fun c => decide (97 ≤ c) && decide (c ≤ 122)).all id = nmB (.str x) := by
        show _ = (decide (0 < x.length) && decide (x.length ≤ 8) && x.cps.toList.all fun c => decide (97 ≤ c) && decide (c ≤ 122))
        rw [List.all_map, decide_eq_true (show 0 < x.length by omega), decide_eq_true c1.2]
        rfl
      simp only [f_is_name, m_is_name, c_MOST_LETTERS, fnB, fnP, Rs.noE, startE, seqS, ifS, thenS, toB, op2, opN, op1, Opd.run, fill, lookV, look, Rs.bind, Rs.map, ofO, cD, vD, D.asB, semGt, semGe, semLt, semLe, setS, putS, DL.putF, shD, frzD, mvD, rtS, chgS, fillW, OV.lst?, OV.d, nxS, runs, looks, semInt, semMod, semFdiv, semAdd, semSub, semMul, semAbs, semLen, semTuple, semList, lstD, tupD, evs, callP, callB, slD, poN, poS, semSl, D.asI, appS, appF, extS, extF, augS, augF, exS, ifD, andT, orT, notT, notD, andD, orD, par2, par3, asgS, gN, gT, gsCons, gsNil, forD, rg1, rg2, itA, zpD, zip2, zipD, lcD, yesT, wipeE, m1D, tabD, semIs, semIsNot, D.isN, toT, orV, andV, notV, D.tru, chD, isiD, D.key, evPs, dicD, semDict, pairD, semRepr, callL, op2O, slO, opNO, lrgO, OV.flt, D.flt, semAddL, semMulL, semListL, mLD, popF, popS, insF, insS, clrS, revO, Rs.noE, List.map_cons, List.map_nil, List.length_cons, List.length_nil, List.length_map, List.replicate, List.cons_append, List.nil_append, List.append_nil, List.getElem?_cons_zero, List.getElem?_cons_succ, List.set_cons_zero, List.set_cons_succ, Option.bind_some, Option.bind_none, Option.map_some, Option.map_none, Nat.zero_add, Nat.add_zero, Nat.reduceAdd, Nat.reduceSub, Nat.sub_self, Nat.reduceLeDiff, Nat.reduceEqDiff, Nat.le_refl, Nat.add_sub_cancel, if_true, if_false, Bool.false_eq_true, Bool.not_true, Bool.not_false, Bool.not_not, reduceIte, reduceCtorEq, and_self, and_true, true_and, decide_true, decide_false, semEq_str, semNe_str, semEq_int, semNe_int, semEq_bl, semNe_bl, atI0, atI1, atI2, atI3, atI4, OkS_nx, post_ok, items_lst, items_tup, semAt_lst, semAt_tup, semAt_str, semAt_dic, isi_str, hl, h1, h2, e, semAll, hb, hfin]
    · have hn : nmB (.str x) = false := by
        unfold nmB nameB
        by_cases c2 : 0 < x.length
        · have : ¬ x.length ≤ 8 := fun z => c1 ⟨c2, z⟩
          simp [this]
        · simp [c2]
      rw [hn]
      by_cases h1 : (1 : Int) ≤ (x.length : Int)
      · have h2 : ¬ (x.length : Int) ≤ 8 := fun z => c1 ⟨by omega, by omega⟩
        simp only [f_is_name, m_is_name, c_MOST_LETTERS, fnB, fnP, Rs.noE, startE, seqS, ifS, thenS, toB, op2, opN, op1, Opd.run, fill, lookV, look, Rs.bind, Rs.map, ofO, cD, vD, D.asB, semGt, semGe, semLt, semLe, setS, putS, DL.putF, shD, frzD, mvD, rtS, chgS, fillW, OV.lst?, OV.d, nxS, runs, looks, semInt, semMod, semFdiv, semAdd, semSub, semMul, semAbs, semLen, semTuple, semList, lstD, tupD, evs, callP, callB, slD, poN, poS, semSl, D.asI, appS, appF, extS, extF, augS, augF, exS, ifD, andT, orT, notT, notD, andD, orD, par2, par3, asgS, gN, gT, gsCons, gsNil, forD, rg1, rg2, itA, zpD, zip2, zipD, lcD, yesT, wipeE, m1D, tabD, semIs, semIsNot, D.isN, toT, orV, andV, notV, D.tru, chD, isiD, D.key, evPs, dicD, semDict, pairD, semRepr, callL, op2O, slO, opNO, lrgO, OV.flt, D.flt, semAddL, semMulL, semListL, mLD, popF, popS, insF, insS, clrS, revO, Rs.noE, List.map_cons, List.map_nil, List.length_cons, List.length_nil, List.length_map, List.replicate, List.cons_append, List.nil_append, List.append_nil, List.getElem?_cons_zero, List.getElem?_cons_succ, List.set_cons_zero, List.set_cons_succ, Option.bind_some, Option.bind_none, Option.map_some, Option.map_none, Nat.zero_add, Nat.add_zero, Nat.reduceAdd, Nat.reduceSub, Nat.sub_self, Nat.reduceLeDiff, Nat.reduceEqDiff, Nat.le_refl, Nat.add_sub_cancel, if_true, if_false, Bool.false_eq_true, Bool.not_true, Bool.not_false, Bool.not_not, reduceIte, reduceCtorEq, and_self, and_true, true_and, decide_true, decide_false, semEq_str, semNe_str, semEq_int, semNe_int, semEq_bl, semNe_bl, atI0, atI1, atI2, atI3, atI4, OkS_nx, post_ok, items_lst, items_tup, semAt_lst, semAt_tup, semAt_str, semAt_dic, isi_str, hl, h1, h2]
      · simp only [f_is_name, m_is_name, c_MOST_LETTERS, fnB, fnP, Rs.noE, startE, seqS, ifS, thenS, toB, op2, opN, op1, Opd.run, fill, lookV, look, Rs.bind, Rs.map, ofO, cD, vD, D.asB, semGt, semGe, semLt, semLe, setS, putS, DL.putF, shD, frzD, mvD, rtS, chgS, fillW, OV.lst?, OV.d, nxS, runs, looks, semInt, semMod, semFdiv, semAdd, semSub, semMul, semAbs, semLen, semTuple, semList, lstD, tupD, evs, callP, callB, slD, poN, poS, semSl, D.asI, appS, appF, extS, extF, augS, augF, exS, ifD, andT, orT, notT, notD, andD, orD, par2, par3, asgS, gN, gT, gsCons, gsNil, forD, rg1, rg2, itA, zpD, zip2, zipD, lcD, yesT, wipeE, m1D, tabD, semIs, semIsNot, D.isN, toT, orV, andV, notV, D.tru, chD, isiD, D.key, evPs, dicD, semDict, pairD, semRepr, callL, op2O, slO, opNO, lrgO, OV.flt, D.flt, semAddL, semMulL, semListL, mLD, popF, popS, insF, insS, clrS, revO, Rs.noE, List.map_cons, List.map_nil, List.length_cons, List.length_nil, List.length_map, List.replicate, List.cons_append, List.nil_append, List.append_nil, List.getElem?_cons_zero, List.getElem?_cons_succ, List.set_cons_zero, List.set_cons_succ, Option.bind_some, Option.bind_none, Option.map_some, Option.map_none, Nat.zero_add, Nat.add_zero, Nat.reduceAdd, Nat.reduceSub, Nat.sub_self, Nat.reduceLeDiff, Nat.reduceEqDiff, Nat.le_refl, Nat.add_sub_cancel, if_true, if_false, Bool.false_eq_true, Bool.not_true, Bool.not_false, Bool.not_not, reduceIte, reduceCtorEq, and_self, and_true, true_and, decide_true, decide_false, semEq_str, semNe_str, semEq_int, semNe_int, semEq_bl, semNe_bl, atI0, atI1, atI2, atI3, atI4, OkS_nx, post_ok, items_lst, items_tup, semAt_lst, semAt_tup, semAt_str, semAt_dic, isi_str, hl, h1]
  | scr _ => exact absurd h.rp Bool.false_ne_true
  | obj _ _ => exact absurd h.rp Bool.false_ne_true
  | _ => simp only [f_is_name, m_is_name, fnP, startE, seqS, ifS, orT, notT, toB, isiD, Opd.run, fill, lookV, look, Rs.bind, Rs.map, ofO, OV.d, thenS, rtS, shD, cD, D.asB, Rs.noE, List.map_cons, List.map_nil, List.length_cons, List.length_nil, List.length_map, List.replicate, List.cons_append, List.nil_append, List.append_nil, List.getElem?_cons_zero, List.getElem?_cons_succ, List.set_cons_zero, List.set_cons_succ, Option.bind_some, Option.bind_none, Option.map_some, Option.map_none, Nat.zero_add, Nat.add_zero, Nat.reduceAdd, Nat.reduceSub, Nat.sub_self, Nat.reduceLeDiff, Nat.reduceEqDiff, Nat.le_refl, Nat.add_sub_cancel, if_true, if_false, Bool.false_eq_true, Bool.not_true, Bool.not_false, Bool.not_not, reduceIte, reduceCtorEq, and_self, and_true, true_and, decide_true, decide_false, semEq_str, semNe_str, semEq_int, semNe_int, semEq_bl, semNe_bl, atI0, atI1, atI2, atI3, atI4, OkS_nx, post_ok, items_lst, items_tup, semAt_lst, semAt_tup, semAt_str, semAt_dic, isi_str, nmB]
theorem in_rel {x : Str} {w : Nat} (h : Gd 0 w (.str x)) : semIn2 (.str x) (.tup [.str "eq", .str "lt", .str "gt"]) = some (.bl (relB (.str x))) := by
  have hf : (D.str x).fit = true := by
    unfold D.fit
    rw [show (D.str x).pl = true from h.rp]; rfl
  have he : (D.tup [.str "eq", .str "lt", .str "gt"]).fit = true := by decide +kernel
  rw [semIn_tup true hf he rfl (fun e he => by
    simp only [List.mem_cons, List.not_mem_nil, or_false] at he
    rcases he with rfl | rfl | rfl <;> rfl)]
  simp [relB]
set_option maxHeartbeats 4000000 in
theorem isRel_eq {n w : Nat} {d : D} (h : Gd n w d) : f_is_relation [d] = some (.sh (.bl (relB d))) := by
  cases d with
  | str x =>
    have := in_rel (w := w) ⟨h.rp, Nat.le_refl _, h.wq⟩
    simp only [f_is_relation, m_is_relation, c_RELATIONS, fnB, fnP, Rs.noE, startE, seqS, ifS, thenS, toB, op2, opN, op1, Opd.run, fill, lookV, look, Rs.bind, Rs.map, ofO, cD, vD, D.asB, semGt, semGe, semLt, semLe, setS, putS, DL.putF, shD, frzD, mvD, rtS, chgS, fillW, OV.lst?, OV.d, nxS, runs, looks, semInt, semMod, semFdiv, semAdd, semSub, semMul, semAbs, semLen, semTuple, semList, lstD, tupD, evs, callP, callB, slD, poN, poS, semSl, D.asI, appS, appF, extS, extF, augS, augF, exS, ifD, andT, orT, notT, notD, andD, orD, par2, par3, asgS, gN, gT, gsCons, gsNil, forD, rg1, rg2, itA, zpD, zip2, zipD, lcD, yesT, wipeE, m1D, tabD, semIs, semIsNot, D.isN, toT, orV, andV, notV, D.tru, chD, isiD, D.key, evPs, dicD, semDict, pairD, semRepr, callL, op2O, slO, opNO, lrgO, OV.flt, D.flt, semAddL, semMulL, semListL, mLD, popF, popS, insF, insS, clrS, revO, Rs.noE, List.map_cons, List.map_nil, List.length_cons, List.length_nil, List.length_map, List.replicate, List.cons_append, List.nil_append, List.append_nil, List.getElem?_cons_zero, List.getElem?_cons_succ, List.set_cons_zero, List.set_cons_succ, Option.bind_some, Option.bind_none, Option.map_some, Option.map_none, Nat.zero_add, Nat.add_zero, Nat.reduceAdd, Nat.reduceSub, Nat.sub_self, Nat.reduceLeDiff, Nat.reduceEqDiff, Nat.le_refl, Nat.add_sub_cancel, if_true, if_false, Bool.false_eq_true, Bool.not_true, Bool.not_false, Bool.not_not, reduceIte, reduceCtorEq, and_self, and_true, true_and, decide_true, decide_false, semEq_str, semNe_str, semEq_int, semNe_int, semEq_bl, semNe_bl, atI0, atI1, atI2, atI3, atI4, OkS_nx, post_ok, items_lst, items_tup, semAt_lst, semAt_tup, semAt_str, semAt_dic, isi_str, this]
  | scr _ => exact absurd h.rp Bool.false_ne_true
  | obj _ _ => exact absurd h.rp Bool.false_ne_true
  | _ => simp only [f_is_relation, m_is_relation, fnP, startE, andD, isiD, Opd.run, fill, lookV, look, Rs.bind, Rs.map, ofO, OV.d, thenS, rtS, shD, cD, D.asB, Rs.noE, List.map_cons, List.map_nil, List.length_cons, List.length_nil, List.length_map, List.replicate, List.cons_append, List.nil_append, List.append_nil, List.getElem?_cons_zero, List.getElem?_cons_succ, List.set_cons_zero, List.set_cons_succ, Option.bind_some, Option.bind_none, Option.map_some, Option.map_none, Nat.zero_add, Nat.add_zero, Nat.reduceAdd, Nat.reduceSub, Nat.sub_self, Nat.reduceLeDiff, Nat.reduceEqDiff, Nat.le_refl, Nat.add_sub_cancel, if_true, if_false, Bool.false_eq_true, Bool.not_true, Bool.not_false, Bool.not_not, reduceIte, reduceCtorEq, and_self, and_true, true_and, decide_true, decide_false, semEq_str, semNe_str, semEq_int, semNe_int, semEq_bl, semNe_bl, atI0, atI1, atI2, atI3, atI4, OkS_nx, post_ok, items_lst, items_tup, semAt_lst, semAt_tup, semAt_str, semAt_dic, isi_str, relB]
end T

-- needs: is_name is_relation _law_names
namespace T
open PySem L2 DL
/-! ### any values: atoms, facts, patterns, rows -/
def atB : D → Bool
  | .tup [a, b, c] => relB a && (nmB b && nmB c)
  | _ => false
def ftB : D → Bool
  | .tup [a] => atB a
  | .tup [a, b] => atB a && atB b
  | _ => false
def emB (f : D → Bool) : D → Bool
  | .str x => decide (x = "") || f (.str x)
  | _ => false
def ptB : D → Bool
  | .tup [a, b, c] => emB relB a && (emB nmB b && emB nmB c)
  | _ => false
def rwB : D → Bool
  | .tup [a, b] => nmB a && ftB b
  | _ => false
theorem rpAll_iff {ds : List D} : rpAll ds = true ↔ ∀ d ∈ ds, d.rp = true := by
  induction ds with
  | nil => simp [rpAll]
  | cons d ds ih => simp [rpAll, ih]
theorem dqAll_le {ds : List D} {d : D} (h : d ∈ ds) : d.dq ≤ dqAll ds := by
  induction ds with
  | nil => cases h
  | cons e es ih =>
    show _ ≤ max e.dq (dqAll es)
    rcases List.mem_cons.mp h with rfl | h
    · omega
    · have := ih h; omega
theorem wqAll_mem {ds : List D} {d : D} (h : d ∈ ds) : d.wq + 2 ≤ wqAll ds := by
  induction ds with
  | nil => cases h
  | cons e es ih =>
    show _ ≤ e.wq + 2 + wqAll es
    rcases List.mem_cons.mp h with rfl | h
    · omega
    · have := ih h; omega
theorem Gd.tupm {n w : Nat} {xs : List D} (h : Gd n w (.tup xs)) {d : D} (hd : d ∈ xs) : Gd n w d :=
  ⟨rpAll_iff.mp h.rp d hd, by have := dqAll_le hd; have : dqAll xs + 1 ≤ n := h.dq; omega, by have := wqAll_mem hd; have : wqAll xs + 3 ≤ w := h.wq; omega⟩
theorem Gd.lstm {n w : Nat} {xs : List D} (h : Gd n w (.lst xs)) {d : D} (hd : d ∈ xs) : Gd n w d :=
  ⟨rpAll_iff.mp h.rp d hd, by have := dqAll_le hd; have : dqAll xs + 1 ≤ n := h.dq; omega, by have := wqAll_mem hd; have : wqAll xs + 3 ≤ w := h.wq; omega⟩
theorem len_ne3 {xs : List D} (h : ∀ a b c, xs ≠ [a, b, c]) : ¬ ((xs.length : Nat) : Int) = 3 := fun z => by
  have : xs.length = 3 := by omega
  match xs, this with
  | [a, b, c], _ => exact h a b c rfl
end T

-- needs: is_name is_relation _law_names
namespace T
open PySem L2 DL
theorem sm_gd {n w : Nat} {d : D} (h : Sm n w d) : Gd n w d := ⟨pl_rp d h.pl h.six, by rw [pl_dq d h.pl]; exact h.dp, by rw [pl_wq d h.pl]; exact h.wt⟩
theorem repr_gd {n w : Nat} {d : D} (h : Gd n w d) (hn : n ≤ 64 := by decide) (hw : w ≤ 1000000 := by decide) : semRepr [d] = some (.str d.py.shown) := by
  show (if d.shw then some (D.str d.py.shown) else if d.shx then some (D.str d.py.shown) else none) = _
  rw [h.shx hn hw]
  split <;> rfl
theorem cut01 (a : D) (l : List D) : cutL (a :: l) none (some 1) = [a] := by
  unfold cutL
  rw [HT.sIx_none, show HT.sIx (a :: l).length (a :: l).length (some 1) = min 1 (a :: l).length from HT.sIx_nat _ _ 1]
  have : min 1 (a :: l).length = 1 := by rw [List.length_cons]; omega
  rw [this]
  rfl
end T

-- needs: is_name is_relation _law_names
namespace T
open PySem L2 DL
/-! ### any values: further looks -/
def isS : D → Bool
  | .str _ => true
  | _ => false
theorem isi_isS (d : D) : d.isi ["str"] = isS d := by cases d <;> rfl
theorem emB_nostr (f : D → Bool) {d : D} (h : isS d = false) : emB f d = false := by cases d <;> first | rfl | cases h
def ixB : D → Bool
  | .int i => decide (0 ≤ i)
  | _ => false
theorem gd_str {n w : Nat} {x : Str} (h : Gd n w (.str x)) : Gd 0 w (.str x) := ⟨h.rp, Nat.le_refl _, h.wq⟩
theorem sEq (x y : Str) : semEq (.str x) (.str y) = some (.bl (decide (x = y))) := rfl
theorem sAt0 (x : D) (xs : List D) : semAt (.tup (x :: xs)) (.int 0) = some x := atI0 _ _
theorem sAt1 (x y : D) (xs : List D) : semAt (.tup (x :: y :: xs)) (.int 1) = some y := atI_nat (xs := x :: y :: xs) (j := 1) rfl
theorem sLen (xs : List D) : semLen [.tup xs] = some (.int xs.length) := rfl
theorem isi_is (d : D) (h : d.rp = true) (T : List String) : (match d with | .scr _ => none | .obj _ _ => none | d => some (D.bl (d.isi T)) : Option D) = some (.bl (d.isi T)) := by
  cases d with
  | scr _ => exact absurd h Bool.false_ne_true
  | obj _ _ => exact absurd h Bool.false_ne_true
  | _ => rfl
theorem ixB_ge {d : D} (h : ∃ i, d = .int i) : semGe d (.int 0) = some (.bl (ixB d)) := by
  obtain ⟨i, rfl⟩ := h
  rfl
theorem z11 : ((1 : Nat) : Int) = 1 := rfl
theorem z22 : ((2 : Nat) : Int) = 2 := rfl
theorem z12 : ((1 : Int) = 2) = False := eq_false (by decide)
theorem z21 : ((2 : Int) = 1) = False := eq_false (by decide)
theorem isi_int (d : D) : d.isi ["int"] = match d with | .int _ => true | .bl _ => true | _ => false := by cases d <;> rfl
theorem iw (x : Str) (ws : List Str) (b : Bool) (h1 : (D.str x).fit = true := by decide +kernel) (h2 : (D.tup (ws.map D.str)).fit = true := by decide +kernel) (hb : decide (x ∈ ws) = b := by decide +kernel) : semIn2 (.str x) (.tup (ws.map D.str)) = some (.bl b) := by
  rw [semIn_tup true h1 h2 rfl cl_strs, ← hb]
  simp only [mem_strs]
theorem bq (x y : Str) (b : Bool) (h : decide (x = y) = b := by decide +kernel) : semEq (.str x) (.str y) = some (.bl b) := by rw [sEq, h]
theorem bn (x y : Str) (b : Bool) (h : (!decide (x = y)) = b := by decide +kernel) : semNe (.str x) (.str y) = some (.bl b) := by rw [← h]; rfl
theorem Sm.tup3 {n w : Nat} {a b c : D} (ha : Sm n w a) (hb : Sm n w b) (hc : Sm n w c) : Sm (n + 1) (3 * (w + 2) + 3) (.tup [a, b, c]) := Sm.tup (fun d hd => by
  simp only [List.mem_cons, List.not_mem_nil, or_false] at hd
  rcases hd with rfl | rfl | rfl
  · exact ha
  · exact hb
  · exact hc) (Nat.le_refl _)
theorem rel_nm {x : Str} (h : relB (.str x) = true) : NameOk x := by
  have h : (decide (x = "eq") || (decide (x = "lt") || decide (x = "gt"))) = true := h
  simp only [Bool.or_eq_true, decide_eq_true_eq] at h
  rcases h with rfl | rfl | rfl <;> exact nameB_ok (by decide +kernel)
theorem em_sm {f : D → Bool} (hf : ∀ x, f (.str x) = true → NameOk x) {d : D} (h : emB f d = true) : Sm 0 82 d := by
  cases d with
  | str x =>
    have h : (decide (x = "") || f (.str x)) = true := h
    rw [Bool.or_eq_true, decide_eq_true_eq] at h
    rcases h with rfl | h
    · exact ⟨by decide +kernel, rfl, Nat.zero_le _, by decide +kernel⟩
    · exact sm_str (hf x h)
  | _ => cases h
theorem ptB_sm {d : D} (h : ptB d = true) : Sm 1 255 d := by
  unfold ptB at h
  split at h
  · next a b c =>
    rw [Bool.and_eq_true, Bool.and_eq_true] at h
    exact Sm.tup3 (em_sm (fun x => rel_nm) h.1) (em_sm (fun x => nameB_ok) h.2.1) (em_sm (fun x => nameB_ok) h.2.2)
  · cases h
theorem nmB_sm {d : D} (h : nmB d = true) : Sm 0 82 d := by
  cases d with
  | str x => exact sm_str (nameB_ok h)
  | _ => cases h
theorem ixB_sm {n w : Nat} {d : D} (g : Gd n w d) (h : ixB d = true) : Sm 0 w d := by
  cases d with
  | int i => exact ⟨rfl, g.rp, Nat.zero_le _, by have := g.wq; rw [← pl_wq (.int i) rfl]; exact this⟩
  | _ => cases h
end T

-- needs: is_name is_relation _law_names is_atom is_fact is_row
namespace T
open PySem L2 DL
set_option maxHeartbeats 4000000 in
theorem isAtom_eq {n w : Nat} {d : D} (h : Gd n w d) (hw : w ≤ 1000000) : f_is_atom [d] = some (.sh (.bl (atB d))) := by
  cases d with
  | tup xs =>
    by_cases h3 : ∃ a b c, xs = [a, b, c]
    · obtain ⟨a, b, c, rfl⟩ := h3
      have e1 := isRel_eq (h.tupm (d := a) (by simp))
      have e2 := isName_eq (h.tupm (d := b) (by simp)) hw
      have e3 := isName_eq (h.tupm (d := c) (by simp)) hw
      have hl : ((3 : Nat) : Int) = 3 := rfl
      show _ = some (OV.sh (D.bl (relB a && (nmB b && nmB c))))
      simp only [f_is_atom, m_is_atom, fnB, fnP, Rs.noE, startE, seqS, ifS, thenS, toB, op2, opN, op1, Opd.run, fill, lookV, look, Rs.bind, Rs.map, ofO, cD, vD, D.asB, semGt, semGe, semLt, semLe, setS, putS, DL.putF, shD, frzD, mvD, rtS, chgS, fillW, OV.lst?, OV.d, nxS, runs, looks, semInt, semMod, semFdiv, semAdd, semSub, semMul, semAbs, semLen, semTuple, semList, lstD, tupD, evs, callP, callB, slD, poN, poS, semSl, D.asI, appS, appF, extS, extF, augS, augF, exS, ifD, andT, orT, notT, notD, andD, orD, par2, par3, asgS, gN, gT, gsCons, gsNil, forD, rg1, rg2, itA, zpD, zip2, zipD, lcD, yesT, wipeE, m1D, tabD, semIs, semIsNot, D.isN, toT, orV, andV, notV, D.tru, chD, isiD, D.key, evPs, dicD, semDict, pairD, semRepr, callL, op2O, slO, opNO, lrgO, OV.flt, D.flt, semAddL, semMulL, semListL, mLD, popF, popS, insF, insS, clrS, revO, Rs.noE, List.map_cons, List.map_nil, List.length_cons, List.length_nil, List.length_map, List.replicate, List.cons_append, List.nil_append, List.append_nil, List.getElem?_cons_zero, List.getElem?_cons_succ, List.set_cons_zero, List.set_cons_succ, Option.bind_some, Option.bind_none, Option.map_some, Option.map_none, Nat.zero_add, Nat.add_zero, Nat.reduceAdd, Nat.reduceSub, Nat.sub_self, Nat.reduceLeDiff, Nat.reduceEqDiff, Nat.le_refl, Nat.add_sub_cancel, if_true, if_false, Bool.false_eq_true, Bool.not_true, Bool.not_false, Bool.not_not, reduceIte, reduceCtorEq, and_self, and_true, true_and, decide_true, decide_false, semEq_str, semNe_str, semEq_int, semNe_int, semEq_bl, semNe_bl, atI0, atI1, atI2, atI3, atI4, OkS_nx, post_ok, items_lst, items_tup, semAt_lst, semAt_tup, semAt_str, semAt_dic, isi_tup, hl, e1]
      cases relB a with
      | false => simp only [Rs.noE, List.map_cons, List.map_nil, List.length_cons, List.length_nil, List.length_map, List.replicate, List.cons_append, List.nil_append, List.append_nil, List.getElem?_cons_zero, List.getElem?_cons_succ, List.set_cons_zero, List.set_cons_succ, Option.bind_some, Option.bind_none, Option.map_some, Option.map_none, Nat.zero_add, Nat.add_zero, Nat.reduceAdd, Nat.reduceSub, Nat.sub_self, Nat.reduceLeDiff, Nat.reduceEqDiff, Nat.le_refl, Nat.add_sub_cancel, if_true, if_false, Bool.false_eq_true, Bool.not_true, Bool.not_false, Bool.not_not, reduceIte, reduceCtorEq, and_self, and_true, true_and, decide_true, decide_false, semEq_str, semNe_str, semEq_int, semNe_int, semEq_bl, semNe_bl, atI0, atI1, atI2, atI3, atI4, OkS_nx, post_ok, items_lst, items_tup, semAt_lst, semAt_tup, semAt_str, semAt_dic, Bool.false_and]
      | true =>
        simp only [Rs.noE, List.map_cons, List.map_nil, List.length_cons, List.length_nil, List.length_map, List.replicate, List.cons_append, List.nil_append, List.append_nil, List.getElem?_cons_zero, List.getElem?_cons_succ, List.set_cons_zero, List.set_cons_succ, Option.bind_some, Option.bind_none, Option.map_some, Option.map_none, Nat.zero_add, Nat.add_zero, Nat.reduceAdd, Nat.reduceSub, Nat.sub_self, Nat.reduceLeDiff, Nat.reduceEqDiff, Nat.le_refl, Nat.add_sub_cancel, if_true, if_false, Bool.false_eq_true, Bool.not_true, Bool.not_false, Bool.not_not, reduceIte, reduceCtorEq, and_self, and_true, true_and, decide_true, decide_false, semEq_str, semNe_str, semEq_int, semNe_int, semEq_bl, semNe_bl, atI0, atI1, atI2, atI3, atI4, OkS_nx, post_ok, items_lst, items_tup, semAt_lst, semAt_tup, semAt_str, semAt_dic, Bool.true_and, e2, Rs.map, Rs.bind, OV.d, ofO, D.asB]
        cases nmB b with
        | false => simp only [Rs.noE, List.map_cons, List.map_nil, List.length_cons, List.length_nil, List.length_map, List.replicate, List.cons_append, List.nil_append, List.append_nil, List.getElem?_cons_zero, List.getElem?_cons_succ, List.set_cons_zero, List.set_cons_succ, Option.bind_some, Option.bind_none, Option.map_some, Option.map_none, Nat.zero_add, Nat.add_zero, Nat.reduceAdd, Nat.reduceSub, Nat.sub_self, Nat.reduceLeDiff, Nat.reduceEqDiff, Nat.le_refl, Nat.add_sub_cancel, if_true, if_false, Bool.false_eq_true, Bool.not_true, Bool.not_false, Bool.not_not, reduceIte, reduceCtorEq, and_self, and_true, true_and, decide_true, decide_false, semEq_str, semNe_str, semEq_int, semNe_int, semEq_bl, semNe_bl, atI0, atI1, atI2, atI3, atI4, OkS_nx, post_ok, items_lst, items_tup, semAt_lst, semAt_tup, semAt_str, semAt_dic, Bool.false_and]
        | true => simp only [Rs.noE, List.map_cons, List.map_nil, List.length_cons, List.length_nil, List.length_map, List.replicate, List.cons_append, List.nil_append, List.append_nil, List.getElem?_cons_zero, List.getElem?_cons_succ, List.set_cons_zero, List.set_cons_succ, Option.bind_some, Option.bind_none, Option.map_some, Option.map_none, Nat.zero_add, Nat.add_zero, Nat.reduceAdd, Nat.reduceSub, Nat.sub_self, Nat.reduceLeDiff, Nat.reduceEqDiff, Nat.le_refl, Nat.add_sub_cancel, if_true, if_false, Bool.false_eq_true, Bool.not_true, Bool.not_false, Bool.not_not, reduceIte, reduceCtorEq, and_self, and_true, true_and, decide_true, decide_false, semEq_str, semNe_str, semEq_int, semNe_int, semEq_bl, semNe_bl, atI0, atI1, atI2, atI3, atI4, OkS_nx, post_ok, items_lst, items_tup, semAt_lst, semAt_tup, semAt_str, semAt_dic, Bool.true_and, e3, Rs.map, Rs.bind, OV.d, ofO, D.asB]
    · have hb : atB (.tup xs) = false := by
        unfold atB
        split
        · next a b c heq => cases heq; exact absurd ⟨a, b, c, rfl⟩ h3
        · rfl
      have hl := len_ne3 (xs := xs) fun a b c z => h3 ⟨a, b, c, z⟩
      rw [hb]
      simp only [f_is_atom, m_is_atom, fnB, fnP, Rs.noE, startE, seqS, ifS, thenS, toB, op2, opN, op1, Opd.run, fill, lookV, look, Rs.bind, Rs.map, ofO, cD, vD, D.asB, semGt, semGe, semLt, semLe, setS, putS, DL.putF, shD, frzD, mvD, rtS, chgS, fillW, OV.lst?, OV.d, nxS, runs, looks, semInt, semMod, semFdiv, semAdd, semSub, semMul, semAbs, semLen, semTuple, semList, lstD, tupD, evs, callP, callB, slD, poN, poS, semSl, D.asI, appS, appF, extS, extF, augS, augF, exS, ifD, andT, orT, notT, notD, andD, orD, par2, par3, asgS, gN, gT, gsCons, gsNil, forD, rg1, rg2, itA, zpD, zip2, zipD, lcD, yesT, wipeE, m1D, tabD, semIs, semIsNot, D.isN, toT, orV, andV, notV, D.tru, chD, isiD, D.key, evPs, dicD, semDict, pairD, semRepr, callL, op2O, slO, opNO, lrgO, OV.flt, D.flt, semAddL, semMulL, semListL, mLD, popF, popS, insF, insS, clrS, revO, Rs.noE, List.map_cons, List.map_nil, List.length_cons, List.length_nil, List.length_map, List.replicate, List.cons_append, List.nil_append, List.append_nil, List.getElem?_cons_zero, List.getElem?_cons_succ, List.set_cons_zero, List.set_cons_succ, Option.bind_some, Option.bind_none, Option.map_some, Option.map_none, Nat.zero_add, Nat.add_zero, Nat.reduceAdd, Nat.reduceSub, Nat.sub_self, Nat.reduceLeDiff, Nat.reduceEqDiff, Nat.le_refl, Nat.add_sub_cancel, if_true, if_false, Bool.false_eq_true, Bool.not_true, Bool.not_false, Bool.not_not, reduceIte, reduceCtorEq, and_self, and_true, true_and, decide_true, decide_false, semEq_str, semNe_str, semEq_int, semNe_int, semEq_bl, semNe_bl, atI0, atI1, atI2, atI3, atI4, OkS_nx, post_ok, items_lst, items_tup, semAt_lst, semAt_tup, semAt_str, semAt_dic, isi_tup, hl]
  | scr _ => exact absurd h.rp Bool.false_ne_true
  | obj _ _ => exact absurd h.rp Bool.false_ne_true
  | _ => simp only [f_is_atom, m_is_atom, fnP, startE, seqS, ifS, orT, notT, toB, isiD, Opd.run, fill, lookV, look, Rs.bind, Rs.map, ofO, OV.d, thenS, rtS, shD, cD, D.asB, Rs.noE, List.map_cons, List.map_nil, List.length_cons, List.length_nil, List.length_map, List.replicate, List.cons_append, List.nil_append, List.append_nil, List.getElem?_cons_zero, List.getElem?_cons_succ, List.set_cons_zero, List.set_cons_succ, Option.bind_some, Option.bind_none, Option.map_some, Option.map_none, Nat.zero_add, Nat.add_zero, Nat.reduceAdd, Nat.reduceSub, Nat.sub_self, Nat.reduceLeDiff, Nat.reduceEqDiff, Nat.le_refl, Nat.add_sub_cancel, if_true, if_false, Bool.false_eq_true, Bool.not_true, Bool.not_false, Bool.not_not, reduceIte, reduceCtorEq, and_self, and_true, true_and, decide_true, decide_false, semEq_str, semNe_str, semEq_int, semNe_int, semEq_bl, semNe_bl, atI0, atI1, atI2, atI3, atI4, OkS_nx, post_ok, items_lst, items_tup, semAt_lst, semAt_tup, semAt_str, semAt_dic, isi_tup, atB]
set_option maxHeartbeats 4000000 in
theorem isFact_eq {n w : Nat} {d : D} (h : Gd n w d) (hw : w ≤ 1000000) : f_is_fact [d] = some (.sh (.bl (ftB d))) := by
  cases d with
  | tup xs =>
    by_cases hl : 1 ≤ xs.length ∧ xs.length ≤ 2
    · have e : lc_is_fact_1 [some (.sh (.tup xs)), none] = .ok (.ow (xs.map fun x => .bl (atB x))) [some (.sh (.tup xs)), none] := by
        have := lcD_mp1 (it := it_is_fact_1) (vs := [1]) (h := gN 1) (elt := el_is_fact_1) (r := [some (.sh (.tup xs)), none]) [some (.sh (.tup xs)), none] xs id (fun x => .bl (atB x)) (by rw [List.map_id]; rfl) (by omega) rfl rfl (fun x hx => ⟨_, rfl, rfl, by
          have := isAtom_eq (h.tupm hx) hw
          simp only [el_is_fact_1, gN, id, fnB, fnP, Rs.noE, startE, seqS, ifS, thenS, toB, op2, opN, op1, Opd.run, fill, lookV, look, Rs.bind, Rs.map, ofO, cD, vD, D.asB, semGt, semGe, semLt, semLe, setS, putS, DL.putF, shD, frzD, mvD, rtS, chgS, fillW, OV.lst?, OV.d, nxS, runs, looks, semInt, semMod, semFdiv, semAdd, semSub, semMul, semAbs, semLen, semTuple, semList, lstD, tupD, evs, callP, callB, slD, poN, poS, semSl, D.asI, appS, appF, extS, extF, augS, augF, exS, ifD, andT, orT, notT, notD, andD, orD, par2, par3, asgS, gN, gT, gsCons, gsNil, forD, rg1, rg2, itA, zpD, zip2, zipD, lcD, yesT, wipeE, m1D, tabD, semIs, semIsNot, D.isN, toT, orV, andV, notV, D.tru, chD, isiD, D.key, evPs, dicD, semDict, pairD, semRepr, callL, op2O, slO, opNO, lrgO, OV.flt, D.flt, semAddL, semMulL, semListL, mLD, popF, popS, insF, insS, clrS, revO, Rs.noE, List.map_cons, List.map_nil, List.length_cons, List.length_nil, List.length_map, List.replicate, List.cons_append, List.nil_append, List.append_nil, List.getElem?_cons_zero, List.getElem?_cons_succ, List.set_cons_zero, List.set_cons_succ, Option.bind_some, Option.bind_none, Option.map_some, Option.map_none, Nat.zero_add, Nat.add_zero, Nat.reduceAdd, Nat.reduceSub, Nat.sub_self, Nat.reduceLeDiff, Nat.reduceEqDiff, Nat.le_refl, Nat.add_sub_cancel, if_true, if_false, Bool.false_eq_true, Bool.not_true, Bool.not_false, Bool.not_not, reduceIte, reduceCtorEq, and_self, and_true, true_and, decide_true, decide_false, semEq_str, semNe_str, semEq_int, semNe_int, semEq_bl, semNe_bl, atI0, atI1, atI2, atI3, atI4, OkS_nx, post_ok, items_lst, items_tup, semAt_lst, semAt_tup, semAt_str, semAt_dic, this]⟩)
        exact this
      have h1 : (1 : Int) ≤ (xs.length : Int) := by omega
      have h2 : (xs.length : Int) ≤ 2 := by omega
      have hb : bools (xs.map fun x => D.bl (atB x)) = some (xs.map atB) := bools_map _ _
      have hfin : (xs.map atB).all id = ftB (.tup xs) := by
        match xs, hl with
        | [a], _ => simp [ftB]
        | [a, b], _ => simp [ftB]
      simp only [f_is_fact, m_is_fact, fnB, fnP, Rs.noE, startE, seqS, ifS, thenS, toB, op2, opN, op1, Opd.run, fill, lookV, look, Rs.bind, Rs.map, ofO, cD, vD, D.asB, semGt, semGe, semLt, semLe, setS, putS, DL.putF, shD, frzD, mvD, rtS, chgS, fillW, OV.lst?, OV.d, nxS, runs, looks, semInt, semMod, semFdiv, semAdd, semSub, semMul, semAbs, semLen, semTuple, semList, lstD, tupD, evs, callP, callB, slD, poN, poS, semSl, D.asI, appS, appF, extS, extF, augS, augF, exS, ifD, andT, orT, notT, notD, andD, orD, par2, par3, asgS, gN, gT, gsCons, gsNil, forD, rg1, rg2, itA, zpD, zip2, zipD, lcD, yesT, wipeE, m1D, tabD, semIs, semIsNot, D.isN, toT, orV, andV, notV, D.tru, chD, isiD, D.key, evPs, dicD, semDict, pairD, semRepr, callL, op2O, slO, opNO, lrgO, OV.flt, D.flt, semAddL, semMulL, semListL, mLD, popF, popS, insF, insS, clrS, revO, Rs.noE, List.map_cons, List.map_nil, List.length_cons, List.length_nil, List.length_map, List.replicate, List.cons_append, List.nil_append, List.append_nil, List.getElem?_cons_zero, List.getElem?_cons_succ, List.set_cons_zero, List.set_cons_succ, Option.bind_some, Option.bind_none, Option.map_some, Option.map_none, Nat.zero_add, Nat.add_zero, Nat.reduceAdd, Nat.reduceSub, Nat.sub_self, Nat.reduceLeDiff, Nat.reduceEqDiff, Nat.le_refl, Nat.add_sub_cancel, if_true, if_false, Bool.false_eq_true, Bool.not_true, Bool.not_false, Bool.not_not, reduceIte, reduceCtorEq, and_self, and_true, true_and, decide_true, decide_false, semEq_str, semNe_str, semEq_int, semNe_int, semEq_bl, semNe_bl, atI0, atI1, atI2, atI3, atI4, OkS_nx, post_ok, items_lst, items_tup, semAt_lst, semAt_tup, semAt_str, semAt_dic, isi_tup, h1, h2, e, semAll, hb, hfin]
    · have hb : ftB (.tup xs) = false := by
        unfold ftB
        split
        · next a heq => cases heq; exact absurd ⟨by simp, by simp⟩ hl
        · next a b heq => cases heq; exact absurd ⟨by simp, by simp⟩ hl
        · rfl
      rw [hb]
      by_cases h1 : (1 : Int) ≤ (xs.length : Int)
      · have h2 : ¬ (xs.length : Int) ≤ 2 := fun z => hl ⟨by omega, by omega⟩
        simp only [f_is_fact, m_is_fact, fnB, fnP, Rs.noE, startE, seqS, ifS, thenS, toB, op2, opN, op1, Opd.run, fill, lookV, look, Rs.bind, Rs.map, ofO, cD, vD, D.asB, semGt, semGe, semLt, semLe, setS, putS, DL.putF, shD, frzD, mvD, rtS, chgS, fillW, OV.lst?, OV.d, nxS, runs, looks, semInt, semMod, semFdiv, semAdd, semSub, semMul, semAbs, semLen, semTuple, semList, lstD, tupD, evs, callP, callB, slD, poN, poS, semSl, D.asI, appS, appF, extS, extF, augS, augF, exS, ifD, andT, orT, notT, notD, andD, orD, par2, par3, asgS, gN, gT, gsCons, gsNil, forD, rg1, rg2, itA, zpD, zip2, zipD, lcD, yesT, wipeE, m1D, tabD, semIs, semIsNot, D.isN, toT, orV, andV, notV, D.tru, chD, isiD, D.key, evPs, dicD, semDict, pairD, semRepr, callL, op2O, slO, opNO, lrgO, OV.flt, D.flt, semAddL, semMulL, semListL, mLD, popF, popS, insF, insS, clrS, revO, Rs.noE, List.map_cons, List.map_nil, List.length_cons, List.length_nil, List.length_map, List.replicate, List.cons_append, List.nil_append, List.append_nil, List.getElem?_cons_zero, List.getElem?_cons_succ, List.set_cons_zero, List.set_cons_succ, Option.bind_some, Option.bind_none, Option.map_some, Option.map_none, Nat.zero_add, Nat.add_zero, Nat.reduceAdd, Nat.reduceSub, Nat.sub_self, Nat.reduceLeDiff, Nat.reduceEqDiff, Nat.le_refl, Nat.add_sub_cancel, if_true, if_false, Bool.false_eq_true, Bool.not_true, Bool.not_false, Bool.not_not, reduceIte, reduceCtorEq, and_self, and_true, true_and, decide_true, decide_false, semEq_str, semNe_str, semEq_int, semNe_int, semEq_bl, semNe_bl, atI0, atI1, atI2, atI3, atI4, OkS_nx, post_ok, items_lst, items_tup, semAt_lst, semAt_tup, semAt_str, semAt_dic, isi_tup, h1, h2]
      · simp only [f_is_fact, m_is_fact, fnB, fnP, Rs.noE, startE, seqS, ifS, thenS, toB, op2, opN, op1, Opd.run, fill, lookV, look, Rs.bind, Rs.map, ofO, cD, vD, D.asB, semGt, semGe, semLt, semLe, setS, putS, DL.putF, shD, frzD, mvD, rtS, chgS, fillW, OV.lst?, OV.d, nxS, runs, looks, semInt, semMod, semFdiv, semAdd, semSub, semMul, semAbs, semLen, semTuple, semList, lstD, tupD, evs, callP, callB, slD, poN, poS, semSl, D.asI, appS, appF, extS, extF, augS, augF, exS, ifD, andT, orT, notT, notD, andD, orD, par2, par3, asgS, gN, gT, gsCons, gsNil, forD, rg1, rg2, itA, zpD, zip2, zipD, lcD, yesT, wipeE, m1D, tabD, semIs, semIsNot, D.isN, toT, orV, andV, notV, D.tru, chD, isiD, D.key, evPs, dicD, semDict, pairD, semRepr, callL, op2O, slO, opNO, lrgO, OV.flt, D.flt, semAddL, semMulL, semListL, mLD, popF, popS, insF, insS, clrS, revO, Rs.noE, List.map_cons, List.map_nil, List.length_cons, List.length_nil, List.length_map, List.replicate, List.cons_append, List.nil_append, List.append_nil, List.getElem?_cons_zero, List.getElem?_cons_succ, List.set_cons_zero, List.set_cons_succ, Option.bind_some, Option.bind_none, Option.map_some, Option.map_none, Nat.zero_add, Nat.add_zero, Nat.reduceAdd, Nat.reduceSub, Nat.sub_self, Nat.reduceLeDiff, Nat.reduceEqDiff, Nat.le_refl, Nat.add_sub_cancel, if_true, if_false, Bool.false_eq_true, Bool.not_true, Bool.not_false, Bool.not_not, reduceIte, reduceCtorEq, and_self, and_true, true_and, decide_true, decide_false, semEq_str, semNe_str, semEq_int, semNe_int, semEq_bl, semNe_bl, atI0, atI1, atI2, atI3, atI4, OkS_nx, post_ok, items_lst, items_tup, semAt_lst, semAt_tup, semAt_str, semAt_dic, isi_tup, h1]
  | scr _ => exact absurd h.rp Bool.false_ne_true
  | obj _ _ => exact absurd h.rp Bool.false_ne_true
  | _ => simp only [f_is_fact, m_is_fact, fnP, startE, andD, isiD, Opd.run, fill, lookV, look, Rs.bind, Rs.map, ofO, OV.d, thenS, rtS, shD, cD, D.asB, Rs.noE, List.map_cons, List.map_nil, List.length_cons, List.length_nil, List.length_map, List.replicate, List.cons_append, List.nil_append, List.append_nil, List.getElem?_cons_zero, List.getElem?_cons_succ, List.set_cons_zero, List.set_cons_succ, Option.bind_some, Option.bind_none, Option.map_some, Option.map_none, Nat.zero_add, Nat.add_zero, Nat.reduceAdd, Nat.reduceSub, Nat.sub_self, Nat.reduceLeDiff, Nat.reduceEqDiff, Nat.le_refl, Nat.add_sub_cancel, if_true, if_false, Bool.false_eq_true, Bool.not_true, Bool.not_false, Bool.not_not, reduceIte, reduceCtorEq, and_self, and_true, true_and, decide_true, decide_false, semEq_str, semNe_str, semEq_int, semNe_int, semEq_bl, semNe_bl, atI0, atI1, atI2, atI3, atI4, OkS_nx, post_ok, items_lst, items_tup, semAt_lst, semAt_tup, semAt_str, semAt_dic, isi_tup, ftB]
set_option maxHeartbeats 4000000 in
theorem isRow_eq {n w : Nat} {d : D} (h : Gd n w d) (hw : w ≤ 1000000) : f_is_row [d] = some (.sh (.bl (rwB d))) := by
  cases d with
  | tup xs =>
    by_cases h2 : ∃ a b, xs = [a, b]
    · obtain ⟨a, b, rfl⟩ := h2
      have e1 := isName_eq (h.tupm (d := a) (by simp)) hw
      have e2 := isFact_eq (h.tupm (d := b) (by simp)) hw
      have hl : ((2 : Nat) : Int) = 2 := rfl
      show _ = some (OV.sh (D.bl (nmB a && ftB b)))
      simp only [f_is_row, m_is_row, fnB, fnP, Rs.noE, startE, seqS, ifS, thenS, toB, op2, opN, op1, Opd.run, fill, lookV, look, Rs.bind, Rs.map, ofO, cD, vD, D.asB, semGt, semGe, semLt, semLe, setS, putS, DL.putF, shD, frzD, mvD, rtS, chgS, fillW, OV.lst?, OV.d, nxS, runs, looks, semInt, semMod, semFdiv, semAdd, semSub, semMul, semAbs, semLen, semTuple, semList, lstD, tupD, evs, callP, callB, slD, poN, poS, semSl, D.asI, appS, appF, extS, extF, augS, augF, exS, ifD, andT, orT, notT, notD, andD, orD, par2, par3, asgS, gN, gT, gsCons, gsNil, forD, rg1, rg2, itA, zpD, zip2, zipD, lcD, yesT, wipeE, m1D, tabD, semIs, semIsNot, D.isN, toT, orV, andV, notV, D.tru, chD, isiD, D.key, evPs, dicD, semDict, pairD, semRepr, callL, op2O, slO, opNO, lrgO, OV.flt, D.flt, semAddL, semMulL, semListL, mLD, popF, popS, insF, insS, clrS, revO, Rs.noE, List.map_cons, List.map_nil, List.length_cons, List.length_nil, List.length_map, List.replicate, List.cons_append, List.nil_append, List.append_nil, List.getElem?_cons_zero, List.getElem?_cons_succ, List.set_cons_zero, List.set_cons_succ, Option.bind_some, Option.bind_none, Option.map_some, Option.map_none, Nat.zero_add, Nat.add_zero, Nat.reduceAdd, Nat.reduceSub, Nat.sub_self, Nat.reduceLeDiff, Nat.reduceEqDiff, Nat.le_refl, Nat.add_sub_cancel, if_true, if_false, Bool.false_eq_true, Bool.not_true, Bool.not_false, Bool.not_not, reduceIte, reduceCtorEq, and_self, and_true, true_and, decide_true, decide_false, semEq_str, semNe_str, semEq_int, semNe_int, semEq_bl, semNe_bl, atI0, atI1, atI2, atI3, atI4, OkS_nx, post_ok, items_lst, items_tup, semAt_lst, semAt_tup, semAt_str, semAt_dic, isi_tup, hl, e1]
      cases nmB a with
      | false => simp only [Rs.noE, List.map_cons, List.map_nil, List.length_cons, List.length_nil, List.length_map, List.replicate, List.cons_append, List.nil_append, List.append_nil, List.getElem?_cons_zero, List.getElem?_cons_succ, List.set_cons_zero, List.set_cons_succ, Option.bind_some, Option.bind_none, Option.map_some, Option.map_none, Nat.zero_add, Nat.add_zero, Nat.reduceAdd, Nat.reduceSub, Nat.sub_self, Nat.reduceLeDiff, Nat.reduceEqDiff, Nat.le_refl, Nat.add_sub_cancel, if_true, if_false, Bool.false_eq_true, Bool.not_true, Bool.not_false, Bool.not_not, reduceIte, reduceCtorEq, and_self, and_true, true_and, decide_true, decide_false, semEq_str, semNe_str, semEq_int, semNe_int, semEq_bl, semNe_bl, atI0, atI1, atI2, atI3, atI4, OkS_nx, post_ok, items_lst, items_tup, semAt_lst, semAt_tup, semAt_str, semAt_dic, Bool.false_and]
      | true => simp only [Rs.noE, List.map_cons, List.map_nil, List.length_cons, List.length_nil, List.length_map, List.replicate, List.cons_append, List.nil_append, List.append_nil, List.getElem?_cons_zero, List.getElem?_cons_succ, List.set_cons_zero, List.set_cons_succ, Option.bind_some, Option.bind_none, Option.map_some, Option.map_none, Nat.zero_add, Nat.add_zero, Nat.reduceAdd, Nat.reduceSub, Nat.sub_self, Nat.reduceLeDiff, Nat.reduceEqDiff, Nat.le_refl, Nat.add_sub_cancel, if_true, if_false, Bool.false_eq_true, Bool.not_true, Bool.not_false, Bool.not_not, reduceIte, reduceCtorEq, and_self, and_true, true_and, decide_true, decide_false, semEq_str, semNe_str, semEq_int, semNe_int, semEq_bl, semNe_bl, atI0, atI1, atI2, atI3, atI4, OkS_nx, post_ok, items_lst, items_tup, semAt_lst, semAt_tup, semAt_str, semAt_dic, Bool.true_and, e2, Rs.map, Rs.bind, OV.d, ofO, D.asB]
    · have hb : rwB (.tup xs) = false := by
        unfold rwB
        split
        · next a b heq => cases heq; exact absurd ⟨a, b, rfl⟩ h2
        · rfl
      have hl : ¬ ((xs.length : Nat) : Int) = 2 := fun z => by
        have : xs.length = 2 := by omega
        match xs, this with
        | [a, b], _ => exact h2 ⟨a, b, rfl⟩
      rw [hb]
      simp only [f_is_row, m_is_row, fnB, fnP, Rs.noE, startE, seqS, ifS, thenS, toB, op2, opN, op1, Opd.run, fill, lookV, look, Rs.bind, Rs.map, ofO, cD, vD, D.asB, semGt, semGe, semLt, semLe, setS, putS, DL.putF, shD, frzD, mvD, rtS, chgS, fillW, OV.lst?, OV.d, nxS, runs, looks, semInt, semMod, semFdiv, semAdd, semSub, semMul, semAbs, semLen, semTuple, semList, lstD, tupD, evs, callP, callB, slD, poN, poS, semSl, D.asI, appS, appF, extS, extF, augS, augF, exS, ifD, andT, orT, notT, notD, andD, orD, par2, par3, asgS, gN, gT, gsCons, gsNil, forD, rg1, rg2, itA, zpD, zip2, zipD, lcD, yesT, wipeE, m1D, tabD, semIs, semIsNot, D.isN, toT, orV, andV, notV, D.tru, chD, isiD, D.key, evPs, dicD, semDict, pairD, semRepr, callL, op2O, slO, opNO, lrgO, OV.flt, D.flt, semAddL, semMulL, semListL, mLD, popF, popS, insF, insS, clrS, revO, Rs.noE, List.map_cons, List.map_nil, List.length_cons, List.length_nil, List.length_map, List.replicate, List.cons_append, List.nil_append, List.append_nil, List.getElem?_cons_zero, List.getElem?_cons_succ, List.set_cons_zero, List.set_cons_succ, Option.bind_some, Option.bind_none, Option.map_some, Option.map_none, Nat.zero_add, Nat.add_zero, Nat.reduceAdd, Nat.reduceSub, Nat.sub_self, Nat.reduceLeDiff, Nat.reduceEqDiff, Nat.le_refl, Nat.add_sub_cancel, if_true, if_false, Bool.false_eq_true, Bool.not_true, Bool.not_false, Bool.not_not, reduceIte, reduceCtorEq, and_self, and_true, true_and, decide_true, decide_false, semEq_str, semNe_str, semEq_int, semNe_int, semEq_bl, semNe_bl, atI0, atI1, atI2, atI3, atI4, OkS_nx, post_ok, items_lst, items_tup, semAt_lst, semAt_tup, semAt_str, semAt_dic, isi_tup, hl]
  | scr _ => exact absurd h.rp Bool.false_ne_true
  | obj _ _ => exact absurd h.rp Bool.false_ne_true
  | _ => simp only [f_is_row, m_is_row, fnP, startE, andD, isiD, Opd.run, fill, lookV, look, Rs.bind, Rs.map, ofO, OV.d, thenS, rtS, shD, cD, D.asB, Rs.noE, List.map_cons, List.map_nil, List.length_cons, List.length_nil, List.length_map, List.replicate, List.cons_append, List.nil_append, List.append_nil, List.getElem?_cons_zero, List.getElem?_cons_succ, List.set_cons_zero, List.set_cons_succ, Option.bind_some, Option.bind_none, Option.map_some, Option.map_none, Nat.zero_add, Nat.add_zero, Nat.reduceAdd, Nat.reduceSub, Nat.sub_self, Nat.reduceLeDiff, Nat.reduceEqDiff, Nat.le_refl, Nat.add_sub_cancel, if_true, if_false, Bool.false_eq_true, Bool.not_true, Bool.not_false, Bool.not_not, reduceIte, reduceCtorEq, and_self, and_true, true_and, decide_true, decide_false, semEq_str, semNe_str, semEq_int, semNe_int, semEq_bl, semNe_bl, atI0, atI1, atI2, atI3, atI4, OkS_nx, post_ok, items_lst, items_tup, semAt_lst, semAt_tup, semAt_str, semAt_dic, isi_tup, rwB]
end T

-- needs: is_name is_relation _law_world _law_row _law_fact _law_names
namespace T
open PySem L2 DL
/-! ### what is drawn is right -/
theorem nmB_str {x : Str} (h : NameOk x) : nmB (.str x) = true := by
  show (decide (0 < x.length) && decide (x.length ≤ 8) && x.cps.toList.all fun c => decide (97 ≤ c) && decide (c ≤ 122)) = true
  rw [decide_eq_true h.pos, decide_eq_true h.most, Bool.true_and, Bool.true_and, List.all_eq_true]
  intro c hc
  have := h.low c hc
  rw [decide_eq_true this.1, decide_eq_true this.2]; rfl
theorem relB_str {x : Str} (h : isRel x) : relB (.str x) = true := by
  rcases h with rfl | rfl | rfl <;> decide +kernel
theorem atB_at {a : At} (h : AtOk a) : atB (atD a) = true := by
  obtain ⟨r, x, y⟩ := a
  show (relB (.str r) && (nmB (.str x) && nmB (.str y))) = true
  rw [relB_str h.rel, nmB_str h.l, nmB_str h.r]; rfl
theorem ftB_ft {f : List At} (h : FtOk f) : ftB (ftD f) = true := by
  have hl := h.len
  match f, h, hl with
  | [a], h, _ => exact atB_at (h.all a (by simp))
  | [a, b], h, _ =>
    show (atB (atD a) && atB (atD b)) = true
    rw [atB_at (h.all a (by simp)), atB_at (h.all b (by simp))]; rfl
theorem rwB_row {r : Row} (h : RowOk r) : rwB (rwD r) = true := by
  show (nmB (.str r.1) && ftB (ftD r.2)) = true
  rw [nmB_str h.nm, ftB_ft h.ft]; rfl
theorem wqAll_len : ∀ ys : List D, 2 * ys.length ≤ wqAll ys
  | [] => Nat.zero_le _
  | y :: ys => by
    have := wqAll_len ys
    show 2 * (ys.length + 1) ≤ y.wq + 2 + wqAll ys
    omega
end T

-- needs: is_name is_relation _law_names _law_is_name@84626e
namespace T
open PySem L2 DL
theorem notIn_let (c : Nat) : semNotIn2 (.str (one c)) (.str LET) = some (.bl (!(decide (97 ≤ c) && decide (c ≤ 122)))) := by
  have := in_let c
  unfold semIn2 at this
  unfold semNotIn2
  obtain ⟨b, h1, h2⟩ := Option.map_eq_some_iff.mp this
  cases h2
  rw [h1]; rfl
set_option maxHeartbeats 4000000 in
theorem lawIsName_eq {n w : Nat} {d : D} (h : Gd n w d) (hw : w ≤ 1000000) : f__law_is_name [d] = some (.sh (.bl (nmB d))) := by
  cases d with
  | str x =>
    have hl : x.length ≤ 1000000 := by have := str_wq h.wq; omega
    by_cases c1 : 1 ≤ x.length ∧ x.length ≤ 8
    · have e : lc__law_is_name_1 [some (.sh (.str x)), none] = .ok (.ow ((x.cps.toList.filter fun c => !(decide (97 ≤ c) && decide (c ≤ 122))).map fun c => D.str (one c))) [some (.sh (.str x)), none] :=
        lcD_mp (it := it__law_is_name_1) (vs := [1]) (h := gN 1) (t := ts__law_is_name_1) (elt := el__law_is_name_1) (r := [some (.sh (.str x)), none]) _ x.cps.toList (fun c => D.str (one c)) _ _ (by
          have hi : (D.str x).items = some (signs x) := if_pos hl
          simp only [it__law_is_name_1, itA, vD, Rs.bind, ofO, Rs.noE, List.map_cons, List.map_nil, List.length_cons, List.length_nil, List.length_map, List.replicate, List.cons_append, List.nil_append, List.append_nil, List.getElem?_cons_zero, List.getElem?_cons_succ, List.set_cons_zero, List.set_cons_succ, Option.bind_some, Option.bind_none, Option.map_some, Option.map_none, Nat.zero_add, Nat.add_zero, Nat.reduceAdd, Nat.reduceSub, Nat.sub_self, Nat.reduceLeDiff, Nat.reduceEqDiff, Nat.le_refl, Nat.add_sub_cancel, if_true, if_false, Bool.false_eq_true, Bool.not_true, Bool.not_false, Bool.not_not, reduceIte, reduceCtorEq, and_self, and_true, true_and, decide_true, decide_false, semEq_str, semNe_str, semEq_int, semNe_int, semEq_bl, semNe_bl, atI0, atI1, atI2, atI3, atI4, OkS_nx, post_ok, items_lst, items_tup, semAt_lst, semAt_tup, semAt_str, semAt_dic, hi]
          rfl) (by rw [← len_codes]; exact hl) rfl rfl (fun c _ => ⟨_, rfl, by
            have := notIn_let c
            simp only [ts__law_is_name_1, el__law_is_name_1, gN, fnB, fnP, Rs.noE, startE, seqS, ifS, thenS, toB, op2, opN, op1, Opd.run, fill, lookV, look, Rs.bind, Rs.map, ofO, cD, vD, D.asB, semGt, semGe, semLt, semLe, setS, putS, DL.putF, shD, frzD, mvD, rtS, chgS, fillW, OV.lst?, OV.d, nxS, runs, looks, semInt, semMod, semFdiv, semAdd, semSub, semMul, semAbs, semLen, semTuple, semList, lstD, tupD, evs, callP, callB, slD, poN, poS, semSl, D.asI, appS, appF, extS, extF, augS, augF, exS, ifD, andT, orT, notT, notD, andD, orD, par2, par3, asgS, gN, gT, gsCons, gsNil, forD, rg1, rg2, itA, zpD, zip2, zipD, lcD, yesT, wipeE, m1D, tabD, semIs, semIsNot, D.isN, toT, orV, andV, notV, D.tru, chD, isiD, D.key, evPs, dicD, semDict, pairD, semRepr, callL, op2O, slO, opNO, lrgO, OV.flt, D.flt, semAddL, semMulL, semListL, mLD, popF, popS, insF, insS, clrS, revO, Rs.noE, List.map_cons, List.map_nil, List.length_cons, List.length_nil, List.length_map, List.replicate, List.cons_append, List.nil_append, List.append_nil, List.getElem?_cons_zero, List.getElem?_cons_succ, List.set_cons_zero, List.set_cons_succ, Option.bind_some, Option.bind_none, Option.map_some, Option.map_none, Nat.zero_add, Nat.add_zero, Nat.reduceAdd, Nat.reduceSub, Nat.sub_self, Nat.reduceLeDiff, Nat.reduceEqDiff, Nat.le_refl, Nat.add_sub_cancel, if_true, if_false, Bool.false_eq_true, Bool.not_true, Bool.not_false, Bool.not_not, reduceIte, reduceCtorEq, and_self, and_true, true_and, decide_true, decide_false, semEq_str, semNe_str, semEq_int, semNe_int, semEq_bl, semNe_bl, atI0, atI1, atI2, atI3, atI4, OkS_nx, post_ok, items_lst, items_tup, semAt_lst, semAt_tup, semAt_str, semAt_dic, this]
            exact fun _ => trivial⟩)
      have h1 : (0 : Int) < (x.length : Int) := by omega
      have h2 : (x.length : Int) < 9 := by omega
      have hs : semEq (.lst ((x.cps.toList.filter fun c => !(decide (97 ≤ c) && decide (c ≤ 122))).map fun c => D.str (one c))) (.lst []) = some (.bl (nmB (.str x))) := by
        have hpl : ∀ c ∈ x.cps.toList, c < 1114112 := by
          have h := h.rp
          have h : x.cps.all (· < 1114112) = true := h
          intro c hc
          exact of_decide_eq_true (Array.all_eq_true_iff_forall_mem.mp h c (by simpa using hc))
        rw [semEq_of true (Sm.all (n := 0) (w := 12) fun d hd => by
          obtain ⟨c, hc, rfl⟩ := List.mem_map.mp hd
          refine ⟨pl_of_fit (fit_str fun c' hc' => ?_), rfl, Nat.zero_le _, Nat.le_refl _⟩
          have : c' = c := List.mem_singleton.mp hc'
          rw [this]
          exact hpl c (List.mem_filter.mp hc).1).1 (by decide) (clAll_iff.mpr fun d hd => by
            obtain ⟨c, _, rfl⟩ := List.mem_map.mp hd
            rfl) rfl]
        simp only [D.lst.injEq, List.map_eq_nil_iff, List.filter_eq_nil_iff, Bool.not_eq_true', Bool.not_eq_false]
        show some (D.bl (decide _)) = some (D.bl (decide (0 < x.length) && decide (x.length ≤ 8) && x.cps.toList.all fun c => decide (97 ≤ c) && decide (c ≤ 122)))
        rw [decide_eq_true (show 0 < x.length by omega), decide_eq_true c1.2, Bool.true_and, Bool.true_and]
        congr 2
        rw [Bool.eq_iff_iff, decide_eq_true_eq, List.all_eq_true]
      simp only [f__law_is_name, m__law_is_name, fnB, fnP, Rs.noE, startE, seqS, ifS, thenS, toB, op2, opN, op1, Opd.run, fill, lookV, look, Rs.bind, Rs.map, ofO, cD, vD, D.asB, semGt, semGe, semLt, semLe, setS, putS, DL.putF, shD, frzD, mvD, rtS, chgS, fillW, OV.lst?, OV.d, nxS, runs, looks, semInt, semMod, semFdiv, semAdd, semSub, semMul, semAbs, semLen, semTuple, semList, lstD, tupD, evs, callP, callB, slD, poN, poS, semSl, D.asI, appS, appF, extS, extF, augS, augF, exS, ifD, andT, orT, notT, notD, andD, orD, par2, par3, asgS, gN, gT, gsCons, gsNil, forD, rg1, rg2, itA, zpD, zip2, zipD, lcD, yesT, wipeE, m1D, tabD, semIs, semIsNot, D.isN, toT, orV, andV, notV, D.tru, chD, isiD, D.key, evPs, dicD, semDict, pairD, semRepr, callL, op2O, slO, opNO, lrgO, OV.flt, D.flt, semAddL, semMulL, semListL, mLD, popF, popS, insF, insS, clrS, revO, Rs.noE, List.map_cons, List.map_nil, List.length_cons, List.length_nil, List.length_map, List.replicate, List.cons_append, List.nil_append, List.append_nil, List.getElem?_cons_zero, List.getElem?_cons_succ, List.set_cons_zero, List.set_cons_succ, Option.bind_some, Option.bind_none, Option.map_some, Option.map_none, Nat.zero_add, Nat.add_zero, Nat.reduceAdd, Nat.reduceSub, Nat.sub_self, Nat.reduceLeDiff, Nat.reduceEqDiff, Nat.le_refl, Nat.add_sub_cancel, if_true, if_false, Bool.false_eq_true, Bool.not_true, Bool.not_false, Bool.not_not, reduceIte, reduceCtorEq, and_self, and_true, true_and, decide_true, decide_false, semEq_str, semNe_str, semEq_int, semNe_int, semEq_bl, semNe_bl, atI0, atI1, atI2, atI3, atI4, OkS_nx, post_ok, items_lst, items_tup, semAt_lst, semAt_tup, semAt_str, semAt_dic, isi_str, hl, h1, h2, e, hs]
    · have hn : nmB (.str x) = false := by
        unfold nmB nameB
        by_cases c2 : 0 < x.length
        · have : ¬ x.length ≤ 8 := fun z => c1 ⟨c2, z⟩
          simp [this]
        · simp [c2]
      rw [hn]
      by_cases h1 : (0 : Int) < (x.length : Int)
      · have h2 : ¬ (x.length : Int) < 9 := fun z => c1 ⟨by omega, by omega⟩
        simp only [f__law_is_name, m__law_is_name, fnB, fnP, Rs.noE, startE, seqS, ifS, thenS, toB, op2, opN, op1, Opd.run, fill, lookV, look, Rs.bind, Rs.map, ofO, cD, vD, D.asB, semGt, semGe, semLt, semLe, setS, putS, DL.putF, shD, frzD, mvD, rtS, chgS, fillW, OV.lst?, OV.d, nxS, runs, looks, semInt, semMod, semFdiv, semAdd, semSub, semMul, semAbs, semLen, semTuple, semList, lstD, tupD, evs, callP, callB, slD, poN, poS, semSl, D.asI, appS, appF, extS, extF, augS, augF, exS, ifD, andT, orT, notT, notD, andD, orD, par2, par3, asgS, gN, gT, gsCons, gsNil, forD, rg1, rg2, itA, zpD, zip2, zipD, lcD, yesT, wipeE, m1D, tabD, semIs, semIsNot, D.isN, toT, orV, andV, notV, D.tru, chD, isiD, D.key, evPs, dicD, semDict, pairD, semRepr, callL, op2O, slO, opNO, lrgO, OV.flt, D.flt, semAddL, semMulL, semListL, mLD, popF, popS, insF, insS, clrS, revO, Rs.noE, List.map_cons, List.map_nil, List.length_cons, List.length_nil, List.length_map, List.replicate, List.cons_append, List.nil_append, List.append_nil, List.getElem?_cons_zero, List.getElem?_cons_succ, List.set_cons_zero, List.set_cons_succ, Option.bind_some, Option.bind_none, Option.map_some, Option.map_none, Nat.zero_add, Nat.add_zero, Nat.reduceAdd, Nat.reduceSub, Nat.sub_self, Nat.reduceLeDiff, Nat.reduceEqDiff, Nat.le_refl, Nat.add_sub_cancel, if_true, if_false, Bool.false_eq_true, Bool.not_true, Bool.not_false, Bool.not_not, reduceIte, reduceCtorEq, and_self, and_true, true_and, decide_true, decide_false, semEq_str, semNe_str, semEq_int, semNe_int, semEq_bl, semNe_bl, atI0, atI1, atI2, atI3, atI4, OkS_nx, post_ok, items_lst, items_tup, semAt_lst, semAt_tup, semAt_str, semAt_dic, isi_str, hl, h1, h2]
      · simp only [f__law_is_name, m__law_is_name, fnB, fnP, Rs.noE, startE, seqS, ifS, thenS, toB, op2, opN, op1, Opd.run, fill, lookV, look, Rs.bind, Rs.map, ofO, cD, vD, D.asB, semGt, semGe, semLt, semLe, setS, putS, DL.putF, shD, frzD, mvD, rtS, chgS, fillW, OV.lst?, OV.d, nxS, runs, looks, semInt, semMod, semFdiv, semAdd, semSub, semMul, semAbs, semLen, semTuple, semList, lstD, tupD, evs, callP, callB, slD, poN, poS, semSl, D.asI, appS, appF, extS, extF, augS, augF, exS, ifD, andT, orT, notT, notD, andD, orD, par2, par3, asgS, gN, gT, gsCons, gsNil, forD, rg1, rg2, itA, zpD, zip2, zipD, lcD, yesT, wipeE, m1D, tabD, semIs, semIsNot, D.isN, toT, orV, andV, notV, D.tru, chD, isiD, D.key, evPs, dicD, semDict, pairD, semRepr, callL, op2O, slO, opNO, lrgO, OV.flt, D.flt, semAddL, semMulL, semListL, mLD, popF, popS, insF, insS, clrS, revO, Rs.noE, List.map_cons, List.map_nil, List.length_cons, List.length_nil, List.length_map, List.replicate, List.cons_append, List.nil_append, List.append_nil, List.getElem?_cons_zero, List.getElem?_cons_succ, List.set_cons_zero, List.set_cons_succ, Option.bind_some, Option.bind_none, Option.map_some, Option.map_none, Nat.zero_add, Nat.add_zero, Nat.reduceAdd, Nat.reduceSub, Nat.sub_self, Nat.reduceLeDiff, Nat.reduceEqDiff, Nat.le_refl, Nat.add_sub_cancel, if_true, if_false, Bool.false_eq_true, Bool.not_true, Bool.not_false, Bool.not_not, reduceIte, reduceCtorEq, and_self, and_true, true_and, decide_true, decide_false, semEq_str, semNe_str, semEq_int, semNe_int, semEq_bl, semNe_bl, atI0, atI1, atI2, atI3, atI4, OkS_nx, post_ok, items_lst, items_tup, semAt_lst, semAt_tup, semAt_str, semAt_dic, isi_str, hl, h1]
  | scr _ => exact absurd h.rp Bool.false_ne_true
  | obj _ _ => exact absurd h.rp Bool.false_ne_true
  | _ => simp only [f__law_is_name, m__law_is_name, fnP, startE, seqS, ifS, orT, notT, toB, isiD, Opd.run, fill, lookV, look, Rs.bind, Rs.map, ofO, OV.d, thenS, rtS, shD, cD, D.asB, Rs.noE, List.map_cons, List.map_nil, List.length_cons, List.length_nil, List.length_map, List.replicate, List.cons_append, List.nil_append, List.append_nil, List.getElem?_cons_zero, List.getElem?_cons_succ, List.set_cons_zero, List.set_cons_succ, Option.bind_some, Option.bind_none, Option.map_some, Option.map_none, Nat.zero_add, Nat.add_zero, Nat.reduceAdd, Nat.reduceSub, Nat.sub_self, Nat.reduceLeDiff, Nat.reduceEqDiff, Nat.le_refl, Nat.add_sub_cancel, if_true, if_false, Bool.false_eq_true, Bool.not_true, Bool.not_false, Bool.not_not, reduceIte, reduceCtorEq, and_self, and_true, true_and, decide_true, decide_false, semEq_str, semNe_str, semEq_int, semNe_int, semEq_bl, semNe_bl, atI0, atI1, atI2, atI3, atI4, OkS_nx, post_ok, items_lst, items_tup, semAt_lst, semAt_tup, semAt_str, semAt_dic, isi_str, nmB]
end T

-- needs: is_name is_relation _law_names _law_is_name _law_is_atom
namespace T
open PySem L2 DL
def prt3 (a b c : D) : Nat → D
  | 0 => a
  | 1 => b
  | _ => c
def prtB (a b c : Bool) : Nat → Bool
  | 0 => a
  | 1 => b
  | _ => c
/-- what the law finds of a tuple of three texts -/
def bad3 (l : Bool) (x y z : Str) (k : Nat) : Bool := !(prtB (relB (.str x)) (nmB (.str y)) (nmB (.str z)) k) && (l || !decide (prt (x, y, z) k = ""))
theorem bad3_all (l : Bool) (x y z : Str) : ([0, 1, 2].filter (bad3 l x y z)).isEmpty = (if l then atB (.tup [.str x, .str y, .str z]) else ptB (.tup [.str x, .str y, .str z])) := by
  have h : ([0, 1, 2].filter (bad3 l x y z)).isEmpty = (!bad3 l x y z 0 && (!bad3 l x y z 1 && !bad3 l x y z 2)) := by
    cases h0 : bad3 l x y z 0 <;> cases h1 : bad3 l x y z 1 <;> cases h2 : bad3 l x y z 2 <;> simp [List.filter_cons, h0, h1, h2]
  rw [h]
  cases l with
  | true =>
    show _ = (relB (.str x) && (nmB (.str y) && nmB (.str z)))
    simp only [bad3, prtB, Bool.true_or, Bool.and_true, Bool.not_not]
  | false =>
    show _ = (emB relB (.str x) && (emB nmB (.str y) && emB nmB (.str z)))
    simp only [bad3, prtB, prt, emB, Bool.false_or, Bool.not_and, Bool.not_not, Bool.or_comm]
set_option maxHeartbeats 8000000 in
theorem lawIsAtom_eq {n w : Nat} {d : D} (h : Gd n w d) (hw : w ≤ 1000000) (l : Bool) : f__law_is_atom [d, .int (if l then 1 else 0)] = some (.sh (.bl (if l then atB d else ptB d))) := by
  cases d with
  | tup xs =>
    by_cases h3 : ∃ a b c, xs = [a, b, c]
    · obtain ⟨a, b, c, rfl⟩ := h3
      have hl : ((3 : Nat) : Int) = 3 := rfl
      have e1 : ∀ i : Int, lc__law_is_atom_1 [some (.sh (.tup [a, b, c])), some (.sh (.int i)), none, none, none] = .ok (.ow ([a, b, c].filter fun x => !isS x)) [some (.sh (.tup [a, b, c])), some (.sh (.int i)), none, none, none] := fun i => by
        have := lcD_mp (it := it__law_is_atom_1) (vs := [2]) (h := gN 2) (t := ts__law_is_atom_1) (elt := el__law_is_atom_1) (r := [some (.sh (.tup [a, b, c])), some (.sh (.int i)), none, none, none]) [some (.sh (.tup [a, b, c])), some (.sh (.int i)), none, none, none] [a, b, c] id (fun x => !isS x) id rfl (show 3 ≤ 1000000 by decide) rfl rfl (fun x hx => ⟨_, rfl, by
          have g := h.tupm hx
          cases x with
          | scr _ => exact absurd g.rp Bool.false_ne_true
          | obj _ _ => exact absurd g.rp Bool.false_ne_true
          | _ => simp only [ts__law_is_atom_1, el__law_is_atom_1, gN, id, notT, toB, isiD, vD, Opd.run, fill, lookV, look, Rs.bind, Rs.map, ofO, OV.d, D.asB, Rs.noE, List.map_cons, List.map_nil, List.length_cons, List.length_nil, List.length_map, List.replicate, List.cons_append, List.nil_append, List.append_nil, List.getElem?_cons_zero, List.getElem?_cons_succ, List.set_cons_zero, List.set_cons_succ, Option.bind_some, Option.bind_none, Option.map_some, Option.map_none, Nat.zero_add, Nat.add_zero, Nat.reduceAdd, Nat.reduceSub, Nat.sub_self, Nat.reduceLeDiff, Nat.reduceEqDiff, Nat.le_refl, Nat.add_sub_cancel, if_true, if_false, Bool.false_eq_true, Bool.not_true, Bool.not_false, Bool.not_not, reduceIte, reduceCtorEq, and_self, and_true, true_and, decide_true, decide_false, semEq_str, semNe_str, semEq_int, semNe_int, semEq_bl, semNe_bl, atI0, atI1, atI2, atI3, atI4, OkS_nx, post_ok, items_lst, items_tup, semAt_lst, semAt_tup, semAt_str, semAt_dic, isi_isS, isS, wipeE, implies_true, not_false_eq_true]⟩)
        rw [List.map_id] at this
        exact this
      by_cases hs : isS a = true ∧ isS b = true ∧ isS c = true
      · obtain ⟨s1, s2, s3⟩ := hs
        have hnil : ([a, b, c].filter fun x => !isS x) = [] := by simp [s1, s2, s3]
        obtain ⟨x, rfl⟩ : ∃ x, a = .str x := by cases a <;> first | exact ⟨_, rfl⟩ | cases s1
        obtain ⟨y, rfl⟩ : ∃ x, b = .str x := by cases b <;> first | exact ⟨_, rfl⟩ | cases s2
        obtain ⟨z, rfl⟩ : ∃ x, c = .str x := by cases c <;> first | exact ⟨_, rfl⟩ | cases s3
        have ga := h.tupm (d := .str x) (by simp)
        have gb := h.tupm (d := .str y) (by simp)
        have gc := h.tupm (d := .str z) (by simp)
        have r1 := in_rel (w := w) ⟨ga.rp, Nat.le_refl _, ga.wq⟩
        have n2 := lawIsName_eq gb hw
        have n3 := lawIsName_eq gc hw
        have e2 : lc__law_is_atom_2 [some (.sh (.tup [.str x, .str y, .str z])), some (.sh (.int (if l then 1 else 0))), none, some (.sh (.lst [.bl (relB (.str x)), .bl (nmB (.str y)), .bl (nmB (.str z))])), none] = .ok (.ow (([0, 1, 2].filter (bad3 l x y z)).map fun (k : Nat) => D.int k)) [some (.sh (.tup [.str x, .str y, .str z])), some (.sh (.int (if l then 1 else 0))), none, some (.sh (.lst [.bl (relB (.str x)), .bl (nmB (.str y)), .bl (nmB (.str z))])), none] :=
          lcD_mp (it := it__law_is_atom_2) (vs := [4]) (h := gN 4) (t := ts__law_is_atom_2) (elt := el__law_is_atom_2) _ [0, 1, 2] (fun (k : Nat) => D.int k) (bad3 l x y z) (fun (k : Nat) => D.int k) rfl (by decide) rfl rfl fun k hk => ⟨_, rfl, by
            have h1 : semAt (.tup [.str x, .str y, .str z]) (.int k) = some (.str (prt (x, y, z) k)) ∧ semAt (.lst [.bl (relB (.str x)), .bl (nmB (.str y)), .bl (nmB (.str z))]) (.int k) = some (.bl (prtB (relB (.str x)) (nmB (.str y)) (nmB (.str z)) k)) := by
              simp only [List.mem_cons, List.not_mem_nil, or_false] at hk
              rcases hk with rfl | rfl | rfl <;> exact ⟨rfl, rfl⟩
            obtain ⟨h1, h2⟩ := h1
            have hl1 : semEq (.int (if l = true then 1 else 0)) (.int 1) = some (.bl l) := by cases l <;> rfl
            unfold bad3
            generalize prtB (relB (.str x)) (nmB (.str y)) (nmB (.str z)) k = g at h2
            generalize prt (x, y, z) k = t at h1
            cases g with
            | true => simp only [ts__law_is_atom_2, el__law_is_atom_2, gN, andT, orT, notT, toT, toB, op2, vD, cD, Opd.run, fill, lookV, look, Rs.bind, Rs.map, ofO, OV.d, D.tru, D.asB, Rs.noE, List.map_cons, List.map_nil, List.length_cons, List.length_nil, List.length_map, List.replicate, List.cons_append, List.nil_append, List.append_nil, List.getElem?_cons_zero, List.getElem?_cons_succ, List.set_cons_zero, List.set_cons_succ, Option.bind_some, Option.bind_none, Option.map_some, Option.map_none, Nat.zero_add, Nat.add_zero, Nat.reduceAdd, Nat.reduceSub, Nat.sub_self, Nat.reduceLeDiff, Nat.reduceEqDiff, Nat.le_refl, Nat.add_sub_cancel, if_true, if_false, Bool.false_eq_true, Bool.not_true, Bool.not_false, Bool.not_not, reduceIte, reduceCtorEq, and_self, and_true, true_and, decide_true, decide_false, semEq_str, semNe_str, semEq_int, semNe_int, semEq_bl, semNe_bl, atI0, atI1, atI2, atI3, atI4, OkS_nx, post_ok, items_lst, items_tup, semAt_lst, semAt_tup, semAt_str, semAt_dic, h1, h2, Bool.false_and, wipeE, implies_true]
            | false =>
              cases l with
              | true => simp only [ts__law_is_atom_2, el__law_is_atom_2, gN, andT, orT, notT, toT, toB, op2, vD, cD, Opd.run, fill, lookV, look, Rs.bind, Rs.map, ofO, OV.d, D.tru, D.asB, Rs.noE, List.map_cons, List.map_nil, List.length_cons, List.length_nil, List.length_map, List.replicate, List.cons_append, List.nil_append, List.append_nil, List.getElem?_cons_zero, List.getElem?_cons_succ, List.set_cons_zero, List.set_cons_succ, Option.bind_some, Option.bind_none, Option.map_some, Option.map_none, Nat.zero_add, Nat.add_zero, Nat.reduceAdd, Nat.reduceSub, Nat.sub_self, Nat.reduceLeDiff, Nat.reduceEqDiff, Nat.le_refl, Nat.add_sub_cancel, if_true, if_false, Bool.false_eq_true, Bool.not_true, Bool.not_false, Bool.not_not, reduceIte, reduceCtorEq, and_self, and_true, true_and, decide_true, decide_false, semEq_str, semNe_str, semEq_int, semNe_int, semEq_bl, semNe_bl, atI0, atI1, atI2, atI3, atI4, OkS_nx, post_ok, items_lst, items_tup, semAt_lst, semAt_tup, semAt_str, semAt_dic, h1, h2, Bool.true_or, Bool.true_and, wipeE, implies_true]
              | false =>
                have hl0 : ¬ ((0 : Int) = 1) := by decide
                simp only [ts__law_is_atom_2, el__law_is_atom_2, gN, andT, orT, notT, toT, toB, op2, vD, cD, Opd.run, fill, lookV, look, Rs.bind, Rs.map, ofO, OV.d, D.tru, D.asB, Rs.noE, List.map_cons, List.map_nil, List.length_cons, List.length_nil, List.length_map, List.replicate, List.cons_append, List.nil_append, List.append_nil, List.getElem?_cons_zero, List.getElem?_cons_succ, List.set_cons_zero, List.set_cons_succ, Option.bind_some, Option.bind_none, Option.map_some, Option.map_none, Nat.zero_add, Nat.add_zero, Nat.reduceAdd, Nat.reduceSub, Nat.sub_self, Nat.reduceLeDiff, Nat.reduceEqDiff, Nat.le_refl, Nat.add_sub_cancel, if_true, if_false, Bool.false_eq_true, Bool.not_true, Bool.not_false, Bool.not_not, reduceIte, reduceCtorEq, and_self, and_true, true_and, decide_true, decide_false, semEq_str, semNe_str, semEq_int, semNe_int, semEq_bl, semNe_bl, atI0, atI1, atI2, atI3, atI4, OkS_nx, post_ok, items_lst, items_tup, semAt_lst, semAt_tup, semAt_str, semAt_dic, h1, h2, hl0, Bool.false_or, Bool.true_and, wipeE, implies_true]⟩
        have hfin := bad3_all l x y z
        simp only [f__law_is_atom, m__law_is_atom, fnP, startE, seqS, setS, ifS, orT, notT, toB, isiD, shD, frzD, lstD, tupD, evs, op2, opN, runs, looks, semLen, callP, cD, Opd.run, fill, lookV, look, Rs.bind, Rs.map, ofO, OV.d, thenS, rtS, nxS, D.asB, List.map_cons, List.map_nil, List.length_cons, List.length_nil, List.replicate, List.cons_append, List.nil_append, List.getElem?_cons_zero, List.getElem?_cons_succ, List.set_cons_zero, List.set_cons_succ, Option.bind_some, Option.map_some, Nat.zero_add, Nat.reduceAdd, Nat.reduceSub, Nat.reduceLeDiff, semAt_tup, atI0, atI1, atI2, semNe_int, isi_tup, hl, e1, hnil, semNe_nil, semEq_nil, List.isEmpty_nil, Bool.not_true, Bool.not_false, decide_true, Bool.false_eq_true, if_true, if_false, r1, n2, n3, e2, List.isEmpty_map, hfin]
      · have hnil : ([a, b, c].filter fun x => !isS x).isEmpty = false := by
          cases h1 : isS a <;> cases h2 : isS b <;> cases h3 : isS c <;> simp_all [List.filter_cons]
        have hp : ptB (.tup [a, b, c]) = false := by
          show (emB relB a && (emB nmB b && emB nmB c)) = false
          cases h1 : isS a with
          | false => rw [emB_nostr _ h1]; rfl
          | true =>
            cases h2 : isS b with
            | false => rw [emB_nostr _ h2, Bool.false_and, Bool.and_false]
            | true =>
              cases h3 : isS c with
              | false => rw [emB_nostr _ h3, Bool.and_false, Bool.and_false]
              | true => exact absurd ⟨h1, h2, h3⟩ hs
        have ha : atB (.tup [a, b, c]) = false := by
          have nr : ∀ {d : D}, isS d = false → relB d = false := fun {d} z => by cases d <;> first | rfl | cases z
          have nn : ∀ {d : D}, isS d = false → nmB d = false := fun {d} z => by cases d <;> first | rfl | cases z
          show (relB a && (nmB b && nmB c)) = false
          cases h1 : isS a with
          | false => rw [nr h1]; rfl
          | true =>
            cases h2 : isS b with
            | false => rw [nn h2, Bool.false_and, Bool.and_false]
            | true =>
              cases h3 : isS c with
              | false => rw [nn h3, Bool.and_false, Bool.and_false]
              | true => exact absurd ⟨h1, h2, h3⟩ hs
        rw [ha, hp, ite_self]
        simp only [f__law_is_atom, m__law_is_atom, fnB, fnP, Rs.noE, startE, seqS, ifS, thenS, toB, op2, opN, op1, Opd.run, fill, lookV, look, Rs.bind, Rs.map, ofO, cD, vD, D.asB, semGt, semGe, semLt, semLe, setS, putS, DL.putF, shD, frzD, mvD, rtS, chgS, fillW, OV.lst?, OV.d, nxS, runs, looks, semInt, semMod, semFdiv, semAdd, semSub, semMul, semAbs, semLen, semTuple, semList, lstD, tupD, evs, callP, callB, slD, poN, poS, semSl, D.asI, appS, appF, extS, extF, augS, augF, exS, ifD, andT, orT, notT, notD, andD, orD, par2, par3, asgS, gN, gT, gsCons, gsNil, forD, rg1, rg2, itA, zpD, zip2, zipD, lcD, yesT, wipeE, m1D, tabD, semIs, semIsNot, D.isN, toT, orV, andV, notV, D.tru, chD, isiD, D.key, evPs, dicD, semDict, pairD, semRepr, callL, op2O, slO, opNO, lrgO, OV.flt, D.flt, semAddL, semMulL, semListL, mLD, popF, popS, insF, insS, clrS, revO, Rs.noE, List.map_cons, List.map_nil, List.length_cons, List.length_nil, List.length_map, List.replicate, List.cons_append, List.nil_append, List.append_nil, List.getElem?_cons_zero, List.getElem?_cons_succ, List.set_cons_zero, List.set_cons_succ, Option.bind_some, Option.bind_none, Option.map_some, Option.map_none, Nat.zero_add, Nat.add_zero, Nat.reduceAdd, Nat.reduceSub, Nat.sub_self, Nat.reduceLeDiff, Nat.reduceEqDiff, Nat.le_refl, Nat.add_sub_cancel, if_true, if_false, Bool.false_eq_true, Bool.not_true, Bool.not_false, Bool.not_not, reduceIte, reduceCtorEq, and_self, and_true, true_and, decide_true, decide_false, semEq_str, semNe_str, semEq_int, semNe_int, semEq_bl, semNe_bl, atI0, atI1, atI2, atI3, atI4, OkS_nx, post_ok, items_lst, items_tup, semAt_lst, semAt_tup, semAt_str, semAt_dic, isi_tup, hl, e1, semNe_nil, hnil]
    · have hb : ptB (.tup xs) = false := by
        unfold ptB
        split
        · next a b c heq => cases heq; exact absurd ⟨a, b, c, rfl⟩ h3
        · rfl
      have ha : atB (.tup xs) = false := by
        unfold atB
        split
        · next a b c heq => cases heq; exact absurd ⟨a, b, c, rfl⟩ h3
        · rfl
      have hl := len_ne3 (xs := xs) fun a b c z => h3 ⟨a, b, c, z⟩
      rw [hb, ha, ite_self]
      simp only [f__law_is_atom, m__law_is_atom, fnB, fnP, Rs.noE, startE, seqS, ifS, thenS, toB, op2, opN, op1, Opd.run, fill, lookV, look, Rs.bind, Rs.map, ofO, cD, vD, D.asB, semGt, semGe, semLt, semLe, setS, putS, DL.putF, shD, frzD, mvD, rtS, chgS, fillW, OV.lst?, OV.d, nxS, runs, looks, semInt, semMod, semFdiv, semAdd, semSub, semMul, semAbs, semLen, semTuple, semList, lstD, tupD, evs, callP, callB, slD, poN, poS, semSl, D.asI, appS, appF, extS, extF, augS, augF, exS, ifD, andT, orT, notT, notD, andD, orD, par2, par3, asgS, gN, gT, gsCons, gsNil, forD, rg1, rg2, itA, zpD, zip2, zipD, lcD, yesT, wipeE, m1D, tabD, semIs, semIsNot, D.isN, toT, orV, andV, notV, D.tru, chD, isiD, D.key, evPs, dicD, semDict, pairD, semRepr, callL, op2O, slO, opNO, lrgO, OV.flt, D.flt, semAddL, semMulL, semListL, mLD, popF, popS, insF, insS, clrS, revO, Rs.noE, List.map_cons, List.map_nil, List.length_cons, List.length_nil, List.length_map, List.replicate, List.cons_append, List.nil_append, List.append_nil, List.getElem?_cons_zero, List.getElem?_cons_succ, List.set_cons_zero, List.set_cons_succ, Option.bind_some, Option.bind_none, Option.map_some, Option.map_none, Nat.zero_add, Nat.add_zero, Nat.reduceAdd, Nat.reduceSub, Nat.sub_self, Nat.reduceLeDiff, Nat.reduceEqDiff, Nat.le_refl, Nat.add_sub_cancel, if_true, if_false, Bool.false_eq_true, Bool.not_true, Bool.not_false, Bool.not_not, reduceIte, reduceCtorEq, and_self, and_true, true_and, decide_true, decide_false, semEq_str, semNe_str, semEq_int, semNe_int, semEq_bl, semNe_bl, atI0, atI1, atI2, atI3, atI4, OkS_nx, post_ok, items_lst, items_tup, semAt_lst, semAt_tup, semAt_str, semAt_dic, isi_tup, hl]
  | scr _ => exact absurd h.rp Bool.false_ne_true
  | obj _ _ => exact absurd h.rp Bool.false_ne_true
  | _ => simp only [f__law_is_atom, m__law_is_atom, fnP, startE, seqS, ifS, orT, notT, toB, isiD, Opd.run, fill, lookV, look, Rs.bind, Rs.map, ofO, OV.d, thenS, rtS, shD, cD, D.asB, Rs.noE, List.map_cons, List.map_nil, List.length_cons, List.length_nil, List.length_map, List.replicate, List.cons_append, List.nil_append, List.append_nil, List.getElem?_cons_zero, List.getElem?_cons_succ, List.set_cons_zero, List.set_cons_succ, Option.bind_some, Option.bind_none, Option.map_some, Option.map_none, Nat.zero_add, Nat.add_zero, Nat.reduceAdd, Nat.reduceSub, Nat.sub_self, Nat.reduceLeDiff, Nat.reduceEqDiff, Nat.le_refl, Nat.add_sub_cancel, if_true, if_false, Bool.false_eq_true, Bool.not_true, Bool.not_false, Bool.not_not, reduceIte, reduceCtorEq, and_self, and_true, true_and, decide_true, decide_false, semEq_str, semNe_str, semEq_int, semNe_int, semEq_bl, semNe_bl, atI0, atI1, atI2, atI3, atI4, OkS_nx, post_ok, items_lst, items_tup, semAt_lst, semAt_tup, semAt_str, semAt_dic, isi_tup, atB, ptB, ite_self]
end T

-- needs: is_name is_relation _law_names _law_is_name _law_is_atom _law_is_fact _law_is_row
namespace T
open PySem L2 DL
set_option maxHeartbeats 4000000 in
theorem lawIsFact_eq {n w : Nat} {d : D} (h : Gd n w d) (hw : w ≤ 1000000) : f__law_is_fact [d] = some (.sh (.bl (ftB d))) := by
  cases d with
  | tup xs =>
    by_cases hl : 1 ≤ xs.length ∧ xs.length ≤ 2
    · have e : lc__law_is_fact_1 [some (.sh (.tup xs)), none] = .ok (.ow (xs.filter fun x => !atB x)) [some (.sh (.tup xs)), none] := by
        have := lcD_mp (it := it__law_is_fact_1) (vs := [1]) (h := gN 1) (t := ts__law_is_fact_1) (elt := el__law_is_fact_1) (r := [some (.sh (.tup xs)), none]) [some (.sh (.tup xs)), none] xs id (fun x => !atB x) id (by rw [List.map_id]; rfl) (by omega) rfl rfl (fun x hx => ⟨_, rfl, by
          have : f__law_is_atom [x, .int 1] = some (.sh (.bl (atB x))) := lawIsAtom_eq (h.tupm hx) hw true
          simp only [ts__law_is_fact_1, el__law_is_fact_1, gN, id, fnB, fnP, Rs.noE, startE, seqS, ifS, thenS, toB, op2, opN, op1, Opd.run, fill, lookV, look, Rs.bind, Rs.map, ofO, cD, vD, D.asB, semGt, semGe, semLt, semLe, setS, putS, DL.putF, shD, frzD, mvD, rtS, chgS, fillW, OV.lst?, OV.d, nxS, runs, looks, semInt, semMod, semFdiv, semAdd, semSub, semMul, semAbs, semLen, semTuple, semList, lstD, tupD, evs, callP, callB, slD, poN, poS, semSl, D.asI, appS, appF, extS, extF, augS, augF, exS, ifD, andT, orT, notT, notD, andD, orD, par2, par3, asgS, gN, gT, gsCons, gsNil, forD, rg1, rg2, itA, zpD, zip2, zipD, lcD, yesT, wipeE, m1D, tabD, semIs, semIsNot, D.isN, toT, orV, andV, notV, D.tru, chD, isiD, D.key, evPs, dicD, semDict, pairD, semRepr, callL, op2O, slO, opNO, lrgO, OV.flt, D.flt, semAddL, semMulL, semListL, mLD, popF, popS, insF, insS, clrS, revO, Rs.noE, List.map_cons, List.map_nil, List.length_cons, List.length_nil, List.length_map, List.replicate, List.cons_append, List.nil_append, List.append_nil, List.getElem?_cons_zero, List.getElem?_cons_succ, List.set_cons_zero, List.set_cons_succ, Option.bind_some, Option.bind_none, Option.map_some, Option.map_none, Nat.zero_add, Nat.add_zero, Nat.reduceAdd, Nat.reduceSub, Nat.sub_self, Nat.reduceLeDiff, Nat.reduceEqDiff, Nat.le_refl, Nat.add_sub_cancel, if_true, if_false, Bool.false_eq_true, Bool.not_true, Bool.not_false, Bool.not_not, reduceIte, reduceCtorEq, and_self, and_true, true_and, decide_true, decide_false, semEq_str, semNe_str, semEq_int, semNe_int, semEq_bl, semNe_bl, atI0, atI1, atI2, atI3, atI4, OkS_nx, post_ok, items_lst, items_tup, semAt_lst, semAt_tup, semAt_str, semAt_dic, this]
          exact fun _ => trivial⟩)
        rw [List.map_id] at this
        exact this
      have h1 : (0 : Int) < (xs.length : Int) := by omega
      have h2 : (xs.length : Int) < 3 := by omega
      have hfin : (xs.filter fun x => !atB x).isEmpty = ftB (.tup xs) := by
        match xs, hl with
        | [a], _ => cases ha : atB a <;> simp [ftB, List.filter_cons, ha]
        | [a, b], _ => cases ha : atB a <;> cases hb : atB b <;> simp [ftB, List.filter_cons, ha, hb]
      simp only [f__law_is_fact, m__law_is_fact, fnB, fnP, Rs.noE, startE, seqS, ifS, thenS, toB, op2, opN, op1, Opd.run, fill, lookV, look, Rs.bind, Rs.map, ofO, cD, vD, D.asB, semGt, semGe, semLt, semLe, setS, putS, DL.putF, shD, frzD, mvD, rtS, chgS, fillW, OV.lst?, OV.d, nxS, runs, looks, semInt, semMod, semFdiv, semAdd, semSub, semMul, semAbs, semLen, semTuple, semList, lstD, tupD, evs, callP, callB, slD, poN, poS, semSl, D.asI, appS, appF, extS, extF, augS, augF, exS, ifD, andT, orT, notT, notD, andD, orD, par2, par3, asgS, gN, gT, gsCons, gsNil, forD, rg1, rg2, itA, zpD, zip2, zipD, lcD, yesT, wipeE, m1D, tabD, semIs, semIsNot, D.isN, toT, orV, andV, notV, D.tru, chD, isiD, D.key, evPs, dicD, semDict, pairD, semRepr, callL, op2O, slO, opNO, lrgO, OV.flt, D.flt, semAddL, semMulL, semListL, mLD, popF, popS, insF, insS, clrS, revO, Rs.noE, List.map_cons, List.map_nil, List.length_cons, List.length_nil, List.length_map, List.replicate, List.cons_append, List.nil_append, List.append_nil, List.getElem?_cons_zero, List.getElem?_cons_succ, List.set_cons_zero, List.set_cons_succ, Option.bind_some, Option.bind_none, Option.map_some, Option.map_none, Nat.zero_add, Nat.add_zero, Nat.reduceAdd, Nat.reduceSub, Nat.sub_self, Nat.reduceLeDiff, Nat.reduceEqDiff, Nat.le_refl, Nat.add_sub_cancel, if_true, if_false, Bool.false_eq_true, Bool.not_true, Bool.not_false, Bool.not_not, reduceIte, reduceCtorEq, and_self, and_true, true_and, decide_true, decide_false, semEq_str, semNe_str, semEq_int, semNe_int, semEq_bl, semNe_bl, atI0, atI1, atI2, atI3, atI4, OkS_nx, post_ok, items_lst, items_tup, semAt_lst, semAt_tup, semAt_str, semAt_dic, isi_tup, h1, h2, e, semEq_nil, hfin]
    · have hb : ftB (.tup xs) = false := by
        unfold ftB
        split
        · next a heq => cases heq; exact absurd ⟨by simp, by simp⟩ hl
        · next a b heq => cases heq; exact absurd ⟨by simp, by simp⟩ hl
        · rfl
      rw [hb]
      by_cases h1 : (0 : Int) < (xs.length : Int)
      · have h2 : ¬ (xs.length : Int) < 3 := fun z => hl ⟨by omega, by omega⟩
        simp only [f__law_is_fact, m__law_is_fact, fnB, fnP, Rs.noE, startE, seqS, ifS, thenS, toB, op2, opN, op1, Opd.run, fill, lookV, look, Rs.bind, Rs.map, ofO, cD, vD, D.asB, semGt, semGe, semLt, semLe, setS, putS, DL.putF, shD, frzD, mvD, rtS, chgS, fillW, OV.lst?, OV.d, nxS, runs, looks, semInt, semMod, semFdiv, semAdd, semSub, semMul, semAbs, semLen, semTuple, semList, lstD, tupD, evs, callP, callB, slD, poN, poS, semSl, D.asI, appS, appF, extS, extF, augS, augF, exS, ifD, andT, orT, notT, notD, andD, orD, par2, par3, asgS, gN, gT, gsCons, gsNil, forD, rg1, rg2, itA, zpD, zip2, zipD, lcD, yesT, wipeE, m1D, tabD, semIs, semIsNot, D.isN, toT, orV, andV, notV, D.tru, chD, isiD, D.key, evPs, dicD, semDict, pairD, semRepr, callL, op2O, slO, opNO, lrgO, OV.flt, D.flt, semAddL, semMulL, semListL, mLD, popF, popS, insF, insS, clrS, revO, Rs.noE, List.map_cons, List.map_nil, List.length_cons, List.length_nil, List.length_map, List.replicate, List.cons_append, List.nil_append, List.append_nil, List.getElem?_cons_zero, List.getElem?_cons_succ, List.set_cons_zero, List.set_cons_succ, Option.bind_some, Option.bind_none, Option.map_some, Option.map_none, Nat.zero_add, Nat.add_zero, Nat.reduceAdd, Nat.reduceSub, Nat.sub_self, Nat.reduceLeDiff, Nat.reduceEqDiff, Nat.le_refl, Nat.add_sub_cancel, if_true, if_false, Bool.false_eq_true, Bool.not_true, Bool.not_false, Bool.not_not, reduceIte, reduceCtorEq, and_self, and_true, true_and, decide_true, decide_false, semEq_str, semNe_str, semEq_int, semNe_int, semEq_bl, semNe_bl, atI0, atI1, atI2, atI3, atI4, OkS_nx, post_ok, items_lst, items_tup, semAt_lst, semAt_tup, semAt_str, semAt_dic, isi_tup, h1, h2]
      · simp only [f__law_is_fact, m__law_is_fact, fnB, fnP, Rs.noE, startE, seqS, ifS, thenS, toB, op2, opN, op1, Opd.run, fill, lookV, look, Rs.bind, Rs.map, ofO, cD, vD, D.asB, semGt, semGe, semLt, semLe, setS, putS, DL.putF, shD, frzD, mvD, rtS, chgS, fillW, OV.lst?, OV.d, nxS, runs, looks, semInt, semMod, semFdiv, semAdd, semSub, semMul, semAbs, semLen, semTuple, semList, lstD, tupD, evs, callP, callB, slD, poN, poS, semSl, D.asI, appS, appF, extS, extF, augS, augF, exS, ifD, andT, orT, notT, notD, andD, orD, par2, par3, asgS, gN, gT, gsCons, gsNil, forD, rg1, rg2, itA, zpD, zip2, zipD, lcD, yesT, wipeE, m1D, tabD, semIs, semIsNot, D.isN, toT, orV, andV, notV, D.tru, chD, isiD, D.key, evPs, dicD, semDict, pairD, semRepr, callL, op2O, slO, opNO, lrgO, OV.flt, D.flt, semAddL, semMulL, semListL, mLD, popF, popS, insF, insS, clrS, revO, Rs.noE, List.map_cons, List.map_nil, List.length_cons, List.length_nil, List.length_map, List.replicate, List.cons_append, List.nil_append, List.append_nil, List.getElem?_cons_zero, List.getElem?_cons_succ, List.set_cons_zero, List.set_cons_succ, Option.bind_some, Option.bind_none, Option.map_some, Option.map_none, Nat.zero_add, Nat.add_zero, Nat.reduceAdd, Nat.reduceSub, Nat.sub_self, Nat.reduceLeDiff, Nat.reduceEqDiff, Nat.le_refl, Nat.add_sub_cancel, if_true, if_false, Bool.false_eq_true, Bool.not_true, Bool.not_false, Bool.not_not, reduceIte, reduceCtorEq, and_self, and_true, true_and, decide_true, decide_false, semEq_str, semNe_str, semEq_int, semNe_int, semEq_bl, semNe_bl, atI0, atI1, atI2, atI3, atI4, OkS_nx, post_ok, items_lst, items_tup, semAt_lst, semAt_tup, semAt_str, semAt_dic, isi_tup, h1]
  | scr _ => exact absurd h.rp Bool.false_ne_true
  | obj _ _ => exact absurd h.rp Bool.false_ne_true
  | _ => simp only [f__law_is_fact, m__law_is_fact, fnP, startE, seqS, ifS, orT, notT, toB, isiD, Opd.run, fill, lookV, look, Rs.bind, Rs.map, ofO, OV.d, thenS, rtS, shD, cD, D.asB, Rs.noE, List.map_cons, List.map_nil, List.length_cons, List.length_nil, List.length_map, List.replicate, List.cons_append, List.nil_append, List.append_nil, List.getElem?_cons_zero, List.getElem?_cons_succ, List.set_cons_zero, List.set_cons_succ, Option.bind_some, Option.bind_none, Option.map_some, Option.map_none, Nat.zero_add, Nat.add_zero, Nat.reduceAdd, Nat.reduceSub, Nat.sub_self, Nat.reduceLeDiff, Nat.reduceEqDiff, Nat.le_refl, Nat.add_sub_cancel, if_true, if_false, Bool.false_eq_true, Bool.not_true, Bool.not_false, Bool.not_not, reduceIte, reduceCtorEq, and_self, and_true, true_and, decide_true, decide_false, semEq_str, semNe_str, semEq_int, semNe_int, semEq_bl, semNe_bl, atI0, atI1, atI2, atI3, atI4, OkS_nx, post_ok, items_lst, items_tup, semAt_lst, semAt_tup, semAt_str, semAt_dic, isi_tup, ftB]
set_option maxHeartbeats 4000000 in
theorem lawIsRow_eq {n w : Nat} {d : D} (h : Gd n w d) (hw : w ≤ 1000000) : f__law_is_row [d] = some (.sh (.bl (rwB d))) := by
  cases d with
  | tup xs =>
    by_cases h2 : ∃ a b, xs = [a, b]
    · obtain ⟨a, b, rfl⟩ := h2
      have e1 := lawIsName_eq (h.tupm (d := a) (by simp)) hw
      have e2 := lawIsFact_eq (h.tupm (d := b) (by simp)) hw
      have hl : ((2 : Nat) : Int) = 2 := rfl
      show _ = some (OV.sh (D.bl (nmB a && ftB b)))
      simp only [f__law_is_row, m__law_is_row, fnB, fnP, Rs.noE, startE, seqS, ifS, thenS, toB, op2, opN, op1, Opd.run, fill, lookV, look, Rs.bind, Rs.map, ofO, cD, vD, D.asB, semGt, semGe, semLt, semLe, setS, putS, DL.putF, shD, frzD, mvD, rtS, chgS, fillW, OV.lst?, OV.d, nxS, runs, looks, semInt, semMod, semFdiv, semAdd, semSub, semMul, semAbs, semLen, semTuple, semList, lstD, tupD, evs, callP, callB, slD, poN, poS, semSl, D.asI, appS, appF, extS, extF, augS, augF, exS, ifD, andT, orT, notT, notD, andD, orD, par2, par3, asgS, gN, gT, gsCons, gsNil, forD, rg1, rg2, itA, zpD, zip2, zipD, lcD, yesT, wipeE, m1D, tabD, semIs, semIsNot, D.isN, toT, orV, andV, notV, D.tru, chD, isiD, D.key, evPs, dicD, semDict, pairD, semRepr, callL, op2O, slO, opNO, lrgO, OV.flt, D.flt, semAddL, semMulL, semListL, mLD, popF, popS, insF, insS, clrS, revO, Rs.noE, List.map_cons, List.map_nil, List.length_cons, List.length_nil, List.length_map, List.replicate, List.cons_append, List.nil_append, List.append_nil, List.getElem?_cons_zero, List.getElem?_cons_succ, List.set_cons_zero, List.set_cons_succ, Option.bind_some, Option.bind_none, Option.map_some, Option.map_none, Nat.zero_add, Nat.add_zero, Nat.reduceAdd, Nat.reduceSub, Nat.sub_self, Nat.reduceLeDiff, Nat.reduceEqDiff, Nat.le_refl, Nat.add_sub_cancel, if_true, if_false, Bool.false_eq_true, Bool.not_true, Bool.not_false, Bool.not_not, reduceIte, reduceCtorEq, and_self, and_true, true_and, decide_true, decide_false, semEq_str, semNe_str, semEq_int, semNe_int, semEq_bl, semNe_bl, atI0, atI1, atI2, atI3, atI4, OkS_nx, post_ok, items_lst, items_tup, semAt_lst, semAt_tup, semAt_str, semAt_dic, isi_tup, hl, e1]
      cases nmB a with
      | false => simp only [Rs.noE, List.map_cons, List.map_nil, List.length_cons, List.length_nil, List.length_map, List.replicate, List.cons_append, List.nil_append, List.append_nil, List.getElem?_cons_zero, List.getElem?_cons_succ, List.set_cons_zero, List.set_cons_succ, Option.bind_some, Option.bind_none, Option.map_some, Option.map_none, Nat.zero_add, Nat.add_zero, Nat.reduceAdd, Nat.reduceSub, Nat.sub_self, Nat.reduceLeDiff, Nat.reduceEqDiff, Nat.le_refl, Nat.add_sub_cancel, if_true, if_false, Bool.false_eq_true, Bool.not_true, Bool.not_false, Bool.not_not, reduceIte, reduceCtorEq, and_self, and_true, true_and, decide_true, decide_false, semEq_str, semNe_str, semEq_int, semNe_int, semEq_bl, semNe_bl, atI0, atI1, atI2, atI3, atI4, OkS_nx, post_ok, items_lst, items_tup, semAt_lst, semAt_tup, semAt_str, semAt_dic, Bool.false_and]
      | true => simp only [Rs.noE, List.map_cons, List.map_nil, List.length_cons, List.length_nil, List.length_map, List.replicate, List.cons_append, List.nil_append, List.append_nil, List.getElem?_cons_zero, List.getElem?_cons_succ, List.set_cons_zero, List.set_cons_succ, Option.bind_some, Option.bind_none, Option.map_some, Option.map_none, Nat.zero_add, Nat.add_zero, Nat.reduceAdd, Nat.reduceSub, Nat.sub_self, Nat.reduceLeDiff, Nat.reduceEqDiff, Nat.le_refl, Nat.add_sub_cancel, if_true, if_false, Bool.false_eq_true, Bool.not_true, Bool.not_false, Bool.not_not, reduceIte, reduceCtorEq, and_self, and_true, true_and, decide_true, decide_false, semEq_str, semNe_str, semEq_int, semNe_int, semEq_bl, semNe_bl, atI0, atI1, atI2, atI3, atI4, OkS_nx, post_ok, items_lst, items_tup, semAt_lst, semAt_tup, semAt_str, semAt_dic, Bool.true_and, e2, Rs.map, Rs.bind, OV.d, ofO, D.asB]
    · have hb : rwB (.tup xs) = false := by
        unfold rwB
        split
        · next a b heq => cases heq; exact absurd ⟨a, b, rfl⟩ h2
        · rfl
      have hl : ¬ ((xs.length : Nat) : Int) = 2 := fun z => by
        have : xs.length = 2 := by omega
        match xs, this with
        | [a, b], _ => exact h2 ⟨a, b, rfl⟩
      rw [hb]
      simp only [f__law_is_row, m__law_is_row, fnB, fnP, Rs.noE, startE, seqS, ifS, thenS, toB, op2, opN, op1, Opd.run, fill, lookV, look, Rs.bind, Rs.map, ofO, cD, vD, D.asB, semGt, semGe, semLt, semLe, setS, putS, DL.putF, shD, frzD, mvD, rtS, chgS, fillW, OV.lst?, OV.d, nxS, runs, looks, semInt, semMod, semFdiv, semAdd, semSub, semMul, semAbs, semLen, semTuple, semList, lstD, tupD, evs, callP, callB, slD, poN, poS, semSl, D.asI, appS, appF, extS, extF, augS, augF, exS, ifD, andT, orT, notT, notD, andD, orD, par2, par3, asgS, gN, gT, gsCons, gsNil, forD, rg1, rg2, itA, zpD, zip2, zipD, lcD, yesT, wipeE, m1D, tabD, semIs, semIsNot, D.isN, toT, orV, andV, notV, D.tru, chD, isiD, D.key, evPs, dicD, semDict, pairD, semRepr, callL, op2O, slO, opNO, lrgO, OV.flt, D.flt, semAddL, semMulL, semListL, mLD, popF, popS, insF, insS, clrS, revO, Rs.noE, List.map_cons, List.map_nil, List.length_cons, List.length_nil, List.length_map, List.replicate, List.cons_append, List.nil_append, List.append_nil, List.getElem?_cons_zero, List.getElem?_cons_succ, List.set_cons_zero, List.set_cons_succ, Option.bind_some, Option.bind_none, Option.map_some, Option.map_none, Nat.zero_add, Nat.add_zero, Nat.reduceAdd, Nat.reduceSub, Nat.sub_self, Nat.reduceLeDiff, Nat.reduceEqDiff, Nat.le_refl, Nat.add_sub_cancel, if_true, if_false, Bool.false_eq_true, Bool.not_true, Bool.not_false, Bool.not_not, reduceIte, reduceCtorEq, and_self, and_true, true_and, decide_true, decide_false, semEq_str, semNe_str, semEq_int, semNe_int, semEq_bl, semNe_bl, atI0, atI1, atI2, atI3, atI4, OkS_nx, post_ok, items_lst, items_tup, semAt_lst, semAt_tup, semAt_str, semAt_dic, isi_tup, hl]
  | scr _ => exact absurd h.rp Bool.false_ne_true
  | obj _ _ => exact absurd h.rp Bool.false_ne_true
  | _ => simp only [f__law_is_row, m__law_is_row, fnP, startE, andD, isiD, Opd.run, fill, lookV, look, Rs.bind, Rs.map, ofO, OV.d, thenS, rtS, shD, cD, D.asB, Rs.noE, List.map_cons, List.map_nil, List.length_cons, List.length_nil, List.length_map, List.replicate, List.cons_append, List.nil_append, List.append_nil, List.getElem?_cons_zero, List.getElem?_cons_succ, List.set_cons_zero, List.set_cons_succ, Option.bind_some, Option.bind_none, Option.map_some, Option.map_none, Nat.zero_add, Nat.add_zero, Nat.reduceAdd, Nat.reduceSub, Nat.sub_self, Nat.reduceLeDiff, Nat.reduceEqDiff, Nat.le_refl, Nat.add_sub_cancel, if_true, if_false, Bool.false_eq_true, Bool.not_true, Bool.not_false, Bool.not_not, reduceIte, reduceCtorEq, and_self, and_true, true_and, decide_true, decide_false, semEq_str, semNe_str, semEq_int, semNe_int, semEq_bl, semNe_bl, atI0, atI1, atI2, atI3, atI4, OkS_nx, post_ok, items_lst, items_tup, semAt_lst, semAt_tup, semAt_str, semAt_dic, isi_tup, rwB]
end T

-- needs: is_name is_relation _law_names _law_some _law_odd
namespace T
open PySem L2 DL
/-! ### odd values -/
def oddL : List D := [.non, .int 5, .str "a", .str "", .tup [], .lst [], .dic [], .tup [.str "eq"], .bl true, .int (10 ^ 39), .lst [.non], .tup [.str "name", .str "a"], .str "eq", .int (-1), .tup [.int 0, .int 1],
  .str "a1", .str "aB", .str "a_", .str "a{", .str "a\n", .dic [(.inr "a", .int 1)], .str "ab b", .str "abcdefghi", .tup [.str "last"], .tup [.str "", .str "", .str ""]]
theorem odd_gd : ∀ d ∈ oddL, Gd 1 2000 d := by
  have h1 : (oddL.all fun d => d.rp) = true := by decide +kernel
  have h2 : (oddL.all fun d => decide (d.dq ≤ 1)) = true := by decide +kernel
  have h3 : (oddL.all fun d => decide (d.wq ≤ 2000)) = true := by decide +kernel
  exact fun d hd => ⟨List.all_eq_true.mp h1 d hd, of_decide_eq_true (List.all_eq_true.mp h2 d hd), of_decide_eq_true (List.all_eq_true.mp h3 d hd)⟩
set_option maxHeartbeats 8000000 in
theorem odd_ok {bs : List D} (hb : BagOk bs) : ∃ d bs', f__law_odd bs [] = some (.sh d, bs') ∧ d ∈ oddL ∧ BagOk bs' := by
  obtain ⟨d, b', e, hd, hb'⟩ := some_ok hb oddL (by decide) (by decide)
  refine ⟨d, b', ?_, hd, hb'⟩
  have hp : semPow (.int 10) (.int 39) = some (.int (10 ^ 39)) := rfl
  have hn : semNeg (.int 1) = some (.int (-1)) := rfl
  have hm : mergeD [] [((Sum.inr "a" : Key), D.int 1)] = [((Sum.inr "a" : Key), D.int 1)] := rfl
  unfold oddL at e
  simp only [f__law_odd, m__law_odd, fnB, fnP, Rs.noE, startE, seqS, ifS, thenS, toB, op2, opN, op1, Opd.run, fill, lookV, look, Rs.bind, Rs.map, ofO, cD, vD, D.asB, semGt, semGe, semLt, semLe, setS, putS, DL.putF, shD, frzD, mvD, rtS, chgS, fillW, OV.lst?, OV.d, nxS, runs, looks, semInt, semMod, semFdiv, semAdd, semSub, semMul, semAbs, semLen, semTuple, semList, lstD, tupD, evs, callP, callB, slD, poN, poS, semSl, D.asI, appS, appF, extS, extF, augS, augF, exS, ifD, andT, orT, notT, notD, andD, orD, par2, par3, asgS, gN, gT, gsCons, gsNil, forD, rg1, rg2, itA, zpD, zip2, zipD, lcD, yesT, wipeE, m1D, tabD, semIs, semIsNot, D.isN, toT, orV, andV, notV, D.tru, chD, isiD, D.key, evPs, dicD, semDict, pairD, semRepr, callL, op2O, slO, opNO, lrgO, OV.flt, D.flt, semAddL, semMulL, semListL, mLD, popF, popS, insF, insS, clrS, revO, Rs.noE, List.map_cons, List.map_nil, List.length_cons, List.length_nil, List.length_map, List.replicate, List.cons_append, List.nil_append, List.append_nil, List.getElem?_cons_zero, List.getElem?_cons_succ, List.set_cons_zero, List.set_cons_succ, Option.bind_some, Option.bind_none, Option.map_some, Option.map_none, Nat.zero_add, Nat.add_zero, Nat.reduceAdd, Nat.reduceSub, Nat.sub_self, Nat.reduceLeDiff, Nat.reduceEqDiff, Nat.le_refl, Nat.add_sub_cancel, if_true, if_false, Bool.false_eq_true, Bool.not_true, Bool.not_false, Bool.not_not, reduceIte, reduceCtorEq, and_self, and_true, true_and, decide_true, decide_false, semEq_str, semNe_str, semEq_int, semNe_int, semEq_bl, semNe_bl, atI0, atI1, atI2, atI3, atI4, OkS_nx, post_ok, items_lst, items_tup, semAt_lst, semAt_tup, semAt_str, semAt_dic, hp, hn, hm, e]
end T

-- needs: is_name is_relation _law_names _law_some _law_odd _law_spoilt
namespace T
open PySem L2 DL
/-! ### values with a part put otherwise -/
theorem rpAll_app (a b : List D) : rpAll (a ++ b) = (rpAll a && rpAll b) := by
  induction a with
  | nil => rfl
  | cons x a ih => show (x.rp && rpAll (a ++ b)) = ((x.rp && rpAll a) && rpAll b); rw [ih, Bool.and_assoc]
theorem wqAll_app (a b : List D) : wqAll (a ++ b) = wqAll a + wqAll b := by
  induction a with
  | nil => show wqAll b = 0 + wqAll b; omega
  | cons x a ih => show x.wq + 2 + wqAll (a ++ b) = (x.wq + 2 + wqAll a) + wqAll b; omega
theorem dqAll_app (a b : List D) : dqAll (a ++ b) = max (dqAll a) (dqAll b) := by
  induction a with
  | nil => show dqAll b = max 0 (dqAll b); omega
  | cons x a ih => show max x.dq (dqAll (a ++ b)) = max (max x.dq (dqAll a)) (dqAll b); rw [ih]; omega
def mkS (l : Bool) (xs : List D) : D := if l then .lst xs else .tup xs
theorem mkS_rp (l : Bool) (xs : List D) : (mkS l xs).rp = rpAll xs := by cases l <;> rfl
theorem mkS_dq (l : Bool) (xs : List D) : (mkS l xs).dq = dqAll xs + 1 := by cases l <;> rfl
theorem mkS_wq (l : Bool) (xs : List D) : (mkS l xs).wq = wqAll xs + 3 := by cases l <;> rfl
theorem mkS_len (l : Bool) (xs : List D) : semLen [mkS l xs] = some (.int xs.length) := by cases l <;> rfl
theorem mkS_list (l : Bool) (xs : List D) : semListL [mkS l xs] = some xs := by cases l <;> rfl
theorem mkS_isi (l : Bool) (xs : List D) : (match mkS l xs with | .scr _ => none | .obj _ _ => none | d => some (D.bl (d.isi ["tuple", "list"])) : Option D) = some (.bl true) := by cases l <;> rfl
theorem mkS_isL (l : Bool) (xs : List D) : (match mkS l xs with | .scr _ => none | .obj _ _ => none | d => some (D.bl (d.isi ["list"])) : Option D) = some (.bl l) := by cases l <;> rfl
theorem split_at {α : Type} {xs : List α} {i : Nat} (h : i < xs.length) : ∃ a x b, xs = a ++ x :: b ∧ a.length = i := by
  refine ⟨xs.take i, xs[i], xs.drop (i + 1), ?_, by rw [List.length_take]; omega⟩
  rw [← List.drop_eq_getElem_cons h, List.take_append_drop]
def envSp (bs : List D) (d : D) (m : Int) (v : Int) (ys : List D) : En := [some (.ow bs), some (.sh d), some (.sh (.int m)), some (.sh (.int v)), some (.ow ys)]
def finS : En → SRs := rtS (shD (ifD (toB (isiD (.va 1) ["list"])) (vD 4) (opN [(.va 4)] semTuple)))
theorem fin_ok (l : Bool) (xs ys : List D) (bs : List D) (m v : Int) : ∃ r, finS (envSp bs (mkS l xs) m v ys) = .rt (.sh (mkS l ys)) r ∧ lookV r 0 = some (.ow bs) := by
  cases l with
  | true => exact ⟨[some (.ow bs), some (.sh (mkS true xs)), some (.sh (.int m)), some (.sh (.int v)), some (.sh (.lst ys))], rfl, rfl⟩
  | false => exact ⟨envSp bs (mkS false xs) m v ys, rfl, rfl⟩
def fin2S : En → SRs := rtS (shD (ifD (toB (isiD (.va 1) ["list"])) (opN [(.va 4)] semTuple) (vD 4)))
theorem fin2_ok (l : Bool) (xs ys : List D) (bs : List D) (m v : Int) : ∃ r, fin2S (envSp bs (mkS l xs) m v ys) = .rt (.sh (mkS (!l) ys)) r ∧ lookV r 0 = some (.ow bs) := by
  cases l with
  | false => exact ⟨[some (.ow bs), some (.sh (mkS false xs)), some (.sh (.int m)), some (.sh (.int v)), some (.sh (.lst ys))], rfl, rfl⟩
  | true => exact ⟨envSp bs (mkS true xs) m v ys, rfl, rfl⟩
/-- the middle: a part put otherwise, left out, twice; or a list for a tuple -/
def midS (f : List D → List D → Option (OV × List D)) : En → SRs := ifS (toB (op2 (.va 2) (.ex (cD (.int 4))) semLt)) (putS 4 (vD 3) (frzD (callB 1 f 0 [(op2 (.va 4) (.va 3) semAt)]))) (ifS (andT (toB (op2 (.va 2) (.ex (cD (.int 4))) semEq)) (toB (op2 (.ex (frzD (callB 1 f__law_take 0 [(cD (.int 2))]))) (.ex (cD (.int 0))) semEq))) (popS 4 (vD 3)) (ifS (toB (op2 (.va 2) (.ex (cD (.int 4))) semEq)) (insS 4 (vD 3) (op2 (.va 4) (.va 3) semAt)) fin2S))
theorem seqS_rt {f h : En → SRs} {r r1 : En} {o : OV} (e : f r = .rt o r1) : seqS f h r = .rt o r1 := by unfold seqS; rw [e]
section
variable {f : List D → List D → Option (OV × List D)} {l : Bool} {a b : List D} {x : D} {bs : List D} {m : Int}
theorem hat_ (a b : List D) (x : D) : atI (a ++ x :: b) (a.length : Int) = some x := atI_nat (by simp)
theorem hix_ (a b : List D) (x : D) : ixN (a ++ x :: b).length (a.length : Int) = some a.length := by
  unfold ixN
  rw [if_pos (by omega), if_pos (by rw [List.length_append, List.length_cons]; omega), Int.toNat_natCast]
theorem hput_ (a b : List D) (x y : D) : DL.putF (.int (a.length : Int)) y (a ++ x :: b) = some (a ++ y :: b) := by
  show (ixN (a ++ x :: b).length (a.length : Int)).map (fun j => (a ++ x :: b).set j y) = _
  rw [hix_, Option.map_some, List.set_append_right _ _ (Nat.le_refl _), Nat.sub_self]
  rfl
theorem hpop_ (a b : List D) (x : D) (h : (a.length : Int) < 1000000) : popF (.int (a.length : Int)) (a ++ x :: b) = some (a ++ b) := by
  unfold popF
  simp only
  rw [if_pos ⟨by omega, h⟩, hix_, Option.map_some, List.eraseIdx_append_of_length_le (Nat.le_refl _), Nat.sub_self]
  rfl
theorem hins_ (a b : List D) (x : D) (h : (a.length : Int) < 1000000) (h2 : (a ++ x :: b).length ≤ 1000000) : insF (.int (a.length : Int)) x (a ++ x :: b) = some (a ++ [x] ++ x :: b) := by
  unfold insF
  simp only
  rw [if_pos ⟨by omega, h, h2⟩, Int.toNat_natCast, List.take_left, List.drop_left]
set_option maxHeartbeats 4000000 in
theorem mid_put (m1 : m < 4) {y : D} {b1 : List D} (ef : f bs [x] = some (.sh y, b1)) : midS f (envSp bs (mkS l (a ++ x :: b)) m (a.length : Int) (a ++ x :: b)) = .nx (envSp b1 (mkS l (a ++ x :: b)) m (a.length : Int) (a ++ y :: b)) := by
  have e1 := hat_ a b x
  have e2 := hput_ a b x y
  generalize a ++ x :: b = xs at *
  generalize mkS l xs = d
  simp only [midS, envSp, ifS, toB, putS, op2, vD, cD, frzD, callB, evs, Opd.run, fill, fillW, lookV, look, Rs.bind, Rs.map, ofO, OV.d, OV.lst?, thenS, semLt, D.asB, chgS, semAt_lst, List.getElem?_cons_zero, List.getElem?_cons_succ, List.set_cons_zero, List.set_cons_succ, Option.bind_some, Option.map_some, List.length_cons, List.length_nil, Nat.zero_add, if_true, m1, decide_true, e1, ef, e2]
theorem ifS_f {t : En → Rs Bool} {f h : En → SRs} {r r1 : En} (e : t r = .ok false r1) : ifS t f h r = h r1 := by unfold ifS; rw [e]; rfl
theorem ifS_t {t : En → Rs Bool} {f h : En → SRs} {r r1 : En} (e : t r = .ok true r1) : ifS t f h r = f r1 := by unfold ifS; rw [e]; rfl
theorem popS_of {i : Nat} {f : En → Rs D} {r r1 : En} {d : D} {xs ys : List D} (h1 : fillW r i = .ok () r) (h2 : f r = .ok d r1) (h3 : (lookV r1 i).bind OV.lst? = some xs) (h4 : popF d xs = some ys) : popS i f r = .nx (r1.set i (some (.ow ys))) := by
  unfold popS
  rw [h1]
  show thenS (f r) _ = _
  rw [h2]
  show chgS i (popF d) r1 = _
  unfold chgS
  rw [h3]
  show (match popF d xs with | some ys => SRs.nx (r1.set i (some (.ow ys))) | none => .bad) = _
  rw [h4]
theorem insS_of {i : Nat} {f h : En → Rs D} {r r1 r2 : En} {k d : D} {xs ys : List D} (h1 : fillW r i = .ok () r) (h2 : f r = .ok k r1) (h2' : h r1 = .ok d r2) (h3 : (lookV r2 i).bind OV.lst? = some xs) (h4 : insF k d xs = some ys) : insS i f h r = .nx (r2.set i (some (.ow ys))) := by
  unfold insS
  rw [h1]
  show thenS (f r) _ = _
  rw [h2]
  show thenS (h r1) _ = _
  rw [h2']
  show chgS i (insF k d) r2 = _
  unfold chgS
  rw [h3]
  show (match insF k d xs with | some ys => SRs.nx (r2.set i (some (.ow ys))) | none => .bad) = _
  rw [h4]
theorem t4a (bs : List D) (d : D) (v : Int) (xs : List D) : toB (op2 (.va 2) (.ex (cD (.int 4))) semLt) (envSp bs d 4 v xs) = .ok false (envSp bs d 4 v xs) := rfl
theorem t4b {b1 : List D} {u : Int} (eu : f__law_take bs [.int 2] = some (.sh (.int u), b1)) (d : D) (v : Int) (xs : List D) : andT (toB (op2 (.va 2) (.ex (cD (.int 4))) semEq)) (toB (op2 (.ex (frzD (callB 1 f__law_take 0 [(cD (.int 2))]))) (.ex (cD (.int 0))) semEq)) (envSp bs d 4 v xs) = .ok (decide (u = 0)) (envSp b1 d 4 v xs) := by
  have h1 : toB (op2 (.va 2) (.ex (cD (.int 4))) semEq) (envSp bs d 4 v xs) = .ok true (envSp bs d 4 v xs) := rfl
  have h2 : callB 1 f__law_take 0 [(cD (.int 2))] (envSp bs d 4 v xs) = .ok (.sh (.int u)) (envSp b1 d 4 v xs) := by
    simp only [callB, evs, cD, fill, envSp, lookV, Rs.bind, ofO, OV.lst?, List.getElem?_cons_zero, List.set_cons_zero, List.length_cons, List.length_nil, Nat.zero_add, if_true, Option.bind_some, eu]
  unfold andT
  rw [h1]
  show toB _ _ = _
  unfold toB
  rw [op2_ee]
  unfold frzD
  rw [h2]
  rfl
theorem t4c (bs : List D) (d : D) (v : Int) (xs : List D) : toB (op2 (.va 2) (.ex (cD (.int 4))) semEq) (envSp bs d 4 v xs) = .ok true (envSp bs d 4 v xs) := rfl
theorem mid_pop {b1 : List D} (eu : f__law_take bs [.int 2] = some (.sh (.int 0), b1)) (h : (a.length : Int) < 1000000) : midS f (envSp bs (mkS l (a ++ x :: b)) 4 (a.length : Int) (a ++ x :: b)) = .nx (envSp b1 (mkS l (a ++ x :: b)) 4 (a.length : Int) (a ++ b)) := by
  have e2 := hpop_ a b x h
  unfold midS
  rw [ifS_f (t4a _ _ _ _), ifS_t (t4b eu _ _ _)]
  exact popS_of (r1 := envSp b1 (mkS l (a ++ x :: b)) 4 (a.length : Int) (a ++ x :: b)) rfl rfl rfl e2
theorem mid_ins {b1 : List D} {u : Int} (hu : ¬ u = 0) (eu : f__law_take bs [.int 2] = some (.sh (.int u), b1)) (h : (a.length : Int) < 1000000) (h2 : (a ++ x :: b).length ≤ 1000000) : midS f (envSp bs (mkS l (a ++ x :: b)) 4 (a.length : Int) (a ++ x :: b)) = .nx (envSp b1 (mkS l (a ++ x :: b)) 4 (a.length : Int) (a ++ [x] ++ x :: b)) := by
  have e1 := hat_ a b x
  have e2 := hins_ a b x h h2
  have e3 := t4b eu (mkS l (a ++ x :: b)) (a.length : Int) (a ++ x :: b)
  rw [decide_eq_false hu] at e3
  unfold midS
  rw [ifS_f (t4a _ _ _ _), ifS_f e3, ifS_t (t4c _ _ _ _)]
  refine insS_of (r1 := envSp b1 (mkS l (a ++ x :: b)) 4 (a.length : Int) (a ++ x :: b)) (r2 := envSp b1 (mkS l (a ++ x :: b)) 4 (a.length : Int) (a ++ x :: b)) (k := .int (a.length : Int)) (d := x) rfl rfl ?_ rfl e2
  simp only [envSp, op2, Opd.run, fill, look, lookV, Rs.bind, ofO, OV.d, semAt_lst, List.getElem?_cons_zero, List.getElem?_cons_succ, Option.bind_some, Option.map_some, e1]
set_option maxHeartbeats 4000000 in
theorem mid_flip {xs : List D} {v : Int} (c3 : ¬ m < 4) (c2 : ¬ m = 4) (d : D) : midS f (envSp bs d m v xs) = fin2S (envSp bs d m v xs) := by
  simp only [midS, envSp, ifS, andT, toB, op2, cD, Opd.run, fill, lookV, look, Rs.bind, Rs.map, ofO, OV.d, thenS, semLt, D.asB, semEq_int, List.getElem?_cons_zero, List.getElem?_cons_succ, Option.bind_some, Option.map_some, c3, c2, decide_false, Bool.false_eq_true, if_false]
end
/-- the first test -/
def tst0 : En → Rs Bool := orT (notT (toB (isiD (.va 1) ["tuple", "list"]))) (orT (toB (op2 (.ex (opN [(.va 1)] semLen)) (.ex (cD (.int 0))) semEq)) (toB (op2 (.va 2) (.ex (cD (.int 0))) semEq)))
def env0 (bs : List D) (d : D) (m : Int) : En := [some (.ow bs), some (.sh d), some (.sh (.int m)), none, none]
theorem tst_no {bs : List D} {d : D} {m : Int} (hr : d.rp = true) (h : ∀ l xs, d ≠ mkS l xs) : tst0 (env0 bs d m) = .ok true (env0 bs d m) := by
  cases d with
  | lst xs => exact absurd rfl (h true xs)
  | tup xs => exact absurd rfl (h false xs)
  | scr _ => exact absurd hr Bool.false_ne_true
  | obj _ _ => exact absurd hr Bool.false_ne_true
  | _ => rfl
theorem tst_seq {bs : List D} {l : Bool} {xs : List D} {m : Int} : tst0 (env0 bs (mkS l xs) m) = .ok (decide ((xs.length : Int) = 0) || decide (m = 0)) (env0 bs (mkS l xs) m) := by
  have h1 : toB (isiD (.va 1) ["tuple", "list"]) (env0 bs (mkS l xs) m) = .ok true (env0 bs (mkS l xs) m) := by cases l <;> rfl
  have h2 : toB (op2 (.ex (opN [(.va 1)] semLen)) (.ex (cD (.int 0))) semEq) (env0 bs (mkS l xs) m) = .ok (decide ((xs.length : Int) = 0)) (env0 bs (mkS l xs) m) := by cases l <;> rfl
  have h3 : toB (op2 (.va 2) (.ex (cD (.int 0))) semEq) (env0 bs (mkS l xs) m) = .ok (decide (m = 0)) (env0 bs (mkS l xs) m) := rfl
  simp only [tst0, orT, notT, Rs.map, Rs.bind, h1, h2, h3, Bool.not_true, Bool.false_eq_true, if_false]
  cases decide ((xs.length : Int) = 0) with
  | true => rfl
  | false => rfl
theorem odd_rt {bs : List D} {d : D} {m : Int} {d' : D} {b' : List D} (e : f__law_odd bs [] = some (.sh d', b')) : rtS (callB 0 f__law_odd 0 []) (env0 bs d m) = .rt (.sh d') (env0 b' d m) := by
  simp only [rtS, callB, evs, fill, env0, lookV, Rs.bind, ofO, OV.lst?, thenS, List.getElem?_cons_zero, List.set_cons_zero, List.length_nil, if_true, Option.bind_some, e]
theorem spoilt_unf (j : Nat) (bs : List D) (d : D) : f__law_spoilt (j + 1) bs [d] = match seqS (setS 2 (shD (frzD (callB 1 f__law_take 0 [(cD (.int 6))])))) (seqS (ifS tst0 (rtS (callB 0 f__law_odd 0 [])) nxS) (seqS (par2 3 4 (frzD (callB 1 f__law_take 0 [(opN [(.va 1)] semLen)])) (opNO [(.va 1)] semListL)) (seqS (midS (f__law_spoilt j)) finS))) [some (.ow bs), some (.sh d), none, none, none] with
    | .nx r => ((lookV r 0).bind OV.lst?).map fun b => (.sh .non, b)
    | .rt o r => ((lookV r 0).bind OV.lst?).map fun b => (o, b)
    | _ => none := rfl
set_option maxHeartbeats 4000000 in
theorem spoilt_ok : ∀ (j : Nat) (d : D) (bs : List D), d.rp = true → d.dq < j → d.wq ≤ 100000 → BagOk bs → ∃ d' b', f__law_spoilt j bs [d] = some (.sh d', b') ∧ d'.rp = true ∧ d'.dq ≤ d.dq + 1 ∧ d'.wq ≤ 2 * d.wq + 2000 ∧ BagOk b'
  | 0, d, bs, _, h, _, _ => by omega
  | j + 1, d, bs, hr, hd, hw, hb => by
    obtain ⟨m, b1, e1, m0, m1, hb1⟩ := take_ok hb (n := 6) (by decide) (by decide)
    have s1 : setS 2 (shD (frzD (callB 1 f__law_take 0 [(cD (.int 6))]))) [some (.ow bs), some (.sh d), none, none, none] = .nx (env0 b1 d m) := by
      simp only [setS, shD, frzD, callB, evs, cD, fill, lookV, Rs.bind, Rs.map, ofO, OV.d, OV.lst?, thenS, List.getElem?_cons_zero, List.set_cons_zero, List.set_cons_succ, List.length_cons, List.length_nil, Nat.zero_add, if_true, Option.bind_some, e1]
      rfl
    have odd : ∀ {t : Bool}, tst0 (env0 b1 d m) = .ok t (env0 b1 d m) → t = true → ∃ d' b', f__law_spoilt (j + 1) bs [d] = some (.sh d', b') ∧ d'.rp = true ∧ d'.dq ≤ d.dq + 1 ∧ d'.wq ≤ 2 * d.wq + 2000 ∧ BagOk b' := by
      rintro t ht rfl
      obtain ⟨o, b2, eo, ho, hb2⟩ := odd_ok hb1
      have go := odd_gd o ho
      refine ⟨o, b2, ?_, go.rp, by have := go.dq; omega, by have := go.wq; omega, hb2⟩
      rw [spoilt_unf, seqS_nx s1, seqS_rt ((ifS_t ht).trans (odd_rt eo))]
      rfl
    by_cases hs : ∃ l xs, d = mkS l xs
    · obtain ⟨l, xs, rfl⟩ := hs
      have ht := tst_seq (bs := b1) (l := l) (xs := xs) (m := m)
      cases hc : (decide ((xs.length : Int) = 0) || decide (m = 0)) with
      | true => rw [hc] at ht; exact odd ht rfl
      | false =>
        rw [hc] at ht
        rw [Bool.or_eq_false_iff, decide_eq_false_iff_not, decide_eq_false_iff_not] at hc
        rw [mkS_rp] at hr
        rw [mkS_dq] at hd
        rw [mkS_wq] at hw
        have hlen : ∀ ys : List D, 2 * ys.length ≤ wqAll ys := fun ys => by
          induction ys with
          | nil => exact Nat.zero_le _
          | cons y ys ih => show 2 * (ys.length + 1) ≤ y.wq + 2 + wqAll ys; omega
        have hl := hlen xs
        obtain ⟨v, b2, e2, v0, v1, hb2⟩ := take_ok hb1 (n := (xs.length : Int)) (by omega) (by omega)
        obtain ⟨a, x, b, rfl, ha⟩ := split_at (xs := xs) (i := v.toNat) (by omega)
        have hv : v = (a.length : Int) := by omega
        subst hv
        have s3 : par2 3 4 (frzD (callB 1 f__law_take 0 [(opN [(.va 1)] semLen)])) (opNO [(.va 1)] semListL) (env0 b1 (mkS l (a ++ x :: b)) m) = .nx (envSp b2 (mkS l (a ++ x :: b)) m (a.length : Int) (a ++ x :: b)) := by
          have q1 := mkS_len l (a ++ x :: b)
          have q2 := mkS_list l (a ++ x :: b)
          generalize mkS l (a ++ x :: b) = dd at q1 q2
          simp only [par2, frzD, callB, evs, opN, opNO, runs, looks, Opd.run, fill, env0, lookV, look, Rs.bind, Rs.map, ofO, OV.d, OV.lst?, thenS, List.getElem?_cons_zero, List.getElem?_cons_succ, List.set_cons_zero, List.set_cons_succ, List.length_cons, List.length_nil, Nat.zero_add, if_true, Option.bind_some, Option.map_some, q1, q2, e2]
          rfl
        have hx : x ∈ a ++ x :: b := by simp
        have hxr := rpAll_iff.mp hr x hx
        have hxd := dqAll_le hx
        have hxw := wqAll_mem hx
        have hf : ∀ bs, BagOk bs → ∃ y b', f__law_spoilt j bs [x] = some (.sh y, b') ∧ y.rp = true ∧ y.dq ≤ x.dq + 1 ∧ y.wq ≤ 2 * x.wq + 2000 ∧ BagOk b' := fun bs hb => spoilt_ok j x bs hxr (by omega) (by omega) hb
        have fin : ∀ {d' : D} {b' : List D} {r : En}, seqS (midS (f__law_spoilt j)) finS (envSp b2 (mkS l (a ++ x :: b)) m (a.length : Int) (a ++ x :: b)) = .rt (.sh d') r → lookV r 0 = some (.ow b') → f__law_spoilt (j + 1) bs [mkS l (a ++ x :: b)] = some (.sh d', b') := by
          intro d' b' r q1 q2
          rw [spoilt_unf, seqS_nx s1, seqS_nx (show ifS tst0 (rtS (callB 0 f__law_odd 0 [])) nxS (env0 b1 (mkS l (a ++ x :: b)) m) = .nx (env0 b1 (mkS l (a ++ x :: b)) m) from ifS_f ht), seqS_nx s3, q1]
          show ((lookV r 0).bind OV.lst?).map _ = _
          rw [q2]; rfl
        have hr2 := hr
        rw [rpAll_app, Bool.and_eq_true] at hr2
        obtain ⟨hra, hrb⟩ := hr2
        have hrb : (x.rp && rpAll b) = true := hrb
        rw [Bool.and_eq_true] at hrb
        have hdq : dqAll (a ++ x :: b) = max (dqAll a) (max x.dq (dqAll b)) := dqAll_app _ _
        have hwq : wqAll (a ++ x :: b) = wqAll a + (x.wq + 2 + wqAll b) := wqAll_app _ _
        have hla : (a.length : Int) < 1000000 := by rw [List.length_append] at hl; omega
        rw [mkS_dq, mkS_wq, hdq, hwq]
        by_cases c1 : m < 4
        · obtain ⟨y, b3, ef, y1, y2, y3, hb3⟩ := hf b2 hb2
          obtain ⟨r, q1, q2⟩ := fin_ok l (a ++ x :: b) (a ++ y :: b) b3 m (a.length : Int)
          refine ⟨_, b3, fin ((seqS_nx (mid_put c1 ef)).trans q1) q2, ?_, ?_, ?_, hb3⟩
          · rw [mkS_rp, rpAll_app]
            show (rpAll a && (y.rp && rpAll b)) = true
            rw [hra, y1, hrb.2]; rfl
          · rw [mkS_dq, dqAll_app]
            show max (dqAll a) (max y.dq (dqAll b)) + 1 ≤ _
            omega
          · rw [mkS_wq, wqAll_app]
            show wqAll a + (y.wq + 2 + wqAll b) + 3 ≤ _
            omega
        · by_cases c2 : m = 4
          · subst c2
            obtain ⟨u, b3, eu, u0, u1, hb3⟩ := take_ok hb2 (n := 2) (by decide) (by decide)
            by_cases cu : u = 0
            · subst cu
              obtain ⟨r, q1, q2⟩ := fin_ok l (a ++ x :: b) (a ++ b) b3 4 (a.length : Int)
              refine ⟨_, b3, fin ((seqS_nx (mid_pop eu hla)).trans q1) q2, ?_, ?_, ?_, hb3⟩
              · rw [mkS_rp, rpAll_app, hra, hrb.2]; rfl
              · rw [mkS_dq, dqAll_app]; omega
              · rw [mkS_wq, wqAll_app]; omega
            · obtain ⟨r, q1, q2⟩ := fin_ok l (a ++ x :: b) (a ++ [x] ++ x :: b) b3 4 (a.length : Int)
              refine ⟨_, b3, fin ((seqS_nx (mid_ins cu eu hla (by omega))).trans q1) q2, ?_, ?_, ?_, hb3⟩
              · rw [mkS_rp, rpAll_app, rpAll_app]
                show ((rpAll a && (x.rp && true)) && (x.rp && rpAll b)) = true
                rw [hra, hrb.1, hrb.2]; rfl
              · rw [mkS_dq, dqAll_app, dqAll_app]
                show max (max (dqAll a) (max x.dq 0)) (max x.dq (dqAll b)) + 1 ≤ _
                omega
              · rw [mkS_wq, wqAll_app, wqAll_app]
                show wqAll a + (x.wq + 2 + 0) + (x.wq + 2 + wqAll b) + 3 ≤ _
                omega
          · obtain ⟨r, q1, q2⟩ := fin2_ok l (a ++ x :: b) (a ++ x :: b) b2 m (a.length : Int)
            refine ⟨_, b2, fin (seqS_rt ((mid_flip c1 c2 _).trans q1)) q2, ?_, ?_, ?_, hb2⟩
            · rw [mkS_rp]; exact hr
            · rw [mkS_dq, hdq]; omega
            · rw [mkS_wq, hwq]; omega
    · exact odd (tst_no hr fun l xs z => hs ⟨l, xs, z⟩) rfl
end T

-- needs: _law_names
namespace T
open PySem L2 DL
/-! ### atoms and patterns in their order -/
def leA (a b : At) : Bool := if a.1 = b.1 then (if a.2.1 = b.2.1 then leT a.2.2 b.2.2 else leT a.2.1 b.2.1) else leT a.1 b.1
theorem not_ltT (a b : Str) : (!decide (b.cps.toList < a.cps.toList)) = leT a b := PySem.W.not_lt_str _ _
theorem leT_refl (a : Str) : leT a a = true := decide_eq_true (List.le_refl _)
theorem py_at (x : At) : (atD x).py = .tuple [.str x.1, .str x.2.1, .str x.2.2] := rfl
theorem eqv_str (a b : Str) : (PyData.eqv (.str a) (.str b) = true) = (a = b) := by
  refine propext ⟨fun h => ?_, fun h => ?_⟩
  · simpa [PyData.eqv] using h
  · simp [PyData.eqv, h]
theorem le_ats (a b : At) : PySem.W.dataLe false D.py (atD a) (atD b) = leA a b := by
  show (!PySem.W.dataLt (atD b).py (atD a).py) = leA a b
  rw [py_at, py_at, PySem.W.dataLt_tuple, PySem.W.dataLt_cons (by simp [PySem.W.alike]), PySem.W.dataLt_cons (by simp [PySem.W.alike]), PySem.W.dataLt_cons (by simp [PySem.W.alike])]
  simp only [eqv_str]
  rw [PySem.W.dataLt_str, PySem.W.dataLt_str, PySem.W.dataLt_str]
  have e : PyProof.Rows.lexLt PyProof.Rows.itemOrd (PySem.W.keyToksAll []) (PySem.W.keyToksAll []) = false := rfl
  rw [e]
  unfold leA
  by_cases h1 : a.1 = b.1
  · rw [if_pos h1, if_pos h1.symm]
    by_cases h2 : a.2.1 = b.2.1
    · rw [if_pos h2, if_pos h2.symm]
      by_cases h3 : a.2.2 = b.2.2
      · rw [if_pos h3.symm, h3, leT_refl]
        rfl
      · rw [if_neg fun z => h3 z.symm, not_ltT]
    · rw [if_neg h2, if_neg fun z => h2 z.symm, not_ltT]
  · rw [if_neg h1, if_neg fun z => h1 z.symm, not_ltT]
theorem leA_total (a b : At) : (leA a b || leA b a) = true := by
  unfold leA
  by_cases h1 : a.1 = b.1
  · rw [if_pos h1, if_pos h1.symm]
    by_cases h2 : a.2.1 = b.2.1
    · rw [if_pos h2, if_pos h2.symm]
      exact leT_total _ _
    · rw [if_neg h2, if_neg fun z => h2 z.symm]
      exact leT_total _ _
  · rw [if_neg h1, if_neg fun z => h1 z.symm]
    exact leT_total _ _
theorem leA_anti {a b : At} (h : leA a b = true) (h' : leA b a = true) : a = b := by
  obtain ⟨a1, a2, a3⟩ := a
  obtain ⟨b1, b2, b3⟩ := b
  unfold leA at h h'
  simp only at h h'
  by_cases h1 : a1 = b1
  · rw [if_pos h1] at h
    rw [if_pos h1.symm] at h'
    by_cases h2 : a2 = b2
    · rw [if_pos h2] at h
      rw [if_pos h2.symm] at h'
      rw [h1, h2, leT_anti h h']
    · rw [if_neg h2] at h
      rw [if_neg fun z => h2 z.symm] at h'
      exact absurd (leT_anti h h') h2
  · rw [if_neg h1] at h
    rw [if_neg fun z => h1 z.symm] at h'
    exact absurd (leT_anti h h') h1
theorem leA_trans (a b c : At) (h : leA a b = true) (h' : leA b c = true) : leA a c = true := by
  obtain ⟨a1, a2, a3⟩ := a
  obtain ⟨b1, b2, b3⟩ := b
  obtain ⟨c1, c2, c3⟩ := c
  unfold leA at *
  simp only at *
  by_cases h1 : a1 = b1
  · subst h1
    rw [if_pos rfl] at h
    by_cases h2 : a1 = c1
    · subst h2
      rw [if_pos rfl] at h' ⊢
      by_cases h3 : a2 = b2
      · subst h3
        rw [if_pos rfl] at h
        by_cases h4 : a2 = c2
        · subst h4
          rw [if_pos rfl] at h' ⊢
          exact leT_trans _ _ _ h h'
        · rw [if_neg h4] at h' ⊢
          exact h'
      · rw [if_neg h3] at h
        by_cases h4 : b2 = c2
        · subst h4
          rw [if_neg h3]
          exact h
        · rw [if_neg h4] at h'
          by_cases h5 : a2 = c2
          · subst h5
            exact absurd (leT_anti h h') h3
          · rw [if_neg h5]
            exact leT_trans _ _ _ h h'
    · rw [if_neg h2] at h' ⊢
      exact h'
  · rw [if_neg h1] at h
    by_cases h2 : b1 = c1
    · subst h2
      rw [if_neg h1]
      exact h
    · rw [if_neg h2] at h'
      by_cases h3 : a1 = c1
      · subst h3
        exact absurd (leT_anti h h') h1
      · rw [if_neg h3]
        exact leT_trans _ _ _ h h'
theorem pl_ats : ∀ {as : List At}, (∀ a ∈ as, PtOk a) → plAll (as.map atD) = true
  | [], _ => rfl
  | a :: as, h => by
    show ((atD a).pl && plAll (as.map atD)) = true
    rw [(sm_at (h a List.mem_cons_self)).pl, pl_ats fun y hy => h y (List.mem_cons_of_mem _ hy)]
    rfl
theorem dp_ats : ∀ as : List At, dpAll (as.map atD) ≤ 1
  | [] => Nat.zero_le _
  | a :: as => by
    show max (atD a).dp (dpAll (as.map atD)) ≤ 1
    have := dp_ats as
    have h : (atD a).dp = 1 := rfl
    omega
theorem semSorted_ats {as : List At} (h : ∀ a ∈ as, PtOk a) : semSorted [.lst (as.map atD)] = some ((as.mergeSort leA).map atD) := by
  have hok : srtOk (as.map atD) = true := by
    unfold srtOk
    have h0 := dp_ats as
    rw [pl_ats h, decide_eq_true (show dpAll (as.map atD) ≤ 40 by omega)]
    have h1 : alikeB (as.map atD) = true := by
      unfold alikeB
      refine List.all_eq_true.mpr fun d hd => List.all_eq_true.mpr fun d' hd' => ?_
      obtain ⟨a, _, rfl⟩ := List.mem_map.mp hd
      obtain ⟨b, _, rfl⟩ := List.mem_map.mp hd'
      rw [py_at, py_at]
      simp [PySem.W.alike, PySem.W.alikeAll]
    have h2 : (as.map atD).all isTupP = true := List.all_eq_true.mpr fun d hd => by
      obtain ⟨a, _, rfl⟩ := List.mem_map.mp hd
      rfl
    rw [h1, h2]
    simp
  show (if srtOk (as.map atD) = true then some ((as.map atD).mergeSort (PySem.W.dataLe false D.py)) else none) = _
  rw [if_pos hok, List.map_mergeSort (s := PySem.W.dataLe false D.py) fun a _ b _ => (le_ats a b).symm]
theorem srtA_of {zs l : List At} (p : zs.Perm l) (h : zs.Pairwise fun a b => leA a b = true) : zs = l.mergeSort leA :=
  List.Perm.eq_of_pairwise (le := fun a b => leA a b = true) (fun a b _ _ h1 h2 => leA_anti h1 h2) h (List.pairwise_mergeSort leA_trans leA_total _) (p.trans (List.mergeSort_perm _ _).symm)
end T

-- needs: are_rows is_row is_fact is_atom is_name is_relation _law_names
namespace T
open PySem L2 DL
/-! ### lists and tuples of rows -/
def itmD : D → List D
  | .lst xs => xs
  | .tup xs => xs
  | _ => []
def seqB : D → Bool
  | .lst _ => true
  | .tup _ => true
  | _ => false
def arB (d : D) : Bool := seqB d && (itmD d).all rwB
theorem isi_seq (d : D) (h : d.rp = true) : d.isi ["list", "tuple"] = seqB d := by
  cases d with
  | scr _ => exact absurd h Bool.false_ne_true
  | obj _ _ => exact absurd h Bool.false_ne_true
  | _ => rfl
theorem gd_itm {n w : Nat} {d : D} (h : Gd n w d) : ∀ x ∈ itmD d, Gd n w x := by
  cases d with
  | lst xs => exact fun x hx => h.lstm hx
  | tup xs => exact fun x hx => h.tupm hx
  | _ => exact fun x hx => by cases hx
theorem itm_items {d : D} (h : seqB d = true) : d.items = some (itmD d) := by
  cases d with
  | lst xs => rfl
  | tup xs => rfl
  | _ => cases h
theorem isiD_gd {d : D} (h : d.rp = true) (T : List String) (r : En) (i : Nat) (e : lookV r i = some (.sh d)) (hf : fill r i = .ok () r) : isiD (.va i) T r = .ok (.bl (d.isi T)) r := by
  unfold isiD
  simp only [Opd.run, hf, Rs.bind, look, e, Option.map_some, OV.d, Option.bind_some]
  cases d with
  | scr _ => exact absurd h Bool.false_ne_true
  | obj _ _ => exact absurd h Bool.false_ne_true
  | _ => rfl
set_option maxHeartbeats 2000000 in
theorem areRows_eq {n w : Nat} {d : D} (h : Gd n w d) (hw : w ≤ 1000000) (hl : (itmD d).length ≤ 100000) : f_are_rows [d] = some (.sh (.bl (arB d))) := by
  have e1 : isiD (.va 0) ["list", "tuple"] [some (.sh d), none] = .ok (.bl (seqB d)) [some (.sh d), none] := by
    rw [isiD_gd h.rp _ _ _ rfl rfl, isi_seq _ h.rp]
  have h0 : startE 2 ([d].map OV.sh) = [some (.sh d), none] := rfl
  unfold f_are_rows fnP m_are_rows
  rw [h0]
  cases hs : seqB d with
  | false =>
    rw [hs] at e1
    have : andD (isiD (.va 0) ["list", "tuple"]) (opN [(.ex (frzD lc_are_rows_1))] semAll) [some (.sh d), none] = .ok (.bl false) [some (.sh d), none] := by
      unfold andD
      rw [e1]
      rfl
    rw [rtS_d this]
    unfold arB
    rw [hs]
    rfl
  | true =>
    rw [hs] at e1
    have e2 : lc_are_rows_1 [some (.sh d), none] = .ok (.ow ((itmD d).map fun x => .bl (rwB x))) [some (.sh d), none] := by
      have := lcD_mp1 (it := it_are_rows_1) (vs := [1]) (h := gN 1) (elt := el_are_rows_1) (r := [some (.sh d), none]) (r1 := [some (.sh d), none]) [some (.sh d), none] (itmD d) id (fun x => .bl (rwB x)) (by
        rw [List.map_id]
        show (Rs.ok d [some (.sh d), none]).bind (fun d r1 => ofO d.items r1) = _
        simp only [Rs.bind, itm_items hs, ofO]) (by omega) rfl rfl (fun x hx => ⟨[some (.sh d), some (.sh x)], rfl, rfl, by
          have e := isRow_eq (gd_itm h x hx) hw
          simp only [el_are_rows_1, frzD, callP, evs, vD, Rs.bind, Rs.map, ofO, OV.d, id, Rs.noE, List.map_cons, List.map_nil, List.length_cons, List.length_nil, List.length_map, List.replicate, List.cons_append, List.nil_append, List.append_nil, List.getElem?_cons_zero, List.getElem?_cons_succ, List.set_cons_zero, List.set_cons_succ, Option.bind_some, Option.bind_none, Option.map_some, Option.map_none, Nat.zero_add, Nat.add_zero, Nat.reduceAdd, Nat.reduceSub, Nat.sub_self, Nat.reduceLeDiff, Nat.reduceEqDiff, Nat.le_refl, Nat.add_sub_cancel, if_true, if_false, Bool.false_eq_true, Bool.not_true, Bool.not_false, Bool.not_not, reduceIte, reduceCtorEq, and_self, and_true, true_and, decide_true, decide_false, semEq_str, semNe_str, semEq_int, semNe_int, semEq_bl, semNe_bl, atI0, atI1, atI2, atI3, atI4, OkS_nx, post_ok, items_lst, items_tup, semAt_lst, semAt_tup, semAt_str, semAt_dic, e]
          first | rfl | exact ⟨rfl, rfl⟩⟩)
      exact this
    have hb : bools ((itmD d).map fun x => D.bl (rwB x)) = some ((itmD d).map rwB) := bools_map _ _
    have e3 : opN [(.ex (frzD lc_are_rows_1))] semAll [some (.sh d), none] = .ok (.bl ((itmD d).all rwB)) [some (.sh d), none] := by
      refine opN1_of (ex_run (frz_o e2)) rfl ?_
      show (bools ((itmD d).map fun x => D.bl (rwB x))).map (fun bs => D.bl (bs.all id)) = _
      rw [hb, Option.map_some, List.all_map]
      rfl
    have : andD (isiD (.va 0) ["list", "tuple"]) (opN [(.ex (frzD lc_are_rows_1))] semAll) [some (.sh d), none] = .ok (.bl ((itmD d).all rwB)) [some (.sh d), none] := by
      unfold andD
      rw [e1]
      simp only [Rs.bind, D.asB, ofO, if_true]
      exact e3
    rw [rtS_d this]
    unfold arB
    rw [hs]
    rfl
end T

-- needs: are_rows is_row is_fact is_atom is_name is_relation _law_names _law_are_rows _law_is_row
namespace T
open PySem L2 DL
set_option maxHeartbeats 2000000 in
theorem lawAreRows_eq {n w : Nat} {d : D} (h : Gd n w d) (hw : w ≤ 1000000) (hl : (itmD d).length ≤ 100000) : f__law_are_rows [d] = some (.sh (.bl (arB d))) := by
  have e1 : isiD (.va 0) ["list", "tuple"] [some (.sh d), none] = .ok (.bl (seqB d)) [some (.sh d), none] := by
    rw [isiD_gd h.rp _ _ _ rfl rfl, isi_seq _ h.rp]
  have h0 : startE 2 ([d].map OV.sh) = [some (.sh d), none] := rfl
  unfold f__law_are_rows fnP m__law_are_rows
  rw [h0]
  cases hs : seqB d with
  | false =>
    rw [hs] at e1
    have : andD (isiD (.va 0) ["list", "tuple"]) (op2 (.ex (frzD lc__law_are_rows_1)) (.ex (frzD (lstD []))) semEq) [some (.sh d), none] = .ok (.bl false) [some (.sh d), none] := by
      unfold andD
      rw [e1]
      rfl
    rw [rtS_d this]
    unfold arB
    rw [hs]
    rfl
  | true =>
    rw [hs] at e1
    have e2 : lc__law_are_rows_1 [some (.sh d), none] = .ok (.ow ((itmD d).filter (fun x => !rwB x))) [some (.sh d), none] := by
      have := lcD_mp (it := it__law_are_rows_1) (vs := [1]) (h := gN 1) (t := ts__law_are_rows_1) (elt := el__law_are_rows_1) (r := [some (.sh d), none]) (r1 := [some (.sh d), none]) [some (.sh d), none] (itmD d) id (fun x => !rwB x) id (by
        rw [List.map_id]
        show (Rs.ok d [some (.sh d), none]).bind (fun d r1 => ofO d.items r1) = _
        simp only [Rs.bind, itm_items hs, ofO]) (by omega) rfl rfl (fun x hx => by
          refine ⟨[some (.sh d), some (.sh x)], rfl, ?_⟩
          have e := lawIsRow_eq (gd_itm h x hx) hw
          have c1 : frzD (callP 1 f__law_is_row [(vD 1)]) [some (.sh d), some (.sh x)] = .ok (.bl (rwB x)) [some (.sh d), some (.sh x)] := frz_o (callP_of (evs_cons rfl evs_nil) rfl e)
          unfold ts__law_are_rows_1
          rw [notT_of (toB_of c1)]
          exact ⟨rfl, rfl, fun _ => ⟨rfl, rfl⟩⟩)
      rw [List.map_id] at this
      exact this
    have e3 : op2 (.ex (frzD lc__law_are_rows_1)) (.ex (frzD (lstD []))) semEq [some (.sh d), none] = .ok (.bl ((itmD d).all rwB)) [some (.sh d), none] := by
      refine op2_of (ex_run (frz_o e2)) (b := .inl (.lst [])) rfl rfl rfl ?_
      rw [show (OV.ow ((itmD d).filter fun x => !rwB x)).d = D.lst ((itmD d).filter fun x => !rwB x) from rfl, semEq_nil]
      congr 2
      rw [Bool.eq_iff_iff, List.isEmpty_iff, List.filter_eq_nil_iff, List.all_eq_true]
      simp
    have : andD (isiD (.va 0) ["list", "tuple"]) (op2 (.ex (frzD lc__law_are_rows_1)) (.ex (frzD (lstD []))) semEq) [some (.sh d), none] = .ok (.bl ((itmD d).all rwB)) [some (.sh d), none] := by
      unfold andD
      rw [e1]
      simp only [Rs.bind, D.asB, ofO, if_true]
      exact e3
    rw [rtS_d this]
    unfold arB
    rw [hs]
    rfl
end T

-- needs: Start are_rows is_row is_fact is_atom is_name is_relation _law_names
namespace T
open PySem L2 DL
/-! ### Start(goal, book, aim) -/
def wrongX (i : Int) : Exn := ⟨"Wrong", [("place", .int i)]⟩
def startF (gs bs : List D) (a : D) : List (Str × D) := [("its_rows", .dic [(Sum.inr "goal", .lst gs), (Sum.inr "book", .lst bs)]), ("its_aim", a)]
def startD (gs bs : List D) (a : D) : D := .obj "Start" (startF gs bs a)
def initR (g b a : D) : FI := if arB g = false then .ex (wrongX 0) else if arB b = false then .ex (wrongX 1) else if atB a = false then .ex (wrongX 2) else .ok (startF (itmD g) (itmD b) a)
theorem semList_seq {d : D} (h : seqB d = true) : semList [d] = some (.lst (itmD d)) := by
  cases d with
  | lst xs => rfl
  | tup xs => rfl
  | _ => cases h
set_option maxHeartbeats 2000000 in
theorem startInit_eq {n w : Nat} {g b a : D} (hg : Gd n w g) (hb : Gd n w b) (ha : Gd n w a) (hw : w ≤ 1000000) (lg : (itmD g).length ≤ 100000) (lb : (itmD b).length ≤ 100000) : f_Start____init__ [g, b, a] = initR g b a := by
  have h0 : startE 4 (.oi "Start" [] :: [g, b, a].map OV.sh) = [some (.oi "Start" []), some (.sh g), some (.sh b), some (.sh a)] := rfl
  have t1 : notT (toB (frzD (callP 1 f_are_rows [(vD 1)]))) [some (.oi "Start" []), some (.sh g), some (.sh b), some (.sh a)] = .ok (!arB g) [some (.oi "Start" []), some (.sh g), some (.sh b), some (.sh a)] := notT_of (toB_of (frz_o (callP_of (evs_cons rfl evs_nil) rfl (areRows_eq hg hw lg))))
  have t2 : notT (toB (frzD (callP 1 f_are_rows [(vD 2)]))) [some (.oi "Start" []), some (.sh g), some (.sh b), some (.sh a)] = .ok (!arB b) [some (.oi "Start" []), some (.sh g), some (.sh b), some (.sh a)] := notT_of (toB_of (frz_o (callP_of (evs_cons rfl evs_nil) rfl (areRows_eq hb hw lb))))
  have t3 : notT (toB (frzD (callP 1 f_is_atom [(vD 3)]))) [some (.oi "Start" []), some (.sh g), some (.sh b), some (.sh a)] = .ok (!atB a) [some (.oi "Start" []), some (.sh g), some (.sh b), some (.sh a)] := notT_of (toB_of (frz_o (callP_of (evs_cons rfl evs_nil) rfl (isAtom_eq ha hw))))
  unfold f_Start____init__ fnI m_Start____init__ initR
  rw [h0]
  cases e1 : arB g with
  | false =>
    rw [e1] at t1
    rw [seqS_ex (x := wrongX 0) (by rw [ifS_yes t1]; rfl)]
    rfl
  | true =>
    rw [e1] at t1
    rw [seqIf_no t1]
    cases e2 : arB b with
    | false =>
      rw [e2] at t2
      rw [seqS_ex (x := wrongX 1) (by rw [ifS_yes t2]; rfl)]
      rfl
    | true =>
      rw [e2] at t2
      rw [seqIf_no t2]
      cases e3 : atB a with
      | false =>
        rw [e3] at t3
        rw [seqS_ex (x := wrongX 2) (by rw [ifS_yes t3]; rfl)]
        rfl
      | true =>
        rw [e3] at t3
        rw [seqIf_no t3]
        have s1 : seqB g = true := by unfold arB at e1; exact (Bool.and_eq_true_iff.mp e1).1
        have s2 : seqB b = true := by unfold arB at e2; exact (Bool.and_eq_true_iff.mp e2).1
        have d1 : dicD [((cD (.str "goal")), (opN [(.va 1)] semList)), ((cD (.str "book")), (opN [(.va 2)] semList))] [some (.oi "Start" []), some (.sh g), some (.sh b), some (.sh a)] = .ok (.dic [(Sum.inr "goal", .lst (itmD g)), (Sum.inr "book", .lst (itmD b))]) [some (.oi "Start" []), some (.sh g), some (.sh b), some (.sh a)] := by
          have o1 : opN [(.va 1)] semList [some (.oi "Start" []), some (.sh g), some (.sh b), some (.sh a)] = .ok (.lst (itmD g)) [some (.oi "Start" []), some (.sh g), some (.sh b), some (.sh a)] := opN1_of (a := .inr 1) rfl rfl (semList_seq s1)
          have o2 : opN [(.va 2)] semList [some (.oi "Start" []), some (.sh g), some (.sh b), some (.sh a)] = .ok (.lst (itmD b)) [some (.oi "Start" []), some (.sh g), some (.sh b), some (.sh a)] := opN1_of (a := .inr 2) rfl rfl (semList_seq s2)
          simp only [dicD, evPs, cD, o1, o2, Rs.bind, D.key, ofO, Rs.noE, List.map_cons, List.map_nil, List.length_cons, List.length_nil, List.length_map, List.replicate, List.cons_append, List.nil_append, List.append_nil, List.getElem?_cons_zero, List.getElem?_cons_succ, List.set_cons_zero, List.set_cons_succ, Option.bind_some, Option.bind_none, Option.map_some, Option.map_none, Nat.zero_add, Nat.add_zero, Nat.reduceAdd, Nat.reduceSub, Nat.sub_self, Nat.reduceLeDiff, Nat.reduceEqDiff, Nat.le_refl, Nat.add_sub_cancel, if_true, if_false, Bool.false_eq_true, Bool.not_true, Bool.not_false, Bool.not_not, reduceIte, reduceCtorEq, and_self, and_true, true_and, decide_true, decide_false, semEq_str, semNe_str, semEq_int, semNe_int, semEq_bl, semNe_bl, atI0, atI1, atI2, atI3, atI4, OkS_nx, post_ok, items_lst, items_tup, semAt_lst, semAt_tup, semAt_str, semAt_dic]
          rfl
        have d2 : fldS 0 "Start" "its_rows" (dicD [((cD (.str "goal")), (opN [(.va 1)] semList)), ((cD (.str "book")), (opN [(.va 2)] semList))]) [some (.oi "Start" []), some (.sh g), some (.sh b), some (.sh a)] = .nx [some (.oi "Start" [("its_rows", .dic [(Sum.inr "goal", .lst (itmD g)), (Sum.inr "book", .lst (itmD b))])]), some (.sh g), some (.sh b), some (.sh a)] := by
          unfold fldS
          rw [d1]
          rfl
        have d3 : fldS 0 "Start" "its_aim" (vD 3) [some (.oi "Start" [("its_rows", .dic [(Sum.inr "goal", .lst (itmD g)), (Sum.inr "book", .lst (itmD b))])]), some (.sh g), some (.sh b), some (.sh a)] = .nx [some (.oi "Start" (startF (itmD g) (itmD b) a)), some (.sh g), some (.sh b), some (.sh a)] := rfl
        rw [seqS_nx d2, d3]
        rfl
end T

namespace T
open PySem L2 DL
/-! ### Start(..), with_aim as the law tells them -/
def dueD (g b a : D) : D := if arB g = false then .int 0 else if arB b = false then .int 1 else if atB a = false then .int 2 else .str "made"
theorem tb_pick : tabB tb_PickError "Wrong" = some true := by decide +kernel
theorem made_suite (d : D) (i : Int) : sx__law_made_1 [some (.sh d), some (.exc (wrongX i))] = .rt (.sh (.int i)) [some (.sh d), some (.exc (wrongX i))] := by
  have h1 : tabB tb_Wrong "Wrong" = some true := by decide +kernel
  have h2 : tabB tb_NoRow "Wrong" = some false := by decide +kernel
  have i1 : isxD 1 (tabB tb_Wrong) [some (.sh d), some (.exc (wrongX i))] = .ok (.bl true) [some (.sh d), some (.exc (wrongX i))] := by
    show ofO ((tabB tb_Wrong "Wrong").map D.bl) _ = _
    rw [h1]
    rfl
  have i2 : isxD 1 (tabB tb_NoRow) [some (.sh d), some (.exc (wrongX i))] = .ok (.bl false) [some (.sh d), some (.exc (wrongX i))] := by
    show ofO ((tabB tb_NoRow "Wrong").map D.bl) _ = _
    rw [h2]
    rfl
  have x1 : xfD' 1 "place" ["Wrong"] [some (.sh d), some (.exc (wrongX i))] = .ok (.int i) [some (.sh d), some (.exc (wrongX i))] := by
    show (if ("Wrong" : Str) ∈ (["Wrong"] : List Str) then ofO (([(("place" : Str), D.int i)] : List (Str × D)).lookup ("place" : Str)) _ else .bad) = _
    rw [if_pos (List.mem_singleton.mpr rfl), List.lookup_cons_self]
    rfl
  have c1 : andT (toB (isxD 1 (tabB tb_Wrong))) (notT (toB (isxD 1 (tabB tb_NoRow)))) [some (.sh d), some (.exc (wrongX i))] = .ok true [some (.sh d), some (.exc (wrongX i))] := by
    unfold andT
    rw [toB_of i1]
    simp only [Rs.bind, if_true]
    exact notT_of (toB_of i2)
  unfold sx__law_made_1
  refine rtS_d ?_
  unfold ifD
  rw [c1]
  exact x1
theorem aimed_suite (s d : D) (i : Int) : sx__law_aimed_1 [some (.sh s), some (.sh d), some (.exc (wrongX i))] = .rt (.sh (.int i)) [some (.sh s), some (.sh d), some (.exc (wrongX i))] := by
  have h1 : tabB tb_Wrong "Wrong" = some true := by decide +kernel
  have i1 : isxD 2 (tabB tb_Wrong) [some (.sh s), some (.sh d), some (.exc (wrongX i))] = .ok (.bl true) [some (.sh s), some (.sh d), some (.exc (wrongX i))] := by
    show ofO ((tabB tb_Wrong "Wrong").map D.bl) _ = _
    rw [h1]
    rfl
  have x1 : xfD' 2 "place" ["Wrong"] [some (.sh s), some (.sh d), some (.exc (wrongX i))] = .ok (.int i) [some (.sh s), some (.sh d), some (.exc (wrongX i))] := by
    show (if ("Wrong" : Str) ∈ (["Wrong"] : List Str) then ofO (([(("place" : Str), D.int i)] : List (Str × D)).lookup ("place" : Str)) _ else .bad) = _
    rw [if_pos (List.mem_singleton.mpr rfl), List.lookup_cons_self]
    rfl
  unfold sx__law_aimed_1
  refine rtS_d ?_
  unfold ifD
  rw [toB_of i1]
  exact x1
set_option maxHeartbeats 2000000 in
theorem made_eq {n w : Nat} {g b a : D} (hg : Gd n w g) (hb : Gd n w b) (ha : Gd n w a) (hw : w ≤ 1000000) (lg : (itmD g).length ≤ 100000) (lb : (itmD b).length ≤ 100000) : f__law_made [.lst [g, b, a]] = some (.sh (dueD g b a)) := by
  have hi := startInit_eq hg hb ha hw lg lb
  have ev : evs [(op2 (.va 0) (.ex (cD (.int 0))) semAt), (op2 (.va 0) (.ex (cD (.int 1))) semAt), (op2 (.va 0) (.ex (cD (.int 2))) semAt)] [some (.sh (.lst [g, b, a])), none] = .ok [g, b, a] [some (.sh (.lst [g, b, a])), none] := rfl
  have h0 : startE 2 ([D.lst [g, b, a]].map OV.sh) = [some (.sh (.lst [g, b, a])), none] := rfl
  have wr : ∀ i, initR g b a = .ex (wrongX i) → f__law_made [.lst [g, b, a]] = some (.sh (.int i)) := fun i e => by
    rw [e] at hi
    have tb : tb__law_made_1 [some (.sh (.lst [g, b, a])), none] = .ex (wrongX i) [some (.sh (.lst [g, b, a])), none] := by
      unfold tb__law_made_1 exS
      rw [frz_ex (makeD_ex (n := 3) ev rfl hi)]
      rfl
    have ts := tryS_exRt (fs := sx__law_made_1) (ct := tabB tb_PickError) (i := 1) tb tb_pick (made_suite (.lst [g, b, a]) i) rfl
    unfold f__law_made fnP m__law_made
    rw [h0]
    unfold seqS
    rw [ts]
  unfold dueD
  unfold initR at wr hi
  by_cases e1 : arB g = false
  · rw [if_pos e1] at wr ⊢
    exact wr 0 rfl
  · rw [if_neg e1] at wr hi ⊢
    by_cases e2 : arB b = false
    · rw [if_pos e2] at wr ⊢
      exact wr 1 rfl
    · rw [if_neg e2] at wr hi ⊢
      by_cases e3 : atB a = false
      · rw [if_pos e3] at wr ⊢
        exact wr 2 rfl
      · rw [if_neg e3] at hi ⊢
        have tb : tb__law_made_1 [some (.sh (.lst [g, b, a])), none] = .nx [some (.sh (.lst [g, b, a])), none] := by
          unfold tb__law_made_1 exS
          rw [frz_o (makeD_ok (n := 3) ev rfl hi)]
          rfl
        unfold f__law_made fnP m__law_made
        rw [h0, seqS_nx (tryS_nx tb)]
        rfl
set_option maxHeartbeats 2000000 in
theorem withAim_eq {n w : Nat} {gs bs : List D} {a0 a : D} (hg : Gd n w (.lst gs)) (hb : Gd n w (.lst bs)) (ha : Gd n w a) (hw : w ≤ 1000000) (lg : gs.length ≤ 100000) (lb : bs.length ≤ 100000) (vg : arB (.lst gs) = true) (vb : arB (.lst bs) = true) :
    f_Start__with_aim [startD gs bs a0, a] = if atB a = false then .ex (wrongX 0) else .ok (.sh (startD gs bs a)) := by
  have h0 : startE 2 ([startD gs bs a0, a].map OV.sh) = [some (.sh (startD gs bs a0)), some (.sh a)] := rfl
  have t1 : notT (toB (frzD (callP 1 f_is_atom [(vD 1)]))) [some (.sh (startD gs bs a0)), some (.sh a)] = .ok (!atB a) [some (.sh (startD gs bs a0)), some (.sh a)] := notT_of (toB_of (frz_o (callP_of (evs_cons rfl evs_nil) rfl (isAtom_eq ha hw))))
  have hi := startInit_eq hg hb ha hw lg lb
  unfold f_Start__with_aim fnX m_Start__with_aim
  rw [h0]
  cases e1 : atB a with
  | false =>
    rw [e1] at t1
    rw [seqS_ex (x := wrongX 0) (by rw [ifS_yes t1]; rfl)]
    rfl
  | true =>
    rw [e1] at t1
    rw [seqIf_no t1]
    unfold initR at hi
    rw [vg, vb, e1] at hi
    have f1 : op1 (.va 0) (semFld "Start" "its_rows") [some (.sh (startD gs bs a0)), some (.sh a)] = .ok (.dic [(Sum.inr "goal", .lst gs), (Sum.inr "book", .lst bs)]) [some (.sh (startD gs bs a0)), some (.sh a)] := by
      refine op1_of (a := .inr 0) rfl rfl ?_
      show (if ("Start" : Str) = "Start" then (startF gs bs a0).lookup ("its_rows" : Str) else none) = _
      rw [if_pos rfl]
      unfold startF
      rw [List.lookup_cons_self]
    have f2 : op2 (.ex (op1 (.va 0) (semFld "Start" "its_rows"))) (.ex (cD (.str "goal"))) semAt [some (.sh (startD gs bs a0)), some (.sh a)] = .ok (.lst gs) [some (.sh (startD gs bs a0)), some (.sh a)] := op2_of (ex_run f1) (b := .inl (.str "goal")) rfl rfl rfl (by
      show valD ([(Sum.inr "goal", D.lst gs), (Sum.inr "book", D.lst bs)] : List (Key × D)) (Sum.inr "goal") = _
      rfl)
    have f3 : op2 (.ex (op1 (.va 0) (semFld "Start" "its_rows"))) (.ex (cD (.str "book"))) semAt [some (.sh (startD gs bs a0)), some (.sh a)] = .ok (.lst bs) [some (.sh (startD gs bs a0)), some (.sh a)] := op2_of (ex_run f1) (b := .inl (.str "book")) rfl rfl rfl (by
      show valD ([(Sum.inr "goal", D.lst gs), (Sum.inr "book", D.lst bs)] : List (Key × D)) (Sum.inr "book") = _
      rfl)
    have ev : evs [(op2 (.ex (op1 (.va 0) (semFld "Start" "its_rows"))) (.ex (cD (.str "goal"))) semAt), (op2 (.ex (op1 (.va 0) (semFld "Start" "its_rows"))) (.ex (cD (.str "book"))) semAt), (vD 1)] [some (.sh (startD gs bs a0)), some (.sh a)] = .ok [.lst gs, .lst bs, a] [some (.sh (startD gs bs a0)), some (.sh a)] := evs_cons f2 (evs_cons f3 (evs_cons rfl evs_nil))
    unfold rtS
    rw [makeD_ok (n := 3) ev rfl hi]
    rfl
set_option maxHeartbeats 2000000 in
theorem aimed_eq {n w : Nat} {gs bs : List D} {a0 a : D} (hg : Gd n w (.lst gs)) (hb : Gd n w (.lst bs)) (ha : Gd n w a) (hw : w ≤ 1000000) (lg : gs.length ≤ 100000) (lb : bs.length ≤ 100000) (vg : arB (.lst gs) = true) (vb : arB (.lst bs) = true) :
    f__law_aimed [startD gs bs a0, a] = some (.sh (if atB a = true then a else .int 0)) := by
  have h0 : startE 3 ([startD gs bs a0, a].map OV.sh) = [some (.sh (startD gs bs a0)), some (.sh a), none] := rfl
  have hm := withAim_eq (a0 := a0) hg hb ha hw lg lb vg vb
  have ok1 : objOk "Start" "with_aim" (startD gs bs a0) = true := by
    show (decide (("Start" : Str) = "Start") && decide ((startF gs bs a0).lookup ("with_aim" : Str) = none)) = true
    have h1 : (("with_aim" : Str) == "its_rows") = false := by decide +kernel
    have h2 : (("with_aim" : Str) == "its_aim") = false := by decide +kernel
    unfold startF
    simp [List.lookup, h1, h2]
  have ev : evs [(vD 1)] [some (.sh (startD gs bs a0)), some (.sh a), none] = .ok [a] [some (.sh (startD gs bs a0)), some (.sh a), none] := rfl
  unfold f__law_aimed fnP m__law_aimed
  rw [h0]
  cases e1 : atB a with
  | false =>
    rw [e1] at hm
    have tb : tb__law_aimed_1 [some (.sh (startD gs bs a0)), some (.sh a), none] = .ex (wrongX 0) [some (.sh (startD gs bs a0)), some (.sh a), none] := rtS_ex (op1_ex (frz_ex (methX_ex (d := startD gs bs a0) rfl ok1 ev (n := 2) rfl hm)))
    have ts := tryS_exRt (fs := sx__law_aimed_1) (ct := tabB tb_PickError) (i := 2) tb tb_pick (aimed_suite (startD gs bs a0) a 0) rfl
    rw [ts]
    rfl
  | true =>
    rw [e1] at hm
    have tb : tb__law_aimed_1 [some (.sh (startD gs bs a0)), some (.sh a), none] = .rt (.sh a) [some (.sh (startD gs bs a0)), some (.sh a), none] := by
      refine rtS_d (op1_of (ex_run (frz_o (methX_ok (d := startD gs bs a0) rfl ok1 ev (n := 2) rfl hm))) rfl ?_)
      show (if ("Start" : Str) = "Start" then (startF gs bs a).lookup ("its_aim" : Str) else none) = _
      rw [if_pos rfl]
      have h1 : (("its_aim" : Str) == "its_rows") = false := by decide +kernel
      unfold startF
      simp [List.lookup, h1]
    rw [tryS_rt tb]
    rfl
end T

namespace T
open PySem L2 DL
theorem itm_len (d : D) : (itmD d).length ≤ d.wq := by
  cases d with
  | lst xs =>
    have := wqAll_len xs
    show xs.length ≤ wqAll xs + 3
    omega
  | tup xs =>
    have := wqAll_len xs
    show xs.length ≤ wqAll xs + 3
    omega
  | _ => exact Nat.zero_le _
def en21 (ns : List Int) (bs : List D) (o2 o3 : Option OV) (ts : List D) (o5 o6 o7 o8 o9 o10 o11 : Option OV) : En := [some (.sh (.scr ns)), some (.ow bs), o2, o3, some (.ow ts), o5, o6, o7, o8, o9, o10, o11]
/-- any value, after so many bends -/
def BdM (m : Nat) (d : D) : Prop := d.rp = true ∧ d.dq ≤ 4 + m ∧ d.wq ≤ 2 ^ m * 6175 - 2000
theorem BdM.up {m : Nat} {d : D} (h : BdM m d) : BdM (m + 1) d := by
  obtain ⟨h1, h2, h3⟩ := h
  refine ⟨h1, by omega, ?_⟩
  have : 2 ^ (m + 1) = 2 * 2 ^ m := by rw [Nat.pow_succ]; omega
  have hp : 1 ≤ 2 ^ m := Nat.one_le_two_pow
  rw [this]
  omega
theorem BdM.le {m m' : Nat} {d : D} (h : BdM m d) (hm : m ≤ m') : BdM m' d := by
  induction hm with
  | refl => exact h
  | step _ ih => exact ih.up
theorem BdM.gd {d : D} (h : BdM 2 d) : Gd 6 23000 d := ⟨h.1, h.2.1, by have := h.2.2; omega⟩
set_option maxHeartbeats 2000000 in
theorem k21_bend {bs : List D} (hb : BagOk bs) (ns : List Int) (ts : List D) (k m : Nat) (hk : k < ts.length) (hm : m ≤ 1) (hd : BdM m (ts[k]'hk)) (o2 o3 o5 o7 o8 o9 o10 o11 : Option OV) :
    ∃ d' b', bd_law_1 (en21 ns bs o2 o3 ts o5 (some (.sh (.int (k : Int)))) o7 o8 o9 o10 o11) = .nx (en21 ns b' o2 o3 (ts.set k d') o5 (some (.sh (.int (k : Int)))) o7 o8 o9 o10 o11) ∧ BdM (m + 1) d' ∧ BagOk b' := by
  obtain ⟨h1, h2, h3⟩ := hd
  have hp : 2 ^ m ≤ 2 := by
    have : m = 0 ∨ m = 1 := by omega
    rcases this with rfl | rfl <;> decide
  obtain ⟨d', b', e, g1, g2, g3, hb'⟩ := spoilt_ok 8 (ts[k]'hk) bs h1 (by omega) (by omega) hb
  refine ⟨d', b', ?_, ⟨g1, by omega, ?_⟩, hb'⟩
  · have a1 : op2 (.va 4) (.va 6) semAt (en21 ns bs o2 o3 ts o5 (some (.sh (.int (k : Int)))) o7 o8 o9 o10 o11) = .ok (ts[k]'hk) (en21 ns bs o2 o3 ts o5 (some (.sh (.int (k : Int)))) o7 o8 o9 o10 o11) := by
      refine op2_of (a := .inr 4) (b := .inr 6) rfl rfl rfl rfl ?_
      show semAt (.lst ts) (.int (k : Int)) = _
      exact semAt_nat (by rw [List.getElem?_eq_getElem hk])
    have a2 : frzD (callB 1 (f__law_spoilt 8) 1 [(op2 (.va 4) (.va 6) semAt)]) (en21 ns bs o2 o3 ts o5 (some (.sh (.int (k : Int)))) o7 o8 o9 o10 o11) = .ok d' (en21 ns b' o2 o3 ts o5 (some (.sh (.int (k : Int)))) o7 o8 o9 o10 o11) := by
      have hfl : fill (en21 ns bs o2 o3 ts o5 (some (.sh (.int (k : Int)))) o7 o8 o9 o10 o11) 1 = .ok () (en21 ns bs o2 o3 ts o5 (some (.sh (.int (k : Int)))) o7 o8 o9 o10 o11) := rfl
      have hlk : (lookV (en21 ns bs o2 o3 ts o5 (some (.sh (.int (k : Int)))) o7 o8 o9 o10 o11) 1).bind OV.lst? = some bs := rfl
      unfold frzD callB
      rw [hfl]
      simp only [Rs.bind]
      rw [evs_cons a1 evs_nil]
      simp only [hlk, Option.bind_some, e, ofO, Rs.bind, Rs.map, OV.d, Rs.noE, List.map_cons, List.map_nil, List.length_cons, List.length_nil, List.length_map, List.replicate, List.cons_append, List.nil_append, List.append_nil, List.getElem?_cons_zero, List.getElem?_cons_succ, List.set_cons_zero, List.set_cons_succ, Option.bind_some, Option.bind_none, Option.map_some, Option.map_none, Nat.zero_add, Nat.add_zero, Nat.reduceAdd, Nat.reduceSub, Nat.sub_self, Nat.reduceLeDiff, Nat.reduceEqDiff, Nat.le_refl, Nat.add_sub_cancel, if_true, if_false, Bool.false_eq_true, Bool.not_true, Bool.not_false, Bool.not_not, reduceIte, reduceCtorEq, and_self, and_true, true_and, decide_true, decide_false, semEq_str, semNe_str, semEq_int, semNe_int, semEq_bl, semNe_bl, atI0, atI1, atI2, atI3, atI4, OkS_nx, post_ok, items_lst, items_tup, semAt_lst, semAt_tup, semAt_str, semAt_dic]
      rfl
    unfold bd_law_1 putS
    rw [a2]
    show chgS 4 (putF (.int (k : Int)) d') (en21 ns b' o2 o3 ts o5 (some (.sh (.int (k : Int)))) o7 o8 o9 o10 o11) = _
    have hput : DL.putF (.int (k : Int)) d' ts = some (ts.set k d') := by
      show (ixN ts.length (k : Int)).map (fun j => ts.set j d') = _
      rw [ixN_nat (n := ts.length) (k := (k : Int)) (by omega) (by simpa using hk)]
      simp
    show (match DL.putF (.int (k : Int)) d' ts with
      | some ys => SRs.nx (en21 ns b' o2 o3 ys o5 (some (.sh (.int (k : Int)))) o7 o8 o9 o10 o11)
      | none => .bad) = _
    rw [hput]
  · have : 2 ^ (m + 1) = 2 * 2 ^ m := by rw [Nat.pow_succ]; omega
    have hp1 : 1 ≤ 2 ^ m := Nat.one_le_two_pow
    rw [this]
    omega
set_option maxHeartbeats 2000000 in
theorem k21_bends {bs : List D} (hb : BagOk bs) (ns : List Int) (ts : List D) (k : Nat) (hk : k < ts.length) (hd : BdM 0 (ts[k]'hk)) (o2 o3 o5 o7 o8 o9 o10 o11 : Option OV) :
    ∃ d' b' o7', bd_law_2 (en21 ns bs o2 o3 ts o5 (some (.sh (.int (k : Int)))) o7 o8 o9 o10 o11) = .nx (en21 ns b' o2 o3 (ts.set k d') o5 (some (.sh (.int (k : Int)))) o7' o8 o9 o10 o11) ∧ BdM 2 d' ∧ BagOk b' := by
  obtain ⟨v, b1, ev, v0, v1, hb1⟩ := take_ok hb (n := 4) (by decide) (by decide)
  obtain ⟨q, hq, ei⟩ : ∃ q : Nat, q ≤ 2 ∧ it_law_1 (en21 ns bs o2 o3 ts o5 (some (.sh (.int (k : Int)))) o7 o8 o9 o10 o11) = .ok (rangeD 0 q) (en21 ns b1 o2 o3 ts o5 (some (.sh (.int (k : Int)))) o7 o8 o9 o10 o11) := by
    have c1 : frzD (callB 1 f__law_take 1 [(cD (.int 4))]) (en21 ns bs o2 o3 ts o5 (some (.sh (.int (k : Int)))) o7 o8 o9 o10 o11) = .ok (.int v) (en21 ns b1 o2 o3 ts o5 (some (.sh (.int (k : Int)))) o7 o8 o9 o10 o11) := by
      simp only [en21, frzD, callB, evs, cD, fill, lookV, Rs.bind, Rs.map, ofO, OV.d, OV.lst?, Rs.noE, List.map_cons, List.map_nil, List.length_cons, List.length_nil, List.length_map, List.replicate, List.cons_append, List.nil_append, List.append_nil, List.getElem?_cons_zero, List.getElem?_cons_succ, List.set_cons_zero, List.set_cons_succ, Option.bind_some, Option.bind_none, Option.map_some, Option.map_none, Nat.zero_add, Nat.add_zero, Nat.reduceAdd, Nat.reduceSub, Nat.sub_self, Nat.reduceLeDiff, Nat.reduceEqDiff, Nat.le_refl, Nat.add_sub_cancel, if_true, if_false, Bool.false_eq_true, Bool.not_true, Bool.not_false, Bool.not_not, reduceIte, reduceCtorEq, and_self, and_true, true_and, decide_true, decide_false, semEq_str, semNe_str, semEq_int, semNe_int, semEq_bl, semNe_bl, atI0, atI1, atI2, atI3, atI4, OkS_nx, post_ok, items_lst, items_tup, semAt_lst, semAt_tup, semAt_str, semAt_dic, ev]
    have c2 : ∀ z : D, semAt (.lst [.int 0, .int 0, .int 1, .int 2]) (.int v) = some z → op2 (.ex (frzD (lstD [(cD (.int 0)), (cD (.int 0)), (cD (.int 1)), (cD (.int 2))]))) (.ex (frzD (callB 1 f__law_take 1 [(cD (.int 4))]))) semAt (en21 ns bs o2 o3 ts o5 (some (.sh (.int (k : Int)))) o7 o8 o9 o10 o11) = .ok z (en21 ns b1 o2 o3 ts o5 (some (.sh (.int (k : Int)))) o7 o8 o9 o10 o11) := fun z hz => op2_of (a := .inl (.lst [.int 0, .int 0, .int 1, .int 2])) rfl (ex_run c1) rfl rfl hz
    have : v = 0 ∨ v = 1 ∨ v = 2 ∨ v = 3 := by omega
    rcases this with rfl | rfl | rfl | rfl
    · exact ⟨0, by decide, by unfold it_law_1 rg1; rw [c2 (.int 0) rfl]; rfl⟩
    · exact ⟨0, by decide, by unfold it_law_1 rg1; rw [c2 (.int 0) rfl]; rfl⟩
    · exact ⟨1, by decide, by unfold it_law_1 rg1; rw [c2 (.int 1) rfl]; rfl⟩
    · exact ⟨2, by decide, by unfold it_law_1 rg1; rw [c2 (.int 2) rfl]; rfl⟩
  obtain ⟨r', e, hI⟩ := (forD_ok (f := it_law_1) (h := gN 7) (body := bd_law_1) (rangeD 0 q) (fun i r => ∃ d' b' o7, r = en21 ns b' o2 o3 (ts.set k d') o5 (some (.sh (.int (k : Int)))) o7 o8 o9 o10 o11 ∧ BdM i d' ∧ BagOk b') ei ⟨ts[k]'hk, b1, o7, by rw [List.set_getElem_self], hd, hb1⟩ (by
    rintro i d hi r ⟨d', b', o7, rfl, hd', hb'⟩
    have hiq : i < q := by
      have := (List.getElem?_eq_some_iff.mp hi).1
      unfold rangeD at this
      simpa using this
    refine ⟨en21 ns b' o2 o3 (ts.set k d') o5 (some (.sh (.int (k : Int)))) (some (.sh d)) o8 o9 o10 o11, rfl, ?_⟩
    obtain ⟨d2, b2, e2, h2, hb2⟩ := k21_bend hb' ns (ts.set k d') k i (by rw [List.length_set]; exact hk) (by omega) (by rw [List.getElem_set_self]; exact hd') o2 o3 o5 (some (.sh d)) o8 o9 o10 o11
    rw [e2]
    exact ⟨d2, b2, _, by rw [List.set_set], h2, hb2⟩)).ex
  obtain ⟨d', b', o7', rfl, hd', hb'⟩ := hI
  refine ⟨d', b', o7', e, hd'.le ?_, hb'⟩
  unfold rangeD
  simpa using hq
end T

namespace T
open PySem L2 DL
theorem gd_lst3 {n w : Nat} {g b a : D} (hg : Gd n w g) (hb : Gd n w b) (ha : Gd n w a) : Gd (n + 1) (3 * (w + 2) + 3) (.lst [g, b, a]) := by
  refine ⟨rpAll_iff.mpr fun d hd => ?_, ?_, ?_⟩
  · simp only [List.mem_cons, List.not_mem_nil, or_false] at hd
    rcases hd with rfl | rfl | rfl
    · exact hg.rp
    · exact hb.rp
    · exact ha.rp
  · have h1 := hg.dq
    have h2 := hb.dq
    have h3 := ha.dq
    show max g.dq (max b.dq (max a.dq 0)) + 1 ≤ n + 1
    omega
  · have h1 := hg.wq
    have h2 := hb.wq
    have h3 := ha.wq
    show g.wq + 2 + (b.wq + 2 + (a.wq + 2 + 0)) + 3 ≤ 3 * (w + 2) + 3
    omega
theorem atB_of {d : D} (h : atB d = true) : ∃ x : At, d = atD x ∧ AtOk x := by
  cases d with
  | tup xs =>
    match xs, h with
    | [a, b, c], h =>
      have h' : (relB a && (nmB b && nmB c)) = true := h
      rw [Bool.and_eq_true, Bool.and_eq_true] at h'
      obtain ⟨h1, h2, h3⟩ := h'
      cases a with
      | str r =>
        cases b with
        | str x =>
          cases c with
          | str y =>
            refine ⟨(r, x, y), rfl, ?_, nameB_ok h2, nameB_ok h3⟩
            have : (decide (r = "eq") || (decide (r = "lt") || decide (r = "gt"))) = true := h1
            simpa [isRel] using this
          | _ => cases h3
        | _ => cases h2
      | _ => cases h1
  | _ => cases h
theorem sm_due (g b a : D) : Sm 0 100 (dueD g b a) := by
  have hi : ∀ i : Int, i.natAbs < 1000000000000000000 → Sm 0 100 (.int i) := fun i h => (Sm.int h).mono (Nat.le_refl _) (by decide)
  have hs : NameOk "made" := nameB_ok (by decide +kernel)
  unfold dueD
  split
  · exact hi 0 (by decide)
  · split
    · exact hi 1 (by decide)
    · split
      · exact hi 2 (by decide)
      · exact (sm_str hs).mono (Nat.le_refl _) (by decide)
theorem due_flt (g b a : D) : (OV.sh (dueD g b a)).flt = true := by
  unfold dueD
  split
  · rfl
  · split
    · rfl
    · split <;> rfl
theorem sm_aim (a : D) : Sm 1 255 (if atB a = true then a else .int 0) := by
  split
  · rename_i h
    obtain ⟨x, rfl, hx⟩ := atB_of h
    exact sm_at hx.pt
  · exact (Sm.int (i := 0) (by decide)).mono (by decide) (by decide)
def nones : D := .lst (List.replicate 900 [D.non]).flatten
theorem nones_gd : Gd 6 23000 nones := ⟨by decide +kernel, by decide +kernel, by decide +kernel⟩
theorem nones_mul : semMul (.lst [.non]) (.int 900) = some nones := rfl
/-- slot 9 -/
theorem due_at (g b a : D) (r : En) (h : r[8]? = some (some (.sh (.lst [.bl (arB g), .bl (arB b), .bl (atB a)])))) :
    ifD (toB (op2 (.ex (cD (.bl false))) (.va 8) semIn2)) (mLD (.va 8) [(.ex (cD (.bl false)))] semLIndex) (cD (.str "made")) r = .ok (dueD g b a) r := by
  have hl : look r (.inr 8) = some (.lst [.bl (arB g), .bl (arB b), .bl (atB a)]) := by
    show (lookV r 8).map OV.d = _
    unfold lookV
    rw [h]
    rfl
  have hv : (Opd.va 8).run r = .ok (.inr 8) r := by
    show (fill r 8).bind (fun _ r => Rs.ok (Sum.inr 8) r) = _
    unfold fill
    rw [h]
    rfl
  unfold dueD
  generalize arB g = x at *
  generalize arB b = y at *
  generalize atB a = z at *
  have hi : ∀ c, semIn2 (.bl false) (.lst [.bl x, .bl y, .bl z]) = some (.bl c) → toB (op2 (.ex (cD (.bl false))) (.va 8) semIn2) r = .ok c r := fun c hc => toB_of (op2_of (a := .inl (.bl false)) (b := .inr 8) rfl hv rfl hl hc)
  have hm : ∀ j, semLIndex (.lst [.bl x, .bl y, .bl z]) [.bl false] = some j → mLD (.va 8) [(.ex (cD (.bl false)))] semLIndex r = .ok j r := fun j hj => by
    unfold mLD
    rw [hv]
    simp only [Rs.bind, hl, runs, ex_run (show cD (.bl false) r = .ok (.bl false) r from rfl), looks, look, Option.bind_some, Option.map_some, hj, ofO]
    have : (lookV r 8).map OV.d = some (.lst [.bl x, .bl y, .bl z]) := hl
    simp [this, hj]
  unfold ifD
  cases x
  · rw [hi true rfl]
    exact hm (.int 0) rfl
  · cases y
    · rw [hi true rfl]
      exact hm (.int 1) rfl
    · cases z
      · rw [hi true rfl]
        exact hm (.int 2) rfl
      · rw [hi false rfl]
        rfl
set_option maxHeartbeats 2000000 in
theorem k21_all {bs : List D} (hb : BagOk bs) (ns : List Int) (ts : List D) (h3 : ts.length = 3) (hd : ∀ d ∈ ts, BdM 0 d) (o2 o3 o5 o6 o7 o8 o9 o10 o11 : Option OV) :
    ∃ g b a b' o6' o7', fr_law_2 (en21 ns bs o2 o3 ts o5 o6 o7 o8 o9 o10 o11) = .nx (en21 ns b' o2 o3 [g, b, a] o5 o6' o7' o8 o9 o10 o11) ∧ Gd 6 23000 g ∧ Gd 6 23000 b ∧ Gd 6 23000 a ∧ BagOk b' := by
  obtain ⟨r', e, hI⟩ := (forD_ok (f := it_law_2) (h := gN 6) (body := bd_law_2) (rangeD 0 3) (fun i r => ∃ b' ts' o6 o7, r = en21 ns b' o2 o3 ts' o5 o6 o7 o8 o9 o10 o11 ∧ ts'.length = 3 ∧ (∀ j (hj : j < ts'.length), j < i → BdM 2 ts'[j]) ∧ (∀ j (hj : j < ts'.length), i ≤ j → BdM 0 ts'[j]) ∧ BagOk b') (r := en21 ns bs o2 o3 ts o5 o6 o7 o8 o9 o10 o11) rfl ⟨bs, ts, o6, o7, rfl, h3, fun _ _ h => absurd h (Nat.not_lt_zero _), fun j hj _ => hd _ (List.getElem_mem hj), hb⟩ (by
    rintro i d hi r ⟨b', ts', o6, o7, rfl, h3', hlo, hhi, hb'⟩
    obtain ⟨hi3, rfl⟩ := rangeD_get hi
    have h0 : (0 : Int) + (i : Int) = (i : Int) := by omega
    rw [h0]
    refine ⟨en21 ns b' o2 o3 ts' o5 (some (.sh (.int (i : Int)))) o7 o8 o9 o10 o11, rfl, ?_⟩
    have hil : i < ts'.length := by omega
    obtain ⟨d', b2, o7', e2, hd', hb2⟩ := k21_bends hb' ns ts' i hil (hhi i hil (Nat.le_refl _)) o2 o3 o5 o7 o8 o9 o10 o11
    rw [e2]
    refine ⟨b2, _, _, _, rfl, by rw [List.length_set]; exact h3', fun j hj hji => ?_, fun j hj hij => ?_, hb2⟩
    · rw [List.getElem_set]
      split
      · exact hd'
      · exact hlo j (by rw [List.length_set] at hj; exact hj) (by omega)
    · rw [List.getElem_set]
      split
      · omega
      · exact hhi j (by rw [List.length_set] at hj; exact hj) (by omega))).ex
  obtain ⟨b', ts', o6', o7', rfl, h3', hlo, _, hb'⟩ := hI
  match ts', h3', hlo, e with
  | [g, b, a], _, hlo, e => exact ⟨g, b, a, b', o6', o7', e, (hlo 0 (by simp) (by rw [rangeD_len]; omega)).gd, (hlo 1 (by simp) (by rw [rangeD_len]; omega)).gd, (hlo 2 (by simp) (by rw [rangeD_len]; omega)).gd, hb'⟩
set_option maxHeartbeats 2000000 in
theorem k21_huge {bs : List D} (hb : BagOk bs) (ns : List Int) {g b a : D} (hg : Gd 6 23000 g) (hbb : Gd 6 23000 b) (ha : Gd 6 23000 a) (o2 o3 o5 o6 o7 o8 o9 o10 o11 : Option OV) :
    ∃ g' b1 a' b', ifS (toB (op2 (.ex (frzD (callB 1 f__law_take 1 [(cD (.int 6))]))) (.ex (cD (.int 0))) semEq)) (putS 4 (frzD (callB 1 f__law_take 1 [(cD (.int 3))])) (op2 (.ex (frzD (lstD [(cD .non)]))) (.ex (cD (.int 900))) semMul)) nxS (en21 ns bs o2 o3 [g, b, a] o5 o6 o7 o8 o9 o10 o11) = .nx (en21 ns b' o2 o3 [g', b1, a'] o5 o6 o7 o8 o9 o10 o11) ∧ Gd 6 23000 g' ∧ Gd 6 23000 b1 ∧ Gd 6 23000 a' ∧ BagOk b' := by
  have ct : ∀ (bs : List D) (n v : Int) (b1 : List D), f__law_take bs [.int n] = some (.sh (.int v), b1) → frzD (callB 1 f__law_take 1 [(cD (.int n))]) (en21 ns bs o2 o3 [g, b, a] o5 o6 o7 o8 o9 o10 o11) = .ok (.int v) (en21 ns b1 o2 o3 [g, b, a] o5 o6 o7 o8 o9 o10 o11) := fun bs n v b1 ev => by
    simp only [en21, frzD, callB, evs, cD, fill, lookV, Rs.bind, Rs.map, ofO, OV.d, OV.lst?, Rs.noE, List.map_cons, List.map_nil, List.length_cons, List.length_nil, List.length_map, List.replicate, List.cons_append, List.nil_append, List.append_nil, List.getElem?_cons_zero, List.getElem?_cons_succ, List.set_cons_zero, List.set_cons_succ, Option.bind_some, Option.bind_none, Option.map_some, Option.map_none, Nat.zero_add, Nat.add_zero, Nat.reduceAdd, Nat.reduceSub, Nat.sub_self, Nat.reduceLeDiff, Nat.reduceEqDiff, Nat.le_refl, Nat.add_sub_cancel, if_true, if_false, Bool.false_eq_true, Bool.not_true, Bool.not_false, Bool.not_not, reduceIte, reduceCtorEq, and_self, and_true, true_and, decide_true, decide_false, semEq_str, semNe_str, semEq_int, semNe_int, semEq_bl, semNe_bl, atI0, atI1, atI2, atI3, atI4, OkS_nx, post_ok, items_lst, items_tup, semAt_lst, semAt_tup, semAt_str, semAt_dic, ev]
  obtain ⟨v, b1, ev, v0, v1, hb1⟩ := take_ok hb (n := 6) (by decide) (by decide)
  have t1 : toB (op2 (.ex (frzD (callB 1 f__law_take 1 [(cD (.int 6))]))) (.ex (cD (.int 0))) semEq) (en21 ns bs o2 o3 [g, b, a] o5 o6 o7 o8 o9 o10 o11) = .ok (decide (v = 0)) (en21 ns b1 o2 o3 [g, b, a] o5 o6 o7 o8 o9 o10 o11) := toB_of (op2_of (ex_run (ct _ _ _ _ ev)) (b := .inl (.int 0)) rfl rfl rfl rfl)
  by_cases hv : v = 0
  · rw [decide_eq_true hv] at t1
    rw [ifS_yes t1]
    obtain ⟨u, b2, eu, u0, u1, hb2⟩ := take_ok hb1 (n := 3) (by decide) (by decide)
    have e2 : ∀ r : En, op2 (.ex (frzD (lstD [(cD .non)]))) (.ex (cD (.int 900))) semMul r = .ok nones r := fun r => op2_of (a := .inl (.lst [.non])) (b := .inl (.int 900)) rfl rfl rfl rfl nones_mul
    have pu : ∀ ts', DL.putF (.int u) nones [g, b, a] = some ts' → putS 4 (frzD (callB 1 f__law_take 1 [(cD (.int 3))])) (op2 (.ex (frzD (lstD [(cD .non)]))) (.ex (cD (.int 900))) semMul) (en21 ns b1 o2 o3 [g, b, a] o5 o6 o7 o8 o9 o10 o11) = .nx (en21 ns b2 o2 o3 ts' o5 o6 o7 o8 o9 o10 o11) := fun ts' hp => by
      unfold putS
      rw [e2]
      show thenS (frzD (callB 1 f__law_take 1 [(cD (.int 3))]) (en21 ns b1 o2 o3 [g, b, a] o5 o6 o7 o8 o9 o10 o11)) (fun k r2 => chgS 4 (putF k nones) r2) = _
      rw [ct _ _ _ _ eu]
      show (match DL.putF (.int u) nones [g, b, a] with
        | some ys => SRs.nx (en21 ns b2 o2 o3 ys o5 o6 o7 o8 o9 o10 o11)
        | none => .bad) = _
      rw [hp]
    have : u = 0 ∨ u = 1 ∨ u = 2 := by omega
    rcases this with rfl | rfl | rfl
    · exact ⟨nones, b, a, b2, pu _ rfl, nones_gd, hbb, ha, hb2⟩
    · exact ⟨g, nones, a, b2, pu _ rfl, hg, nones_gd, ha, hb2⟩
    · exact ⟨g, b, nones, b2, pu _ rfl, hg, hbb, nones_gd, hb2⟩
  · rw [decide_eq_false hv] at t1
    rw [ifS_no t1]
    exact ⟨g, b, a, b1, rfl, hg, hbb, ha, hb1⟩
end T

namespace T
open PySem L2 DL
set_option maxHeartbeats 2000000 in
theorem k21_check (ns : List Int) (bs gs ks : List D) {g b a a0 : D} (hg : Gd 6 23000 g) (hb : Gd 6 23000 b) (ha : Gd 6 23000 a) (hgs : Gd 6 23000 (.lst gs)) (hks : Gd 6 23000 (.lst ks)) (vg : arB (.lst gs) = true) (vk : arB (.lst ks) = true) (o2 o3 o6 o7 o11 : Option OV) :
    ∃ o11', fr_law_3 (en21 ns bs o2 o3 [g, b, a] (some (.sh (startD gs ks a0))) o6 o7 (some (.sh (.lst [.bl (arB g), .bl (arB b), .bl (atB a)]))) (some (.sh (dueD g b a))) (some (.sh (.str (D.lst [g, b, a]).py.shown))) o11) = .nx (en21 ns bs o2 o3 [g, b, a] (some (.sh (startD gs ks a0))) o6 o7 (some (.sh (.lst [.bl (arB g), .bl (arB b), .bl (atB a)]))) (some (.sh (dueD g b a))) (some (.sh (.str (D.lst [g, b, a]).py.shown))) o11') := by
  have lg : ∀ {d : D}, Gd 6 23000 d → (itmD d).length ≤ 100000 := fun {d} h => by
    have h1 := itm_len d
    have h2 := h.wq
    omega
  have em := made_eq hg hb ha (by decide) (lg hg) (lg hb)
  have ea := aimed_eq (a0 := a0) hgs hks ha (by decide) (lg hgs) (lg hks) vg vk
  have al1 := alike_sm (sm_due g b a)
  have al2 := alike_sm (sm_aim a)
  have erp := repr_gd (gd_lst3 hg hb ha) (by decide) (by decide)
  obtain ⟨r', e, hI⟩ := (forD_ok (f := it_law_3) (h := gN 11) (body := bd_law_3) (rangeD 0 2) (fun _ r => ∃ o11, r = (en21 ns bs o2 o3 [g, b, a] (some (.sh (startD gs ks a0))) o6 o7 (some (.sh (.lst [.bl (arB g), .bl (arB b), .bl (atB a)]))) (some (.sh (dueD g b a))) (some (.sh (.str (D.lst [g, b, a]).py.shown))) o11)) (r := (en21 ns bs o2 o3 [g, b, a] (some (.sh (startD gs ks a0))) o6 o7 (some (.sh (.lst [.bl (arB g), .bl (arB b), .bl (atB a)]))) (some (.sh (dueD g b a))) (some (.sh (.str (D.lst [g, b, a]).py.shown))) o11)) rfl ⟨_, rfl⟩ (by
    rintro i d _ r ⟨o11, rfl⟩
    refine ⟨(en21 ns bs o2 o3 [g, b, a] (some (.sh (startD gs ks a0))) o6 o7 (some (.sh (.lst [.bl (arB g), .bl (arB b), .bl (atB a)]))) (some (.sh (dueD g b a))) (some (.sh (.str (D.lst [g, b, a]).py.shown))) (some (.sh d))), rfl, ?_⟩
    obtain ⟨r, hr⟩ : ∃ r, r = (en21 ns bs o2 o3 [g, b, a] (some (.sh (startD gs ks a0))) o6 o7 (some (.sh (.lst [.bl (arB g), .bl (arB b), .bl (atB a)]))) (some (.sh (dueD g b a))) (some (.sh (.str (D.lst [g, b, a]).py.shown))) (some (.sh d))) := ⟨_, rfl⟩
    have v4 : (Opd.va 4).run r = .ok (.inr 4) r := by rw [hr]; rfl
    have k4 : look r (.inr 4) = some (.lst [g, b, a]) := by rw [hr]; rfl
    have v8 : (Opd.va 8).run r = .ok (.inr 8) r := by rw [hr]; rfl
    have k8 : look r (.inr 8) = some (.lst [.bl (arB g), .bl (arB b), .bl (atB a)]) := by rw [hr]; rfl
    have v10 : (Opd.va 10).run r = .ok (.inr 10) r := by rw [hr]; rfl
    have k10 : look r (.inr 10) = some (.str (D.lst [g, b, a]).py.shown) := by rw [hr]; rfl
    have v5 : vD 5 r = .ok (startD gs ks a0) r := by rw [hr]; rfl
    have v9 : vD 9 r = .ok (dueD g b a) r := by rw [hr]; rfl
    rw [← hr]
    have c1 : frzD (callL 1 f__law_made [(.va 4)]) r = .ok (dueD g b a) r := frz_o (o := .sh (dueD g b a)) (by
      unfold callL
      simp only [runs, v4, Rs.bind, looks, k4, Option.bind_some, Option.map_some, em, due_flt g b a, if_true, ofO, List.length_singleton])
    have c2 : notT (toB (frzD (callP 2 f__law_alike [(frzD (callL 1 f__law_made [(.va 4)])), (vD 9)]))) r = .ok false r := notT_of (b := true) (toB_of (frz_o (o := .sh (.bl true)) (callP_of (evs_cons c1 (evs_cons v9 evs_nil)) rfl al1)))
    have c3 : toB (op2 (.ex (opN [(.va 4)] semRepr)) (.va 10) semNe) r = .ok false r := toB_of (op2_of (ex_run (opN1_of v4 k4 erp)) v10 rfl k10 (by
      show some (D.bl (!decide ((D.lst [g, b, a]).py.shown = (D.lst [g, b, a]).py.shown))) = _
      rw [decide_eq_true rfl]
      rfl))
    have t1 : orT (notT (toB (frzD (callP 2 f__law_alike [(frzD (callL 1 f__law_made [(.va 4)])), (vD 9)])))) (toB (op2 (.ex (opN [(.va 4)] semRepr)) (.va 10) semNe)) r = .ok false r := by
      unfold orT
      rw [c2]
      exact c3
    have a2 : op2 (.va 4) (.ex (cD (.int 2))) semAt r = .ok a r := op2_of (b := .inl (.int 2)) v4 rfl k4 rfl rfl
    have z2 : op2 (.va 8) (.ex (cD (.int 2))) semAt r = .ok (.bl (atB a)) r := op2_of (b := .inl (.int 2)) v8 rfl k8 rfl rfl
    have c4 : frzD (callP 2 f__law_aimed [(vD 5), (op2 (.va 4) (.ex (cD (.int 2))) semAt)]) r = .ok (if atB a = true then a else .int 0) r := frz_o (o := .sh (if atB a = true then a else .int 0)) (callP_of (evs_cons v5 (evs_cons a2 evs_nil)) rfl ea)
    have c5 : ifD (toT (.ex (op2 (.va 8) (.ex (cD (.int 2))) semAt))) (op2 (.va 4) (.ex (cD (.int 2))) semAt) (cD (.int 0)) r = .ok (if atB a = true then a else .int 0) r := by
      have : toT (.ex (op2 (.va 8) (.ex (cD (.int 2))) semAt)) r = .ok (atB a) r := by
        unfold toT
        rw [ex_run z2]
        rfl
      unfold ifD
      rw [this]
      cases atB a
      · rfl
      · exact a2
    have t2 : notT (toB (frzD (callP 2 f__law_alike [(frzD (callP 2 f__law_aimed [(vD 5), (op2 (.va 4) (.ex (cD (.int 2))) semAt)])), (ifD (toT (.ex (op2 (.va 8) (.ex (cD (.int 2))) semAt))) (op2 (.va 4) (.ex (cD (.int 2))) semAt) (cD (.int 0)))]))) r = .ok false r := notT_of (b := true) (toB_of (frz_o (o := .sh (.bl true)) (callP_of (evs_cons c4 (evs_cons c5 evs_nil)) rfl al2)))
    unfold bd_law_3
    rw [seqIf_no t1, ifS_no t2]
    exact ⟨_, hr⟩)).ex
  obtain ⟨o11', rfl⟩ := hI
  exact ⟨o11', e⟩
theorem arB_rows {rs : List Row} (h : ∀ r ∈ rs, RowOk r) : arB (.lst (rs.map rwD)) = true := by
  show (true && (rs.map rwD).all rwB) = true
  rw [Bool.true_and, List.all_eq_true]
  intro d hd
  obtain ⟨r, hr, rfl⟩ := List.mem_map.mp hd
  exact rwB_row (h r hr)
set_option maxHeartbeats 4000000 in
theorem plain (ns : List Int) (_ : ns.length ≤ 63) : f_law [.scr ns] = some (.sh (.bl true)) := by
  obtain ⟨bs, eb, hb⟩ := bag_ok ns
  obtain ⟨r', e, hI⟩ := (forD_ok (f := it_law_4) (h := gN 2) (body := bd_law_4) (rangeD 0 8) (fun _ r => ∃ bs o2 o3 o4 o5 o6 o7 o8 o9 o10 o11, r = [some (.sh (.scr ns)), some (.ow bs), o2, o3, o4, o5, o6, o7, o8, o9, o10, o11] ∧ BagOk bs) (r := [some (.sh (.scr ns)), some (.ow bs), none, none, none, none, none, none, none, none, none, none]) rfl ⟨bs, _, _, _, _, _, _, _, _, _, _, rfl, hb⟩ (by
    rintro i d _ r ⟨bs, o2, o3, o4, o5, o6, o7, o8, o9, o10, o11, rfl, hb⟩
    refine ⟨[some (.sh (.scr ns)), some (.ow bs), some (.sh d), o3, o4, o5, o6, o7, o8, o9, o10, o11], rfl, ?_⟩
    obtain ⟨xs, ys, b1, e1, hw, hb1⟩ := world_ok hb
    obtain ⟨rs, b2, e2, hl2, hr2, hb2⟩ := rows_ok hb1 hw 4 (by decide)
    obtain ⟨qs, b3, e3, hl3, hr3, hb3⟩ := rows_ok hb2 hw 3 (by decide)
    obtain ⟨x, b4, e4, hxi, hb4⟩ := atom_ok hb3 ys (by
      have := hw.y2.1
      intro h
      rw [h] at this
      exact absurd this (by decide)) (by have := hw.y2.2; omega)
    have hx := hxi.ok hw.y
    have hro : ∀ r ∈ rs, RowOk r := fun r h => (hr2 r h).ok hw.x hw.y
    have hqo : ∀ r ∈ qs, RowOk r := fun r h => (hr3 r h).ok hw.x hw.y
    have m1 : BdM 0 (.lst (rs.map rwD)) := by
      have := sm_gd (sm_rows (m := 4) hro hl2)
      exact ⟨this.1, this.2, this.3⟩
    have m2 : BdM 0 (.tup (qs.map rwD)) := by
      have := sm_gd (Sm.tup (n := 3) (w := 1041) (m := 3) (ds := qs.map rwD) (fun d hd => by
        obtain ⟨r, hr, rfl⟩ := List.mem_map.mp hd
        exact sm_row (hqo r hr)) (by rw [List.length_map]; exact hl3))
      exact ⟨this.1, this.2, Nat.le_trans this.3 (by decide)⟩
    have m3 : BdM 0 (atD x) := by
      have := sm_gd (sm_at hx.pt)
      exact ⟨this.1, Nat.le_trans this.2 (by decide), Nat.le_trans this.3 (by decide)⟩
    have s1 : setS 3 (shD (frzD (callB 0 f__law_world 1 []))) [some (.sh (.scr ns)), some (.ow bs), some (.sh d), o3, o4, o5, o6, o7, o8, o9, o10, o11] = .nx [some (.sh (.scr ns)), some (.ow b1), some (.sh d), some (.sh (wdD xs ys)), o4, o5, o6, o7, o8, o9, o10, o11] := by
      simp only [fnB, fnP, Rs.noE, startE, seqS, ifS, thenS, toB, op2, opN, op1, Opd.run, fill, lookV, look, Rs.bind, Rs.map, ofO, cD, vD, D.asB, semGt, semGe, semLt, semLe, setS, putS, DL.putF, shD, frzD, mvD, rtS, chgS, fillW, OV.lst?, OV.d, nxS, runs, looks, semInt, semMod, semFdiv, semAdd, semSub, semMul, semAbs, semLen, semTuple, semList, lstD, tupD, evs, callP, callB, slD, poN, poS, semSl, D.asI, appS, appF, extS, extF, augS, augF, exS, ifD, andT, orT, notT, notD, andD, orD, par2, par3, asgS, gN, gT, gsCons, gsNil, forD, rg1, rg2, itA, zpD, zip2, zipD, lcD, yesT, wipeE, m1D, tabD, semIs, semIsNot, D.isN, toT, orV, andV, notV, D.tru, chD, isiD, D.key, evPs, dicD, semDict, pairD, semRepr, callL, op2O, slO, opNO, lrgO, OV.flt, D.flt, semAddL, semMulL, semListL, mLD, popF, popS, insF, insS, clrS, revO, Rs.noE, List.map_cons, List.map_nil, List.length_cons, List.length_nil, List.length_map, List.replicate, List.cons_append, List.nil_append, List.append_nil, List.getElem?_cons_zero, List.getElem?_cons_succ, List.set_cons_zero, List.set_cons_succ, Option.bind_some, Option.bind_none, Option.map_some, Option.map_none, Nat.zero_add, Nat.add_zero, Nat.reduceAdd, Nat.reduceSub, Nat.sub_self, Nat.reduceLeDiff, Nat.reduceEqDiff, Nat.le_refl, Nat.add_sub_cancel, if_true, if_false, Bool.false_eq_true, Bool.not_true, Bool.not_false, Bool.not_not, reduceIte, reduceCtorEq, and_self, and_true, true_and, decide_true, decide_false, semEq_str, semNe_str, semEq_int, semNe_int, semEq_bl, semNe_bl, atI0, atI1, atI2, atI3, atI4, OkS_nx, post_ok, items_lst, items_tup, semAt_lst, semAt_tup, semAt_str, semAt_dic, e1]
    have cr : ∀ (bs bs' : List D) (n : Int) (rs : List Row) (_ : f__law_rows bs [wdD xs ys, .int n] = some (.ow (rs.map rwD), bs')), frzD (callB 2 f__law_rows 1 [(vD 3), (cD (.int n))]) [some (.sh (.scr ns)), some (.ow bs), some (.sh d), some (.sh (wdD xs ys)), o4, o5, o6, o7, o8, o9, o10, o11] = .ok (.lst (rs.map rwD)) [some (.sh (.scr ns)), some (.ow bs'), some (.sh d), some (.sh (wdD xs ys)), o4, o5, o6, o7, o8, o9, o10, o11] := fun bs bs' n rs er => by
      simp only [frzD, callB, evs, vD, cD, fill, lookV, Rs.bind, Rs.map, ofO, OV.d, OV.lst?, Rs.noE, List.map_cons, List.map_nil, List.length_cons, List.length_nil, List.length_map, List.replicate, List.cons_append, List.nil_append, List.append_nil, List.getElem?_cons_zero, List.getElem?_cons_succ, List.set_cons_zero, List.set_cons_succ, Option.bind_some, Option.bind_none, Option.map_some, Option.map_none, Nat.zero_add, Nat.add_zero, Nat.reduceAdd, Nat.reduceSub, Nat.sub_self, Nat.reduceLeDiff, Nat.reduceEqDiff, Nat.le_refl, Nat.add_sub_cancel, if_true, if_false, Bool.false_eq_true, Bool.not_true, Bool.not_false, Bool.not_not, reduceIte, reduceCtorEq, and_self, and_true, true_and, decide_true, decide_false, semEq_str, semNe_str, semEq_int, semNe_int, semEq_bl, semNe_bl, atI0, atI1, atI2, atI3, atI4, OkS_nx, post_ok, items_lst, items_tup, semAt_lst, semAt_tup, semAt_str, semAt_dic, er]
    have c3 : opN [(.ex (frzD (callB 2 f__law_rows 1 [(vD 3), (cD (.int 3))])))] semTuple [some (.sh (.scr ns)), some (.ow b2), some (.sh d), some (.sh (wdD xs ys)), o4, o5, o6, o7, o8, o9, o10, o11] = .ok (.tup (qs.map rwD)) [some (.sh (.scr ns)), some (.ow b3), some (.sh d), some (.sh (wdD xs ys)), o4, o5, o6, o7, o8, o9, o10, o11] := opN1_of (ex_run (cr b2 b3 3 qs e3)) rfl rfl
    have c4 : frzD (callB 1 f__law_atom 1 [(op2 (.va 3) (.ex (cD (.str "things"))) semAt)]) [some (.sh (.scr ns)), some (.ow b3), some (.sh d), some (.sh (wdD xs ys)), o4, o5, o6, o7, o8, o9, o10, o11] = .ok (atD x) [some (.sh (.scr ns)), some (.ow b4), some (.sh d), some (.sh (wdD xs ys)), o4, o5, o6, o7, o8, o9, o10, o11] := by
      have a1 : op2 (.va 3) (.ex (cD (.str "things"))) semAt [some (.sh (.scr ns)), some (.ow b3), some (.sh d), some (.sh (wdD xs ys)), o4, o5, o6, o7, o8, o9, o10, o11] = .ok (.lst (ys.map D.str)) [some (.sh (.scr ns)), some (.ow b3), some (.sh d), some (.sh (wdD xs ys)), o4, o5, o6, o7, o8, o9, o10, o11] := op2_of (a := .inr 3) (b := .inl (.str "things")) rfl rfl rfl rfl (wd_things xs ys)
      simp only [frzD, callB, evs, a1, fill, lookV, Rs.bind, Rs.map, ofO, OV.d, OV.lst?, Rs.noE, List.map_cons, List.map_nil, List.length_cons, List.length_nil, List.length_map, List.replicate, List.cons_append, List.nil_append, List.append_nil, List.getElem?_cons_zero, List.getElem?_cons_succ, List.set_cons_zero, List.set_cons_succ, Option.bind_some, Option.bind_none, Option.map_some, Option.map_none, Nat.zero_add, Nat.add_zero, Nat.reduceAdd, Nat.reduceSub, Nat.sub_self, Nat.reduceLeDiff, Nat.reduceEqDiff, Nat.le_refl, Nat.add_sub_cancel, if_true, if_false, Bool.false_eq_true, Bool.not_true, Bool.not_false, Bool.not_not, reduceIte, reduceCtorEq, and_self, and_true, true_and, decide_true, decide_false, semEq_str, semNe_str, semEq_int, semNe_int, semEq_bl, semNe_bl, atI0, atI1, atI2, atI3, atI4, OkS_nx, post_ok, items_lst, items_tup, semAt_lst, semAt_tup, semAt_str, semAt_dic, e4]
    have s2 : setS 4 (lstD [(frzD (callB 2 f__law_rows 1 [(vD 3), (cD (.int 4))])), (opN [(.ex (frzD (callB 2 f__law_rows 1 [(vD 3), (cD (.int 3))])))] semTuple), (frzD (callB 1 f__law_atom 1 [(op2 (.va 3) (.ex (cD (.str "things"))) semAt)]))]) [some (.sh (.scr ns)), some (.ow b1), some (.sh d), some (.sh (wdD xs ys)), o4, o5, o6, o7, o8, o9, o10, o11] = .nx (en21 ns b4 (some (.sh d)) (some (.sh (wdD xs ys))) [.lst (rs.map rwD), .tup (qs.map rwD), atD x] o5 o6 o7 o8 o9 o10 o11) := by
      have ev := evs_cons (cr b1 b2 4 rs e2) (evs_cons c3 (evs_cons c4 evs_nil))
      unfold setS lstD
      rw [ev]
      rfl
    have gR : Gd 6 23000 (.lst (rs.map rwD)) := (m1.le (Nat.zero_le 2)).gd
    have gQ : Gd 6 23000 (.tup (qs.map rwD)) := (m2.le (Nat.zero_le 2)).gd
    have gQl : Gd 6 23000 (.lst (qs.map rwD)) := ⟨gQ.1, gQ.2, gQ.3⟩
    have gX : Gd 6 23000 (atD x) := (m3.le (Nat.zero_le 2)).gd
    have vR := arB_rows hro
    have vQl := arB_rows hqo
    have vQ : arB (.tup (qs.map rwD)) = true := vQl
    have hin : f_Start____init__ [.lst (rs.map rwD), .tup (qs.map rwD), atD x] = .ok (startF (rs.map rwD) (qs.map rwD) (atD x)) := by
      rw [startInit_eq gR gQ gX (by decide) (by show (rs.map rwD).length ≤ 100000; rw [List.length_map]; omega) (by show (qs.map rwD).length ≤ 100000; rw [List.length_map]; omega)]
      unfold initR
      rw [vR, vQ, atB_at hx]
      rfl
    have s3 : setS 5 (shD (frzD (makeD "Start" 3 f_Start____init__ [(op2 (.va 4) (.ex (cD (.int 0))) semAt), (op2 (.va 4) (.ex (cD (.int 1))) semAt), (op2 (.va 4) (.ex (cD (.int 2))) semAt)]))) (en21 ns b4 (some (.sh d)) (some (.sh (wdD xs ys))) [.lst (rs.map rwD), .tup (qs.map rwD), atD x] o5 o6 o7 o8 o9 o10 o11) = .nx (en21 ns b4 (some (.sh d)) (some (.sh (wdD xs ys))) [.lst (rs.map rwD), .tup (qs.map rwD), atD x] (some (.sh (startD (rs.map rwD) (qs.map rwD) (atD x)))) o6 o7 o8 o9 o10 o11) := by
      rw [setS_d (frz_o (makeD_ok (n := 3) (ds := [.lst (rs.map rwD), .tup (qs.map rwD), atD x]) (evs_cons (op2_of (a := .inr 4) (b := .inl (.int 0)) rfl rfl rfl rfl rfl) (evs_cons (op2_of (a := .inr 4) (b := .inl (.int 1)) rfl rfl rfl rfl rfl) (evs_cons (op2_of (a := .inr 4) (b := .inl (.int 2)) rfl rfl rfl rfl rfl) evs_nil))) rfl hin))]
      rfl
    obtain ⟨g, b, a, b5, o6', o7', s4, hg, hbb, ha, hb5⟩ := k21_all hb4 ns [.lst (rs.map rwD), .tup (qs.map rwD), atD x] rfl (fun d hd => by
      simp only [List.mem_cons, List.not_mem_nil, or_false] at hd
      rcases hd with rfl | rfl | rfl
      · exact m1
      · exact m2
      · exact m3) (some (.sh d)) (some (.sh (wdD xs ys))) (some (.sh (startD (rs.map rwD) (qs.map rwD) (atD x)))) o6 o7 o8 o9 o10 o11
    obtain ⟨g, b, a, b6, s5, hg, hbb, ha, hb6⟩ := k21_huge hb5 ns hg hbb ha (some (.sh d)) (some (.sh (wdD xs ys))) (some (.sh (startD (rs.map rwD) (qs.map rwD) (atD x)))) o6' o7' o8 o9 o10 o11
    have lg : ∀ {d : D}, Gd 6 23000 d → (itmD d).length ≤ 100000 := fun {d} h => by
      have h1 := itm_len d
      have h2 := h.wq
      omega
    have s6 : setS 8 (shD (frzD (lstD [(frzD (callP 1 f__law_are_rows [(op2 (.va 4) (.ex (cD (.int 0))) semAt)])), (frzD (callP 1 f__law_are_rows [(op2 (.va 4) (.ex (cD (.int 1))) semAt)])), (frzD (callP 2 f__law_is_atom [(op2 (.va 4) (.ex (cD (.int 2))) semAt), (cD (.int 1))]))]))) (en21 ns b6 (some (.sh d)) (some (.sh (wdD xs ys))) [g, b, a] (some (.sh (startD (rs.map rwD) (qs.map rwD) (atD x)))) o6' o7' o8 o9 o10 o11) = .nx (en21 ns b6 (some (.sh d)) (some (.sh (wdD xs ys))) [g, b, a] (some (.sh (startD (rs.map rwD) (qs.map rwD) (atD x)))) o6' o7' (some (.sh (.lst [.bl (arB g), .bl (arB b), .bl (atB a)]))) o9 o10 o11) := by
      have hat : f__law_is_atom [a, .int 1] = some (.sh (.bl (atB a))) := lawIsAtom_eq ha (by decide) true
      have l1 : lstD [(frzD (callP 1 f__law_are_rows [(op2 (.va 4) (.ex (cD (.int 0))) semAt)])), (frzD (callP 1 f__law_are_rows [(op2 (.va 4) (.ex (cD (.int 1))) semAt)])), (frzD (callP 2 f__law_is_atom [(op2 (.va 4) (.ex (cD (.int 2))) semAt), (cD (.int 1))]))] (en21 ns b6 (some (.sh d)) (some (.sh (wdD xs ys))) [g, b, a] (some (.sh (startD (rs.map rwD) (qs.map rwD) (atD x)))) o6' o7' o8 o9 o10 o11) = .ok (.ow [.bl (arB g), .bl (arB b), .bl (atB a)]) (en21 ns b6 (some (.sh d)) (some (.sh (wdD xs ys))) [g, b, a] (some (.sh (startD (rs.map rwD) (qs.map rwD) (atD x)))) o6' o7' o8 o9 o10 o11) := by
        have i0 : op2 (.va 4) (.ex (cD (.int 0))) semAt (en21 ns b6 (some (.sh d)) (some (.sh (wdD xs ys))) [g, b, a] (some (.sh (startD (rs.map rwD) (qs.map rwD) (atD x)))) o6' o7' o8 o9 o10 o11) = .ok g (en21 ns b6 (some (.sh d)) (some (.sh (wdD xs ys))) [g, b, a] (some (.sh (startD (rs.map rwD) (qs.map rwD) (atD x)))) o6' o7' o8 o9 o10 o11) := op2_of (a := .inr 4) (b := .inl (.int 0)) (x := .lst [g, b, a]) (y := .int 0) rfl rfl rfl rfl rfl
        have i1 : op2 (.va 4) (.ex (cD (.int 1))) semAt (en21 ns b6 (some (.sh d)) (some (.sh (wdD xs ys))) [g, b, a] (some (.sh (startD (rs.map rwD) (qs.map rwD) (atD x)))) o6' o7' o8 o9 o10 o11) = .ok b (en21 ns b6 (some (.sh d)) (some (.sh (wdD xs ys))) [g, b, a] (some (.sh (startD (rs.map rwD) (qs.map rwD) (atD x)))) o6' o7' o8 o9 o10 o11) := op2_of (a := .inr 4) (b := .inl (.int 1)) (x := .lst [g, b, a]) (y := .int 1) rfl rfl rfl rfl rfl
        have i2 : op2 (.va 4) (.ex (cD (.int 2))) semAt (en21 ns b6 (some (.sh d)) (some (.sh (wdD xs ys))) [g, b, a] (some (.sh (startD (rs.map rwD) (qs.map rwD) (atD x)))) o6' o7' o8 o9 o10 o11) = .ok a (en21 ns b6 (some (.sh d)) (some (.sh (wdD xs ys))) [g, b, a] (some (.sh (startD (rs.map rwD) (qs.map rwD) (atD x)))) o6' o7' o8 o9 o10 o11) := op2_of (a := .inr 4) (b := .inl (.int 2)) (x := .lst [g, b, a]) (y := .int 2) rfl rfl rfl rfl rfl
        have f0 : frzD (callP 1 f__law_are_rows [(op2 (.va 4) (.ex (cD (.int 0))) semAt)]) (en21 ns b6 (some (.sh d)) (some (.sh (wdD xs ys))) [g, b, a] (some (.sh (startD (rs.map rwD) (qs.map rwD) (atD x)))) o6' o7' o8 o9 o10 o11) = .ok (.bl (arB g)) (en21 ns b6 (some (.sh d)) (some (.sh (wdD xs ys))) [g, b, a] (some (.sh (startD (rs.map rwD) (qs.map rwD) (atD x)))) o6' o7' o8 o9 o10 o11) := frz_o (callP_of (evs_cons i0 evs_nil) rfl (lawAreRows_eq hg (by decide) (lg hg)))
        have f1 : frzD (callP 1 f__law_are_rows [(op2 (.va 4) (.ex (cD (.int 1))) semAt)]) (en21 ns b6 (some (.sh d)) (some (.sh (wdD xs ys))) [g, b, a] (some (.sh (startD (rs.map rwD) (qs.map rwD) (atD x)))) o6' o7' o8 o9 o10 o11) = .ok (.bl (arB b)) (en21 ns b6 (some (.sh d)) (some (.sh (wdD xs ys))) [g, b, a] (some (.sh (startD (rs.map rwD) (qs.map rwD) (atD x)))) o6' o7' o8 o9 o10 o11) := frz_o (callP_of (evs_cons i1 evs_nil) rfl (lawAreRows_eq hbb (by decide) (lg hbb)))
        have f2 : frzD (callP 2 f__law_is_atom [(op2 (.va 4) (.ex (cD (.int 2))) semAt), (cD (.int 1))]) (en21 ns b6 (some (.sh d)) (some (.sh (wdD xs ys))) [g, b, a] (some (.sh (startD (rs.map rwD) (qs.map rwD) (atD x)))) o6' o7' o8 o9 o10 o11) = .ok (.bl (atB a)) (en21 ns b6 (some (.sh d)) (some (.sh (wdD xs ys))) [g, b, a] (some (.sh (startD (rs.map rwD) (qs.map rwD) (atD x)))) o6' o7' o8 o9 o10 o11) := frz_o (callP_of (evs_cons i2 (evs_cons rfl evs_nil)) rfl hat)
        unfold lstD
        rw [evs_cons f0 (evs_cons f1 (evs_cons f2 evs_nil))]
        rfl
      rw [setS_d (frz_o l1)]
      rfl
    have s7 : setS 9 (shD (ifD (toB (op2 (.ex (cD (.bl false))) (.va 8) semIn2)) (mLD (.va 8) [(.ex (cD (.bl false)))] semLIndex) (cD (.str "made")))) (en21 ns b6 (some (.sh d)) (some (.sh (wdD xs ys))) [g, b, a] (some (.sh (startD (rs.map rwD) (qs.map rwD) (atD x)))) o6' o7' (some (.sh (.lst [.bl (arB g), .bl (arB b), .bl (atB a)]))) o9 o10 o11) = .nx (en21 ns b6 (some (.sh d)) (some (.sh (wdD xs ys))) [g, b, a] (some (.sh (startD (rs.map rwD) (qs.map rwD) (atD x)))) o6' o7' (some (.sh (.lst [.bl (arB g), .bl (arB b), .bl (atB a)]))) (some (.sh (dueD g b a))) o10 o11) := by
      rw [setS_d (due_at g b a _ rfl)]
      rfl
    have s8 : setS 10 (shD (opN [(.va 4)] semRepr)) (en21 ns b6 (some (.sh d)) (some (.sh (wdD xs ys))) [g, b, a] (some (.sh (startD (rs.map rwD) (qs.map rwD) (atD x)))) o6' o7' (some (.sh (.lst [.bl (arB g), .bl (arB b), .bl (atB a)]))) (some (.sh (dueD g b a))) o10 o11) = .nx (en21 ns b6 (some (.sh d)) (some (.sh (wdD xs ys))) [g, b, a] (some (.sh (startD (rs.map rwD) (qs.map rwD) (atD x)))) o6' o7' (some (.sh (.lst [.bl (arB g), .bl (arB b), .bl (atB a)]))) (some (.sh (dueD g b a))) (some (.sh (.str (D.lst [g, b, a]).py.shown))) o11) := by
      rw [setS_d (opN1_of (a := .inr 4) (x := .lst [g, b, a]) rfl rfl (repr_gd (gd_lst3 hg hbb ha) (by decide) (by decide)))]
      rfl
    obtain ⟨o11', s9⟩ := k21_check ns b6 (rs.map rwD) (qs.map rwD) (a0 := atD x) hg hbb ha gR gQl vR vQl (some (.sh d)) (some (.sh (wdD xs ys))) o6' o7' o11
    unfold bd_law_4
    rw [seqS_nx s1, seqS_nx s2, seqS_nx s3, seqS_nx s4, seqS_nx s5, seqS_nx s6, seqS_nx s7, seqS_nx s8, s9]
    exact ⟨_, _, _, _, _, _, _, _, _, _, _, rfl, hb6⟩)).ex
  obtain ⟨b', o2, o3, o4, o5, o6, o7, o8, o9, o10, o11, rfl, hb'⟩ := hI
  have hrt : ∀ r : En, rtS (shD (cD (.bl true))) r = .rt (.sh (.bl true)) r := fun _ => rfl
  have s1 : setS 1 (callP 1 f__law_bag [(vD 0)]) (startE 12 ([D.scr ns].map OV.sh)) = .nx [some (.sh (.scr ns)), some (.ow bs), none, none, none, none, none, none, none, none, none, none] := by
    simp only [fnB, fnP, Rs.noE, startE, seqS, ifS, thenS, toB, op2, opN, op1, Opd.run, fill, lookV, look, Rs.bind, Rs.map, ofO, cD, vD, D.asB, semGt, semGe, semLt, semLe, setS, putS, DL.putF, shD, frzD, mvD, rtS, chgS, fillW, OV.lst?, OV.d, nxS, runs, looks, semInt, semMod, semFdiv, semAdd, semSub, semMul, semAbs, semLen, semTuple, semList, lstD, tupD, evs, callP, callB, slD, poN, poS, semSl, D.asI, appS, appF, extS, extF, augS, augF, exS, ifD, andT, orT, notT, notD, andD, orD, par2, par3, asgS, gN, gT, gsCons, gsNil, forD, rg1, rg2, itA, zpD, zip2, zipD, lcD, yesT, wipeE, m1D, tabD, semIs, semIsNot, D.isN, toT, orV, andV, notV, D.tru, chD, isiD, D.key, evPs, dicD, semDict, pairD, semRepr, callL, op2O, slO, opNO, lrgO, OV.flt, D.flt, semAddL, semMulL, semListL, mLD, popF, popS, insF, insS, clrS, revO, Rs.noE, List.map_cons, List.map_nil, List.length_cons, List.length_nil, List.length_map, List.replicate, List.cons_append, List.nil_append, List.append_nil, List.getElem?_cons_zero, List.getElem?_cons_succ, List.set_cons_zero, List.set_cons_succ, Option.bind_some, Option.bind_none, Option.map_some, Option.map_none, Nat.zero_add, Nat.add_zero, Nat.reduceAdd, Nat.reduceSub, Nat.sub_self, Nat.reduceLeDiff, Nat.reduceEqDiff, Nat.le_refl, Nat.add_sub_cancel, if_true, if_false, Bool.false_eq_true, Bool.not_true, Bool.not_false, Bool.not_not, reduceIte, reduceCtorEq, and_self, and_true, true_and, decide_true, decide_false, semEq_str, semNe_str, semEq_int, semNe_int, semEq_bl, semNe_bl, atI0, atI1, atI2, atI3, atI4, OkS_nx, post_ok, items_lst, items_tup, semAt_lst, semAt_tup, semAt_str, semAt_dic, eb]
  unfold f_law fnP m_law fr_law_4
  rw [seqS_nx s1, seqS_nx e, hrt]
end T

open PySem PySem.W PyProof.Rows
set_option maxHeartbeats 0 in
theorem PySem.Challenge.cw_scriptpicks_k21_starts_refused_holds : PySem.Challenge.rw_scriptpicks_k21_starts_refused.Holds := by
  w_on; o_law; k_head; (case hw => w_witness2)
  k_fill
  refine DL.walkG (l := PySem.Challenge.rw_scriptpicks_k21_starts_refused) (n := 63) (k := 13) (x := "_law_script") (f := T.f_law) rfl rfl (by decide) rfl ⟨rfl, by decide, by decide⟩ (fun w h Y => PySem.W.kIn_of Y) ?F T.plain
  case F =>
    intro w mg fz h inK ns hmg
    refine' T.all_mk inK ns hmg ?ea_PickError ?ea_Wrong ?ea_NoRow ?ea_Start ?a1 ?l1 ?c1 ?k1 ?a2 ?l2 ?c2 ?k2 ?a3 ?l3 ?c3 ?k3 ?a4 ?l4 ?c4 ?k4 ?a5 ?l5 ?c5 ?k5 ?a6 ?l6 ?c6 ?k6 ?a7 ?l7 ?c7 ?k7 ?a8 ?l8 ?c8 ?k8 ?a9 ?l9 ?c9 ?k9 ?a10 ?l10 ?c10 ?k10 ?a11 ?i11 ?l11 ?c11 ?k11 ?a12 ?l12 ?c12 ?k12 ?a13 ?l13 ?c13 ?k13 ?a14 ?l14 ?c14 ?k14 ?a15 ?l15 ?c15 ?k15 ?a16 ?l16 ?c16 ?k16 ?a17 ?l17 ?c17 ?k17 ?a18 ?l18 ?c18 ?k18 ?a19 ?l19 ?c19 ?k19 ?a20 ?l20 ?c20 ?k20 ?a21 ?l21 ?c21 ?k21 ?a22 ?l22 ?c22 ?k22 ?a23 ?l23 ?c23 ?k23 ?a24 ?l24 ?c24 ?k24 ?a25 ?i25 ?l25 ?c25 ?k25 ?a26 ?l26 ?c26 ?k26 ?a27 ?l27 ?c27 ?k27 ?a28 ?l28 ?c28 ?k28 ?fv_LETTERS ?fv_MOST_LETTERS ?fv_RELATIONS ?fl_RELATIONS ?pg_Start ?hd_Start ?po_Start ?sa_Start ?mk_Start ?kc_Start ?na_Start_its_aim ?na_Start_its_rows ?pa_Start_aim ?pt_Start_aim ?pk_Start_aim ?pc_Start_aim ?pl_Start_aim ?pd_Start_aim ?pe_Start_aim ?xl_Wrong ?es_Wrong ?ec_Wrong ?et_Wrong ?ek_Wrong ?en_Wrong ?ia_Wrong ?it_Wrong ?il_Wrong ?ic_Wrong ?ik_Wrong ?eg_Wrong ?eh_Wrong ?ed_Wrong ?sg ?tg ?ea2_Wrong ?em_Wrong ?tc_PickError ?td_PickError ?tt_PickError ?ts_PickError_Wrong ?kd_NoRow ?ky_NoRow ?ks_NoRow ?kt_NoRow_Wrong ?kd_Wrong ?ky_Wrong ?ks_Wrong ?kt_Wrong_Wrong ?z_abs ?z_all ?z_int ?z_isinstance ?z_len ?z_list ?z_range ?z_repr ?z_str ?z_tuple
    (case ea_PickError => k_is); (case ea_Wrong => k_is); (case ea_NoRow => k_is); (case ea_Start => k_is); (case a1 => k_is); (case l1 => k_is); (case c1 => k_is); (case k1 => k_is); (case a2 => k_is); (case l2 => k_is); (case c2 => k_is); (case k2 => k_is); (case a3 => k_is); (case l3 => k_is); (case c3 => k_is); (case k3 => k_is); (case a4 => k_is); (case l4 => k_is); (case c4 => k_is); (case k4 => k_is); (case a5 => k_is); (case l5 => k_is); (case c5 => k_is); (case k5 => k_is); (case a6 => k_is); (case l6 => k_is); (case c6 => k_is); (case k6 => k_is); (case a7 => k_is); (case l7 => k_is); (case c7 => k_is); (case k7 => k_is); (case a8 => k_is); (case l8 => k_is); (case c8 => k_is); (case k8 => k_is); (case a9 => k_is); (case l9 => k_is); (case c9 => k_is); (case k9 => k_is); (case a10 => k_is); (case l10 => k_is); (case c10 => k_is); (case k10 => k_is); (case a11 => k_is); (case i11 => k_is); (case l11 => k_is); (case c11 => k_is); (case k11 => k_is); (case a12 => k_is); (case l12 => k_is); (case c12 => k_is); (case k12 => k_is); (case a13 => k_is); (case l13 => k_is); (case c13 => k_is); (case k13 => k_is); (case a14 => k_is); (case l14 => k_is); (case c14 => k_is); (case k14 => k_is); (case a15 => k_is); (case l15 => k_is); (case c15 => k_is); (case k15 => k_is); (case a16 => k_is); (case l16 => k_is); (case c16 => k_is); (case k16 => k_is); (case a17 => k_is); (case l17 => k_is); (case c17 => k_is); (case k17 => k_is); (case a18 => k_is); (case l18 => k_is); (case c18 => k_is); (case k18 => k_is); (case a19 => k_is); (case l19 => k_is); (case c19 => k_is); (case k19 => k_is); (case a20 => k_is); (case l20 => k_is); (case c20 => k_is); (case k20 => k_is); (case a21 => k_is); (case l21 => k_is); (case c21 => k_is); (case k21 => k_is); (case a22 => k_is); (case l22 => k_is); (case c22 => k_is); (case k22 => k_is); (case a23 => k_is); (case l23 => k_is); (case c23 => k_is); (case k23 => k_is); (case a24 => k_is); (case l24 => k_is); (case c24 => k_is); (case k24 => k_is); (case a25 => k_is); (case i25 => k_is); (case l25 => k_is); (case c25 => k_is); (case k25 => k_is); (case a26 => k_is); (case l26 => k_is); (case c26 => k_is); (case k26 => k_is); (case a27 => k_is); (case l27 => k_is); (case c27 => k_is); (case k27 => k_is); (case a28 => k_is); (case l28 => k_is); (case c28 => k_is); (case k28 => k_is); (case fv_LETTERS => k_is); (case fv_MOST_LETTERS => k_is); (case fv_RELATIONS => k_is); (case fl_RELATIONS => k_is); (case pg_Start => k_is); (case hd_Start => k_is); (case po_Start => k_is); (case sa_Start => k_is); (case mk_Start => k_is); (case kc_Start => k_is); (case na_Start_its_aim => k_is); (case na_Start_its_rows => k_is); (case pa_Start_aim => k_is); (case pt_Start_aim => k_is); (case pk_Start_aim => k_is); (case pc_Start_aim => k_is); (case pl_Start_aim => k_is); (case pd_Start_aim => k_is); (case pe_Start_aim => k_is); (case xl_Wrong => k_is); (case es_Wrong => k_is); (case ec_Wrong => k_is); (case et_Wrong => k_is); (case ek_Wrong => k_is); (case en_Wrong => k_is); (case ia_Wrong => k_is); (case it_Wrong => k_is); (case il_Wrong => k_is); (case ic_Wrong => k_is); (case ik_Wrong => k_is); (case eg_Wrong => k_is); (case eh_Wrong => k_is); (case ed_Wrong => k_is); (case sg => k_is); (case tg => k_is); (case ea2_Wrong => k_is); (case em_Wrong => k_is); (case tc_PickError => k_is); (case td_PickError => k_is); (case tt_PickError => k_is); (case ts_PickError_Wrong => first | rfl | k_is); (case kd_NoRow => k_is); (case ky_NoRow => k_is); (case ks_NoRow => first | rfl | k_is); (case kt_NoRow_Wrong => first | rfl | k_is); (case kd_Wrong => k_is); (case ky_Wrong => k_is); (case ks_Wrong => first | rfl | k_is); (case kt_Wrong_Wrong => first | rfl | k_is); (case z_abs => k_is); (case z_all => k_is); (case z_int => k_is); (case z_isinstance => k_is); (case z_len => k_is); (case z_list => k_is); (case z_range => k_is); (case z_repr => k_is); (case z_str => k_is); (case z_tuple => k_is)
